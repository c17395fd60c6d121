import PyProof.Rows.All
import Wide.All
import OpenK.AllK
import Wide.FinOn
import PySem.Challenge.RW_ot0049_01
set_option maxRecDepth 100000
set_option Elab.async false
set_option linter.all false
set_option tactic.hygienic false
set_option genSizeOf false
set_option genInjectivity false
set_option genCtorIdx false
namespace Mine.Internal
open PySem PySem.W PySem.Calls PyProof.Rows
theorem I9:type_of% @List.getD_eq_getElem?_getD:=@List.getD_eq_getElem?_getD
theorem J0:type_of% @List.getElem?_append_right:=@List.getElem?_append_right
theorem G4:type_of% @Classical.byContradiction:=@Classical.byContradiction
theorem v8:type_of% @List.getElem?_eq_some_iff:=@List.getElem?_eq_some_iff
theorem I5:type_of% @List.getElem?_append_left:=@List.getElem?_append_left
theorem o7:type_of% @List.getElem?_eq_getElem:=@List.getElem?_eq_getElem
theorem I3:type_of% @List.getElem?_cons_succ:=@List.getElem?_cons_succ
theorem J8:type_of% @List.filter_cons_of_neg:=@List.filter_cons_of_neg
theorem j5:type_of% @Heap.get?_push_of_some:=@Heap.get?_push_of_some
theorem z9:type_of% @Option.map_eq_some_iff:=@Option.map_eq_some_iff
theorem J3:type_of% @Nat.le_of_succ_le_succ:=@Nat.le_of_succ_le_succ
theorem o8:type_of% @Nat.le_of_add_right_le:=@Nat.le_of_add_right_le
theorem I4:type_of% @List.length_singleton:=@List.length_singleton
theorem d9:type_of% @Nat.le_of_ble_eq_true:=@Nat.le_of_ble_eq_true
theorem J4:type_of% @List.getElem?_eq_none:=@List.getElem?_eq_none
theorem J5:type_of% @Nat.ble_eq_true_of_le:=@Nat.ble_eq_true_of_le
theorem J6:type_of% @List.mem_append_right:=@List.mem_append_right
theorem q9:type_of% @Bool.and_eq_true_iff:=@Bool.and_eq_true_iff
theorem u6:type_of% @List.mem_of_getElem?:=@List.mem_of_getElem?
theorem K5:type_of% @List.mem_append_left:=@List.mem_append_left
theorem s8:type_of% @beq_eq_false_iff_ne:=@beq_eq_false_iff_ne
theorem s6:type_of% @Heap.get?_push_size:=@Heap.get?_push_size
theorem I6:type_of% @Heap.SameBut.update:=@Heap.SameBut.update
theorem J1:type_of% @List.length_reverse:=@List.length_reverse
theorem G9:type_of% @Nat.lt_of_lt_of_le:=@Nat.lt_of_lt_of_le
theorem K6:type_of% @Bool.false_eq_true:=@Bool.false_eq_true
theorem d7:type_of% @List.length_append:=@List.length_append
theorem G3:type_of% @Nat.lt_of_le_of_lt:=@Nat.lt_of_le_of_lt
theorem j8:type_of% @List.mem_singleton:=@List.mem_singleton
theorem K7:type_of% @List.length_modify:=@List.length_modify
theorem n6:type_of% @List.size_toArray:=@List.size_toArray
theorem u9:type_of% @of_decide_eq_true:=@of_decide_eq_true
theorem G7:type_of% @List.getElem?_map:=@List.getElem?_map
theorem v7:type_of% @Nat.le_of_succ_le:=@Nat.le_of_succ_le
theorem j7:type_of% @List.append_assoc:=@List.append_assoc
theorem K1:type_of% @wpAny_loadPart_at:=@wpAny_loadPart_at
theorem n8:type_of% @Nat.le_succ_of_le:=@Nat.le_succ_of_le
theorem m8:type_of% @List.length_cons:=@List.length_cons
theorem u5:type_of% @List.lookup_cons:=@List.lookup_cons
theorem J2:type_of% @beq_self_eq_true:=@beq_self_eq_true
theorem J7:type_of% @Nat.succ_le_succ:=@Nat.succ_le_succ
theorem m9:type_of% @List.all_eq_true:=@List.all_eq_true
theorem H9:type_of% @Nat.lt_succ_self:=@Nat.lt_succ_self
theorem g8:type_of% @List.length_map:=@List.length_map
theorem G5:type_of% @List.nodup_cons:=@List.nodup_cons
theorem G6:type_of% @Option.some.inj:=@Option.some.inj
theorem s7:type_of% @List.append_nil:=@List.append_nil
theorem K8:type_of% @List.nil_append:=@List.nil_append
theorem u0:type_of% @List.mem_append:=@List.mem_append
theorem q8:type_of% @List.map_append:=@List.map_append
theorem I7:type_of% @List.map_cons:=@List.map_cons
theorem q7:type_of% @List.mem_cons:=@List.mem_cons
theorem z7:type_of% @wpAny_holding:=@wpAny_holding
theorem I8:type_of% @wpAny_standAt:=@wpAny_standAt
theorem G8:type_of% @Heap.lt_size:=@Heap.lt_size
theorem d8:type_of% @Nat.le_trans:=@Nat.le_trans
theorem w6:type_of% @List.mem_map:=@List.mem_map
theorem z6:type_of% @Nat.zero_add:=@Nat.zero_add
theorem o9:type_of% @Nat.le_refl:=@Nat.le_refl
theorem p7:type_of% @sizeLine_eq:=@sizeLine_eq
theorem z8:type_of% @Nat.zero_le:=@Nat.zero_le
theorem j6:type_of% @wpAny_mono:=@wpAny_mono
theorem j4:type_of% @wpAny_pure:=@wpAny_pure
theorem c7:type_of% @wpAny_bind:=@wpAny_bind
theorem v9:type_of% @look_both:=@look_both
theorem eqs{x y z:Nat}(h:x+(y+1)=z):x<z:=h▸Nat.lt_add_of_pos_right (Nat.succ_pos y)
theorem eqt{x y z:Nat}(h:x+(y+1)=z):x+1+y=z:=by lia
theorem rm2{x y z:Nat}(h:x+20*(y+1)+100<z):x+3+20*y+100<z:=by lia
theorem rm3{x y z:Nat}(h:x+2*(y+1)<z):x<z:=by lia
theorem qh1{x z u:Nat}(h:x+(z+1)<=u):u-1<u:=by lia
theorem qh2{x z u:Nat}(h:x+(z+1)<=u):x+z<=u-1:=by lia
noncomputable abbrev lk{α:Type}(o:Option α)(Q:α->Prop):Prop:=@Option.rec α (fun O=>Prop) False Q o
noncomputable abbrev sel(b:Bool)(P R:Prop):Prop:=@Bool.rec (fun O=>Prop) R P b
noncomputable def Pa{α:Type}(f:α->Bool)(g:List α->Bool)(l:List α):Bool:=@List.rec α (fun O=>Bool) false (fun v vs O=>f v&&g vs) l
theorem j9{α:Type}{o:Option α}{x:α}{Q:α->Prop}(e:o=some x)(h:Q x):lk o Q:=by subst e;exact h
theorem U8{α:Type}{o:Option α}{Q:α->Prop}(h:lk o Q):∃x,o=some x/\Q x:=by
 cases o with
 |none=>exact h.elim
 |some x=>exact⟨x,rfl,h⟩
theorem dD{b:Bool}{P R:Prop}(e:b=true)(h:P):sel b P R:=by subst e;exact h
theorem LC{b:Bool}{P R:Prop}(e:b=false)(h:R):sel b P R:=by subst e;exact h
theorem tK{b:Bool}{P:Prop}(h:sel b P False):b=true/\P:=by
 cases b with
 |true=>exact⟨rfl,h⟩
 |false=>exact h.elim
theorem Gw{b:Bool}{P P' R R':Prop}(h:sel b P R)(k:P->P')(z:R->R'):if b=true then P' else R':=by
 cases b with
 |true=>exact k h
 |false=>exact z h
set_option genInjectivity true in
set_option genCtorIdx true in
inductive PV where
 |none|bool (b:Bool)|int (i:Int)|str (n:Nat)
 |tup (l:List PV)|lst (l:List PV)|obj (a:Addr)
 |blt (n:String)|typ (n:String)|rng (lo hi:Int)
 deriving Inhabited
set_option genCtorIdx true in
inductive N7 where
 |list (l:List PV)
 |N5 (l:List (Int×PV))
 |T9 (l:List (Nat×PV))
 |Q9 (l:List ((Int×Int)×PV))
 |inst (C dx:Addr)
 |attrs (l:List (Nat×PV))
 |code (q:Str)
 |exc (C:Addr) (d:Option Addr)
noncomputable abbrev AH:=Addr->Option N7
noncomputable def upd(H:AH)(a:Addr)(o:N7):AH:=fun b=>if b=a then some o else H b
theorem p8(H:AH)(a:Addr)(o:N7):upd H a o a=some o:=if_pos rfl
theorem w5{H:AH}{a b:Addr}{o:N7}(h:b≠a):upd H a o b=H b:=if_neg h
noncomputable abbrev zH(vs:List Value)(n:Nat):Obj:=⟨.type "tuple",none,.seq vs.toArray n,#[]⟩
noncomputable abbrev au7(t:Addr):Array Value := #[.ref t,.none,.none,.none,.bool false,.none]
noncomputable abbrev W0(C:Addr)(d:Option Addr)(t:Addr):Obj:={cls:=.ref C,dict:=d,data:=.fields (au7 t)}
noncomputable abbrev zJ(vs:List Value)(n:Nat):Obj:=⟨.type "list",none,.seq vs.toArray n,#[]⟩
inductive aj3(h:Heap)(v:Value)(R:List Value->Prop):Prop
 |mk (a:Addr) (vs:List Value) (n:Nat) (e:v = .ref a) (o:h.get? a=some (zH vs n)) (r:R vs)
inductive au8(h:Heap)(H:AH)(v:Value)(R:List Value->Prop):Prop
 |mk (a:Addr) (vs:List Value) (n:Nat) (e:v = .ref a) (o:h.get? a=some (zJ vs n)) (q:H a=none) (r:R vs)
inductive au9(h:Heap)(lo hi:Int)(v:Value):Prop
 |mk (a:Addr) (t u w:Tok) (e:v = .ref a) (o:IsRange h a lo hi 1 t u w)
inductive av0(vs:List Value)(P:Value->Prop)(R:List Value->Prop):Prop
 |mk (v:Value) (r:List Value) (e:vs=v::r) (p:P v) (z:R r)
section
variable(tab:Nat->Str)
mutual
noncomputable def Rep(h:Heap)(H:AH):PV->Value->Prop
 |.none,v=>v = .none
 |.bool b,v=>v = .bool b
 |.int i,v => ∃t,v = .int i t
 |.str n,v => ∃t,v = .str (tab n) t
 |.tup l,v=>aj3 h v (K4 h H l)
 |.lst l,v=>au8 h H v (K4 h H l)
 |.obj a,v=>v = .ref a
 |.blt n,v=>v = .builtin n/\handedIn (.builtin n)=true
 |.typ n,v=>v = .type n
 |.rng lo hi,v=>au9 h lo hi v
noncomputable def K4(h:Heap)(H:AH):List PV->List Value->Prop
 | [],vs=>vs=[]
 |x::xs,vs=>av0 vs (Rep h H x) (K4 h H xs)
end
end
noncomputable abbrev Gx(v:Value):Prop:=v = .type "range"\/v = .type "code"
structure T7(h:Heap)(H:AH)(h':Heap)(H':AH):Prop where
 tup:∀b o xs k,h.get? b=some o->o.data = .seq xs k->o.cls = .type "tuple"->h'.get? b=some o
 lst:∀b o xs k,h.get? b=some o->o.data = .seq xs k->o.cls = .type "list"->H b=none->h'.get? b=some o/\H' b=none
 rng:∀b o xs,h.get? b=some o->o.data = .fields xs->Gx o.cls->h'.get? b=some o
theorem T7.refl(h:Heap)(H:AH):T7 h H h H:=⟨fun O O O O e O O=>e,fun O O O O e O O q=>⟨e,q⟩,fun O O O e O O=>e⟩
theorem T7.trans{h h' h'':Heap}{H H' Gp:AH}(a:T7 h H h' H')(b:T7 h' H' h'' Gp):T7 h H h'' Gp:=
 ⟨fun x o xs k e d c=>b.tup x o xs k (a.tup x o xs k e d c) d c,fun x o xs k e d c q=>let⟨e',q'⟩:=a.lst x o xs k e d c q;b.lst x o xs k e' d c q',fun x o xs e d c=>b.rng x o xs (a.rng x o xs e d c) d c⟩
section
variable{tab:Nat->Str}{h h':Heap}{H H':AH}
mutual
theorem Rep.keeps(P:T7 h H h' H'):∀{p:PV} {v:Value},Rep tab h H p v->Rep tab h' H' p v
 |.none,_,r=>r
 |.bool _,_,r=>r
 |.int _,_,r=>r
 |.str _,_,r=>r
 |.tup _,_,⟨a,vs,n,e,o,r⟩=>⟨a,vs,n,e,P.tup _ _ _ _ o rfl rfl,K4.keeps P r⟩
 |.lst _,_,⟨a,vs,n,e,o,q,r⟩=>⟨a,vs,n,e,(P.lst _ _ _ _ o rfl rfl q).1,(P.lst _ _ _ _ o rfl rfl q).2,K4.keeps P r⟩
 |.obj _,_,r=>r
 |.blt _,_,r=>r
 |.typ _,_,r=>r
 |.rng _ _,_,⟨a,t,u,w,e,o⟩=>⟨a,t,u,w,e,P.rng _ _ _ o rfl (.inl rfl)⟩
theorem K4.keeps(P:T7 h H h' H'):∀{l:List PV} {vs:List Value},K4 tab h H l vs->K4 tab h' H' l vs
 | [],_,r=>r
 |_::_,_,⟨v,r,e,q,z⟩=>⟨v,r,e,Rep.keeps P q,K4.keeps P z⟩
end
theorem K4.length:∀{l:List PV} {vs:List Value},K4 tab h H l vs->vs.length=l.length
 | [],_,r=>by cases r;rfl
 |_::_,_,⟨v,r,e,_,z⟩=>by rw [e,m8,m8,K4.length z]
theorem K4.append:∀{l m:List PV} {vs ws:List Value},K4 tab h H l vs->K4 tab h H m ws->K4 tab h H (l++m) (vs++ws)
 | [],_,_,_,r,q=>by cases r;exact q
 |_::_,_,_,_,⟨v,r,e,p,z⟩,q=>⟨v,r++_,by rw [e];rfl,p,K4.append z q⟩
theorem K4.one{p:PV}{v:Value}(r:Rep tab h H p v):K4 tab h H [p] [v]:=⟨v,[],rfl,r,rfl⟩
theorem K4.get:∀{l:List PV} {vs:List Value} {k:Nat} {p:PV},K4 tab h H l vs->l[k]? = some p->∃v,vs[k]? = some v/\Rep tab h H p v
 | [],_,_,_,_,e=>by simp at e
 |x::xs,_,0,_,⟨v,r,e,q,z⟩,e'=>by
  rw [List.getElem?_cons_zero] at e';cases e'
  exact⟨v,by rw [e];rfl,q⟩
 |x::xs,_,k+1,p,⟨v,r,e,q,z⟩,e'=>by
  rw [I3] at e'
  obtain⟨u,a,b⟩:=K4.get z e'
  exact⟨u,by rw [e,I3];exact a,b⟩
theorem K4.set:∀{l:List PV} {vs:List Value} {p:PV} {v:Value} (k:Nat),K4 tab h H l vs->Rep tab h H p v->K4 tab h H (l.set k p) (vs.set k v)
 | [],_,_,_,_,r,_=>by cases r;exact rfl
 |x::xs,_,_,v',0,⟨v,r,e,q,z⟩,q'=>⟨v',r,by rw [e];rfl,q',z⟩
 |x::xs,_,_,v',k+1,⟨v,r,e,q,z⟩,q'=>⟨v,r.set k v',by rw [e];rfl,q,K4.set k z q'⟩
theorem K4.drop:∀{l:List PV} {vs:List Value} (k:Nat),K4 tab h H l vs->K4 tab h H (l.drop k) (vs.drop k)
 |_,_,0,r=>r
 | [],_,k+1,r=>by cases r;exact rfl
 |x::xs,_,k+1,⟨v,r,e,q,z⟩=>by rw [e];exact K4.drop k z
theorem K4.take:∀{l:List PV} {vs:List Value} (k:Nat),K4 tab h H l vs->K4 tab h H (l.take k) (vs.take k)
 |_,_,0,r=>rfl
 | [],_,k+1,r=>by cases r;exact rfl
 |x::xs,_,k+1,⟨v,r,e,q,z⟩=>by rw [e];exact⟨v,_,rfl,q,K4.take k z⟩
theorem K4.reverse:∀{l:List PV} {vs:List Value},K4 tab h H l vs->K4 tab h H l.reverse vs.reverse
 | [],_,r=>by cases r;exact rfl
 |x::xs,_,⟨v,r,e,q,z⟩=>by rw [e,List.reverse_cons,List.reverse_cons];exact K4.append (K4.reverse z) (.one q)
theorem Rep.handed{p:PV}{v:Value}(r:Rep tab h H p v):handedIn v=true:=by
 cases p with
 |int=>obtain⟨_,e⟩:=r;subst e;rfl
 |str=>obtain⟨_,e⟩:=r;subst e;rfl
 |tup=>obtain⟨_,_,_,e,_⟩:=r;subst e;rfl
 |lst=>obtain⟨_,_,_,e,_⟩:=r;subst e;rfl
 |blt=>obtain⟨e,h⟩:=r;subst e;exact h
 |rng=>obtain⟨_,_,_,_,e,_⟩:=r;subst e;rfl
 |_=>(cases r;rfl)
end
structure Fn where
 fd:FuncData
 ps:List Nat
structure T where
 prog:Program
 tab:Nat->Str
 K:Frag
 glob:Nat->Option PV
 T9:Addr->Nat->Option PV
 fld:Addr->Nat->Bool
 meth:Addr->Nat->Option Addr
 tL:Addr->Nat->Option Addr
 init:Addr->Option Addr
 fn:Addr->Option Fn
 cat:Nat->Nat->Option Nat
 lam:List (Str×NameKind)->Option (Addr×Addr×Str)
structure G(τ:T) where
 w:World
 h₀:Heap
 os:OsState
noncomputable abbrev G.prog{τ:T}(_:G τ):Program:=τ.prog
noncomputable abbrev G.tab{τ:T}(_:G τ):Nat->Str:=τ.tab
noncomputable abbrev G.K{τ:T}(_:G τ):Frag:=τ.K
noncomputable abbrev G.glob{τ:T}(_:G τ):Nat->Option PV:=τ.glob
noncomputable abbrev G.fld{τ:T}(_:G τ):Addr->Nat->Bool:=τ.fld
noncomputable abbrev G.meth{τ:T}(_:G τ):Addr->Nat->Option Addr:=τ.meth
noncomputable abbrev G.tL{τ:T}(_:G τ):Addr->Nat->Option Addr:=τ.tL
noncomputable abbrev G.init{τ:T}(_:G τ):Addr->Option Addr:=τ.init
noncomputable abbrev G.fn{τ:T}(_:G τ):Addr->Option Fn:=τ.fn
noncomputable def gC(tab:Nat->Str)(h:Heap)(H:AH):Option PV->Option Value->Prop
 |none,v=>v=none
 |some p,v => ∃u,v=some u/\Rep tab h H p u
theorem gC.keeps{tab:Nat->Str}{h h':Heap}{H H':AH}(P:T7 h H h' H'):∀{p:Option PV} {v:Option Value},gC tab h H p v->gC tab h' H' p v
 |none,_,r=>r
 |some _,_,⟨u,e,r⟩=>⟨u,e,r.keeps P⟩
inductive gD{K J:Type}(f:K->J)(tab:Nat->Str)(h:Heap)(H:AH):List (K×PV)->List (J×Value)->Prop
 |nil:gD f tab h H [] []
 |cons {k:K} {p:PV} {v:Value} {l:List (K×PV)} {r:List (J×Value)} (q:Rep tab h H p v) (z:gD f tab h H l r):gD f tab h H ((k,p)::l) ((f k,v)::r)
theorem gD.keeps{K J:Type}{f:K->J}{tab:Nat->Str}{h h':Heap}{H H':AH}(P:T7 h H h' H'){l:List (K×PV)}{kvs:List (J×Value)}(r:gD f tab h H l kvs):gD f tab h' H' l kvs:=by
 induction r with
 |nil=>exact .nil
 |cons q _ ih=>exact .cons (q.keeps P) ih
inductive U5(tab:Nat->Str)(h:Heap)(H:AH):List ((Int×Int)×PV)->List (List Int×Addr×Value)->Prop
 |nil:U5 tab h H [] []
 |cons {i j:Int} {p:PV} {c:Addr} {v:Value} {l:List ((Int×Int)×PV)} {r:List (List Int×Addr×Value)} (q:Rep tab h H p v) (z:U5 tab h H l r):U5 tab h H (((i,j),p)::l) (([i,j],c,v)::r)
theorem U5.keeps{tab:Nat->Str}{h h':Heap}{H H':AH}(P:T7 h H h' H'){l:List ((Int×Int)×PV)} {xs:List (List Int×Addr×Value)} (r:U5 tab h H l xs):U5 tab h' H' l xs:=by
 induction r with
 |nil=>exact .nil
 |cons q _ ih=>exact .cons (q.keeps P) ih
inductive av1(h:Heap)(a:Addr)(R:List Value->Prop):Prop
 |mk (vs:List Value) (n:Nat) (o:h.get? a=some (zJ vs n)) (r:R vs)
section
variable{τ:T}(g:G τ)
noncomputable def jR(h:Heap)(H:AH)(a:Addr):N7->Prop
 |.list l=>av1 h a (K4 g.tab h H l)
 |.N5 l => ∃kvs,h.DictOf (intKind g.prog g.w) a kvs/\gD id g.tab h H l kvs
 |.T9 l => ∃kvs,h.DictOf (strKind g.prog g.w) a kvs/\gD g.tab g.tab h H l kvs
 |.Q9 l => ∃xs,h.DictOfH (tupleKind (intKind g.prog g.w)) a xs/\U5 g.tab h H l xs
 |.inst C dx=>h.get? a=some (instObj C dx)
 |.code q => ∃ps:Array Value,h.get? a=some (tabObj ps)/\TriplesOk ps.toList/\∀pos v,codeAmong pos ps.toList=some v->∃c o vs t,v = .ref c/\h.get? c=some o/\o.cls = .type "code"/\o.data = .fields vs/\vs[1]? = some (.str q t)
 |.exc C d => ∃t,h.get? a=some (W0 C d t)
 |.attrs l => ∃m,h.Ns1 a m/\Within m (l.map fun p=>g.tab p.1)/\∀x,gC g.tab h H (l.lookup x) (m (g.tab x))
end
theorem Pb{α β:Type}{h h':Heap}{a:Addr}{P:Obj->α->β->Prop}(e:∀x,h.get? a=some x->h'.get? a=some x)(z:∃o b c,h.get? a=some o/\P o b c):∃o b c,h'.get? a=some o/\P o b c:=
 z.imp fun O=>Exists.imp fun O=>Exists.imp fun O z=>⟨e _ z.1,z.2⟩
theorem jR.keeps{τ:T}{g:G τ}{h h':Heap}{H H':AH}(P:T7 h H h' H'){a:Addr}{o:N7}(r:jR g h H a o)(e:∀x,h.get? a=some x->h'.get? a=some x):jR g h' H' a o:=by
 cases o with
 |list l=>obtain⟨vs,n,e1,r⟩:=r;exact⟨vs,n,e _ e1,r.keeps P⟩
 |N5 l=>exact r.imp fun O z=>⟨Pb e z.1,z.2.keeps P⟩
 |T9 l=>exact r.imp fun O z=>⟨Pb e z.1,z.2.keeps P⟩
 |Q9 l=>
  refine r.imp fun xs z=>⟨z.1.imp fun o=>Exists.imp fun es=>Exists.imp fun ep w=>⟨e _ w.1,w.2.1,w.2.2.1,w.2.2.2.1,fun x hx=>?_,w.2.2.2.2.2⟩,z.2.keeps P⟩
  exact(w.2.2.2.2.1 x hx).imp fun o'=>Exists.imp fun its=>Exists.imp fun n' q=>⟨P.tup _ _ _ _ q.1 q.2.2.1 q.2.1,q.2⟩
 |inst C dx=>exact e _ r
 |code q=>obtain⟨ps,e1,e2,r⟩:=r;exact⟨ps,e _ e1,e2,fun pos v k=>(r pos v k).imp fun c=>Exists.imp fun o=>Exists.imp fun vs=>Exists.imp fun t z=>⟨z.1,P.rng _ _ _ z.2.1 z.2.2.2.1 (.inr z.2.2.1),z.2.2⟩⟩
 |exc C d=>exact r.imp fun O z=>e _ z
 |attrs l=>exact r.imp fun O z=>⟨Pb e z.1,z.2.1,fun x=>(z.2.2 x).keeps P⟩
structure M4{τ:T}(g:G τ)(s:Shared)(H:AH):Prop where
 keep:∀b o,g.h₀.get? b=some o->s.heap.get? b=some o
 fresh:∀a,H a≠none->g.h₀.get? a=none
 obj:∀a o,H a=some o->jR g s.heap H a o
 gens:s.gens = #[]
 os:s.os=g.os
structure Goes(F:Addr->Prop)(h:Heap)(H:AH)(h':Heap)(H':AH):Prop where
 keep:∀b o,h.get? b=some o->H b=none->¬F b->h'.get? b=some o
 new:∀b,H b=none->H' b≠none->h.get? b=none
 ex:∀b o,h.get? b=some o->∃o',h'.get? b=some o'
 M5:T7 h H h' H'
theorem Goes.refl(F:Addr->Prop)(h:Heap)(H:AH):Goes F h H h H:=⟨fun O O e O O=>e,fun O a b=>absurd a b,fun O o e=>⟨o,e⟩,.refl ..⟩
theorem Goes.trans{F:Addr->Prop}{h h' h'':Heap}{H H' Gp:AH}(a:Goes F h H h' H')(b:Goes F h' H' h'' Gp):Goes F h H h'' Gp:=by
 have un:∀x,h.get? x≠none->H x=none->H' x=none:=fun x q e=>G4 fun z=>q (a.new x e z)
 refine⟨fun x o e q f=>b.keep x o (a.keep x o e q f) (un x (by rw [e];simp) q) f,fun x q z=>?_,fun x o e=>let⟨o',e'⟩:=a.ex x o e;b.ex x o' e',a.M5.trans b.M5⟩
 by_cases y:H' x=none
 ·have:=b.new x y z
  cases c:h.get? x with
  |none=>rfl
  |some o=>obtain⟨o',e'⟩:=a.ex x o c;rw [e'] at this;cases this
 ·exact a.new x q y
theorem Goes.weak{F F':Addr->Prop}{h h':Heap}{H H':AH}(a:Goes F h H h' H')(k:∀x,F x->F' x):Goes F' h H h' H':=
 ⟨fun b o e q f=>a.keep b o e q fun z=>f (k b z),a.new,a.ex,a.M5⟩
noncomputable abbrev Calm:=Goes (fun O=>False)
theorem Calm.push(h:Heap)(H:AH)(o:Obj):Calm h H (h.push o) H:=
 ⟨fun O O e O O=>j5 _ e,fun O a b=>absurd a b,fun O O e=>⟨_,j5 _ e⟩,⟨fun O O O O e O O=>j5 _ e,fun O O O O e O O q=>⟨j5 _ e,q⟩,fun O O O e O O=>j5 _ e⟩⟩
section
variable{τ:T}{g:G τ}{s:Shared}{H:AH}
theorem jR.has{h:Heap}{a:Addr}{o:N7}(r:jR g h H a o):∃x,h.get? a=some x:=by
 cases o with
 |list l=>cases r with|mk _ _ o _=>exact⟨_,o⟩
 |N5 l=>exact r.elim fun O z=>z.1.elim fun O z=>z.elim fun O z=>z.elim fun O z=>⟨_,z.1⟩
 |T9 l=>exact r.elim fun O z=>z.1.elim fun O z=>z.elim fun O z=>z.elim fun O z=>⟨_,z.1⟩
 |Q9 l=>exact r.elim fun O z=>z.1.elim fun O z=>z.elim fun O z=>z.elim fun O z=>⟨_,z.1⟩
 |inst C dx=>exact⟨_,r⟩
 |attrs l=>exact r.elim fun O z=>z.1.elim fun O z=>z.elim fun O z=>z.elim fun O z=>⟨_,z.1⟩
 |code q=>exact r.elim fun O z=>⟨_,z.1⟩
 |exc C d=>exact r.elim fun O z=>⟨_,z⟩
theorem M4.off(S:M4 g s H){a:Addr}(h:s.heap.objs.size<=a):H a=none:=by
 cases e:H a with
 |none=>rfl
 |some o=>exact((S.obj a o e).has.elim fun O e=>absurd (G9 (G8 e) h) (Nat.lt_irrefl _))
theorem M4.push(S:M4 g s H)(o:Obj)(t:Nat):M4 g {s with heap:=s.heap.push o,toks:=t} H:=
 ⟨fun b o' e=>j5 _ (S.keep b o' e),S.fresh,fun a o' e=>(S.obj a o' e).keeps (Calm.push s.heap H o).M5 fun O e=>j5 _ e,S.gens,S.os⟩
theorem M4.tok(S:M4 g s H)(t:Nat):M4 g {s with toks:=t} H:=⟨S.keep,S.fresh,S.obj,S.gens,S.os⟩
theorem M4.static(S:M4 g s H):T7 g.h₀ (fun O=>none) s.heap H:=by
 refine⟨fun b o O O e O O=>S.keep b o e,fun b o O O e O O O=>⟨S.keep b o e,?_⟩,fun b o O e O O=>S.keep b o e⟩
 exact G4 fun z=>by have:=S.fresh b z;rw [e] at this;cases this
end
structure N6{τ:T}(g:G τ):Prop where
 inj:∀i j,g.tab i=g.tab j->i=j
 dbg:∀i,(g.tab i==("__debug__" : Str))=false
 X:g.K.In g.h₀
 nolimit:g.h₀.NoLimit
 names:∃mg mb,g.h₀.Ns mainGlobals mg/\g.h₀.Ns builtinsNs mb/\∀x p,g.glob x=some p->
  ∃v,(mg (g.tab x)=some v\/(mg (g.tab x)=none/\mb (g.tab x)=some v))/\Rep g.tab g.h₀ (fun O=>none) p v
 mods:g.h₀.get? sysModules≠none
 bm:∃mg,g.h₀.Ns mainGlobals mg/\∀P,(∀o,g.h₀.get? P≠some o)->g.h₀.BuiltinsAt mg P
 lam:∀ns c P q,τ.lam ns=some (c,P,q)->CodeHd g.h₀ c P/\P≠mainGlobals
 ao:∀x,PySem.PyData.strOk (g.tab x)=true
 Js:∀x,(g.tab x==("__classdict__" : Str))=false
 fld:∀C x,g.fld C x=true->plainGet g.K C (g.tab x)=true/\hasDictIn g.K C=true/\findIn g.K (.ref C) (g.tab x)=some none/\plainOver g.K C=true/\findIn g.K (.ref C) "__setattr__" = some (some (.builtin "object.__setattr__"))
 meth:∀C x f,g.meth C x=some f->plainGet g.K C (g.tab x)=true/\findIn g.K (.ref C) (g.tab x)=some (some (.ref f))/\isFn g.K (.ref f)=true/\keepIn g.K (.ref f)=true
 fn:∀f d,g.fn f=some d->∃oc od osl,g.K.lookup f=some ⟨oc,od,.func d.fd,osl⟩/\keepIn g.K (.ref f)=true/\codeIn g.K d.fd.code d.fd.qualname=true
 tL:∀C x f,g.tL C x=some f->∃mc,specialIn g.K (.ref C) "__getattribute__" = some (some (.builtin "type.__getattribute__"))/\readsIn g.K C mc=true/\findCls g.K (.ref C) mc (g.tab x)=some (.val (.ref f))/\keepIn g.K (.ref f)=true
 sd:∀a x p,τ.T9 a x=some p->∃m v,g.h₀.MapOf (strKind g.prog g.w) a m/\m (g.tab x)=some v/\Rep g.tab g.h₀ (fun O=>none) p v
 init:∀C f,g.init C=some f->makesIn g.K C=true/\findIn g.K (.ref C) "__init__" = some (some (.ref f))/\isFn g.K (.ref f)=true/\keepIn g.K (.ref C)=true
noncomputable abbrev Loc:=List (Nat×PV)
noncomputable def w7(x:Nat)(p:PV):Loc->Loc
 | []=>[(x,p)]
 |q::r=>@Bool.rec (fun O=>Loc) (q::w7 x p r) ((x,p)::r) (Nat.beq q.1 x)
theorem aW{α:Type}{y q:Nat}{p:α}{r:List (Nat×α)}(h:y=q):((q,p)::r).lookup y=some p:=by rw [u5,h,J2]
theorem aq{α:Type}{y q:Nat}{p:α}{r:List (Nat×α)}(h:y≠q):((q,p)::r).lookup y=r.lookup y:=by rw [u5,s8.mpr h]
theorem sJ{x:Nat}{p:PV}{q:Nat×PV}{r:Loc}{b:Bool}(e:Nat.beq q.1 x=b):w7 x p (q::r) = @Bool.rec (fun O=>Loc) (q::w7 x p r) ((x,p)::r) b:=by
 subst e;rfl
theorem M9(x:Nat)(p:PV)(y:Nat)(m:Loc):(w7 x p m).lookup y=if y=x then some p else m.lookup y:=by
 induction m with
 |nil=>
  by_cases h:y=x
  ·rw [if_pos h];exact aW h
  ·rw [if_neg h];exact aq h
 |cons q r ih=>
  obtain⟨q1,q2⟩:=q
  cases e:Nat.beq q1 x with
  |true=>
   rw [sJ e]
   by_cases h:y=x
   ·rw [if_pos h];exact aW h
   ·rw [if_neg h,aq fun w=>h (w.trans (Nat.eq_of_beq_eq_true e))];exact aq h
  |false=>
   rw [sJ e]
   by_cases w:y=q1
   ·rw [aW w,if_neg fun h=>Nat.ne_of_beq_eq_false e (w.symm.trans h)];exact(aW w).symm
   ·rw [aq w,ih];exact congrArg (ite _ _) (aq w).symm
structure N8{τ:T}(g:G τ)(env:Env)(m:Loc)(h:Heap)(H:AH):Prop where
 kind:env.scope.kind = .function
 globs:env.globals=mainGlobals
 zL:env.builtins=builtinsNs
 ns:∃mv,h.Ns env.locals mv/\∀x p,m.lookup x=some p->env.kindOf (g.tab x)=some .local->∃v,mv (g.tab x)=some v/\Rep g.tab h H p v
 cell:∀x p,m.lookup x=some p->(env.kindOf (g.tab x)=some .cell\/env.kindOf (g.tab x)=some .free)->∃c v,env.cells.lookup (g.tab x)=some c/\h.IsCell c (some v)/\Rep g.tab h H p v
 kinds:∀x p,m.lookup x=some p->env.kindOf (g.tab x)=some .local\/env.kindOf (g.tab x)=some .cell\/env.kindOf (g.tab x)=some .free
 Cz:H env.locals=none
 zM:g.h₀.get? env.locals=none
 cells:∀x c,env.cells.lookup x=some c->H c=none/\g.h₀.get? c=none/\∃v,h.IsCell c v
 inj:∀x y c,env.cells.lookup x=some c->env.cells.lookup y=some c->x=y
 has:∀x,env.kindOf x=some .cell->∃c,env.cells.lookup x=some c
theorem N8.yc{τ:T}{g:G τ}{env:Env}{m:Loc}{h h':Heap}{H H':AH}(F:N8 g env m h H)
  (k:∀b o,h.get? b=some o->H b=none->(b=env.locals\/∃x,env.cells.lookup x=some b)->h'.get? b=some o) (un:∀x,h.get? x≠none->H x=none->(x=env.locals\/∃y,env.cells.lookup y=some x)->H' x=none) (P:T7 h H h' H'):N8 g env m h' H':=by
 have cl:∀x c v,env.cells.lookup x=some c->h.IsCell c v->H c=none->h'.IsCell c v/\H' c=none:=fun x c v z ⟨o,e,d⟩ q=>⟨⟨o,k c o e q (.inr ⟨x,z⟩),d⟩,un c (by rw [e];simp) q (.inr ⟨x,z⟩)⟩
 obtain⟨mv,⟨o,es,ep,e,d⟩,r⟩:=F.ns
 refine⟨F.kind,F.globs,F.zL,⟨mv,⟨o,es,ep,k _ _ e F.Cz (.inl rfl),d⟩,fun x p q k=>?_⟩,fun x p q k=>?_,F.kinds,un _ (by rw [e];simp) F.Cz (.inl rfl),F.zM,fun x c q=>?_,F.inj,F.has⟩
 ·obtain⟨v,z,y⟩:=r x p q k;exact⟨v,z,y.keeps P⟩
 ·obtain⟨c,v,z,y,w⟩:=F.cell x p q k
  exact⟨c,v,z,(cl _ c _ z y (F.cells _ _ z).1).1,w.keeps P⟩
 ·obtain⟨z,y,v,w⟩:=F.cells x c q
  exact⟨(cl _ c v q w z).2,y,v,(cl _ c v q w z).1⟩
theorem N8.CG{τ:T}{g:G τ}{env:Env}{m:Loc}{h h':Heap}{H H':AH}{P:Addr->Prop}(F:N8 g env m h H)(a:Goes P h H h' H')(np:∀b,(b=env.locals\/∃x,env.cells.lookup x=some b)->¬P b):N8 g env m h' H':=
 F.yc (fun b o e q w=>a.keep b o e q (np b w)) (fun x q e O=>G4 fun z=>q (a.new x e z)) a.M5
theorem N8.goes{τ:T}{g:G τ}{env:Env}{m:Loc}{h h':Heap}{H H':AH}(F:N8 g env m h H)(a:Calm h H h' H'):N8 g env m h' H':=F.CG a fun O O=>id
structure R8(n:Nat)(A:Around):Prop where
 handled:A.handled=none
 depth:A.depth+2*n<recursionLimit
 units:A.units+20*n+100<cLine
inductive aX{τ:T}(g:G τ)(s:Shared)(H:AH)(Q:PV->AH->Prop)(v:Value)(s':Shared):Prop
 |mk (p:PV) (H':AH) (r:Rep g.tab s'.heap H' p v) (S:M4 g s' H') (c:Calm s.heap H s'.heap H') (q:Q p H')
noncomputable def W{τ:T}(g:G τ)(A:Around)(t:Sem Value)(s:Shared)(H:AH)(Q:PV->AH->Prop):Prop:=wpAny (model g.prog g.w) A t (aX g s H Q) (fun O O=>False) s
noncomputable def Ev{τ:T}(g:G τ)(n:Nat)(env:Env)(m:Loc)(H:AH)(e:PySem.Expr)(Q:PV->AH->Prop):Prop:=
 ∀A s,R8 n A->M4 g s H->N8 g env m s.heap H->W g A (eval e env) s H Q
theorem aX.step{τ:T}{g:G τ}{s s₁:Shared}{H H₁:AH}{Q:PV->AH->Prop}(c:Calm s.heap H s₁.heap H₁){v:Value}{s':Shared}(x:aX g s₁ H₁ Q v s'):aX g s H Q v s':=
 let⟨p,H',r,S,c',q⟩:=x;⟨p,H',r,S,c.trans c',q⟩
theorem Ev.then{τ:T}{g:G τ}{n:Nat}{env:Env}{m:Loc}{H:AH}{e:PySem.Expr}{Q:PV->AH->Prop}(h:Ev g n env m H e Q){A:Around}{s:Shared}{P:Value->Shared->Prop}{E:Value->Shared->Prop}
  (R:R8 n A) (S:M4 g s H) (F:N8 g env m s.heap H)
  (k:∀v s' p H',Rep g.tab s'.heap H' p v->M4 g s' H'->Calm s.heap H s'.heap H'->N8 g env m s'.heap H'->Q p H'->P v s'):wpAny (model g.prog g.w) A (eval e env) P E s:=
 j6 (h A s R S F) (fun v s' ⟨p,H',r,S',c,q⟩=>k v s' p H' r S' c (F.goes c) q) fun O O x=>x.elim
theorem Ev.mono{τ:T}{g:G τ}{n:Nat}{env:Env}{m:Loc}{H:AH}{e:PySem.Expr}{Q Q':PV->AH->Prop}(h:Ev g n env m H e Q)(k:∀p H',Q p H'->Q' p H'):Ev g n env m H e Q':=
 fun A s R S F=>h.then R S F fun O O p H' r S' c O q=>⟨p,H',r,S',c,k p H' q⟩
section
variable{τ:T}{g:G τ}{n:Nat}{env:Env}{m:Loc}{H:AH}{Q:PV->AH->Prop}
theorem M8{s:Shared}{v:Value}{p:PV}(S:M4 g s H)(r:Rep g.tab s.heap H p v)(q:Q p H)(t:Nat):aX g s H Q v {s with toks:=t}:=
 ⟨p,H,r,S.tok t,.refl ..,q⟩
theorem Ev.aj4{k:Nat}{pos:Pos}(q:Q .none H):Ev g n env m H (.Constant .none k pos) Q:=fun A s R S F=>(j4 (M8 (p:=.none) S rfl q s.toks):wpAny _ A (Sem.pure Value.none) _ _ s)
theorem Ev.aj5{b:Bool}{k:Nat}{pos:Pos}(q:Q (.bool b) H):Ev g n env m H (.Constant (.bool b) k pos) Q:=fun A s R S F=>(j4 (M8 (p:=.bool b) S rfl q s.toks):wpAny _ A (Sem.pure (Value.bool b)) _ _ s)
theorem Ev.Zm{i:Int}{k:Nat}{pos:Pos}(q:Q (.int i) H):Ev g n env m H (.Constant (.int i) k pos) Q:=fun A s R S F=>wpAny_Constant_int (M8 (p:=.int i) S ⟨_,rfl⟩ q _)
theorem Ev.av2{x k:Nat}{pos:Pos}(q:Q (.str x) H):Ev g n env m H (.Constant (.str (g.tab x)) k pos) Q:=fun A s R S F=>Constant_str (M8 (p:=.str x) S ⟨_,rfl⟩ q _)
theorem Ev.loc{x:Nat}{pos:Pos}{p:PV}(hg:N6 g)(e:m.lookup x=some p)(q:Q p H):Ev g n env m H (.Name (g.tab x) pos) Q:=fun A s R S F=>by
 have hd:=hg.dbg x
 rcases F.kinds x p e with k|k
 ·obtain⟨mv,hN,r⟩:=F.ns
  obtain⟨v,hv,hr⟩:=r x p e k
  exact wpAny_Name (wpAny_loadName_local F.kind k hN hv (M8 S hr q s.toks)) hd
 ·obtain⟨c,v,hc,hv,hr⟩:=F.cell x p e k
  rcases k with k|k
  ·exact wpAny_Name (wpAny_loadName_cell F.kind k hc hv (M8 S hr q s.toks)) hd
  ·exact wpAny_Name (wpAny_loadName_free F.kind k hc hv (M8 S hr q s.toks) (hg.Js x)) hd
theorem Ev.glob{x:Nat}{pos:Pos}{p:PV}(hg:N6 g)(e:g.glob x=some p)(k:env.kindOf (g.tab x)=some .globalImplicit)(q:Q p H):Ev g n env m H (.Name (g.tab x) pos) Q:=fun A s R S F=>by
 obtain⟨mg,mb,hG,hB,r⟩:=hg.names
 obtain⟨v,hv,hr⟩:=r x p e
 refine Name_function_global F.kind k ?_ (hg.dbg x)
 have hG':s.heap.Ns env.globals mg:=by rw [F.globs];exact hG.keeps S.keep
 have hB':s.heap.Ns env.builtins mb:=by rw [F.zL];exact hB.keeps S.keep
 have z:aX g s H Q v s:=M8 S (hr.keeps S.static) q s.toks
 rcases hv with hv|⟨h1,h2⟩
 ·exact loadGlobal_global hG' hv z
 ·exact loadGlobal_builtin hG' h1 hB' h2 z
inductive av3{τ:T}(g:G τ)(s:Shared)(H:AH)(k:Nat)(Q:List PV->AH->Prop)(vs:List Value)(s':Shared):Prop
 |mk (l:List PV) (H':AH) (e:l.length=k) (r:K4 g.tab s'.heap H' l vs) (S:M4 g s' H') (c:Calm s.heap H s'.heap H') (q:Q l H')
noncomputable def mJ{τ:T}(g:G τ)(n:Nat)(env:Env)(m:Loc)(H:AH)(pos:Pos)(es:List PySem.Expr)(Q:List PV->AH->Prop):Prop:=
 ∀A s,R8 n A->M4 g s H->N8 g env m s.heap H->wpAny (model g.prog g.w) A (spliced (backTo pos (starEach es env))) (av3 g s H es.length Q) (fun O O=>False) s
noncomputable def au(e:PySem.Expr):Prop := ∀rest env,starEach (e::rest) env=(false,eval e env)::starEach rest env
theorem mJ.nil{pos:Pos}{Q:List PV->AH->Prop}(q:Q [] H):mJ g n env m H pos [] Q:=fun A s R S F=>spliced_nil ⟨[],H,rfl,rfl,S,.refl ..,q⟩
theorem mJ.cons{pos:Pos}{e:PySem.Expr}{es:List PySem.Expr}{Q:List PV->AH->Prop}(hp:au e)(h:Ev g n env m H e fun p H₁=>mJ g n env m H₁ pos es fun l aT5=>Q (p::l) aT5):mJ g n env m H pos (e::es) Q:=fun A s R S F=>by
 show wpAny _ _ (spliced (backTo pos (starEach (e::es) env))) _ _ _
 rw [hp]
 refine spliced_cons (h.then R S F fun v s₁ p H₁ r aT7 c aU1 k=>?_)
 refine j6 (k A s₁ R aT7 aU1) (fun vs aU0 ⟨l,aT5,z,rl,aT6,aT9,q⟩=>?_) fun O O x=>x
 exact⟨p::l,aT5,by rw [m8,z,m8],⟨v,vs,rfl,r.keeps aT9.M5,rl⟩,aT6,c.trans aT9,q⟩
theorem mJ.then{pos:Pos}{es:List PySem.Expr}{Q:List PV->AH->Prop}(h:mJ g n env m H pos es Q){A:Around}{s:Shared}{P:List Value->Shared->Prop}{E:Value->Shared->Prop}
  (R:R8 n A) (S:M4 g s H) (F:N8 g env m s.heap H)
  (k:∀vs s' l H',K4 g.tab s'.heap H' l vs->M4 g s' H'->Calm s.heap H s'.heap H'->N8 g env m s'.heap H'->l.length=es.length->Q l H'->P vs s'):wpAny (model g.prog g.w) A (spliced (backTo pos (starEach es env))) P E s:=
 j6 (h A s R S F) (fun v s' ⟨p,H',z,r,S',c,q⟩=>k v s' p H' r S' c (F.goes c) z q) fun O O x=>x.elim
theorem gG{s:Shared}{o:Obj}{p:PV}(S:M4 g s H)(r:Rep g.tab (s.heap.push o) H p (.ref s.heap.objs.size))(q:Q p H):aX g s H Q (.ref s.heap.objs.size) {s with heap:=s.heap.push o}:=
 ⟨p,H,r,S.push o s.toks,Calm.push ..,q⟩
theorem untracked{s:Shared}(S:M4 g s H):H s.heap.objs.size=none:=S.off (o9 _)
theorem CJ{A:Around}{s:Shared}{l:List PV}{vs:List Value}(S:M4 g s H)(r:K4 g.tab s.heap H l vs)(hz:l.length<=sizeLine)(q:Q (.tup l) H):W g A (newTuple vs) s H Q:=
 wpAny_newObj_type (gG (p:=.tup l) S ⟨_,vs,0,rfl,s6 _ rfl,r.keeps (Calm.push ..).M5⟩ q) (by show vs.toArray.size<=sizeLine;rw [n6,r.length];exact hz)
theorem Gy{A:Around}{s:Shared}{l:List PV}{vs:List Value}(S:M4 g s H)(r:K4 g.tab s.heap H l vs)(hz:l.length<=sizeLine)(q:Q (.lst l) H):W g A (newList vs) s H Q:=
 wpAny_newObj_type (gG (p:=.lst l) S ⟨_,vs,0,rfl,s6 _ rfl,untracked S,r.keeps (Calm.push ..).M5⟩ q) (by show vs.toArray.size<=sizeLine;rw [n6,r.length];exact hz)
theorem aX.calm{s s₁:Shared}{H₁:AH}(c:Calm s.heap H s₁.heap H₁){A:Around}{t:Sem Value}(h:wpAny (model g.prog g.w) A t (aX g s₁ H₁ Q) (fun O O=>False) s₁):wpAny (model g.prog g.w) A t (aX g s H Q) (fun O O=>False) s₁:=
 j6 h (fun O O x=>x.step c) fun O O x=>x
theorem Ev.tuple{pos:Pos}{k:Nat}{es:List PySem.Expr}(hz:es.length<=sizeLine)(h:mJ g n env m H pos es fun l H'=>Q (.tup l) H'):Ev g n env m H (.Tuple es k pos) Q:=fun A s R S F=>
 Tuple_ (h.then R S F fun vs s' l H' r S' c F' z q=>aX.calm c (CJ S' r (z▸hz) q))
theorem Ev.list{pos:Pos}{es:List PySem.Expr}(hz:es.length<=sizeLine)(h:mJ g n env m H pos es fun l H'=>Q (.lst l) H'):Ev g n env m H (.List es pos) Q:=fun A s R S F=>
 List_ (h.then R S F fun vs s' l H' r S' c F' z q=>aX.calm c (Gy S' r (z▸hz) q))
theorem M4.track{s:Shared}{o:N7}{x:Obj}(S:M4 g s H)(hf:x.isFreed=false)(r:jR g (s.heap.push x) (upd H s.heap.objs.size o) s.heap.objs.size o):
  M4 g {s with heap:=s.heap.push x} (upd H s.heap.objs.size o)/\Calm s.heap H (s.heap.push x) (upd H s.heap.objs.size o):=by
 have P:T7 s.heap H (s.heap.push x) (upd H s.heap.objs.size o):=⟨fun O O O O e O O=>j5 _ e,fun b O O O e O O q=>⟨j5 _ e,by rw [w5 (Nat.ne_of_lt (G8 e))];exact q⟩,fun O O O e O O=>j5 _ e⟩
 refine⟨⟨fun b o' e=>j5 _ (S.keep b o' e),fun a q=>?_,fun a o' e=>?_,S.gens,S.os⟩,fun O O e O O=>j5 _ e,fun b a q=>?_,fun O O e=>⟨_,j5 _ e⟩,P⟩
 ·by_cases h:a=s.heap.objs.size
  ·cases e:g.h₀.get? a with
   |none=>rfl
   |some o'=>exact absurd (G8 (S.keep _ _ e)) (by rw [h];exact Nat.lt_irrefl _)
  ·rw [w5 h] at q;exact S.fresh a q
 ·by_cases h:a=s.heap.objs.size
  ·subst h;rw [p8] at e;cases e;exact r
  ·rw [w5 h] at e;exact(S.obj a o' e).keeps P fun O e=>j5 _ e
 ·by_cases h:b=s.heap.objs.size
  ·cases e:s.heap.get? b with
   |none=>rfl
   |some o'=>exact absurd (G8 e) (by rw [h];exact Nat.lt_irrefl _)
  ·rw [w5 h] at q;exact absurd a q
theorem aL{s:Shared}{h':Heap}{a:Addr}{o o':N7}(S:M4 g s H)(e:H a=some o)(B:Heap.SameBut a s.heap h'):T7 s.heap H h' (upd H a o'):=by
 have ne:∀b,H b=none->b≠a:=fun b q z=>by rw [z,e] at q;cases q
 have key:∀b x,s.heap.get? b=some x->((∃xs k,x.data = .seq xs k)/\x.cls = .type "tuple"\/(∃xs,x.data = .fields xs)/\Gx x.cls)->b≠a:=by
  intro b x q w z
  subst z
  have r:=S.obj _ _ e
  cases o with
  |list l=>obtain⟨vs,n,e1,_⟩:=r;rw [q] at e1;cases e1;rcases w with⟨_,c⟩|⟨_,c⟩<;>exact absurd c (by simp)
  |N5 l=>obtain⟨_,⟨o,_,_,e1,_,d1,_⟩,_⟩:=r;rw [q] at e1;cases e1;rcases w with⟨⟨_,_,d⟩,_⟩|⟨⟨_,d⟩,_⟩<;>rw [d] at d1<;>cases d1
  |T9 l=>obtain⟨_,⟨o,_,_,e1,_,d1,_⟩,_⟩:=r;rw [q] at e1;cases e1;rcases w with⟨⟨_,_,d⟩,_⟩|⟨⟨_,d⟩,_⟩<;>rw [d] at d1<;>cases d1
  |Q9 l=>obtain⟨_,⟨o,_,_,e1,_,d1,_⟩,_⟩:=r;rw [q] at e1;cases e1;rcases w with⟨⟨_,_,d⟩,_⟩|⟨⟨_,d⟩,_⟩<;>rw [d] at d1<;>cases d1
  |inst C dx=>have e1:s.heap.get? _=_:=r;rw [q] at e1;cases e1;rcases w with⟨_,c⟩|⟨_,c⟩<;>exact absurd c (by simp)
  |code nm=>obtain⟨_,e1,_⟩:=r;rw [q] at e1;cases e1;rcases w with⟨_,c⟩|⟨_,c⟩<;>exact absurd c (by simp)
  |exc C d=>obtain⟨_,e1⟩:=r;rw [q] at e1;cases e1;rcases w with⟨_,c⟩|⟨_,c⟩<;>exact absurd c (by simp)
  |attrs l=>obtain⟨_,⟨o,_,_,e1,d1,_⟩,_⟩:=r;rw [q] at e1;cases e1;rcases w with⟨⟨_,_,d⟩,_⟩|⟨⟨_,d⟩,_⟩<;>rw [d] at d1<;>cases d1
 exact⟨fun b x xs k q d c=>(B.2 b (key b x q (.inl ⟨⟨xs,k,d⟩,c⟩))).trans q,fun b x xs k q d c z=>⟨(B.2 b (ne b z)).trans q,by rw [w5 (ne b z)];exact z⟩,fun b x xs q d c=>(B.2 b (key b x q (.inr ⟨⟨xs,d⟩,c⟩))).trans q⟩
theorem M4.turn{s:Shared}{h':Heap}{a:Addr}{o o':N7}(S:M4 g s H)(e:H a=some o)(B:Heap.SameBut a s.heap h')(r:jR g h' (upd H a o') a o')(t:Nat):
  M4 g {s with heap:=h',toks:=t} (upd H a o')/\Calm s.heap H h' (upd H a o'):=by
 have ne:∀b,H b=none->b≠a:=fun b q z=>by rw [z,e] at q;cases q
 have P:=aL (o':=o') S e B
 have un:∀b,upd H a o' b≠none->H b≠none:=fun b q z=>by rw [w5 (ne b z)] at q;exact q z
 refine⟨⟨fun b x q=>(B.2 b fun z=>?_).trans (S.keep b x q),fun b q=>S.fresh b (un b q),fun b x q=>?_,S.gens,S.os⟩,fun b x q z O=>(B.2 b (ne b z)).trans q,fun b z q=>absurd z (un b q),fun b x q=>?_,P⟩
 ·subst z
  have:=S.fresh b (by rw [e];simp)
  rw [this] at q;cases q
 ·by_cases z:b=a
  ·subst z;rw [p8] at q;cases q;exact r
  ·rw [w5 z] at q;exact(S.obj b x q).keeps P fun O y=>(B.2 b z).trans y
 ·by_cases z:b=a
  ·subst z
   exact r.has
  ·exact⟨x,(B.2 b z).trans q⟩
theorem Ev.aj6{pos:Pos}{es:List PySem.Expr}(hz:es.length<=sizeLine)(h:mJ g n env m H pos es fun l H' => ∀a,H' a=none->Q (.obj a) (upd H' a (.list l))):Ev g n env m H (.List es pos) Q:=fun A s R S F=>
 List_ (h.then R S F fun vs s' l H' r S' c F' z q=>aX.calm c (by
  obtain⟨aT6,aT9⟩:=S'.track (o:=.list l) (x:={cls:=.type "list",data:=.seq vs.toArray}) rfl ⟨vs,0,s6 _ rfl,r.keeps (T7.mk (fun O O O O e O O=>j5 _ e) (fun b O O O e O O q=>⟨j5 _ e,by rw [w5 (Nat.ne_of_lt (G8 e))];exact q⟩) fun O O O e O O=>j5 _ e)⟩
  refine wpAny_newObj_type ⟨.obj s'.heap.objs.size,_,rfl,aT6,aT9,q _ (untracked S')⟩ (by show vs.toArray.size<=sizeLine;rw [n6,r.length,z];exact hz)))
end
end Mine.Internal
namespace Mine.Internal
open PySem PySem.W PySem.Calls PyProof.Rows Builtin Builtin.ObjectAttr
theorem lC{h:Heap}{a:Addr}{m:Str->Option Value}(N:h.Ns1 a m)(name:Str):∃o,h.get? a=some o/\lookIn name o=some (m name):=by
 obtain⟨o,es,ep,e,d,k,_,f⟩:=N
 refine⟨o,e,?_⟩
 unfold lookIn
 rw [d]
 dsimp only
 have:=f name
 unfold nsFind findBy at this
 rw [<- Array.find?_toList] at this
 rw [<- this]
 cases q:es.toList.find? (fun x=>x.key.isStr name) with
 |some x=>rfl
 |none=>
  have:(es.toList.any fun x=>x.refKey)=false:=by
   rw [List.any_eq_false]
   intro x hx
   obtain⟨n,t,z⟩:=k x (Array.mem_toList_iff.mp hx)
   simp [DictEntry.refKey,z]
  simp only [this,Option.map_none,K6,if_false]
section
variable{τ:T}{g:G τ}{n:Nat}{env:Env}{m:Loc}{H:AH}{Q:PV->AH->Prop}
theorem zO{s:Shared}{a C dx:Addr}{l:List (Nat×PV)}(S:M4 g s H)(e1:H a=some (.inst C dx))(e2:H dx=some (.attrs l))(x:Nat):
  ∃(od:Obj) (mA:Str->Option Value),InstAt s.heap a (instObj C dx) C (some od)/\s.heap.get? dx=some od/\lookIn (g.tab x) od=some (mA (g.tab x))/\gC g.tab s.heap H (l.lookup x) (mA (g.tab x)):=by
 have r1:=S.obj _ _ e1
 obtain⟨mA,N,_,r⟩:=S.obj _ _ e2
 obtain⟨od,e,q⟩:=lC N (g.tab x)
 exact⟨od,mA,⟨r1,rfl,rfl,e⟩,e,q,r x⟩
theorem Gz{A:Around}{s:Shared}{a C dx:Addr}{l:List (Nat×PV)}{x:Nat}{p:PV}{ex:Bool}(hg:N6 g)(S:M4 g s H)(e1:H a=some (.inst C dx))(e2:H dx=some (.attrs l))(hf:g.fld C x=true)(hl:l.lookup x=some p)(q:Q p H):
  W g A (getAttr (.ref a) (g.tab x) ex) s H Q:=by
 obtain⟨od,mA,I,_,hk,r⟩:=zO S e1 e2 x
 rw [hl] at r
 obtain⟨u,hu,ru⟩:=r
 obtain⟨f1,f2,f3,_⟩:=hg.fld C x hf
 rw [hu] at hk
 exact get_value (hg.X.keeps S.keep) I (plainGet_of f1).1 (findObj_own f2 f3 rfl hk) ru.handed (M8 S ru q _)
inductive H8{τ:T}(g:G τ)(x:Nat)(Q:PV->AH->Prop):PV->AH->Prop
 |mk {a C dx:Addr} {l:List (Nat×PV)} {q:PV} {H:AH} (e1:H a=some (.inst C dx)) (e2:H dx=some (.attrs l)) (hf:τ.fld C x=true) (hl:l.lookup x=some q) (h:Q q H):H8 g x Q (.obj a) H
noncomputable def qy(e:PySem.Expr):Prop := ∀attr env,attributeBase e attr env (eval e env)=eval e env
theorem Ev.attr{e:PySem.Expr}{x:Nat}{pos:Pos}(hg:N6 g)(hb:qy e)(h:Ev g n env m H e (H8 g x Q)):Ev g n env m H (.Attribute e (g.tab x) pos) Q:=fun A s R S F=>by
 refine Attribute_any_ (h.then R S F fun v s' p H' r S' c F' q=>?_) (by rw [arm_eval_Attribute,hb])
 cases q with | @mk a C dx l y H' e1 e2 hf hl q=>?_
 cases r
 exact aX.calm c (Gz hg S' e1 e2 hf hl q)
theorem qC{tab:Nat->Str}{l:List (Nat×PV)}{m:Str->Option Value}(w:Within m (l.map fun p=>tab p.1))(x:Nat)(p:PV)(v:Value):Within (fun y=>if y=tab x then some v else m y) ((w7 x p l).map fun p=>tab p.1):=by
 have a:∀l:List (Nat×PV),tab x∈(w7 x p l).map fun p=>tab p.1:=by
  intro l
  induction l with
  |nil=>exact .head _
  |cons q r ih=>
   unfold w7
   cases e:Nat.beq q.1 x with
   |true=>exact .head _
   |false=>exact .tail _ ih
 have b:∀(l:List (Nat×PV)) y,y∈(l.map fun p=>tab p.1)->y∈(w7 x p l).map fun p=>tab p.1:=by
  intro l
  induction l with
  |nil=>intro y h;cases h
  |cons q r ih=>
   intro y h
   unfold w7
   cases e:Nat.beq q.1 x with
   |true=>
    have:q.1=x:=Nat.eq_of_beq_eq_true e
    rw [I7] at h ⊢
    rcases q7.mp h with h|h
    ·rw [h,this];exact .head _
    ·exact .tail _ h
   |false=>
    rw [I7] at h ⊢
    rcases q7.mp h with h|h
    ·rw [h];exact .head _
    ·exact .tail _ (ih y h)
 intro y h
 by_cases e:y=tab x
 ·rw [e];exact a l
 ·simp only [e,if_false] at h;exact b l y (w y h)
theorem qD(x:Nat)(p:PV):∀l:List (Nat×PV),(w7 x p l).length<=l.length+1
 | []=>o9 _
 |q::r=>by
  unfold w7
  cases Nat.beq q.1 x with
  |true=>exact Nat.le_succ _
  |false=>exact J7 (qD x p r)
theorem yd{h':Heap}{s:Shared}{dx:Addr}{l:List (Nat×PV)}{mA:Str->Option Value}{x:Nat}{p:PV}{v:Value}(hg:N6 g)(S:M4 g s H)(e:H dx=some (.attrs l))
  (w:Within mA (l.map fun p=>g.tab p.1)) (r:∀x,gC g.tab s.heap H (l.lookup x) (mA (g.tab x))) (rv:Rep g.tab s.heap H p v)
  (hn:h'.Ns1 dx fun y=>if y=g.tab x then some v else mA y) (B:Heap.SameBut dx s.heap h'):jR g h' (upd H dx (.attrs (w7 x p l))) dx (.attrs (w7 x p l)):=by
 have P:T7 s.heap H h' (upd H dx (.attrs (w7 x p l))):=aL S e B
 refine⟨_,hn,qC w x p v,fun y=>?_⟩
 rw [M9]
 by_cases h:y=x
 ·subst h;simp only [if_true];exact⟨v,rfl,rv.keeps P⟩
 ·have:¬g.tab y=g.tab x:=fun z=>h (hg.inj _ _ z)
  simp only [h,this,if_false]
  exact(r y).keeps P
theorem Zn{prog:Program}{w:World}{A:Around}{K:Frag}{R:Result->Shared->Prop}{s:Shared}{a C dx:Addr}{mA:Str->Option Value}{ns:List Str}{name:Str}{tk:Tok}{v:Value}(X:K.In s.heap)
  (r1:s.heap.get? a=some (instObj C dx)) (N:s.heap.Ns1 dx mA) (w':Within (fun y=>if y=name then some v else mA y) ns) (hz:ns.length<=1000)
  (f2:hasDictIn K C=true) (f3:findIn K (.ref C) name=some none) (f4:plainOver K C=true)
  (h:∀h',h'.Ns1 dx (fun y=>if y=name then some v else mA y)->Heap.SameBut dx s.heap h'->R (.ok (.ret .none)) {s with heap:=h',toks:=s.toks+1}):
  codeAny (model prog w) A (.call (.builtin "object.__setattr__") ⟨[.ref a,.str name tk,v],[]⟩) R s:=by
 obtain⟨od,e,_⟩:=lC N name
 have I:InstAt s.heap a (instObj C dx) C (some od):=⟨r1,rfl,rfl,e⟩
 refine osa_open X I f4 (by unfold takerIn;rw [f3];rfl) fun b=>?_
 obtain⟨cd,hc,hd⟩:=any_some f2
 refine c7 (j4 (c7 (c7 (wpAny_loadPart r1 (c7 ((looks_clsIn X hc).here ?_))))))
 rw [hd]
 refine j4 (a:=some dx) (c7 (j4 (c7 ?_)))
 refine wpAny_nsSet1 N fun h' hn B=>?_
 obtain⟨o',es,ep,g1,g2,g3⟩:=hn.count w'
 refine c7 (wpAny_lookBehind g1 (by rw [g2];refine pastItsLine_dict (d8 g3 ?_);rw [p7];exact d8 ‹_› (by decide)) ?_)
 exact j4 (h h' hn B)
theorem GC{A:Around}{s:Shared}{a C dx:Addr}{l:List (Nat×PV)}{x:Nat}{p:PV}{v:Value}(hg:N6 g)(S:M4 g s H)(e1:H a=some (.inst C dx))(e2:H dx=some (.attrs l))(hf:g.fld C x=true)(hz:l.length<900)(rv:Rep g.tab s.heap H p v):
  wpAny (model g.prog g.w) A (setAttr (.ref a) (g.tab x) v) (fun O s'=>M4 g s' (upd H dx (.attrs (w7 x p l)))/\Calm s.heap H s'.heap (upd H dx (.attrs (w7 x p l)))) (fun O O=>False) s:=by
 obtain⟨f1,f2,f3,f4,f5⟩:=hg.fld C x hf
 have r1:s.heap.get? a=some (instObj C dx):=S.obj _ _ e1
 obtain⟨mA,N,w,r⟩:=S.obj _ _ e2
 obtain⟨od,e,_⟩:=lC N (g.tab x)
 have I:InstAt s.heap a (instObj C dx) C (some od):=⟨r1,rfl,rfl,e⟩
 have X:=hg.X.keeps S.keep
 refine set_plain X I f5 (Zn (s:={s with toks:=s.toks+1}) X r1 N (qC w x p v) (by rw [g8];have:=qD x p l;lia) f2 f3 f4 fun h' hn B=>?_)
 exact S.turn e2 B (yd hg S e2 w r rv hn B) (s.toks+1+1)
end
section
variable{τ:T}{g:G τ}{n:Nat}{env:Env}{m:Loc}{H:AH}{Q:PV->AH->Prop}
inductive CK{τ:T}(g:G τ)(s:Shared)(H:AH)(Q:PV->AH->Prop)(r:Result)(s':Shared):Prop
 |mk (v:Value) (e:r = .ok (.ret v)) (x:aX g s H Q v s')
noncomputable def Cl{τ:T}(g:G τ)(n:Nat)(p:PV)(l:List PV)(H:AH)(Q:PV->AH->Prop):Prop:=
 ∀A s v vs,R8 n A->M4 g s H->Rep g.tab s.heap H p v->K4 g.tab s.heap H l vs->W g A (call v vs) s H Q
theorem Cl.call{p:PV}{l:List PV}(h:Cl g n p l H Q){A:Around}{s:Shared}{v:Value}{vs:List Value}(R:R8 n A)(S:M4 g s H)(a:Rep g.tab s.heap H p v)(b:K4 g.tab s.heap H l vs):
  W g A (call v vs) s H Q:=h A s v vs R S a b
theorem Cl.b1{x:String}{p:PV}(h:∀A s v,R8 n A->M4 g s H->Rep g.tab s.heap H p v->W g A (PySem.call (.builtin x) [v]) s H Q):Cl g n (.blt x) [p] H Q:=fun A s v vs R S rv rl=>by
 obtain⟨rfl,_⟩:=rv
 obtain⟨v1,r1,rfl,h1,rfl⟩:=rl
 exact h A s v1 R S h1
theorem Cl.b2{x:String}{p q:PV}(h:∀A s v u,R8 n A->M4 g s H->Rep g.tab s.heap H p v->Rep g.tab s.heap H q u->W g A (PySem.call (.builtin x) [v,u]) s H Q):Cl g n (.blt x) [p,q] H Q:=fun A s v vs R S rv rl=>by
 obtain⟨rfl,_⟩:=rv
 obtain⟨v1,r1,rfl,h1,v2,r2,rfl,h2,rfl⟩:=rl
 exact h A s v1 v2 R S h1 h2
theorem Cl.b3{x:String}{p q r:PV}(h:∀A s v u w,R8 n A->M4 g s H->Rep g.tab s.heap H p v->Rep g.tab s.heap H q u->Rep g.tab s.heap H r w->W g A (PySem.call (.builtin x) [v,u,w]) s H Q):Cl g n (.blt x) [p,q,r] H Q:=fun A s v vs R S rv rl=>by
 obtain⟨rfl,_⟩:=rv
 obtain⟨v1,r1,rfl,h1,v2,r2,rfl,h2,v3,r3,rfl,h3,rfl⟩:=rl
 exact h A s v1 v2 v3 R S h1 h2 h3
theorem Cl.t1{x:String}{p:PV}(h:∀A s v,R8 n A->M4 g s H->Rep g.tab s.heap H p v->W g A (PySem.call (.type x) [v]) s H Q):Cl g n (.typ x) [p] H Q:=fun A s v vs R S rv rl=>by
 cases rv
 obtain⟨v1,r1,rfl,h1,rfl⟩:=rl
 exact h A s v1 R S h1
theorem Cl.t2{x:String}{p q:PV}(h:∀A s v u,R8 n A->M4 g s H->Rep g.tab s.heap H p v->Rep g.tab s.heap H q u->W g A (PySem.call (.type x) [v,u]) s H Q):Cl g n (.typ x) [p,q] H Q:=fun A s v vs R S rv rl=>by
 cases rv
 obtain⟨v1,r1,rfl,h1,v2,r2,rfl,h2,rfl⟩:=rl
 exact h A s v1 v2 R S h1 h2
noncomputable def yg{τ:T}(g:G τ)(n:Nat)(p:PV)(l:List PV)(H:AH)(Q:PV->AH->Prop):Prop:=
 ∀A s v vs,R8 n A->M4 g s H->Rep g.tab s.heap H p v->K4 g.tab s.heap H l vs->codeAny (model g.prog g.w) A (.call v ⟨vs,[]⟩) (CK g s H Q) s
theorem yg.cl{p:PV}{l:List PV}(h:yg g n p l H Q):Cl g n p l H Q:=fun A s v vs R S a b=>wpAny_call (codeAny_mono (h A s v vs R S a b) fun r s' ⟨u,e,x⟩=>by subst e;exact x)
noncomputable def Plain{τ:T}(g:G τ)(p:PV):Prop := ∀(M:Model) (h:Heap) (H:AH) (v:Value),(∀b o,g.h₀.get? b=some o->h.get? b=some o)->Rep g.tab h H p v->
 ∃k,(k=Keeper.frame\/k=Keeper.machine\/k=Keeper.boundFrame)/\Looks M h (keeperOf v) k
theorem jG{f:Addr}(hg:N6 g)(h:keepIn g.K (.ref f)=true):Plain g (.obj f):=fun M hp H v k r=>by cases r;exact keeps_K h hp (hg.X.keeps k)
theorem pD{x:String}:Plain g (.blt x):=fun M hp H v k r=>by obtain⟨rfl,_⟩:=r;exact⟨.machine,.inr (.inl rfl),.now⟩
theorem LK{x:String}:Plain g (.typ x):=fun M hp H v k r=>by cases r;exact⟨.machine,.inr (.inl rfl),.now⟩
theorem noStar{pos:Pos}{env:Env}:∀{es:List PySem.Expr},(∀e∈es,au e)->((backTo pos (starEach es env)).any (·.1))=false
 | [],_=>rfl
 |e::es,h=>by rw [h e (.head _)];exact noStar fun x hx=>h x (.tail _ hx)
theorem bG{M:Model}{A:Around}{E:Value->Shared->Prop}{s:Shared}{f:Value}{Q:Args->Shared->Prop}(h:wpAny M A (spliced []) (fun vs s'=>Q ⟨vs,[]⟩ s') E s):wpAny M A (evalArgs f true [] []) Q E s:=by
 unfold evalArgs
 show wpAny M A (spliced [] >>= _) Q E s
 refine c7 (j6 h (fun vs s' h'=>c7 (j4 ?_)) fun O O x=>x)
 refine z7 ?_
 exact c7 (j4 (c7 (j4 (j4 h'))))
theorem aY{pos:Pos}{p:PV}{fv:Value}{fl:List PV}{fs:List Value}{es:List PySem.Expr}{A:Around}{s:Shared}(hg:N6 g)(R:R8 n A)(S:M4 g s H)(F:N8 g env m s.heap H)(hs:∀e∈es,au e)
  (hp:Plain g p) (rp:Rep g.tab s.heap H p fv) (rf:K4 g.tab s.heap H fl fs) (h:mJ g n env m H pos es fun l H'=>Cl g n p (fl++l) H' Q):
  W g A (callWith pos fv fs (backTo pos (starEach es env)) []) s H Q:=by
 refine callWith_of (P:=fun hh => ∃H':AH,(∀b o,g.h₀.get? b=some o->hh.get? b=some o)/\Rep g.tab hh H' p fv) (by rw [noStar hs];rfl) (fun hh ⟨H',k,r⟩=>hp _ hh H' fv k r) ?_
 have key:wpAny (model g.prog g.w) A (spliced (backTo pos (starEach es env))) (fun vs s₁=>(∃H':AH,(∀b o,g.h₀.get? b=some o->s₁.heap.get? b=some o)/\Rep g.tab s₁.heap H' p fv)/\
   wpAny (model g.prog g.w) A (call fv (fs++vs) []) (aX g s H Q) (fun O O=>False) s₁) (fun O O=>False) s:=
  h.then R S F fun vs s' l H' r S' c F' z q=>⟨⟨H',S'.keep,rp.keeps c.M5⟩,aX.calm c (q.call R S' (rp.keeps c.M5) (K4.append (K4.keeps c.M5 rf) r))⟩
 cases es with
 |nil=>exact bG key
 |cons e es=>
  have hx:backTo pos (starEach (e::es) env)=(false,eval e env)::backTo pos (starEach es env):=by rw [hs e (.head _) es env];rfl
  rw [hx] at key ⊢
  exact evalArgs_plain key
theorem Ev.call{f:PySem.Expr}{es:List PySem.Expr}{pos:Pos}(hg:N6 g)(hf:eval (.Call f es [] pos) env=(eval f env >>= fun v=>callWith pos v [] (backTo pos (starEach es env)) []))
  (hs:∀e∈es,au e) (h:Ev g n env m H f fun p H₁=>Plain g p/\mJ g n env m H₁ pos es fun l aT5=>Cl g n p l aT5 Q):Ev g n env m H (.Call f es [] pos) Q:=fun A s R S F=>by
 rw [hf]
 refine c7 (h.then R S F fun v s' p H' r S' c F' q=>aX.calm c ?_)
 exact aY hg R S' F' hs q.1 r (fl:=[]) rfl q.2
inductive MethP{τ:T}(g:G τ)(x:Nat)(k:Addr->Addr->AH->Prop):PV->AH->Prop
 |mk {a C dx:Addr} {l:List (Nat×PV)} {f:Addr} {H:AH} (e1:H a=some (.inst C dx)) (e2:H dx=some (.attrs l)) (e3:τ.meth C x=some f) (e4:l.lookup x=none) (h:k a f H):MethP g x k (.obj a) H
theorem MethP.mono{x:Nat}{k k':Addr->Addr->AH->Prop}{p:PV}{H:AH}(h:MethP g x k p H)(z:∀a f H,k a f H->k' a f H):MethP g x k' p H:=by
 cases h with
 |mk e1 e2 e3 e4 h=>exact .mk e1 e2 e3 e4 (z _ _ _ h)
theorem Ev.meth{o:PySem.Expr}{x:Nat}{es:List PySem.Expr}{apos pos:Pos}(hg:N6 g)(hb:qy o)(hline:(apos.endLine==pos.line)=true)(hlen:es.length<30)(hs:∀e∈es,au e)
  (h:Ev g n env m H o (MethP g x fun a f H₁=>mJ g n env m H₁ pos es fun l aT5=>Cl g n (.obj f) (.obj a::l) aT5 Q)):Ev g n env m H (.Call (.Attribute o (g.tab x) apos) es [] pos) Q:=fun A s R S F=>by
 rw [arm_eval_Call,hb]
 refine c7 (h.then R S F fun v s' p H' r S' c F' q=>aX.calm c (c7 (I8 ?_)))
 cases q with | @mk a C dx l f H' e1 e2 hm hl q=>?_
 cases r
 obtain⟨od,mA,I,_,hk,r⟩:=zO S' e1 e2 x
 rw [hl] at r
 obtain⟨f1,f2,f3,f4⟩:=hg.meth C x f hm
 have few:methodCallForm (es.length+([]:List Keyword).length) (backTo pos (starEach es env)) (backToKw pos (keywordEach [] env))=true:=by
  have:(backTo pos (starEach es env)).all (fun y => !y.1)=true:=by
   have:=noStar (pos:=pos) (env:=env) hs
   rw [List.any_eq_false] at this
   rw [m9]
   intro y hy
   have:=this y hy
   simpa using this
  unfold methodCallForm
  rw [this]
  show(true&&true&&decide (es.length+0+0<30))=true
  simp [hlen]
 unfold methodCall
 rw [few]
 refine c7 (z7 ?_)
 show wpAny _ _ (getMethod (.ref a) (g.tab x) _) _ _ _
 refine method_fn (hg.X.keeps S'.keep) I (plainGet_of f1).1 (plainGet_of f1).2 f2 (beq_iff_eq.mp f3) (by
  have r':mA (g.tab x)=none:=r
  show Option.map _ (lookIn (g.tab x) od)=_
  rw [hk,r'];rfl) ?_
 refine c7 ?_
 unfold methodCallPos
 rw [hline]
 refine j4 ?_
 exact aY hg R S' F' hs (jG hg f4) (rfl:Rep g.tab s'.heap H' (.obj f) (.ref f)) (fl:=[.obj a]) (K4.one (rfl:Rep g.tab s'.heap H' (.obj a) (.ref a))) q
end
inductive Out where
 |next|brk|cont|ret (p:PV)
noncomputable def Zo(tab:Nat->Str)(h:Heap)(H:AH):Out->Flow->Prop
 |.next,f=>f = .next
 |.brk,f=>f = .brk
 |.cont,f=>f = .cont
 |.ret p,f => ∃v,f = .ret v/\Rep tab h H p v
noncomputable def Own(env:Env)(b:Addr):Prop:=b=env.locals\/∃x,env.kindOf x=some .cell/\env.cells.lookup x=some b
inductive GD{τ:T}(g:G τ)(env:Env)(s:Shared)(H:AH)(Q:Out->Loc->AH->Prop)(f:Flow)(s':Shared):Prop
 |mk (o:Out) (m':Loc) (H':AH) (r:Zo g.tab s'.heap H' o f) (S:M4 g s' H') (F:N8 g env m' s'.heap H') (c:Goes (Own env) s.heap H s'.heap H') (q:Q o m' H')
noncomputable def Ex{τ:T}(g:G τ)(n:Nat)(env:Env)(m:Loc)(H:AH)(ss:List Stmt)(Q:Out->Loc->AH->Prop):Prop:=
 ∀A s,R8 n A->M4 g s H->N8 g env m s.heap H->wpAny (model g.prog g.w) A (execs ss env) (GD g env s H Q) (fun O O=>False) s
noncomputable def dF{τ:T}(g:G τ)(n:Nat)(env:Env)(m:Loc)(H:AH)(st:Stmt)(Q:Out->Loc->AH->Prop):Prop:=
 ∀A s,R8 n A->M4 g s H->N8 g env m s.heap H->wpAny (model g.prog g.w) A (exec st env) (GD g env s H Q) (fun O O=>False) s
section
variable{τ:T}{g:G τ}{n:Nat}{env:Env}{m:Loc}{H:AH}
theorem GD.step{s s₁:Shared}{H₁:AH}{Q:Out->Loc->AH->Prop}(c:Goes (Own env) s.heap H s₁.heap H₁){f:Flow}{s':Shared}(x:GD g env s₁ H₁ Q f s'):GD g env s H Q f s':=
 let⟨o,m',H',r,S,F,c',q⟩:=x;⟨o,m',H',r,S,F,c.trans c',q⟩
theorem Goes.own{h h':Heap}{H H':AH}(c:Calm h H h' H'):Goes (Own env) h H h' H':=c.weak fun O z=>z.elim
theorem Ex.nil{Q:Out->Loc->AH->Prop}(q:Q .next m H):Ex g n env m H [] Q:=fun A s R S F=>wpAny_execs_nil ⟨.next,m,H,rfl,S,F,.refl ..,q⟩
theorem Ex.cons{st:Stmt}{rest:List Stmt}{Q:Out->Loc->AH->Prop}(h:dF g n env m H st fun o m' H'=>match o with | .next=>Ex g n env m' H' rest Q|o=>Q o m' H'):Ex g n env m H (st::rest) Q:=fun A s R S F=>by
 refine wpAny_execs_cons (j6 (h A s R S F) (fun f s' x=>?_) fun O O x=>x.elim)
 obtain⟨o,m',H',r,S',F',c,q⟩:=x
 cases o with
 |next=>cases r;exact j6 (q A s' R S' F') (fun O O x=>x.step c) fun O O x=>x
 |brk=>cases r;exact⟨.brk,m',H',rfl,S',F',c,q⟩
 |cont=>cases r;exact⟨.cont,m',H',rfl,S',F',c,q⟩
 |ret p=>obtain⟨v,rfl,r⟩:=r;exact⟨.ret p,m',H',⟨v,rfl,r⟩,S',F',c,q⟩
theorem pF{kindOf:Str->Option NameKind}{y:Str}:∀(bs:List (Str×Value)) (m:Str->Option Value),(∀x∈bs,x.1≠y)->bindL kindOf bs m y=m y/\bindC kindOf bs m y=m y
 | [],_,_=>⟨rfl,rfl⟩
 | (x,v)::r,m,h=>by
  have ne:y≠x:=fun e=>h (x,v) (.head _) e.symm
  have ih:=fun m'=>pF (kindOf:=kindOf) (y:=y) r m' fun z hz=>h z (.tail _ hz)
  unfold bindL bindC
  constructor
  ·rw [(ih _).1];split
   ·simp [ne]
   ·rfl
  ·rw [(ih _).2];split
   ·rfl
   ·simp [ne]
theorem zQ(tab:Nat->Str)(inj:∀i j,tab i=tab j->i=j){kindOf:Str->Option NameKind}{h:Heap}{H:AH}:∀{ps:List Nat} {l:List PV} {vs:List Value} {x:Nat} {p:PV} (mL mC:Str->Option Value),ps.Nodup->K4 tab h H l vs->(ps.zip l).lookup x=some p->
  ∃v,Rep tab h H p v/\(kindOf (tab x)=some .local->bindL kindOf ((ps.map tab).zip vs) mL (tab x)=some v)/\(kindOf (tab x)≠some .local->bindC kindOf ((ps.map tab).zip vs) mC (tab x)=some v)
 | [],_,_,_,_,_,_,_,_,e=>by simp at e
 |_::_,[],_,_,_,_,_,_,_,e=>by simp at e
 |y::ps,q::l,_,x,p,mL,mC,nd,⟨v,r,e,hq,hr⟩,el=>by
  subst e
  rw [List.zip_cons_cons,u5] at el
  obtain⟨n1,n2⟩:=G5.mp nd
  by_cases hx:x=y
  ·subst hx
   rw [J2] at el
   cases el
   have nin:∀z∈(ps.map tab).zip r,z.1≠tab x:=by
    intro z hz e
    have:=(List.of_mem_zip hz).1
    obtain⟨i,hi,hi'⟩:=w6.mp this
    rw [e] at hi'
    exact n1 (inj _ _ hi'▸hi)
   refine⟨v,hq,fun k=>?_,fun k=>?_⟩
   ·show bindL kindOf ((tab x,v)::(ps.map tab).zip r) mL (tab x)=_
    unfold bindL
    rw [(pF _ _ nin).1,if_pos k];simp
   ·show bindC kindOf ((tab x,v)::(ps.map tab).zip r) mC (tab x)=_
    unfold bindC
    rw [(pF _ _ nin).2,if_neg k];simp
  ·have:(x==y)=false:=s8.mpr hx
   rw [this] at el
   exact zQ tab inj (kindOf:=kindOf) (if kindOf (tab y)=some .local then fun z=>if z=tab y then some v else mL z else mL) (if kindOf (tab y)=some .local then mC else fun z=>if z=tab y then some v else mC z) n2 hr el
noncomputable abbrev mO(Q:PV->AH->Prop)(o:Out)(_:Loc)(H':AH):Prop:=@Out.rec (fun O=>Prop) (Q .none H') False False (fun p=>Q p H') o
theorem Goes.drop{F F':Addr->Prop}{h h':Heap}{H H':AH}(a:Goes F h H h' H')(k:∀b,F b->h.get? b=none\/F' b):Goes F' h H h' H':=
 ⟨fun b o e q f=>a.keep b o e q fun z=>(k b z).elim (fun w=>by rw [e] at w;cases w) f,a.new,a.ex,a.M5⟩
theorem yg.enter{f:Addr}{fd:FuncData}{ps:List Nat}{body:List Stmt}{l l':List PV}{A:Around}{s:Shared}{vs:List Value}{P:Result->Shared->Prop}(hg:N6 g)(hf:g.fn f=some ⟨fd,ps⟩)(hb:fd.body = .stmts body)(hcl:fd.closure=[])
  (hco:fd.scope.isCoroutine=false) (hgen:fd.scope.isGenerator=false) (hk:fd.scope.kind = .function) (hgl:fd.globals=mainGlobals) (Zq:fd.builtins=builtinsNs) (nd:ps.Nodup)
  (hkind:∀x∈ps,fd.scope.names.lookup (g.tab x)=some .local\/fd.scope.names.lookup (g.tab x)=some .cell)
  (hlen:l'.length<=ps.length)
  (hbind:∀s vs,M4 g s H->K4 g.tab s.heap H l vs->∃vs',K4 g.tab s.heap H l' vs'/\BindsTo s fd ⟨vs,[]⟩ ((ps.map g.tab).zip vs'))
  (R:R8 (n+1) A) (S:M4 g s H) (rl:K4 g.tab s.heap H l vs)
  (h:∀env s₁,env.scope=fd.scope->env.code=fd.code->env.qual=fd.qualname ++ ".<locals>."->env.frame=some env.locals->M4 g s₁ H->N8 g env (ps.zip l') s₁.heap H->(∀b,Own env b->s.heap.get? b=none)->Calm s.heap H s₁.heap H->R8 n (A.deeper env)->
   wpAny (model g.prog g.w) (A.deeper env) (execs body env) (fun f s'=>P (.ok (.ret (match f with | .ret v=>v|_=>.none))) s') (fun e s'=>wpAny (model g.prog g.w) (A.deeper env) (leaving env e) (fun O s''=>P (.error e) s'') (fun e' s''=>P (.error e') s'') s') s₁):
  codeAny (model g.prog g.w) A (.call (.ref f) ⟨vs,[]⟩) P s:=by
 obtain⟨oc,od,osl,hK,_,hcd⟩:=hg.fn f _ hf
 have X:=hg.X.keeps S.keep
 obtain⟨vs',rl',hbd⟩:=hbind s vs S rl
 refine codeAny_call_function (by have:=R.depth;exact Mine.Internal.rm3 ‹_›) (X _ _ hK) rfl hco hgen hb (codeRec_of X hcd) (hbd _ _ _ _ ?_)
 rw [hcl]
 refine wpAny_newFunctionEnv_cells hk (fun x hx=>?_) fun env he s₁ x=>?_
 ·obtain⟨y,hy⟩:=x
  obtain⟨i,hi,rfl⟩:=w6.mp (List.of_mem_zip hx).1
  rcases hkind i hi with k|k
  ·exact .inl k
  ·exact .inr ⟨k,cellsFrom_some _ _ _ (.inl k)⟩
 have hL:env.locals=s.heap.objs.size:=by rw [he];rfl
 have hsc:env.scope=fd.scope:=by rw [he];rfl
 have hcs:env.cells=cellsFrom (s.heap.objs.size+1) fd.scope.names []:=by rw [he];rfl
 obtain⟨aU6,tk,aW7,aV6⟩:=x.done
 have C0:Calm s.heap H aU6 H:=⟨fun b o e O O=>aV6 b o e,fun O a b=>absurd a b,fun b o e=>⟨o,aV6 b o e⟩,⟨fun b o O O e O O=>aV6 b o e,fun b o O O e O O q=>⟨aV6 b o e,q⟩,fun b o O e O O=>aV6 b o e⟩⟩
 have aT7:M4 g s₁ H:=by rw [aW7];exact⟨fun b o e=>aV6 b o (S.keep b o e),S.fresh,fun a o e=>(S.obj a o e).keeps C0.M5 fun x e=>aV6 _ x e,S.gens,S.os⟩
 have big:∀c,s.heap.objs.size<=c->H c=none/\g.h₀.get? c=none:=fun c hc=>by
  constructor
  ·exact S.off hc
  ·cases e:g.h₀.get? c with
   |none=>rfl
   |some o=>exact absurd (G9 (G8 (S.keep c o e)) hc) (Nat.lt_irrefl _)
 have cb:∀y c,env.cells.lookup y=some c->s.heap.objs.size<=c:=fun y c e=>by
  have:=x.above y c (mem_of_lookup e)
  rw [hL] at this;exact Nat.le_of_lt this
 have aU1:N8 g env (ps.zip l') s₁.heap H:=by
  have kd:∀z p,(ps.zip l').lookup z=some p->env.kindOf (g.tab z)=some .local\/env.kindOf (g.tab z)=some .cell:=fun z p e=>by
   have:z∈ps:=by
    have:∀(ps:List Nat) (l:List PV),(ps.zip l).lookup z=some p->z∈ps:=by
     intro ps
     induction ps with
     |nil=>intro l e;simp at e
     |cons y ps ih=>
      intro l e
      cases l with
      |nil=>simp at e
      |cons q l=>
       rw [List.zip_cons_cons,u5] at e
       by_cases hz:z=y
       ·rw [hz];exact .head _
       ·have:(z==y)=false:=s8.mpr hz
        rw [this] at e;exact .tail _ (ih l e)
    exact this ps l' e
   unfold Env.kindOf;rw [hsc]
   exact hkind z this
  refine⟨by rw [hsc];exact hk,by rw [he];exact hgl,by rw [he];exact Zq,⟨_,x.toInCall.ns,fun z p e k=>?_⟩,fun z p e k=>?_,fun z p e=>(kd z p e).imp id .inl,hL▸(big _ (o9 _)).1,hL▸(big _ (o9 _)).2,fun y c e=>?_,fun y z c e1 e2=>?_,fun y k=>?_⟩
  ·obtain⟨v,r,b,_⟩:=zQ g.tab hg.inj (kindOf:=env.kindOf) (fun O=>none) (fun O=>none) nd rl' e
   exact⟨v,b k,by rw [aW7];exact r.keeps C0.M5⟩
  ·obtain⟨v,r,_,b⟩:=zQ g.tab hg.inj (kindOf:=env.kindOf) (fun O=>none) (fun O=>none) nd rl' e
   have kc:env.kindOf (g.tab z)=some .cell:=by
    rcases kd z p e with q|q
    ·rcases k with k|k<;>rw [q] at k<;>cases k
    ·exact q
   obtain⟨c,hc⟩:=Option.isSome_iff_exists.mp (cellsFrom_some (x:=g.tab z) fd.scope.names (s.heap.objs.size+1) [] (.inl (by have:=kc;unfold Env.kindOf at this;rwa [hsc] at this)))
   have:=x.cell (g.tab z) c (by rw [hcs];exact hc)
   rw [b (by rw [kc];simp)] at this
   exact⟨c,v,by rw [hcs];exact hc,this,by rw [aW7];exact r.keeps C0.M5⟩
  ·have:=big c (cb y c e)
   exact⟨this.1,this.2,_,x.cell y c e⟩
  ·exact name_of_addr x.apart (mem_of_lookup e1) (mem_of_lookup e2)
  ·obtain⟨c,hc⟩:=Option.isSome_iff_exists.mp (cellsFrom_some (x:=y) fd.scope.names (s.heap.objs.size+1) [] (.inl (by have:=k;unfold Env.kindOf at this;rwa [hsc] at this)))
   exact⟨c,by rw [hcs];exact hc⟩
 refine⟨(hg.nolimit.keeps S.keep).keeps x.toInCall.keep,codeAny_func ?_⟩
 have aW8:R8 n (A.deeper env):=⟨R.handled,by have:=R.depth;show A.depth+1+2*n<_;lia,by have:=R.units;show A.units+3+20*n+100<_;exact Mine.Internal.rm2 ‹_›⟩
 refine h env s₁ hsc (by rw [he];rfl) (by rw [he];rfl) (by rw [he];rfl) aT7 aU1 (fun b ow=>?_) (by rw [aW7];exact C0) aW8
 have:s.heap.objs.size<=b:=by
  rcases ow with ow|⟨y,_,hy⟩
  ·rw [ow,hL];exact o9 _
  ·exact cb y b hy
 cases e:s.heap.get? b with
 |none=>rfl
 |some o=>exact absurd (G9 (G8 e) this) (Nat.lt_irrefl _)
theorem yg.body{f:Addr}{fd:FuncData}{ps:List Nat}{body:List Stmt}{l l':List PV}{Q:PV->AH->Prop}(hg:N6 g)(hf:g.fn f=some ⟨fd,ps⟩)(hb:fd.body = .stmts body)(hcl:fd.closure=[])
  (hco:fd.scope.isCoroutine=false) (hgen:fd.scope.isGenerator=false) (hk:fd.scope.kind = .function) (hgl:fd.globals=mainGlobals) (Zq:fd.builtins=builtinsNs) (nd:ps.Nodup)
  (hkind:∀x∈ps,fd.scope.names.lookup (g.tab x)=some .local\/fd.scope.names.lookup (g.tab x)=some .cell)
  (hlen:l'.length<=ps.length)
  (hbind:∀s vs,M4 g s H->K4 g.tab s.heap H l vs->∃vs',K4 g.tab s.heap H l' vs'/\BindsTo s fd ⟨vs,[]⟩ ((ps.map g.tab).zip vs'))
  (h:∀env,env.scope=fd.scope->env.code=fd.code->env.qual=fd.qualname ++ ".<locals>."->Ex g n env (ps.zip l') H body (mO Q)):yg g (n+1) (.obj f) l H Q:=fun A s v vs R S rv rl=>by
 cases rv
 refine yg.enter (P:=CK g s H Q) hg hf hb hcl hco hgen hk hgl Zq nd hkind hlen hbind R S rl fun env s₁ e1 e2 e3 e4 aT7 aU1 fresh C0 aW8=>?_
 refine j6 (h env e1 e2 e3 (A.deeper env) s₁ aW8 aT7 aU1) (fun fl s' z=>?_) fun O O z=>z.elim
 obtain⟨o,m',H',r,S',F',c,q⟩:=z
 have C:Calm s.heap H s'.heap H':=(C0.weak fun O z=>z.elim).trans c |>.drop fun b z=>.inl (fresh b z)
 cases o with
 |next=>cases r;exact⟨.none,rfl,.none,H',rfl,S',C,q⟩
 |brk=>exact q.elim
 |cont=>exact q.elim
 |ret p=>obtain⟨v,rfl,r⟩:=r;exact⟨v,rfl,p,H',r,S',C,q⟩
end
section
variable{τ:T}{g:G τ}{n:Nat}{env:Env}{m:Loc}{H:AH}
theorem mQ{s:Shared}{h':Heap}{c:Addr}{x:Obj}(S:M4 g s H)(e:s.heap.get? c=some x)(nd:(∀xs k,x.data≠.seq xs k)/\∀xs,x.data = .fields xs->¬Gx x.cls)(hc:H c=none)(hb:g.h₀.get? c=none)(B:Heap.SameBut c s.heap h')
  (ex:∃y,h'.get? c=some y) (t:Nat):M4 g {s with heap:=h',toks:=t} H/\Goes (fun b=>b=c) s.heap H h' H:=by
 have P:T7 s.heap H h' H:=by
  refine⟨fun b o xs k q d cc=>?_,fun b o xs k q d cc z=>⟨?_,z⟩,fun b o xs q d cc=>?_⟩
  all_goals
   refine(B.2 b fun z=>?_).trans q
   subst z
   rw [e] at q;cases q;first|exact nd.1 _ _ d|exact nd.2 _ d cc
 refine⟨⟨fun b o q=>(B.2 b fun z=>?_).trans (S.keep b o q),S.fresh,fun a o q=>(S.obj a o q).keeps P fun y z=>(B.2 a fun w=>?_).trans z,S.gens,S.os⟩,fun b o q O f=>(B.2 b f).trans q,fun O a b=>absurd a b,fun b o q=>?_,P⟩
 ·subst z;rw [hb] at q;cases q
 ·subst w;rw [hc] at q;cases q
 ·by_cases z:b=c
  ·subst z;exact ex
  ·exact⟨o,(B.2 b z).trans q⟩
theorem fD{A:Around}{s:Shared}{x:Nat}{p:PV}{v:Value}(hg:N6 g)(S:M4 g s H)(F:N8 g env m s.heap H)(k:env.kindOf (g.tab x)=some .local)(r:Rep g.tab s.heap H p v):
  wpAny (model g.prog g.w) A (storeName env (g.tab x) v) (fun O s'=>M4 g s' H/\N8 g env (w7 x p m) s'.heap H/\Goes (fun b=>b=env.locals) s.heap H s'.heap H) (fun O O=>False) s:=by
 have inj:∀y,g.tab y=g.tab x->y=x:=fun y e=>hg.inj _ _ e
 obtain⟨mv,N,rl⟩:=F.ns
 obtain⟨oL,es,ep,eL,dL,_⟩:=id N
 refine wpAny_storeName_local k N (fun h' hn B=>?_) (by rw [F.kind];rfl)
 obtain⟨oL',es',ep',eL',_⟩:=id hn
 obtain⟨S',c⟩:=mQ S eL ⟨fun xs k e=>(by rw [dL] at e;cases e),fun xs e=>(by rw [dL] at e;cases e)⟩ F.Cz F.zM B ⟨_,eL'⟩ (s.toks+1)
 have cc:∀c v,s.heap.IsCell c v->c≠env.locals:=fun c v ⟨o,e,d⟩ z=>by rw [z,eL] at e;cases e;rw [dL] at d;cases d
 refine⟨S',⟨F.kind,F.globs,F.zL,⟨_,hn,fun y q e ky=>?_⟩,fun y q e ky=>?_,fun y q e=>?_,F.Cz,F.zM,fun y d e=>?_,F.inj,F.has⟩,c⟩
 ·rw [M9] at e
  by_cases z:y=x
  ·subst z;simp only [if_true] at e ⊢;cases e;exact⟨v,rfl,r.keeps c.M5⟩
  ·simp only [z,if_false] at e
   obtain⟨u,a,b⟩:=rl y q e ky
   exact⟨u,by rw [if_neg fun w=>z (inj y w)];exact a,b.keeps c.M5⟩
 ·rw [M9] at e
  by_cases z:y=x
  ·subst z;rcases ky with ky|ky<;>rw [k] at ky<;>cases ky
  ·simp only [z,if_false] at e
   obtain⟨d,u,a,b,w⟩:=F.cell y q e ky
   exact⟨d,u,a,b.sameBut B (cc _ _ b),w.keeps c.M5⟩
 ·rw [M9] at e
  by_cases z:y=x
  ·subst z;exact .inl k
  ·simp only [z,if_false] at e;exact F.kinds y q e
 ·obtain⟨a,b,u,w⟩:=F.cells y d e
  exact⟨a,b,u,w.sameBut B (cc _ _ w)⟩
theorem CN{A:Around}{s:Shared}{x:Nat}{p:PV}{v:Value}(hg:N6 g)(S:M4 g s H)(F:N8 g env m s.heap H)(k:env.kindOf (g.tab x)=some .local\/env.kindOf (g.tab x)=some .cell)(r:Rep g.tab s.heap H p v):
  wpAny (model g.prog g.w) A (storeName env (g.tab x) v) (fun O s'=>M4 g s' H/\N8 g env (w7 x p m) s'.heap H/\Goes (Own env) s.heap H s'.heap H) (fun O O=>False) s:=by
 have inj:∀y,g.tab y=g.tab x->y=x:=fun y e=>hg.inj _ _ e
 obtain⟨mv,N,rl⟩:=F.ns
 rcases k with k|k
 ·exact j6 (fD hg S F k r) (fun O O ⟨a,b,c⟩=>⟨a,b,c.weak fun O z=>.inl z⟩) fun O O x=>x
 ·obtain⟨d,hd⟩:=F.has _ k
  obtain⟨a,b,u,w⟩:=F.cells _ _ hd
  obtain⟨oc,ec,dc⟩:=id w
  refine wpAny_storeName_cell F.kind k hd w fun h' hv B=>?_
  obtain⟨oc',ec',_⟩:=id hv
  obtain⟨S',c⟩:=mQ S ec ⟨fun xs k e=>(by rw [dc] at e;cases e),fun xs e=>(by rw [dc] at e;cases e)⟩ a b B ⟨_,ec'⟩ s.toks
  have nL:env.locals≠d:=fun z=>by
   obtain⟨oL,es,ep,eL,dL,_⟩:=id N
   rw [z,ec] at eL;cases eL;rw [dc] at dL;cases dL
  refine⟨S',⟨F.kind,F.globs,F.zL,⟨_,N.sameBut B nL,fun y q e ky=>?_⟩,fun y q e ky=>?_,fun y q e=>?_,F.Cz,F.zM,fun y d' e=>?_,F.inj,F.has⟩,c.weak fun b z=>.inr ⟨_,k,by rw [z];exact hd⟩⟩
  ·rw [M9] at e
   by_cases z:y=x
   ·subst z;rw [k] at ky;cases ky
   ·simp only [z,if_false] at e
    obtain⟨u,a,b⟩:=rl y q e ky
    exact⟨u,a,b.keeps c.M5⟩
  ·rw [M9] at e
   by_cases z:y=x
   ·subst z;simp only [if_true] at e;cases e;exact⟨d,v,hd,hv,r.keeps c.M5⟩
   ·simp only [z,if_false] at e
    obtain⟨d',u',a',b',w'⟩:=F.cell y q e ky
    refine⟨d',u',a',b'.sameBut B fun zz=>?_,w'.keeps c.M5⟩
    subst zz
    exact z (inj y (F.inj _ _ _ a' hd))
  ·rw [M9] at e
   by_cases z:y=x
   ·subst z;exact .inr (.inl k)
   ·simp only [z,if_false] at e;exact F.kinds y q e
  ·obtain⟨a',b',u',w'⟩:=F.cells y d' e
   by_cases z:d'=d
   ·subst z;exact⟨a',b',_,hv⟩
   ·exact⟨a',b',u',w'.sameBut B z⟩
theorem dF.ret{e:PySem.Expr}{pos:Pos}{Q:Out->Loc->AH->Prop}(h:Ev g n env m H e fun p H'=>Q (.ret p) m H'):dF g n env m H (.Return (some e) pos) Q:=fun A s R S F=>
 wpAny_Return_some (h.then R S F fun v s' p H' r S' c F' q=>⟨.ret p,m,H',⟨v,rfl,r⟩,S',F',c.own,q⟩)
theorem dF.Vf{pos:Pos}{Q:Out->Loc->AH->Prop}(q:Q (.ret .none) m H):dF g n env m H (.Return none pos) Q:=fun A s R S F=>
 wpAny_Return_none ⟨.ret .none,m,H,⟨.none,rfl,rfl⟩,S,F,.refl ..,q⟩
theorem dF.expr{e:PySem.Expr}{pos:Pos}{Q:Out->Loc->AH->Prop}(hi:interactive env=false)(hs:swapsWith e none pos.line env=pure false)(h:Ev g n env m H e fun O H'=>Q .next m H'):dF g n env m H (.Expr e pos) Q:=fun A s R S F=>
 wpAny_Expr_any (h.then R S F fun v s' p H' r S' c F' q=>⟨.next,m,H',rfl,S',F',c.own,q⟩) hi hs
theorem dF.cont{pos:Pos}{Q:Out->Loc->AH->Prop}(q:Q .cont m H):dF g n env m H (.Continue pos) Q:=fun A s R S F=>wpAny_Continue ⟨.cont,m,H,rfl,S,F,.refl ..,q⟩
inductive TsP{τ:T}(g:G τ)(s:Shared)(H:AH)(Q:Bool->AH->Prop)(b:Bool)(s':Shared):Prop
 |mk (H':AH) (S:M4 g s' H') (c:Calm s.heap H s'.heap H') (q:Q b H')
noncomputable def Ts{τ:T}(g:G τ)(n:Nat)(env:Env)(m:Loc)(H:AH)(e:PySem.Expr)(Q:Bool->AH->Prop):Prop:=
 ∀A s,R8 n A->M4 g s H->N8 g env m s.heap H->wpAny (model g.prog g.w) A (isTrue e env (eval e env)) (TsP g s H Q) (fun O O=>False) s
theorem Ts.then{e:PySem.Expr}{Q:Bool->AH->Prop}(h:Ts g n env m H e Q){A:Around}{s:Shared}{P:Bool->Shared->Prop}{E:Value->Shared->Prop}(R:R8 n A)(S:M4 g s H)(F:N8 g env m s.heap H)
  (k:∀b s' H',M4 g s' H'->Calm s.heap H s'.heap H'->N8 g env m s'.heap H'->Q b H'->P b s'):wpAny (model g.prog g.w) A (isTrue e env (eval e env)) P E s:=
 j6 (h A s R S F) (fun b s' ⟨H',S',c,q⟩=>k b s' H' S' c (F.goes c) q) fun O O x=>x.elim
theorem TsP.step{s s₁:Shared}{H₁:AH}{Q:Bool->AH->Prop}(c:Calm s.heap H s₁.heap H₁){b:Bool}{s':Shared}(x:TsP g s₁ H₁ Q b s'):TsP g s H Q b s':=
 let⟨H',S,c',q⟩:=x;⟨H',S,c.trans c',q⟩
theorem dF.iff{t:PySem.Expr}{a b:List Stmt}{pos:Pos}{Q:Out->Loc->AH->Prop}(h:Ts g n env m H t fun c H'=>if c then Ex g n env m H' a Q else Ex g n env m H' b Q):dF g n env m H (.If t a b pos) Q:=fun A s R S F=>by
 refine wpAny_If (h.then R S F fun c s' H' S' z F' q=>?_)
 cases c with
 |true=>exact j6 (q A s' R S' F') (fun O O x=>x.step z.own) fun O O x=>x
 |false=>exact j6 (q A s' R S' F') (fun O O x=>x.step z.own) fun O O x=>x
theorem Ev.ifx{t a b:PySem.Expr}{pos:Pos}{Q:PV->AH->Prop}(h:Ts g n env m H t fun c H'=>if c then Ev g n env m H' a Q else Ev g n env m H' b Q):Ev g n env m H (.IfExp t a b pos) Q:=fun A s R S F=>by
 refine wpAny_IfExp (h.then R S F fun c s' H' S' z F' q=>?_)
 cases c with
 |true=>exact aX.calm z (q A s' R S' F')
 |false=>exact aX.calm z (q A s' R S' F')
theorem Ts.not{e:PySem.Expr}{pos:Pos}{Q:Bool->AH->Prop}(h:Ts g n env m H e fun b H'=>Q (!b) H'):Ts g n env m H (.UnaryOp .Not e pos) Q:=fun A s R S F=>
 isTrue_not (h.then R S F fun b s' H' S' c F' q=>⟨H',S',c,q⟩)
theorem Ts.Zr{pos:Pos}{Q:Bool->AH->Prop}(q:Q true H):Ts g n env m H (.BoolOp .And [] pos) Q:=fun A s R S F=>isTrue_and_nil ⟨H,S,.refl ..,q⟩
theorem Ts.aj9{pos:Pos}{Q:Bool->AH->Prop}(q:Q false H):Ts g n env m H (.BoolOp .Or [] pos) Q:=fun A s R S F=>isTrue_or_nil ⟨H,S,.refl ..,q⟩
theorem Ts.and{e:PySem.Expr}{es:List PySem.Expr}{pos:Pos}{Q:Bool->AH->Prop}(h:Ts g n env m H e fun b H'=>if b then Ts g n env m H' (.BoolOp .And es pos) Q else Q false H'):Ts g n env m H (.BoolOp .And (e::es) pos) Q:=fun A s R S F=>by
 refine isTrue_and (h.then R S F fun b s' H' S' c F' q=>?_)
 cases b with
 |true=>exact j6 (q A s' R S' F') (fun O O x=>x.step c) fun O O x=>x
 |false=>exact⟨H',S',c,q⟩
theorem Ts.or{e:PySem.Expr}{es:List PySem.Expr}{pos:Pos}{Q:Bool->AH->Prop}(h:Ts g n env m H e fun b H'=>if b then Q true H' else Ts g n env m H' (.BoolOp .Or es pos) Q):Ts g n env m H (.BoolOp .Or (e::es) pos) Q:=fun A s R S F=>by
 refine isTrue_or (h.then R S F fun b s' H' S' c F' q=>?_)
 cases b with
 |true=>exact⟨H',S',c,q⟩
 |false=>exact j6 (q A s' R S' F') (fun O O x=>x.step c) fun O O x=>x
end
end Mine.Internal
namespace Mine.Internal
open PySem PySem.W PySem.Calls PyProof.Rows PySem.SeqAt
noncomputable def PV.isD:PV->Bool:=PV.rec (motive_1:=fun O=>Bool) (motive_2:=fun O=>Bool) true (fun O=>true) (fun O=>true) (fun O=>true) (fun O b=>b) (fun O b=>b) (fun O=>false) (fun O=>false) (fun O=>false) (fun O O=>false) true fun O O a b=>a&&b
noncomputable def PV.V0:List PV->Bool:=PV.rec_1 (motive_1:=fun O=>Bool) (motive_2:=fun O=>Bool) true (fun O=>true) (fun O=>true) (fun O=>true) (fun O b=>b) (fun O b=>b) (fun O=>false) (fun O=>false) (fun O=>false) (fun O O=>false) true fun O O a b=>a&&b
noncomputable def PV.toD(tab:Nat->Str):PV->PyData:=PV.rec (motive_1:=fun O=>PyData) (motive_2:=fun O=>List PyData) .none .bool .int (fun n=>.str (tab n)) (fun O=>.tuple) (fun O=>.list) (fun O=>.none) (fun O=>.none) (fun O=>.none) (fun O O=>.none) [] fun O O a b=>a::b
noncomputable def PV.jT(tab:Nat->Str):List PV->List PyData:=PV.rec_1 (motive_1:=fun O=>PyData) (motive_2:=fun O=>List PyData) .none .bool .int (fun n=>.str (tab n)) (fun O=>.tuple) (fun O=>.list) (fun O=>.none) (fun O=>.none) (fun O=>.none) (fun O O=>.none) [] fun O O a b=>a::b
noncomputable def PV.depth:PV->Nat:=PV.rec (motive_1:=fun O=>Nat) (motive_2:=fun O=>Nat) 0 (fun O=>0) (fun O=>0) (fun O=>0) (fun O n=>n+1) (fun O n=>n+1) (fun O=>0) (fun O=>0) (fun O=>0) (fun O O=>0) 0 fun O O a b=>max a b
noncomputable def PV.depths:List PV->Nat:=PV.rec_1 (motive_1:=fun O=>Nat) (motive_2:=fun O=>Nat) 0 (fun O=>0) (fun O=>0) (fun O=>0) (fun O n=>n+1) (fun O n=>n+1) (fun O=>0) (fun O=>0) (fun O=>0) (fun O O=>0) 0 fun O O a b=>max a b
noncomputable def nIs:PV->Bool
 |.none=>true
 |_=>false
noncomputable def bIs(a:Bool):PV->Bool
 |.bool b=>a==b
 |.int j=>(if a then 1 else 0)==j
 |_=>false
noncomputable def iIs(i:Int):PV->Bool
 |.bool b=>i==(if b then 1 else 0)
 |.int j=>i==j
 |_=>false
noncomputable def sIs(m:Nat):PV->Bool
 |.str n=>Nat.beq m n
 |_=>false
noncomputable def tIs(f:List PV->Bool):PV->Bool
 |.tup l=>f l
 |_=>false
noncomputable def lIs(f:List PV->Bool):PV->Bool
 |.lst l=>f l
 |_=>false
noncomputable def PV.eqv:PV->PV->Bool:=PV.rec (motive_1:=fun O=>PV->Bool) (motive_2:=fun O=>List PV->Bool) nIs bIs iIs sIs (fun O=>tIs) (fun O=>lIs) (fun O O=>false) (fun O O=>false) (fun O O=>false) (fun O O O=>false) List.isEmpty fun O O=>Pa
noncomputable def PV.eqvs:List PV->List PV->Bool:=PV.rec_1 (motive_1:=fun O=>PV->Bool) (motive_2:=fun O=>List PV->Bool) nIs bIs iIs sIs (fun O=>tIs) (fun O=>lIs) (fun O O=>false) (fun O O=>false) (fun O O=>false) (fun O O O=>false) List.isEmpty fun O O=>Pa
theorem fG(tab:Nat->Str):∀p:PV,(p.toD tab).depth=p.depth:=
 PV.rec (motive_1:=fun p=>(p.toD tab).depth=p.depth) (motive_2:=fun l=>PyData.depthAll (PV.jT tab l)=PV.depths l) rfl (fun O=>rfl) (fun O=>rfl) (fun O=>rfl) (fun O e=>congrArg (·+ 1) e) (fun O e=>congrArg (·+ 1) e) (fun O=>rfl) (fun O=>rfl) (fun O=>rfl) (fun O O=>rfl)
  rfl fun O O a b=>congr (congrArg max a) b
theorem GF(tab:Nat->Str)(l:List PV):PyData.depthAll (PV.jT tab l)=PV.depths l:=Nat.succ.inj (fG tab (.tup l))
theorem Z0{tab:Nat->Str}(h:∀x,PyData.strOk (tab x)=true):∀p:PV,(p.toD tab).canLay0=true:=
 PV.rec (motive_1:=fun p=>(p.toD tab).canLay0=true) (motive_2:=fun l=>PyData.canLayAll0 (PV.jT tab l)=true) rfl (fun O=>rfl) (fun O=>rfl) h (fun O e=>e) (fun O e=>e) (fun O=>rfl) (fun O=>rfl) (fun O=>rfl) (fun O O=>rfl)
  rfl fun O O a b=>q9.mpr ⟨a,b⟩
theorem jd{tab:Nat->Str}(h:∀x,PyData.strOk (tab x)=true)(l:List PV):PyData.canLayAll0 (PV.jT tab l)=true:=Z0 h (.tup l)
noncomputable abbrev EqD(tab:Nat->Str)(p:PV):Prop := ∀q,p.isD=true->q.isD=true->PyData.eqv (p.toD tab) (q.toD tab)=p.eqv q
noncomputable abbrev av4(tab:Nat->Str)(l:List PV):Prop := ∀k,PV.V0 l=true->PV.V0 k=true->PyData.eqvAll (PV.jT tab l) (PV.jT tab k)=PV.eqvs l k
section
variable{tab:Nat->Str}(inj:∀i j,tab i=tab j->i=j)
include inj
theorem Vg(m n:Nat):(tab m==tab n)=Nat.beq m n:=by
 cases e:Nat.beq m n with
 |false=>exact s8.mpr fun z=>absurd (inj _ _ z) (Nat.ne_of_beq_eq_false e)
 |true=>exact beq_iff_eq.mpr (congrArg tab (Nat.eq_of_beq_eq_true e))
theorem mR:∀p,EqD tab p:=
 PV.rec (motive_1:=EqD tab) (motive_2:=av4 tab) (fun q O b=>by cases q<;>first|rfl|cases b) (fun O q O b=>by cases q<;>first|rfl|cases b) (fun O q O b=>by cases q<;>first|rfl|cases b)
  (fun m q O b=>by
   cases q with
   |str n=>exact Vg inj m n
   |_=>first|rfl|cases b)
  (fun l z q a b=>by
   cases q with
   |tup k=>exact z k a b
   |_=>first|rfl|cases b)
  (fun l z q a b=>by
   cases q with
   |lst k=>exact z k a b
   |_=>first|rfl|cases b)
  (fun O O a=>nomatch (show false=true from a)) (fun O O a=>nomatch (show false=true from a)) (fun O O a=>nomatch (show false=true from a)) (fun O O O a=>nomatch (show false=true from a))
  (fun k O O=>by cases k<;>rfl) fun p l x y k a b=>by
   cases k with
   |nil=>rfl
   |cons q k=>exact congr (congrArg and (x q (q9.mp a).1 (q9.mp b).1)) (y k (q9.mp a).2 (q9.mp b).2)
theorem Jt{p:PV}(hp:p.isD=true):∀l:List PV,PV.V0 l=true->(PV.jT tab l).any (fun y=>PyData.eqv y (p.toD tab))=l.any fun y=>y.eqv p
 | [],_=>rfl
 |q::l,a=>congr (congrArg or (mR inj q p (q9.mp a).1 hp)) (Jt hp l (q9.mp a).2)
end
noncomputable abbrev RdP(tab:Nat->Str)(h:Heap)(H:AH)(p:PV):Prop := ∀v,p.isD=true->Rep tab h H p v->∃as,Reads h v (p.toD tab) as
noncomputable abbrev RdL(tab:Nat->Str)(h:Heap)(H:AH)(l:List PV):Prop := ∀vs,PV.V0 l=true->K4 tab h H l vs->∃as,ReadsAll h vs (PV.jT tab l) as
section
variable{tab:Nat->Str}{h:Heap}{H:AH}
theorem Zt{l:List PV}(z:RdL tab h H l):RdP tab h H (.tup l):=fun v d r=>by
 obtain⟨a,vs,k,e,o,r⟩:=r
 subst e
 exact(z vs d r).imp fun as z=>.tuple o rfl rfl z
theorem Zu{l:List PV}(z:RdL tab h H l):RdP tab h H (.lst l):=fun v d r=>by
 obtain⟨a,vs,k,e,o,_,r⟩:=r
 subst e
 exact(z vs d r).elim fun as z=>⟨_,.list o rfl rfl z⟩
theorem zR{p:PV}{l:List PV}{q:PV}{k:List PV}(x:∀v,q.isD=true->Rep tab h H p v->∃as,Reads h v (q.toD tab) as)(y:∀vs,PV.V0 k=true->K4 tab h H l vs->∃as,ReadsAll h vs (PV.jT tab k) as):∀vs,PV.V0 (q::k)=true->K4 tab h H (p::l) vs->∃as,ReadsAll h vs (PV.jT tab (q::k)) as:=fun vs d r=>by
 obtain⟨v,r,e,u,z⟩:=r
 subst e
 have d':=q9.mp d
 exact(x v d'.1 u).elim fun as x=>(y r d'.2 z).elim fun bs y=>⟨_,.cons x y⟩
theorem GJ{l:List PV}(e:l=[]):∀vs,PV.V0 l=true->K4 tab h H [] vs->∃as,ReadsAll h vs (PV.jT tab l) as:=fun vs O r=>by subst e;cases r;exact⟨_,.nil⟩
theorem X8(p:PV):RdP tab h H p:=
 PV.rec (motive_1:=RdP tab h H) (motive_2:=RdL tab h H) (fun v O r=>by cases r;exact⟨_,.none⟩) (fun b v O r=>by cases r;exact⟨_,.bool b⟩) (fun i v O r=>r.elim fun t e=>e▸⟨_,.int i t⟩) (fun n v O r=>r.elim fun t e=>e▸⟨_,.str _ t⟩)
  (fun O=>Zt) (fun O=>Zu) (fun O O d=>nomatch (show false=true from d)) (fun O O d=>nomatch (show false=true from d)) (fun O O d=>nomatch (show false=true from d)) (fun O O O d=>nomatch (show false=true from d)) (GJ rfl) (fun O O x y=>zR x y) p
theorem qF(l:List PV):RdL tab h H l:=by
 induction l with
 |nil=>exact GJ rfl
 |cons p l ih=>exact zR (X8 p) ih
end
mutual
noncomputable def res(H:AH):PV->PV
 |.obj a=>match H a with
  |some (.list l)=>.lst l
  |_=>.obj a
 |.tup l=>.tup (wD H l)
 |.none=>.none | .bool b=>.bool b | .int i=>.int i | .str n=>.str n | .lst l=>.lst l | .blt n=>.blt n | .typ n=>.typ n | .rng a b=>.rng a b
noncomputable def wD(H:AH):List PV->List PV
 | []=>[]
 |p::l=>res H p::wD H l
end
section
variable{τ:T}{g:G τ}{n:Nat}{env:Env}{m:Loc}{H:AH}
theorem zU(a:Addr):res H (.obj a)=match H a with
  |some (.list l)=>.lst l
  |_=>.obj a:=rfl
noncomputable abbrev RsP(g:G τ)(h:Heap)(H:AH)(p:PV):Prop := ∀v,(res H p).isD=true->Rep g.tab h H p v->∃as,Reads h v ((res H p).toD g.tab) as
noncomputable abbrev RsL(g:G τ)(h:Heap)(H:AH)(l:List PV):Prop := ∀vs,PV.V0 (wD H l)=true->K4 g.tab h H l vs->∃as,ReadsAll h vs (PV.jT g.tab (wD H l)) as
theorem Zv{s:Shared}(S:M4 g s H)(a:Addr):RsP g s.heap H (.obj a):=fun v d r=>by
 rw [zU] at d ⊢
 cases e:H a with
 |none=>rw [e] at d;cases d
 |some o=>
  rw [e] at d
  cases o with
  |list l=>
   cases r
   obtain⟨vs,k,e1,r⟩:=S.obj _ _ e
   exact(qF l vs d r).elim fun as z=>⟨_,.list e1 rfl rfl z⟩
  |_=>cases d
theorem Zw{h:Heap}{l:List PV}(z:RsL g h H l):RsP g h H (.tup l):=fun v d r=>by
 obtain⟨a,vs,k,e,o,r⟩:=r
 subst e
 exact(z vs d r).imp fun as z=>.tuple o rfl rfl z
theorem fH{s:Shared}(S:M4 g s H)(p:PV):RsP g s.heap H p:=
 PV.rec (motive_1:=RsP g s.heap H) (motive_2:=RsL g s.heap H) (X8 .none) (fun b=>X8 (.bool b)) (fun i=>X8 (.int i)) (fun n=>X8 (.str n)) (fun O=>Zw) (fun l O=>X8 (.lst l)) (Zv S)
  (fun O O d=>nomatch (show false=true from d)) (fun O O d=>nomatch (show false=true from d)) (fun O O O d=>nomatch (show false=true from d)) (GJ rfl) (fun O O x y=>zR x y) p
theorem CP{A:Around}(R:R8 n A){p q:PV}(h:p.depth<=60\/q.depth<=60)(tab:Nat->Str):A.units+min (p.toD tab).depth (q.toD tab).depth<cLine:=by
 rw [fG,fG]
 have:=R.units
 have h1:=Nat.min_le_left p.depth q.depth
 have h2:=Nat.min_le_right p.depth q.depth
 rcases h with h|h<;>lia
noncomputable def GK(H:AH)(p q:PV):Prop:=(res H p).isD=true/\(res H q).isD=true/\((res H q).depth<=60\/(res H p).depth<=60)
theorem ak0{A:Around}{s:Shared}{p q:PV}{u v:Value}{P:Value->Shared->Prop}{E:Value->Shared->Prop}(hg:N6 g)(R:R8 n A)(S:M4 g s H)(ru:Rep g.tab s.heap H p u)(rv:Rep g.tab s.heap H q v)(ok:GK H p q)
  (h:P (.bool ((res H p).eqv (res H q))) s):wpAny (model g.prog g.w) A (compareOp .Eq u v) P E s:=by
 obtain⟨as,a⟩:=fH S _ _ ok.1 ru
 obtain⟨bs,b⟩:=fH S _ _ ok.2.1 rv
 exact compareEq_reads a b (Z0 hg.ao _) (Z0 hg.ao _) (CP R ok.2.2.symm g.tab) (by rw [mR hg.inj _ _ ok.1 ok.2.1];exact h)
theorem ak1{A:Around}{s:Shared}{p q:PV}{u v:Value}{P:Value->Shared->Prop}{E:Value->Shared->Prop}(hg:N6 g)(R:R8 n A)(S:M4 g s H)(ru:Rep g.tab s.heap H p u)(rv:Rep g.tab s.heap H q v)(ok:GK H p q)
  (h:P (.bool (!(res H p).eqv (res H q))) s):wpAny (model g.prog g.w) A (compareOp .NotEq u v) P E s:=by
 obtain⟨as,a⟩:=fH S _ _ ok.1 ru
 obtain⟨bs,b⟩:=fH S _ _ ok.2.1 rv
 exact compareNe_reads a b (Z0 hg.ao _) (Z0 hg.ao _) (CP R ok.2.2.symm g.tab) (by rw [mR hg.inj _ _ ok.1 ok.2.1];exact h)
theorem room_in{A:Around}(R:R8 n A){l:List PV}{q:PV}(h:PV.depths l<=60\/q.depth<=60)(tab:Nat->Str):A.units+1+min (PyData.depthAll (PV.jT tab l)) (q.toD tab).depth<cLine:=by
 rw [GF,fG]
 have:=R.units
 have h1:=Nat.min_le_left (PV.depths l) q.depth
 have h2:=Nat.min_le_right (PV.depths l) q.depth
 rcases h with h|h<;>lia
noncomputable def LQ(p:PV)(l:List PV):Prop:=p.isD=true/\PV.V0 l=true/\(PV.depths l<=60\/p.depth<=60)
theorem Pg{A:Around}{s:Shared}{p q:PV}{l:List PV}{u v:Value}{P:Value->Shared->Prop}{E:Value->Shared->Prop}(hg:N6 g)(R:R8 n A)(S:M4 g s H)(ru:Rep g.tab s.heap H p u)(rv:Rep g.tab s.heap H q v)
  (hq:res H q = .tup l\/res H q = .lst l) (ok:LQ p l):
  (P (.bool (l.any fun y=>y.eqv p)) s->wpAny (model g.prog g.w) A (compareOp .In u v) P E s)/\(P (.bool (!l.any fun y=>y.eqv p)) s->wpAny (model g.prog g.w) A (compareOp .NotIn u v) P E s):=by
 obtain⟨as,a⟩:=X8 _ _ ok.1 ru
 have dq:(res H q).isD=true:=by rcases hq with e|e<;>rw [e]<;>exact ok.2.1
 obtain⟨bs,b⟩:=fH S _ _ dq rv
 have rm:=room_in R ok.2.2 g.tab
 have an:=Jt hg.inj ok.1 l ok.2.1
 rcases hq with e|e<;>rw [e] at b
 ·exact⟨fun h=>in_tuple_reads b a (jd hg.ao _) (Z0 hg.ao _) rm ((congrArg (fun b=>P (.bool b) s) an).mpr h),fun h=>notIn_tuple_reads b a (jd hg.ao _) (Z0 hg.ao _) rm ((congrArg (fun b=>P (.bool !b) s) an).mpr h)⟩
 ·exact⟨fun h=>in_list_reads b a (jd hg.ao _) (Z0 hg.ao _) rm ((congrArg (fun b=>P (.bool b) s) an).mpr h),fun h=>notIn_list_reads b a (jd hg.ao _) (Z0 hg.ao _) rm ((congrArg (fun b=>P (.bool !b) s) an).mpr h)⟩
end
noncomputable def pG:PySem.Operator->Int->Int->Option Int
 |.Add,a,b=>some (a+b)
 |.Sub,a,b=>some (a-b)
 |.Mult,a,b=>if a.natAbs<2 ^ 62\/b.natAbs<2 ^ 62 then some (a*b) else none
 |.FloorDiv,a,b=>if b≠0/\b.natAbs<1073741824 then some (a.fdiv b) else none
 |.Mod,a,b=>if b=0 then none else some (a.fmod b)
 |.Pow,a,b=>if 0<=b/\b<=1000000/\a.natAbs<2 ^ 64 then some (a ^ b.toNat) else none
 |_,_,_=>none
section
variable{τ:T}{g:G τ}{n:Nat}{env:Env}{m:Loc}{H:AH}{Q:PV->AH->Prop}{A:Around}{s:Shared}
theorem cJ{α:Type}{c:Prop} [Decidable c]{x y:α}(h:(if c then some x else none)=some y):c/\x=y:=by
 by_cases k:c
 ·rw [if_pos k] at h;exact⟨k,G6 h⟩
 ·rw [if_neg k] at h;cases h
theorem Ph{α:Type}{c:Prop} [Decidable c]{x y:α}(h:(if c then none else some x)=some y):¬c/\x=y:=by
 by_cases k:c
 ·rw [if_pos k] at h;cases h
 ·rw [if_neg k] at h;exact⟨k,G6 h⟩
theorem Ju{a:Int}(h:a.natAbs<2 ^ 62):Builtin.Int.intBits a<=64:=intBits_le_64 (by lia) (by lia)
theorem Vh{op:PySem.Operator}{a b c:Int}{t u:Tok}(S:M4 g s H)(h:pG op a b=some c)(q:Q (.int c) H):
  W g A (binaryOp op (.int a t) (.int b u)) s H Q:=by
 have z:∀k,aX g s H Q (.int c k) {s with toks:=s.toks+1}:=fun k=>M8 (p:=.int c) S ⟨_,rfl⟩ q _
 cases op with
 |Add=>cases h;exact PySem.P.add_int (z _)
 |Sub=>cases h;exact PySem.P.sub_int (z _)
 |Mult=>obtain⟨hc,rfl⟩:=cJ h;exact PySem.P.mul_int (z _) (hc.elim (fun x=>.of_left (Ju x)) fun x=>.of_right (Ju x))
 |FloorDiv=>obtain⟨hc,rfl⟩:=cJ h;exact floordiv_int hc.1 (z _) (.inl (PyProof.noPylong_small hc.2))
 |Mod=>obtain⟨hc,rfl⟩:=Ph h;exact mod_int hc (z _)
 |Pow=>obtain⟨hc,rfl⟩:=cJ h;exact pow_int_small hc.1 hc.2.1 hc.2.2 (z _)
 |_=>exact nomatch (show none=some c from h)
theorem aA{h:Heap}{p:PV}{v:Value}{l:List PV}(S:M4 g s H)(r:Rep g.tab s.heap H p v)(e:p = .lst l\/∃a,p = .obj a/\H a=some (.list l)):
  ∃a vs k,v = .ref a/\s.heap.get? a=some (zJ vs k)/\K4 g.tab s.heap H l vs:=by
 rcases e with rfl|⟨a,rfl,e⟩
 ·obtain⟨a,vs,k,e,o,_,r⟩:=r;exact⟨a,vs,k,e,o,r⟩
 ·cases r
  obtain⟨vs,k,o,r⟩:=S.obj _ _ e
  exact⟨a,vs,k,rfl,o,r⟩
noncomputable def N7.CQ : N7->Option (List PV)
 |.list l=>some l
 |_=>none
noncomputable def Q6(H:AH):PV->Option (List PV)
 |.lst l=>some l
 |.obj a=>(H a).bind N7.CQ
 |_=>none
theorem K9{a:Addr}{l:List PV}(o:H a=some (.list l)):Q6 H (.obj a)=some l:=congrArg (fun o=>Option.bind o N7.CQ) o
theorem P0{p:PV}{l:List PV}(h:Q6 H p=some l):p = .lst l\/∃a,p = .obj a/\H a=some (.list l):=by
 cases p with
 |lst=>cases h;exact .inl rfl
 |obj a=>
  cases e:H a with
  |none=>rw [show Q6 H (.obj a)=(H a).bind N7.CQ from rfl,e] at h;cases h
  |some o=>
   rw [show Q6 H (.obj a)=(H a).bind N7.CQ from rfl,e] at h
   cases o<;>first|exact nomatch (show none=some l from h)|(cases h;exact .inr ⟨a,rfl,e⟩)
 |_=>exact nomatch (show none=some l from h)
theorem pH{vs:List Value}{l:List PV}(S:M4 g s H)(r:K4 g.tab s.heap H l vs)(q:Q (.lst l) H):aX g s H Q (.ref s.heap.objs.size) {s with heap:=s.heap.push {cls:=.type "list",data:=.seq vs.toArray}}:=
 gG (p:=.lst l) S ⟨_,vs,0,rfl,s6 _ rfl,untracked S,r.keeps (Calm.push ..).M5⟩ q
theorem GP{vs:List Value}{l:List PV}(S:M4 g s H)(r:K4 g.tab s.heap H l vs)(q:∀a,H a=none->Q (.obj a) (upd H a (.list l))):aX g s H Q (.ref s.heap.objs.size) {s with heap:=s.heap.push {cls:=.type "list",data:=.seq vs.toArray}}:=by
 obtain⟨aT6,aT9⟩:=S.track (o:=.list l) (x:={cls:=.type "list",data:=.seq vs.toArray}) rfl ⟨vs,0,s6 _ rfl,r.keeps (T7.mk (fun O O O O e O O=>j5 _ e) (fun b O O O e O O q=>⟨j5 _ e,by rw [w5 (Nat.ne_of_lt (G8 e))];exact q⟩) fun O O O e O O=>j5 _ e)⟩
 exact⟨.obj s.heap.objs.size,_,rfl,aT6,aT9,q _ (untracked S)⟩
theorem Jv{l k:List PV}{p q:PV}{u v:Value}(S:M4 g s H)(ru:Rep g.tab s.heap H p u)(rv:Rep g.tab s.heap H q v)(ep:Q6 H p=some l)(eq:Q6 H q=some k)(hz:l.length+k.length<=sizeLine)
  {P:Value->Shared->Prop} {E:Value->Shared->Prop}
  (h:∀vs:List Value,K4 g.tab s.heap H (l++k) vs->P (.ref s.heap.objs.size) {s with heap:=s.heap.push {cls:=.type "list",data:=.seq vs.toArray}}):
  wpAny (model g.prog g.w) A (binaryOp .Add u v) P E s:=by
 obtain⟨a,vs,n1,rfl,o1,r1⟩:=aA (h:=s.heap) S ru (P0 ep)
 obtain⟨b,ws,n2,rfl,o2,r2⟩:=aA (h:=s.heap) S rv (P0 eq)
 refine PySem.P.add_list o1 o2 ?_ (by rw [n6,n6,r1.length,r2.length];exact hz)
 have e:vs.toArray++ws.toArray=(vs++ws).toArray:=by simp
 rw [e]
 exact h _ (r1.append r2)
theorem Vi{l k:List PV}{u v:Value}(S:M4 g s H)(ru:Rep g.tab s.heap H (.tup l) u)(rv:Rep g.tab s.heap H (.tup k) v)(hz:l.length+k.length<=sizeLine)(q:Q (.tup (l++k)) H):
  W g A (binaryOp .Add u v) s H Q:=by
 obtain⟨a,vs,n1,rfl,o1,r1⟩:=id ru
 obtain⟨b,ws,n2,rfl,o2,r2⟩:=id rv
 have e:vs.toArray++ws.toArray=(vs++ws).toArray:=by simp
 by_cases hv:vs=[]
 ·subst hv
  have hl:l=[]:=List.eq_nil_of_length_eq_zero (by rw [<- r1.length];rfl)
  subst hl
  exact concat_meets ⟨_,o1,rfl⟩ ⟨_,o2,rfl⟩ noFill_tuple_add seq_tuple_add PySem.F.slot_tuple_add PySem.F.entry_tuple_add (PySem.F.args_tuple_add_2 _ _)
   (tuple_addW0 a b _ _ n1 n2 none none #[] #[] (by simp)) ⟨o1,o2,M8 S rv q s.toks⟩
 ·by_cases hw:ws=[]
  ·subst hw
   have hk:k=[]:=List.eq_nil_of_length_eq_zero (by rw [<- r2.length];rfl)
   subst hk
   rw [s7] at q
   exact concat_meets ⟨_,o1,rfl⟩ ⟨_,o2,rfl⟩ noFill_tuple_add seq_tuple_add PySem.F.slot_tuple_add PySem.F.entry_tuple_add (PySem.F.args_tuple_add_2 _ _)
    (tuple_addW1 a b _ _ n1 n2 none none #[] #[] (by simpa using hv) (by simp)) ⟨o1,o2,M8 S ru q s.toks⟩
  ·refine PySem.P.add_tuple o1 o2 (by simpa using hv) (by simpa using hw) ?_ (by rw [n6,n6,r1.length,r2.length];exact hz)
   rw [e]
   exact gG (p:=.tup (l++k)) S ⟨_,_,0,rfl,s6 _ rfl,(r1.append r2).keeps (Calm.push ..).M5⟩ q
noncomputable def Vj(l:List PV):Nat->List PV
 |0=>[]
 |k+1=>l++Vj l k
theorem K4.rep{h:Heap}{tab:Nat->Str}{l:List PV}{vs:List Value}(r:K4 tab h H l vs):∀k,K4 tab h H (Vj l k) (List.replicate k vs).flatten
 |0=>rfl
 |k+1=>by rw [List.replicate_succ,List.flatten_cons];exact r.append (K4.rep r k)
theorem Vk{l:List PV}{p:PV}{u:Value}{x:Int}{t:Tok}(S:M4 g s H)(ru:Rep g.tab s.heap H p u)(ep:Q6 H p=some l)(hlo : -(2 ^ 63:Int)<=x)(hhi:x<2 ^ 63)(hz:l.length*x.toNat<=2 ^ 24)
  (q:Q (.lst (Vj l x.toNat)) H):W g A (binaryOp .Mult u (.int x t)) s H Q:=by
 obtain⟨a,vs,n1,rfl,o1,r1⟩:=aA (h:=s.heap) S ru (P0 ep)
 have e2:vs.toArray.size=l.length:=by rw [n6,r1.length]
 have ak2:¬(!Builtin.List.listFitsIndex x)=true:=by simp [Builtin.List.listFitsIndex];lia
 have ak3:¬Builtin.List.listTooLong (vs.toArray.size*x.toNat)=true:=by
  rw [e2];unfold Builtin.List.listTooLong;rw [p7,decide_eq_true_eq];exact Nat.not_lt.mpr ‹_›
 have ak4:¬vs.toArray.size*x.toNat > (2 ^ 63-1) / 8:=by rw [e2];lia
 refine wpAny_binaryOp_repeat_ref (T := "list") (U := "int") (by decide) ⟨_,o1,rfl⟩ (fun s'=>typeIs_int s' x t) noFill_list_mul F.fills_int_mul F.slot_int_rmul repeat_list F.slot_int_index.lookup
  (call_meets F.slot_int_rmul (typeIs_int s x t) F.entry_int_rmul (F.args_int_rmul_2 _ _) (int___rmul___int_list x t a vs.toArray n1)
   ⟨o1,rfl,⟨_,o1,rfl⟩,call_meets F.slot_list_mul ⟨_,o1,rfl⟩ F.entry_list_mul (F.args_list_mul_2 _ _)
    (AutoListH.list___mul___list_int_3 a vs.toArray n1 x t ak2 ak4 ak3)
    ⟨o1,?_⟩⟩)
 rw [listMul_foldl]
 have e:(#[]:Array Value).toList++(List.replicate (if vs.toArray.isEmpty=true then 0 else x.toNat) vs.toArray.toList).flatten=(List.replicate x.toNat vs).flatten:=by
  by_cases hv:vs=[]
  ·subst hv;simp
  ·have:vs.toArray.isEmpty=false:=by simpa using hv
   simp [this]
 rw [e]
 exact pH S (r1.rep _) q
inductive CV{τ:T}(g:G τ)(H:AH)(Q:PV->AH->Prop):PySem.Operator->PV->PV->Prop
 |int {op:PySem.Operator} {a b c:Int} (e:pG op a b=some c) (h:Q (.int c) H):CV g H Q op (.int a) (.int b)
 |tup {l k:List PV} (e:l.length+k.length<=sizeLine) (h:Q (.tup (l++k)) H):CV g H Q .Add (.tup l) (.tup k)
 |str {a b c:Nat} (t:g.tab c=g.tab a++g.tab b/\(g.tab a).length+(g.tab b).length<=sizeLine) (h:Q (.str c) H):CV g H Q .Add (.str a) (.str b)
 |seq {p q:PV} {l k:List PV} (e1:Q6 H p=some l) (e2:Q6 H q=some k) (z:l.length+k.length<=sizeLine) (h:Q (.lst (l++k)) H):CV g H Q .Add p q
 |rep {p:PV} {l:List PV} {x:Int} (e:Q6 H p=some l) (h1 : -(2 ^ 63:Int)<=x) (h2:x<2 ^ 63) (h3:l.length*x.toNat<=2 ^ 24) (h:Q (.lst (Vj l x.toNat)) H):CV g H Q .Mult p (.int x)
 |Jw {b:Bool} {k:Int} (h:Q (.int ((if b=true then(1:Int) else 0)*k)) H):CV g H Q .Mult (.bool b) (.int k)
noncomputable abbrev Zx(g:G τ)(op:PySem.Operator)(p q:PV)(H:AH)(Q:PV->AH->Prop):Prop:=CV g H Q op p q
theorem Zy{op:PySem.Operator}{p q:PV}{u v:Value}(S:M4 g s H)(ru:Rep g.tab s.heap H p u)(rv:Rep g.tab s.heap H q v)(h:Zx g op p q H Q):
  W g A (binaryOp op u v) s H Q:=by
 cases h with
 |int e h=>obtain⟨t,rfl⟩:=ru;obtain⟨t',rfl⟩:=rv;exact Vh S e h
 |tup e h=>exact Vi S ru rv e h
 |str t h=>obtain⟨_,rfl⟩:=ru;obtain⟨_,rfl⟩:=rv;exact add_str (fun t' tk=>M8 (p:=.str _) S ⟨t',by rw [t.1]⟩ h _) t.2
 |seq e1 e2 z h=>exact Jv S ru rv e1 e2 z fun vs r=>pH S r h
 |rep e h1 h2 h3 h=>obtain⟨t',rfl⟩:=rv;exact Vk S ru e h1 h2 h3 h
 |Jw h=>obtain⟨t',rfl⟩:=rv;cases ru;exact PySem.IntBool.mul_bool_int (M8 (p:=.int _) S ⟨_,rfl⟩ h _)
theorem Ev.bin{a b:PySem.Expr}{op:PySem.Operator}{pos:Pos}(h:Ev g n env m H a fun p H₁=>Ev g n env m H₁ b fun q aT5=>Zx g op p q aT5 Q):Ev g n env m H (.BinOp a op b pos) Q:=fun A s R S F=>by
 refine wpAny_BinOp (h.then R S F fun u s₁ p H₁ ru aT7 aT8 aU1 k=>?_)
 refine Ev.then k R aT7 aU1 fun v aU0 q aT5 rv aT6 aT9 aU8 k=>?_
 exact aX.calm (aT8.trans aT9) (Zy aT6 (ru.keeps aT9.M5) rv k)
theorem Ev.Zz{a b:PySem.Expr}{pos:Pos}(h:Ev g n env m H a fun p H₁=>Ev g n env m H₁ b fun q aT5 => ∃l k,Q6 aT5 p=some l/\Q6 aT5 q=some k/\l.length+k.length<=sizeLine/\∀a,aT5 a=none->Q (.obj a) (upd aT5 a (.list (l++k)))):Ev g n env m H (.BinOp a .Add b pos) Q:=fun A s R S F=>by
 refine wpAny_BinOp (h.then R S F fun u s₁ p H₁ ru aT7 aT8 aU1 k=>?_)
 refine Ev.then k R aT7 aU1 fun v aU0 q aT5 rv aT6 aT9 aU8 k=>?_
 obtain⟨l,k,e1,e2,hz,h⟩:=k
 exact aX.calm (aT8.trans aT9) (Jv aT6 (ru.keeps aT9.M5) rv e1 e2 hz fun vs r=>GP aT6 r h)
theorem Ev.neg{a:PySem.Expr}{pos:Pos}(h:Ev g n env m H a fun p H₁=>match p with | .int i=>Q (.int (-i)) H₁|_=>False):Ev g n env m H (.UnaryOp .USub a pos) Q:=fun A s R S F=>by
 refine UnaryOp_ (h.then R S F fun u s₁ p H₁ ru aT7 aT8 aU1 k=>?_)
 cases p with
 |int i=>obtain⟨t,rfl⟩:=ru;exact aX.calm aT8 (PySem.P.neg_int (M8 (p:=.int _) aT7 ⟨_,rfl⟩ k _))
 |_=>exact(show False from k).elim
end
theorem rG(slice:PySem.Expr)(o i:Value):∃ops,subscripted slice false o i=operate ops (getItem o i):=by
 cases slice with
 |Slice _ _ c _=>cases c<;>exact⟨_,rfl⟩
 |_=>exact⟨_,rfl⟩
section
variable{K:Type} [DecidableEq K]
noncomputable def fJ(k:K)(p:PV):List (K×PV)->List (K×PV)
 | []=>[(k,p)]
 |q::r=>if q.1=k then(k,p)::r else q::fJ k p r
noncomputable def Y0(k:K):List (K×PV)->Option PV
 | []=>none
 |q::r=>if q.1=k then some q.2 else Y0 k r
variable{k:K}{p:PV}{q:K×PV}{r:List (K×PV)}
theorem tM(e:q.1=k):fJ k p (q::r)=(k,p)::r:=if_pos e
theorem mU(e:¬q.1=k):fJ k p (q::r)=q::fJ k p r:=if_neg e
theorem CW(e:q.1=k):Y0 k (q::r)=some q.2:=if_pos e
theorem CX(e:¬q.1=k):Y0 k (q::r)=Y0 k r:=if_neg e
theorem qG(k:K)(p:PV)(l:List (K×PV)):(fJ k p l).length<=l.length+1:=by
 induction l with
 |nil=>exact o9 _
 |cons q r ih=>
  by_cases e:q.1=k
  ·rw [tM e];exact Nat.le_succ _
  ·rw [mU e];exact J7 ih
end
section
variable{J β:Type} [DecidableEq J]{j k:J}{b:β}{l:List (J×β)}
theorem zV(e:j=k):(((j,b)::l).find? fun x=>decide (x.1=k)).map (·.2)=some b:=by rw [List.find?_cons_of_pos (p:=fun x:J×β=>decide (x.1=k)) (decide_eq_true e)];rfl
theorem sO(e:¬j=k):(((j,b)::l).find? fun x=>decide (x.1=k)).map (·.2)=(l.find? fun x=>decide (x.1=k)).map (·.2):=by rw [List.find?_cons_of_neg (p:=fun x:J×β=>decide (x.1=k)) fun h=>e (u9 h)]
variable{u v:Value}{kvs:List (J×Value)}
theorem GQ(n:k∉kvs.map (·.1)):stored ((k,u)::kvs) k v=(k,v)::kvs:=by
 refine(if_pos (congrArg (·|| kvs.any fun x=>decide (x.1=k)) (decide_eq_true rfl))).trans ?_
 rw [I7,if_pos rfl,map_store_of_not_mem kvs k v n]
theorem GR(e:¬j=k):stored ((j,u)::kvs) k v=(j,u)::stored kvs k v:=by
 have z:((j,u)::kvs).any (fun x=>decide (x.1=k))=kvs.any fun x=>decide (x.1=k):=congrArg (·|| kvs.any fun x=>decide (x.1=k)) (decide_eq_false e)
 by_cases h:kvs.any (fun x=>decide (x.1=k))=true
 ·rw [show stored kvs k v=_ from if_pos h]
  refine(if_pos (z.trans h)).trans ?_
  rw [I7,if_neg e]
 ·rw [show stored kvs k v=_ from if_neg h]
  exact if_neg fun w=>h (z.symm.trans w)
end
section
variable{K J:Type} [DecidableEq K] [DecidableEq J]{f:K->J}(inj:∀a b,f a=f b->a=b){tab:Nat->Str}{h:Heap}{H:AH}{k:K}{l:List (K×PV)}{kvs:List (J×Value)}
theorem gD.length(r:gD f tab h H l kvs):kvs.length=l.length:=by
 induction r with
 |nil=>rfl
 |cons _ _ ih=>exact congrArg Nat.succ ih
include inj
theorem gD.get(k:K)(r:gD f tab h H l kvs):gC tab h H (Y0 k l) (valueAt kvs (f k)):=by
 induction r with
 |nil=>rfl
 |@cons i p v _ _ q z ih=>
  by_cases e:i=k
  ·rw [CW e];exact⟨v,zV (congrArg f e),q⟩
  ·rw [CX e,show valueAt (_::_) (f k)=valueAt _ (f k) from sO fun w=>e (inj _ _ w)];exact ih
theorem gD.set(k:K){p:PV}{v:Value}(rv:Rep tab h H p v)(r:gD f tab h H l kvs)(nd:(kvs.map (·.1)).Nodup):gD f tab h H (fJ k p l) (stored kvs (f k) v):=by
 induction r with
 |nil=>exact .cons rv .nil
 |@cons i _ _ _ _ q z ih=>
  have n:=G5.mp nd
  by_cases e:i=k
  ·subst e;rw [tM (q:=(i,_)) rfl,GQ n.1];exact .cons rv z
  ·rw [mU e,GR fun w=>e (inj _ _ w)];exact .cons q (ih n.2)
end
set_option genInjectivity false in
set_option genSizeOf false in
structure KD{τ:T}(g:G τ)(K J:Type) [DecidableEq K] [DecidableEq J] where
 knd:KeyKind g.prog g.w J
 f:K->J
 inj:N6 g->∀a b,f a=f b->a=b
 ob:List (K×PV)->N7
 key:K->PV
 ak5:∀h H a l,jR g h H a (ob l) ↔ ∃kvs,h.DictOf knd a kvs/\gD f g.tab h H l kvs
 is:∀h H k v,Rep g.tab h H (key k) v->knd.is (f k) v=true
noncomputable def KD.int{τ:T}(g:G τ):KD g Int Int:=⟨intKind g.prog g.w,id,fun O O O e=>e,.N5,.int,fun O O O O=>.rfl,fun O O k v ⟨t,e⟩=>by subst e;simp [intKind,Value.isInt]⟩
noncomputable def KD.str{τ:T}(g:G τ):KD g Nat Str:=⟨PySem.strKind g.prog g.w,g.tab,fun hg=>hg.inj,.T9,.str,fun O O O O=>.rfl,fun O O k v ⟨t,e⟩=>by subst e;simp [PySem.strKind,Value.isStrOf]⟩
section
variable{τ:T}{g:G τ}{n:Nat}{env:Env}{m:Loc}{H:AH}{Q:PV->AH->Prop}{A:Around}{s:Shared}
theorem GX{a:Addr}{o:N7}(hg:N6 g)(S:M4 g s H)(e:H a=some o):(a==sysModules)=false:=by
 rw [s8]
 intro z
 exact hg.mods (z▸S.fresh a (by rw [e];simp))
section
variable{K J:Type} [DecidableEq K] [DecidableEq J](D:KD g K J)
theorem KD.rep{a:Addr}{l:List (K×PV)}(S:M4 g s H)(e:H a=some (D.ob l)):∃kvs,s.heap.DictOf D.knd a kvs/\gD D.f g.tab s.heap H l kvs:=(D.ak5 _ _ _ _).mp (S.obj _ _ e)
theorem KD.getItem(hg:N6 g){a:Addr}{l:List (K×PV)}{k:K}{r:PV}{kv:Value}(S:M4 g s H)(e:H a=some (D.ob l))(rk:Rep g.tab s.heap H (D.key k) kv)(hk:Y0 k l=some r)(q:Q r H):
  W g A (getItem (.ref a) kv) s H Q:=by
 obtain⟨kvs,hd,hr⟩:=D.rep S e
 have:=hr.get (D.inj hg) k
 rw [hk] at this
 obtain⟨u,hu,ru⟩:=this
 exact wpAny_getItem_of (D.is _ _ _ _ rk) hd.mapOf hu (M8 S ru q _)
theorem KD.isIn(hg:N6 g){a:Addr}{l:List (K×PV)}{k:K}{kv:Value}{P:Value->Shared->Prop}{E:Value->Shared->Prop}(S:M4 g s H)(e:H a=some (D.ob l))(rk:Rep g.tab s.heap H (D.key k) kv):
  (P (.bool (Y0 k l).isSome) {s with toks:=s.toks+1}->wpAny (model g.prog g.w) A (compareOp .In kv (.ref a)) P E s)/\(P (.bool (!(Y0 k l).isSome)) {s with toks:=s.toks+1}->wpAny (model g.prog g.w) A (compareOp .NotIn kv (.ref a)) P E s):=by
 obtain⟨kvs,hd,hr⟩:=D.rep S e
 have:=hr.get (D.inj hg) k
 have eq:(valueAt kvs (D.f k)).isSome=(Y0 k l).isSome:=by
  cases z:Y0 k l with
  |none=>rw [z] at this;rw [show valueAt kvs (D.f k)=none from this];rfl
  |some r=>rw [z] at this;obtain⟨u,hu,_⟩:=this;rw [hu];rfl
 exact⟨fun h=>wpAny_in_of (D.is _ _ _ _ rk) (GX hg S e) hd.mapOf (by rw [eq];exact h),fun h=>wpAny_notIn_of (D.is _ _ _ _ rk) (GX hg S e) hd.mapOf (by rw [eq];exact h)⟩
theorem KD.setItem(hg:N6 g){a:Addr}{l:List (K×PV)}{k:K}{p:PV}{kv v:Value}(S:M4 g s H)(e:H a=some (D.ob l))(rk:Rep g.tab s.heap H (D.key k) kv)(rv:Rep g.tab s.heap H p v)(hz:l.length<=sizeLine):
  wpAny (model g.prog g.w) A (setItem (.ref a) kv v) (fun O s'=>M4 g s' (upd H a (D.ob (fJ k p l)))/\Calm s.heap H s'.heap (upd H a (D.ob (fJ k p l)))) (fun O O=>False) s:=by
 obtain⟨kvs,hd,hr⟩:=D.rep S e
 have nd:(kvs.map (·.1)).Nodup:=hd.elim fun O z=>z.elim fun O z=>z.elim fun O z=>z.2.2.2.2.2
 refine wpAny_setItem_pairs (D.is _ _ _ _ rk) hd (fun h' hd' B=>?_) (by rw [hr.length];exact hz)
 exact S.turn e B ((D.ak5 _ _ _ _).mpr ⟨_,hd',(hr.set (D.inj hg) k rv nd).keeps (aL S e B)⟩) (s.toks+1)
end
end
section
variable{τ:T}{g:G τ}{n:Nat}{env:Env}{m:Loc}{H:AH}{Q:PV->AH->Prop}{A:Around}{s:Shared}
theorem tO(R:R8 n A):A.in1.units<cLine:=by
 have:=R.units
 show A.units+1<cLine
 lia
theorem GZ{i j:Int}{v:Value}(r:Rep g.tab s.heap H (.tup [.int i,.int j]) v):∃a,v = .ref a/\IsTupleKey (intKind g.prog g.w) s.heap [i,j] a:=by
 obtain⟨a,vs,k,rfl,o,v1,r1,rfl,⟨t1,rfl⟩,v2,r2,rfl,⟨t2,rfl⟩,rfl⟩:=r
 exact⟨a,rfl,_,_,_,o,rfl,rfl,.cons (by simp [intKind,Value.isInt]) (.cons (by simp [intKind,Value.isInt]) .nil)⟩
theorem Jx{i j i' j':Int}(e:¬(i',j')=(i,j)):¬ [i',j']=[i,j]:=fun w=>by cases w;exact e rfl
theorem Hf{k:List Int}{v:Value}{xs:List (List Int×Addr×Value)}(h:k∉xs.map (·.1)):xs.map (putAt k v)=xs:=by
 induction xs with
 |nil=>rfl
 |cons x xs ih=>
  have h':k∉x.1::xs.map (·.1):=h
  rw [I7,ih fun z=>h' (.tail _ z),show putAt k v x=x from if_neg fun(e:x.1=k)=>h' (e▸.head _)]
section
variable{h:Heap}{tab:Nat->Str}{l:List ((Int×Int)×PV)} {xs:List (List Int×Addr×Value)}
theorem U5.get(i j:Int)(r:U5 tab h H l xs):gC tab h H (Y0 (i,j) l) ((atKey xs [i,j]).map (·.2)):=by
 induction r with
 |nil=>rfl
 |@cons i' j' _ c v _ _ q z ih=>
  by_cases e:(i',j')=(i,j)
  ·cases e;rw [CW (q:=((_,_),_)) rfl];exact⟨v,congrArg (Option.map fun x:Addr×Value=>x.2) (zV rfl),q⟩
  ·rw [CX e,show atKey (_::_) [i,j]=atKey _ [i,j] from sO (Jx e)];exact ih
theorem U5.length(r:U5 tab h H l xs):xs.length=l.length:=by
 induction r with
 |nil=>rfl
 |cons _ _ ih=>exact congrArg Nat.succ ih
theorem U5.set(i j:Int)(a:Addr){p:PV}{v:Value}(rv:Rep tab h H p v)(r:U5 tab h H l xs)(nd:(xs.map (·.1)).Nodup):U5 tab h H (fJ (i,j) p l) (storedH xs [i,j] a v):=by
 induction r with
 |nil=>exact .cons rv .nil
 |@cons i' j' _ c u _ r q z ih=>
  have n:=G5.mp nd
  by_cases e:(i',j')=(i,j)
  ·cases e
   rw [tM (q:=((_,_),_)) rfl,storedH_old (zV rfl),I7,show putAt [i,j] v ([i,j],c,u)=([i,j],c,v) from if_pos rfl,Hf n.1]
   exact .cons rv z
  ·have ih:=ih n.2
   have e':=Jx e
   rw [mU e]
   cases k:atKey r [i,j] with
   |none=>rw [storedH_new k] at ih;rw [storedH_new ((sO e').trans k)];exact .cons q ih
   |some x=>rw [storedH_old k] at ih;rw [storedH_old ((sO e').trans k),I7,show putAt [i,j] v ([i',j'],c,u)=([i',j'],c,u) from if_neg e'];exact .cons q ih
end
theorem av5(hg:N6 g){a:Addr}{l:List ((Int×Int)×PV)} {i j:Int} {r:PV} {kv:Value} (R:R8 n A) (S:M4 g s H) (e:H a=some (.Q9 l)) (rk:Rep g.tab s.heap H (.tup [.int i,.int j]) kv) (hk:Y0 (i,j) l=some r) (q:Q r H):
  W g A (getItem (.ref a) kv) s H Q:=by
 obtain⟨xs,hd,hr⟩:=S.obj _ _ e
 obtain⟨b,rfl,hkey⟩:=GZ rk
 have:=hr.get i j
 rw [hk] at this
 obtain⟨u,hu,ru⟩:=this
 obtain⟨pr,hp,rfl⟩:=z9.mp hu
 exact wpAny_getItem_heap (knd:=tupleKind (intKind g.prog g.w)) (tO R) hkey hd hp (M8 S ru q _)
theorem tin(hg:N6 g){a:Addr}{l:List ((Int×Int)×PV)} {i j:Int} {kv:Value} {P:Value->Shared->Prop} {E:Value->Shared->Prop} (R:R8 n A) (S:M4 g s H) (e:H a=some (.Q9 l)) (rk:Rep g.tab s.heap H (.tup [.int i,.int j]) kv)
  (h:∀t,P (.bool (Y0 (i,j) l).isSome) {s with toks:=t}):wpAny (model g.prog g.w) A (compareOp .In kv (.ref a)) P E s:=by
 obtain⟨xs,hd,hr⟩:=S.obj _ _ e
 obtain⟨b,rfl,hkey⟩:=GZ rk
 have:=hr.get i j
 have eq:(atKey xs [i,j]).isSome=(Y0 (i,j) l).isSome:=by
  cases z:Y0 (i,j) l with
  |none=>rw [z] at this;have t:(atKey xs [i,j]).map (·.2)=none:=this;rw [Option.map_eq_none_iff] at t;rw [t];rfl
  |some r=>rw [z] at this;obtain⟨u,hu,_⟩:=this;obtain⟨pr,hp,rfl⟩:=z9.mp hu;rw [hp];rfl
 exact wpAny_in_heap (knd:=tupleKind (intKind g.prog g.w)) (tO R) hkey (GX hg S e) hd (by rw [eq];exact h _)
theorem av6(hg:N6 g){a:Addr}{l:List ((Int×Int)×PV)} {i j:Int} {p:PV} {kv v:Value} (R:R8 n A) (S:M4 g s H) (e:H a=some (.Q9 l)) (rk:Rep g.tab s.heap H (.tup [.int i,.int j]) kv) (rv:Rep g.tab s.heap H p v) (hz:l.length<=sizeLine):
  wpAny (model g.prog g.w) A (setItem (.ref a) kv v) (fun O s'=>M4 g s' (upd H a (.Q9 (fJ (i,j) p l)))/\Calm s.heap H s'.heap (upd H a (.Q9 (fJ (i,j) p l)))) (fun O O=>False) s:=by
 obtain⟨xs,hd,hr⟩:=S.obj _ _ e
 obtain⟨b,rfl,hkey⟩:=GZ rk
 have nd:(xs.map (·.1)).Nodup:=hd.elim fun O z=>z.elim fun O z=>z.elim fun O z=>z.2.2.2.2.2
 refine wpAny_setItem_heap (knd:=tupleKind (intKind g.prog g.w)) (tO R) hkey hd (fun h' hd' B=>?_) (by rw [hr.length];exact hz)
 exact S.turn (o':=.Q9 (fJ (i,j) p l)) e B ⟨_,hd',(hr.set i j b rv nd).keeps (aL S e B)⟩ _
noncomputable def LR(l:List PV)(i:Int):Option PV:=
 if 0<=i then(if i<2 ^ 62 then l[i.toNat]? else none)
 else if 0<=i+l.length/\ -(2 ^ 62)<i then l[(i+l.length).toNat]? else none
theorem yh(i:Int)(n:Nat):seqIndex? i n=if i<0 then(if 0<=i+n then some (i+n).toNat else none) else if i<n then some i.toNat else none:=by
 unfold seqIndex?
 by_cases h:i<0
 ·simp only [h,if_true,Bool.and_eq_true,decide_eq_true_eq]
  by_cases h2:0<=i+n
  ·rw [if_pos ⟨h2,by lia⟩,if_pos h2]
  ·rw [if_neg (fun z=>h2 z.1),if_neg h2]
 ·simp only [h,if_false,Bool.and_eq_true,decide_eq_true_eq]
  by_cases h2:i<n
  ·rw [if_pos ⟨by lia,h2⟩,if_pos h2]
  ·rw [if_neg (fun z=>h2 z.2),if_neg h2]
theorem Jy{α:Type}{c:Prop} [Decidable c]{x:Option α}{y:α}(h:(if c then x else none)=some y):c/\x=some y:=by
 by_cases k:c
 ·rw [if_pos k] at h;exact⟨k,h⟩
 ·rw [if_neg k] at h;cases h
theorem Jz{l:List PV}{i:Int}{p:PV}(h:LR l i=some p) : -(2 ^ 63)<=i/\i<2 ^ 63/\∃k,seqIndex? i l.length=some k/\l[k]? = some p:=by
 rw [yh]
 by_cases q:0<=i
 ·obtain⟨h2,h⟩:=Jy ((if_pos q).symm.trans h)
  have hk:=(v8.mp h).1
  exact⟨by lia,by lia,i.toNat,by rw [if_neg (by lia),if_pos (by lia)],h⟩
 ·obtain⟨h2,h⟩:=Jy ((if_neg q).symm.trans h)
  exact⟨by lia,by lia,_,by rw [if_pos (by lia),if_pos h2.1],h⟩
noncomputable def intOf:PV->Option Int
 |.int i=>some i
 |_=>none
noncomputable def ak6:List PV->Option (Int×Int)
 | [a,b]=>(intOf a).bind fun i=>(intOf b).map (Prod.mk i)
 |_=>none
noncomputable def pairOf:PV->Option (Int×Int)
 |.tup l=>ak6 l
 |_=>none
theorem tQ{p:PV}{i:Int}(h:intOf p=some i):p = .int i:=by
 cases p<;>first|(cases h;done)|skip
 cases h;rfl
theorem CZ{p:PV}{ij:Int×Int}(h:pairOf p=some ij):p = .tup [.int ij.1,.int ij.2]:=by
 cases p with
 |tup l=>
  rcases l with _|⟨a,_|⟨b,_|⟨c,l⟩⟩⟩<;>first|exact nomatch (show none=some ij from h)|skip
  obtain⟨i,h1,h⟩:=Option.bind_eq_some_iff.mp (show((intOf a).bind fun i=>(intOf b).map (Prod.mk i))=some ij from h)
  obtain⟨j,h2,rfl⟩:=z9.mp h
  rw [tQ h1,tQ h2]
 |_=>exact nomatch (show none=some ij from h)
inductive zW{τ:T}(g:G τ)(H:AH)(Q:PV->AH->Prop):PV->PV->Prop
 |tup {l:List PV} {i:Int} {r:PV} (e:LR l i=some r) (h:Q r H):zW g H Q (.tup l) (.int i)
 |lst {l:List PV} {i:Int} {r:PV} (e:LR l i=some r) (h:Q r H):zW g H Q (.lst l) (.int i)
 |sd {a:Addr} {k:Nat} {r:PV} (e:τ.T9 a k=some r) (h:Q r H):zW g H Q (.obj a) (.str k)
 |ol {a:Addr} {l:List PV} {i:Int} {r:PV} (o:H a=some (.list l)) (e:LR l i=some r) (h:Q r H):zW g H Q (.obj a) (.int i)
 |od {a:Addr} {l:List (Int×PV)} {k:Int} {r:PV} (o:H a=some (.N5 l)) (e:Y0 k l=some r) (h:Q r H):zW g H Q (.obj a) (.int k)
 |os {a:Addr} {l:List (Nat×PV)} {k:Nat} {r:PV} (o:H a=some (.T9 l)) (e:Y0 k l=some r) (h:Q r H):zW g H Q (.obj a) (.str k)
 |ot {a:Addr} {l:List ((Int×Int)×PV)} {i j:Int} {r:PV} (o:H a=some (.Q9 l)) (e:Y0 (i,j) l=some r) (h:Q r H):zW g H Q (.obj a) (.tup [.int i,.int j])
noncomputable abbrev Vl(g:G τ)(p q:PV)(H:AH)(Q:PV->AH->Prop):Prop:=zW g H Q p q
theorem bQ{value slice:PySem.Expr}{o i:Value}{T id:String}{P:Value->Shared->Prop}{E:Value->Shared->Prop}(hT:s.TypeIs o T)(hl:typeLookup (.type T) "__getitem__" = pure (some (.builtin id)))
  (h:wpAny (model g.prog g.w) A (getItem o i) P E s):wpAny (model g.prog g.w) A (subscriptTail value slice o i) P E s:=
 let⟨_,e⟩:=rG slice o i
 tail_any hT hl h e
theorem Dc{l:List PV}{i:Int}{r:PV}{u:Value}{value slice:PySem.Expr}(S:M4 g s H){p:PV}(ru:Rep g.tab s.heap H p u)(e:p = .lst l\/∃a,p = .obj a/\H a=some (.list l)){t:Tok}(hr:LR l i=some r)(q:Q r H):
  W g A (subscriptTail value slice u (.int i t)) s H Q:=by
 obtain⟨a,vs,k,rfl,o,rl⟩:=aA (h:=s.heap) S ru e
 obtain⟨lo,hi,j,hj,hj'⟩:=Jz hr
 obtain⟨x,hx,rx⟩:=rl.get hj'
 have hl:s.heap.IsList a vs.toArray:=⟨_,o,rfl,_,rfl⟩
 refine bQ hl.typeIs slot_list_getitem.lookup ?_
 have z:aX g s H Q x s:=M8 S rx q s.toks
 rw [yh] at hj
 by_cases h0:i<0
 ·rw [if_pos h0] at hj
  have e2:=rl.length
  have e3:vs.toArray.size=l.length:=by rw [n6,e2]
  obtain⟨h1,rfl⟩:=cJ hj
  exact wpAny_getItem_list_neg hl h0 (by lia) (by lia) (by rw [e3];simpa using hx) z
 ·rw [if_neg h0] at hj
  obtain⟨h1,rfl⟩:=cJ hj
  exact wpAny_getItem_list hl (by lia) hi (by simpa using hx) z
theorem ZC{p q:PV}{u v:Value}{value slice:PySem.Expr}(hg:N6 g)(R:R8 n A)(S:M4 g s H)(ru:Rep g.tab s.heap H p u)(rv:Rep g.tab s.heap H q v)(h:Vl g p q H Q):
  W g A (subscriptTail value slice u v) s H Q:=by
 cases h with
 |@tup l i r hr h=>
  obtain⟨t,rfl⟩:=rv
  obtain⟨a,vs,k,rfl,o,rl⟩:=ru
  obtain⟨lo,hi,j,hj,hj'⟩:=Jz hr
  obtain⟨x,hx,rx⟩:=rl.get hj'
  have hT:IsTup s.heap a vs.toArray:=⟨_,o,rfl,_,rfl⟩
  exact bQ hT.typeIs slot_tuple_getitem.lookup (getItem_tuple hT lo hi (by rw [n6,rl.length];exact hj) (by simpa using hx) (M8 S rx h s.toks))
 |lst hr h=>obtain⟨t,rfl⟩:=rv;exact Dc (t:=t) S ru (.inl rfl) hr h
 |@sd a k r hr h=>
  cases ru
  obtain⟨mm,x,hm,hx,rx⟩:=hg.sd _ _ _ hr
  have hm':s.heap.MapOf (PySem.strKind g.prog g.w) a mm:=let⟨o,es,ep,e1,e2⟩:=hm;⟨o,es,ep,S.keep _ _ e1,e2⟩
  obtain⟨t,rfl⟩:=rv
  exact bQ hm'.typeIs slot_dict_getitem.lookup (wpAny_getItem_of (strKind_is g.prog g.w (g.tab k) t) hm' hx (M8 S (rx.keeps S.static) h _))
 |ol o hr h=>obtain⟨t,rfl⟩:=rv;exact Dc (t:=t) S ru (.inr ⟨_,rfl,o⟩) hr h
 |od o hr h=>cases ru;obtain⟨kvs,hd,_⟩:=(KD.int g).rep S o;exact bQ hd.typeIs slot_dict_getitem.lookup ((KD.int g).getItem hg S o rv hr h)
 |os o hr h=>cases ru;obtain⟨kvs,hd,_⟩:=(KD.str g).rep S o;exact bQ hd.typeIs slot_dict_getitem.lookup ((KD.str g).getItem hg S o rv hr h)
 |ot o hr h=>cases ru;obtain⟨xs,hd,_⟩:=S.obj _ _ o;exact bQ hd.typeIs slot_dict_getitem.lookup (av5 hg R S o rv hr h)
theorem Ev.sub{a b:PySem.Expr}{pos:Pos}(hg:N6 g)(h:Ev g n env m H a fun p H₁=>Ev g n env m H₁ b fun q aT5=>Vl g p q aT5 Q):Ev g n env m H (.Subscript a b pos) Q:=fun A s R S F=>by
 refine Subscript_ (h.then R S F fun u s₁ p H₁ ru aT7 aT8 aU1 k=>?_)
 refine Ev.then k R aT7 aU1 fun v aU0 q aT5 rv aT6 aT9 aU8 k=>?_
 exact aX.calm (aT8.trans aT9) (ZC hg R aT6 (ru.keeps aT9.M5) rv k)
end
noncomputable def ZD:PySem.CmpOp->Int->Int->Option Bool
 |.Lt,a,b=>some (decide (a<b))
 |.LtE,a,b=>some (decide (a<=b))
 |.Gt,a,b=>some (decide (b<a))
 |.GtE,a,b=>some (decide (b<=a))
 |_,_,_=>none
noncomputable def isNone:PV->Bool
 |.none=>true
 |_=>false
inductive ZF(H:AH)(Q:Bool->Prop):PV->PV->Prop
 |tup {p:PV} {l:List PV} (o:LQ p (wD H l)) (h:Q ((wD H l).any fun y=>y.eqv p)):ZF H Q p (.tup l)
 |lst {p:PV} {l:List PV} (o:LQ p l) (h:Q (l.any fun y=>y.eqv p)):ZF H Q p (.lst l)
 |ol {p:PV} {a:Addr} {l:List PV} (e:H a=some (.list l)) (o:LQ p l) (h:Q (l.any fun y=>y.eqv p)):ZF H Q p (.obj a)
 |od {k:Int} {a:Addr} {l:List (Int×PV)} (e:H a=some (.N5 l)) (h:Q (Y0 k l).isSome):ZF H Q (.int k) (.obj a)
 |os {k:Nat} {a:Addr} {l:List (Nat×PV)} (e:H a=some (.T9 l)) (h:Q (Y0 k l).isSome):ZF H Q (.str k) (.obj a)
 |ot {i j:Int} {a:Addr} {l:List ((Int×Int)×PV)} (e:H a=some (.Q9 l)) (h:Q (Y0 (i,j) l).isSome):ZF H Q (.tup [.int i,.int j]) (.obj a)
noncomputable abbrev InP(p q:PV)(H:AH)(Q:Bool->Prop):Prop:=ZF H Q p q
noncomputable def NoT(q:PV)(H:AH):Prop := ∀a l,q = .obj a->H a=some (.Q9 l)->False
inductive zX(H:AH)(Q:Bool->Prop):PySem.CmpOp->PV->PV->Prop
 |eq {p q:PV} (o:GK H p q) (h:Q ((res H p).eqv (res H q))):zX H Q .Eq p q
 |ne {p q:PV} (o:GK H p q) (h:Q (!(res H p).eqv (res H q))):zX H Q .NotEq p q
 |is {p:PV} (h:Q (isNone p)):zX H Q .Is p .none
 |isn {p:PV} (h:Q (!isNone p)):zX H Q .IsNot p .none
 |mem {p q:PV} (h:InP p q H Q):zX H Q .In p q
 |nmem {p q:PV} (n:NoT q H) (h:InP p q H fun b=>Q (!b)):zX H Q .NotIn p q
 |ord {op:PySem.CmpOp} {a b:Int} {c:Bool} (e:ZD op a b=some c) (h:Q c):zX H Q op (.int a) (.int b)
noncomputable abbrev Pj(op:PySem.CmpOp)(p q:PV)(H:AH)(Q:Bool->Prop):Prop:=zX H Q op p q
section
variable{τ:T}{g:G τ}{n:Nat}{env:Env}{m:Loc}{H:AH}{A:Around}{s:Shared}
theorem Dd{p:PV}{v:Value}(r:Rep g.tab s.heap H p v):(v == .none)=isNone p:=by
 cases p with
 |none=>cases r;rfl
 |bool=>cases r;rfl
 |int=>obtain⟨_,rfl⟩:=r;rfl
 |str=>obtain⟨_,rfl⟩:=r;rfl
 |tup=>obtain⟨_,_,_,rfl,_⟩:=r;rfl
 |lst=>obtain⟨_,_,_,rfl,_⟩:=r;rfl
 |obj=>cases r;rfl
 |blt=>obtain⟨rfl,_⟩:=r;rfl
 |typ=>cases r;rfl
 |rng=>obtain⟨_,_,_,_,rfl,_⟩:=r;rfl
theorem Yw{p q:PV}{u v:Value}{P:Value->Shared->Prop}{E:Value->Shared->Prop}{B:Bool->Prop}(hg:N6 g)(R:R8 n A)(S:M4 g s H)(ru:Rep g.tab s.heap H p u)(rv:Rep g.tab s.heap H q v)(h:InP p q H B):
  ((∀b,B b->∀t,P (.bool b) {s with toks:=t})->wpAny (model g.prog g.w) A (compareOp .In u v) P E s)/\
  (NoT q H->(∀b,B b->∀t,P (.bool (!b)) {s with toks:=t})->wpAny (model g.prog g.w) A (compareOp .NotIn u v) P E s):=by
 cases h with
 |@tup _ l o h=>have c:=Pg (P:=P) (E:=E) hg R S ru rv (.inl (show res H (.tup l) = .tup (wD H l) from rfl)) o;exact⟨fun k=>c.1 (k _ h s.toks),fun O k=>c.2 (k _ h s.toks)⟩
 |lst o h=>have c:=Pg (P:=P) (E:=E) hg R S ru rv (.inr rfl) o;exact⟨fun k=>c.1 (k _ h s.toks),fun O k=>c.2 (k _ h s.toks)⟩
 |@ol _ a l e o h=>have c:=Pg (P:=P) (E:=E) hg R S ru rv (.inr (show res H (.obj a) = .lst l by rw [zU,e])) o;exact⟨fun k=>c.1 (k _ h s.toks),fun O k=>c.2 (k _ h s.toks)⟩
 |od e h=>cases rv;have c:=(KD.int g).isIn (A:=A) (P:=P) (E:=E) hg S e ru;exact⟨fun z=>c.1 (z _ h _),fun O z=>c.2 (z _ h _)⟩
 |os e h=>cases rv;have c:=(KD.str g).isIn (A:=A) (P:=P) (E:=E) hg S e ru;exact⟨fun z=>c.1 (z _ h _),fun O z=>c.2 (z _ h _)⟩
 |ot e h=>cases rv;exact⟨fun z=>tin hg R S e ru fun t=>z _ h t,fun z=>(z _ _ rfl e).elim⟩
theorem Pk{op:PySem.CmpOp}{p q:PV}{u v:Value}{P:Value->Shared->Prop}{E:Value->Shared->Prop}{B:Bool->Prop}(hg:N6 g)(R:R8 n A)(S:M4 g s H)(ru:Rep g.tab s.heap H p u)(rv:Rep g.tab s.heap H q v)(h:Pj op p q H B)
  (k:∀b,B b->∀t,P (.bool b) {s with toks:=t}):wpAny (model g.prog g.w) A (compareOp op u v) P E s:=by
 cases h with
 |eq o h=>exact ak0 hg R S ru rv o (k _ h s.toks)
 |ne o h=>exact ak1 hg R S ru rv o (k _ h s.toks)
 |is h=>cases rv;exact is_none_gen (by rw [Dd ru];exact k _ h s.toks)
 |isn h=>cases rv;exact isnot_none_gen (by rw [Dd ru];exact k _ h s.toks)
 |mem h=>exact(Yw hg R S ru rv h).1 k
 |nmem n h=>exact(Yw (B:=fun b=>B (!b)) hg R S ru rv h).2 n fun b hb t=>k (!b) hb t
 |ord e h=>
  obtain⟨t,rfl⟩:=ru;obtain⟨t',rfl⟩:=rv
  cases op<;>cases e
  ·exact PySem.P.lt_int (k _ h s.toks)
  ·exact PySem.P.le_int (k _ h s.toks)
  ·exact PySem.P.gt_int (k _ h s.toks)
  ·exact PySem.P.ge_int (k _ h s.toks)
theorem Ev.cmp{a b:PySem.Expr}{op:PySem.CmpOp}{pos:Pos}{Q:PV->AH->Prop}(hg:N6 g)(hm:behindInMarks op b=false)(h:Ev g n env m H a fun p H₁=>Ev g n env m H₁ b fun q aT5=>Pj op p q aT5 fun c=>Q (.bool c) aT5):Ev g n env m H (.Compare a [op] [b] pos) Q:=fun A s R S F=>by
 refine wpAny_Compare1 (h.then R S F fun u s₁ p H₁ ru aT7 aT8 aU1 k=>?_) hm
 refine Ev.then k R aT7 aU1 fun v aU0 q aT5 rv aT6 aT9 aU8 k=>?_
 exact Pk hg R aT6 (ru.keeps aT9.M5) rv k fun c hc t=>(M8 (p:=.bool c) aT6 rfl hc t).step (aT8.trans aT9)
theorem Ts.cmp{a b:PySem.Expr}{op:PySem.CmpOp}{pos:Pos}{Q:Bool->AH->Prop}(hg:N6 g)(hm:behindInMarks op b=false)(h:Ev g n env m H a fun p H₁=>Ev g n env m H₁ b fun q aT5=>Pj op p q aT5 fun c=>Q c aT5):Ts g n env m H (.Compare a [op] [b] pos) Q:=fun A s R S F=>by
 refine wpAny_isTrue_Compare1 (h.then R S F fun u s₁ p H₁ ru aT7 aT8 aU1 k=>?_) hm
 refine Ev.then k R aT7 aU1 fun v aU0 q aT5 rv aT6 aT9 aU8 k=>?_
 exact Pk hg R aT6 (ru.keeps aT9.M5) rv k fun c hc t=>wpAny_truthy_bool ⟨aT5,aT6.tok t,aT8.trans aT9,hc⟩
noncomputable def cM(p:PV)(Q:Bool->Prop):Prop:=
 match p with
 |.none=>Q false
 |.bool b=>Q b
 |.int i=>Q (i != 0)
 |.tup l=>l.length<=sizeLine/\Q (!l.isEmpty)
 |_=>False
theorem je{p:PV}{v:Value}{B:Bool->Prop}{P:Bool->Shared->Prop}{E:Value->Shared->Prop}(r:Rep g.tab s.heap H p v)(h:cM p B)(k:∀b t,B b->P b {s with toks:=t}):wpAny (model g.prog g.w) A (truthy v) P E s:=by
 cases p with
 |none=>cases r;exact j4 (k _ s.toks h)
 |bool b=>cases r;exact wpAny_truthy_bool (k _ s.toks h)
 |int i=>obtain⟨t,rfl⟩:=r;exact PySem.P.truthy_int (k _ s.toks h)
 |tup l=>
  obtain⟨t,vs,j,rfl,o,rl⟩:=r
  have z:(!vs.toArray.isEmpty) = !l.isEmpty:=by
   have e:=rl.length
   cases vs<;>cases l<;>first|rfl|exact nomatch e
  exact truthy_tuple (⟨_,o,rfl,_,rfl⟩:IsTup s.heap t vs.toArray) (by rw [n6,rl.length];have:=h.1;rw [p7] at this;lia) (by rw [z];exact k _ _ h.2)
 |_=>exact(show False from h).elim
noncomputable def plainT(e:PySem.Expr):Prop := ∀env whole,isTrue e env whole=(do let v <- whole;standAt e.pos;holding [v] (truthy v))
theorem Ts.plain{e:PySem.Expr}{Q:Bool->AH->Prop}(hp:plainT e)(h:Ev g n env m H e fun p H'=>cM p fun b=>Q b H'):Ts g n env m H e Q:=fun A s R S F=>by
 refine isTrue_plain (h.then R S F fun v s' p H' r S' c F' q=>?_) (hp _ _)
 exact je r q fun b t hb=>⟨H',S'.tok t,c,hb⟩
theorem Ev.not{e:PySem.Expr}{pos:Pos}{Q:PV->AH->Prop}(h:Ev g n env m H e fun p H'=>cM p fun b=>Q (.bool (!b)) H'):Ev g n env m H (.UnaryOp .Not e pos) Q:=fun A s R S F=>by
 refine UnaryOp_ (h.then R S F fun u s₁ p H₁ ru aT7 aT8 aU1 k=>?_)
 unfold unaryOp
 refine z7 ?_
 show wpAny _ _ (do return Value.bool (!(<- truthy u))) _ _ _
 exact c7 (je ru k fun b t q=>j4 ⟨.bool (!b),H₁,rfl,aT7.tok t,aT8,q⟩)
theorem Ev.av8{e:PySem.Expr}{pos:Pos}{Q:PV->AH->Prop}(h:Ev g n env m H e Q):Ev g n env m H (.BoolOp .And [e] pos) Q:=fun A s R S F=>BoolOp_one (h A s R S F)
theorem Ev.or1{e:PySem.Expr}{pos:Pos}{Q:PV->AH->Prop}(h:Ev g n env m H e Q):Ev g n env m H (.BoolOp .Or [e] pos) Q:=fun A s R S F=>BoolOp_one (h A s R S F)
theorem Ev.av9{e e2:PySem.Expr}{es:List PySem.Expr}{pos:Pos}{Q:PV->AH->Prop}(h:Ev g n env m H e fun p H'=>cM p fun b=>if b then Ev g n env m H' (.BoolOp .And (e2::es) pos) Q else Q p H'):Ev g n env m H (.BoolOp .And (e::e2::es) pos) Q:=fun A s R S F=>by
 refine BoolOp_and (h.then R S F fun u s₁ p H₁ ru aT7 aT8 aU1 k=>je ru k fun b t q=>?_)
 cases b with
 |false=>exact⟨p,H₁,ru,aT7.tok t,aT8,q⟩
 |true=>exact aX.calm (s₁:={s₁ with toks:=t}) aT8 (q A {s₁ with toks:=t} R (aT7.tok t) aU1)
theorem Ev.orS{e e2:PySem.Expr}{es:List PySem.Expr}{pos:Pos}{Q:PV->AH->Prop}(h:Ev g n env m H e fun p H'=>cM p fun b=>if b then Q p H' else Ev g n env m H' (.BoolOp .Or (e2::es) pos) Q):Ev g n env m H (.BoolOp .Or (e::e2::es) pos) Q:=fun A s R S F=>by
 refine BoolOp_or (h.then R S F fun u s₁ p H₁ ru aT7 aT8 aU1 k=>je ru k fun b t q=>?_)
 cases b with
 |true=>exact⟨p,H₁,ru,aT7.tok t,aT8,q⟩
 |false=>exact aX.calm (s₁:={s₁ with toks:=t}) aT8 (q A {s₁ with toks:=t} R (aT7.tok t) aU1)
end
theorem Ma(b n:Nat)(hb:b<=n):Builtin.Slice.sliceAdjust none (some (b:Int)) 1 (n:Int)=(0,(b:Int)):=by
 unfold Builtin.Slice.sliceAdjust
 have h1:¬((1:Int)<0):=by lia
 have h2:¬((b:Int)<0):=by lia
 simp only [h1,h2,if_false]
 congr 1
 lia
theorem Mf(b:Nat):Builtin.Slice.slicePlaces 0 (b:Int) 1=b:=by
 unfold Builtin.Slice.slicePlaces
 have h1:(1:Int) > 0:=by exact Int.le_refl _
 simp only [h1,if_true,Int.ediv_one]
 split<;>lia
theorem aM{α β:Type}{f k:α->Option β}:∀{l:List α},(∀x∈l,f x=k x)->l.filterMap f=l.filterMap k
 | [],_=>rfl
 |x::l,h=>by rw [List.filterMap_cons,List.filterMap_cons,h x (.head _),aM fun y hy=>h y (.tail _ hy)]
theorem Pn(items:Array Value):slicePick items none none (some (-1))=items.reverse:=by
 have hb:sliceBounds none none (some (-1)) items.size=((items.size:Int)-1,-1,-1):=by
  unfold sliceBounds
  simp
 unfold slicePick
 rw [hb]
 dsimp only
 have hr:sliceRange ((items.size:Int)-1) (-1) (-1)=(List.range items.size).map fun k=>items.size-1-k:=by
  unfold sliceRange
  have h1:¬((-1:Int) > 0):=by lia
  rw [if_neg h1]
  have hc:(if(items.size:Int)-1 > -1 then((items.size:Int)-1 - -1 - -1-1) / (- -1) else 0).toNat=items.size:=by
   split
   ·have:(- -1:Int)=1:=by lia
    rw [this,Int.ediv_one];lia
   ·lia
  dsimp only
  rw [hc]
  refine List.map_congr_left fun k hk=>?_
  have:=List.mem_range.mp hk
  lia
 rw [hr,List.filterMap_map]
 have e:=pick_run items.reverse 0 items.size
 rw [List.filterMap_map] at e
 have e2:(List.range items.size).filterMap ((fun x=>items[x]?) ∘ fun k=>items.size-1-k)=(List.range items.size).filterMap ((fun x=>items.reverse[x]?) ∘ fun x=>0+x):=by
  refine aM fun k hk=>?_
  have hk':=List.mem_range.mp hk
  simp only [Function.comp_apply,z6]
  rw [Array.getElem?_reverse (by simpa using hk')]
 rw [e2,e,List.drop_zero,List.take_of_length_le (by simp)]
section
variable{τ:T}{g:G τ}{n:Nat}{env:Env}{m:Loc}{H:AH}{Q:PV->AH->Prop}{A:Around}{s:Shared}
theorem rH{sl:Addr}{b k:Nat}{u:Tok}{P:Int×Int×Nat->Shared->Prop}{E:Value->Shared->Prop}(hs:s.heap.IsSliceOf sl .none (.int b u) .none)(hb:b<=k)(h:P (0,1,b) s):
  wpAny (model g.prog g.w) A (Builtin.Slice.sliceApplied (.ref sl) (pure (k:Int))) P E s:=by
 obtain⟨os,hos,hcs,hds⟩:=id hs
 unfold Builtin.Slice.sliceApplied Builtin.Slice.sliceFields
 refine c7 (c7 (wpAny_field hos hds (x:=.none) rfl (c7 (wpAny_field hos hds (x:=.int b u) rfl (c7 (wpAny_field hos hds (x:=.none) rfl (j4 ?_)))))))
 refine c7 (slicePart_none ?_)
 show wpAny _ _ (if((1:Int)==0)=true then _ else _) _ _ s
 rw [if_neg (by decide)]
 refine c7 (slicePart_none (c7 (slicePart_int (c7 (j4 ?_)))))
 show wpAny _ _ (match Builtin.Slice.sliceAdjust none (some (b:Int)) 1 (k:Int) with|(lo,hi)=>pure (lo,(1:Int),Builtin.Slice.slicePlaces lo hi 1)) _ _ s
 rw [Ma b k hb]
 show wpAny _ _ (pure (0,(1:Int),Builtin.Slice.slicePlaces 0 (b:Int) 1)) _ _ s
 rw [Mf]
 exact j4 h
theorem pI{t sl:Addr}{items:Array Value}{b:Nat}{u:Tok}{P:Value->Shared->Prop}{E:Value->Shared->Prop}(ht:IsTup s.heap t items)(hs:s.heap.IsSliceOf sl .none (.int b u) .none)(hb:b<items.size)
  (h:P (.ref s.heap.objs.size) {s with heap:=s.heap.push {cls:=.type "tuple",data:=.seq (items.toList.take b).toArray}})
  (hsz:items.size<=sizeLine):wpAny (model g.prog g.w) A (getItem (.ref t) (.ref sl)) P E s:=by
 have hdrop:sizeOk (.seq (items.toList.take b).toArray):=by
  show(items.toList.take b).toArray.size<=sizeLine
  rw [n6,List.length_take,Array.length_toList]
  lia
 obtain⟨os,hos,hcs,hds⟩:=id hs
 have hTs:s.TypeIs (.ref sl) "slice" := ⟨os,hos,hcs⟩
 unfold getItem
 try with_reducible refine z7 ?_
 first|refine c7 (j4 ?_)|skip
 refine c7 (wpAny_sequenceKey ht.typeIs (by decide) ?_)
 refine c7 (wpAny_callSpecial?_slot (name:=Str.ofString "__getitem__") ht.typeIs slot_tuple_getitem
  (wpAny_call_entry slot_tuple_getitem ht.typeIs entry_tuple_getitem ?_ (args_tuple_getitem _ _)))
 show wpAny _ _ (Builtin.Tuple.tupleItemsOf (.ref t) >>= _) _ _ s
 refine c7 (tupleItemsOf_ ht ?_)
 refine c7 (wpAny_typeOf hTs ?_)
 rw [if_pos (by decide)]
 refine c7 (rH hs (Nat.le_of_lt hb) ?_)
 have hno:¬(((0:Int)==0&&(1:Int)==1&&b==items.size)=true):=by
  have:(b==items.size)=false:=by rw [s8];exact Nat.ne_of_lt ‹_›
  rw [this];simp
 show wpAny _ _ (if((0:Int)==0&&(1:Int)==1&&b==items.size)=true then _ else _) _ _ s
 have pk:((List.range b).filterMap fun(k:Nat)=>items[((0:Int)+(k:Int)*1).toNat]?).toArray=(items.toList.take b).toArray:=by
  have e:(fun(k:Nat)=>items[((0:Int)+(k:Int)*1).toNat]?)=fun k=>items[0+k]? := by
   funext k
   have:((0:Int)+(k:Int)*1).toNat=0+k:=by exact Nat.add_comm ..
   rw [this]
  rw [e]
  have:=pick_run items 0 b
  rw [List.filterMap_map] at this
  have e2:((fun x=>items[x]?) ∘ fun x=>0+x)=fun k=>items[0+k]? := rfl
  rw [e2] at this
  rw [this,List.drop_zero]
 rw [if_neg hno,pk]
 first
  |exact c7 (m:=Builtin.Tuple.tupleExact _) (wpAny_newObj_type (j4 ⟨_,rfl,j4 h⟩) hdrop)
  |exact c7 (m:=Builtin.Tuple.tupleExact _) (wpAny_newObj_type (c7 (j4 (j4 ⟨_,rfl,j4 h⟩))) hdrop)
  |exact c7 (c7 (m:=Builtin.Tuple.tupleExact _) (wpAny_newObj_type (j4 (j4 ⟨_,rfl,j4 h⟩)) hdrop))
  |exact c7 (c7 (m:=Builtin.Tuple.tupleExact _) (wpAny_newObj_type (j4 ⟨_,rfl,j4 h⟩) hdrop))
noncomputable def SlP(from_:Bool)(p:PV)(i:Int)(H:AH)(Q:PV->AH->Prop):Prop:=
 match p with
 |.tup l=>if from_ then(1<=i/\i<=l.length/\l.length<=sizeLine)/\Q (.tup (l.drop i.toNat)) H else(0<=i/\i<l.length/\l.length<=sizeLine)/\Q (.tup (l.take i.toNat)) H
 |p=>match Q6 H p with
  |some l=>l.length<=sizeLine/\(if from_ then 0<=i/\Q (.lst (l.drop i.toNat)) H else if 0<=i then Q (.lst (l.take i.toNat)) H else Q (.lst (l.take (l.length-(-i).toNat))) H)
  |none=>False
theorem lD{x:Obj}(S:M4 g s H):M4 g {s with heap:=s.heap.push x} H/\Calm s.heap H (s.heap.push x) H:=⟨S.push x s.toks,Calm.push ..⟩
theorem fK{p:PV}{l:List PV}{u vl vu vs:Value}{lo hi st:Option Int}{l':List PV}{value slice:PySem.Expr}(S:M4 g s H)(ru:Rep g.tab s.heap H p u)(e:Q6 H p=some l)(hz:l.length<=sizeLine)
  (pl:IsPart vl lo) (pu:IsPart vu hi) (ps:IsPart vs st) (h0:st≠some 0)
  (hp:∀{vs:List Value} {h:Heap},K4 g.tab h H l vs->∃ws,slicePick vs.toArray lo hi st=ws.toArray/\K4 g.tab h H l' ws) (q:Q (.lst l') H):
  wpAny (model g.prog g.w) A (subscriptTail value slice u (.ref s.heap.objs.size)) (aX g s H Q) (fun O O=>False) {s with heap:=s.heap.push {cls:=.type "slice",data:=.fields #[vl,vu,vs]}}:=by
 obtain⟨S',c⟩:=lD (x:={cls:=.type "slice",data:=.fields #[vl,vu,vs]}) S
 obtain⟨a,ws,k,rfl,o,rl⟩:=aA (h:=s.heap) S ru (P0 e)
 obtain⟨zs,e1,rz⟩:=hp (rl.keeps c.M5)
 have hl:Heap.IsList (s.heap.push {cls:=.type "slice",data:=.fields #[vl,vu,vs]}) a ws.toArray:=⟨_,j5 _ o,rfl,_,rfl⟩
 refine aX.calm (s₁:={s with heap:=s.heap.push {cls:=.type "slice",data:=.fields #[vl,vu,vs]}}) c ?_
 refine bQ (s:={s with heap:=s.heap.push {cls:=.type "slice",data:=.fields #[vl,vu,vs]}}) hl.typeIs slot_list_getitem.lookup (wpAny_getItem_list_slice hl (Heap.IsSliceOf.new ..) pl pu ps h0 ?_ (by rw [n6,rl.length];exact hz))
 rw [e1]
 exact pH (s:={s with heap:=s.heap.push {cls:=.type "slice",data:=.fields #[vl,vu,vs]}}) S' rz q
set_option tactic.hygienic true in
theorem Ev.ZG{a b:PySem.Expr}{p pos:Pos}{Q:PV->AH->Prop}(hg:N6 g)(h:Ev g n env m H a fun p H₁=>Ev g n env m H₁ b fun q aT5=>match q with | .int i=>SlP true p i aT5 Q|_=>False):Ev g n env m H (.Subscript a (.Slice (some b) none none p) pos) Q:=fun A s R S F=>by
 refine Subscript_ (h.then R S F fun u s₁ p H₁ ru aT7 aT8 aU1 k=>wpAny_Slice (Ev.then k R aT7 aU1 fun v aU0 q aT5 rv aT6 aT9 aU8 k=>?_))
 rw [evalPart_none]
 refine j4 (j4 ?_)
 refine j6 (Q:=aX g aU0 aT5 Q) (E:=fun O O=>False) ?_ (fun O O x=>x.step (aT8.trans aT9)) fun O O x=>x
 split at k
 ·next i=>
  obtain⟨t,rfl⟩:=rv
  have ru:=ru.keeps aT9.M5
  unfold SlP at k
  split at k
  ·next l=>
   rw [if_pos rfl] at k
   obtain⟨⟨h1,h2,h3⟩,q⟩:=k
   obtain⟨a,vs,j,rfl,o,rl⟩:=ru
   obtain⟨S',c⟩:=lD (x:={cls:=.type "slice",data:=.fields #[.int i t,.none,.none]}) aT6
   have hT:IsTup (aU0.heap.push {cls:=.type "slice",data:=.fields #[.int i t,.none,.none]}) a vs.toArray:=⟨_,j5 _ o,rfl,_,rfl⟩
   have ei:(i.toNat:Int)=i:=by lia
   refine aX.calm (s₁:={aU0 with heap:=aU0.heap.push {cls:=.type "slice",data:=.fields #[.int i t,.none,.none]}}) c ?_
   refine bQ (s:={aU0 with heap:=aU0.heap.push {cls:=.type "slice",data:=.fields #[.int i t,.none,.none]}}) hT.typeIs slot_tuple_getitem.lookup (getItem_tuple_from (a:=i.toNat) (u:=t) hT (by rw [ei];exact Heap.IsSliceOf.new ..) (by lia) (by rw [n6,rl.length];lia) ?_ (by rw [n6,rl.length];exact h3))
   exact gG (s:={aU0 with heap:=aU0.heap.push {cls:=.type "slice",data:=.fields #[.int i t,.none,.none]}}) (p:=.tup (List.drop i.toNat _)) S' ⟨_,_,0,rfl,s6 _ rfl,((rl.drop i.toNat).keeps c.M5).keeps (Calm.push ..).M5⟩ q
  ·next p _=>
   split at k
   ·next l e=>
    obtain⟨hz,k⟩:=k
    rw [if_pos rfl] at k
    refine fK aT6 ru e hz (.int i t) .none .none (by simp) (fun{vs h} r=>?_) k.2
    have ei:(i.toNat:Int)=i:=by lia
    refine⟨vs.drop i.toNat,?_,r.drop _⟩
    have:=slicePick_from' vs.toArray i.toNat
    rw [ei] at this
    rw [this]
   ·exact k.elim
 ·exact k.elim
set_option tactic.hygienic true in
theorem Ev.aw0{a b:PySem.Expr}{p pos:Pos}{Q:PV->AH->Prop}(hg:N6 g)(h:Ev g n env m H a fun p H₁=>Ev g n env m H₁ b fun q aT5=>match q with | .int i=>SlP false p i aT5 Q|_=>False):Ev g n env m H (.Subscript a (.Slice none (some b) none p) pos) Q:=fun A s R S F=>by
 refine Subscript_ (h.then R S F fun u s₁ p H₁ ru aT7 aT8 aU1 k=>wpAny_Slice ?_)
 rw [evalPart_none]
 refine j4 (Ev.then k R aT7 aU1 fun v aU0 q aT5 rv aT6 aT9 aU8 k=>?_)
 refine j4 ?_
 refine j6 (Q:=aX g aU0 aT5 Q) (E:=fun O O=>False) ?_ (fun O O x=>x.step (aT8.trans aT9)) fun O O x=>x
 split at k
 ·next i=>
  obtain⟨t,rfl⟩:=rv
  have ru:=ru.keeps aT9.M5
  unfold SlP at k
  split at k
  ·next l=>
   rw [if_neg (by simp)] at k
   obtain⟨⟨h1,h2,h3⟩,q⟩:=k
   obtain⟨a,vs,j,rfl,o,rl⟩:=ru
   obtain⟨S',c⟩:=lD (x:={cls:=.type "slice",data:=.fields #[.none,.int i t,.none]}) aT6
   have hT:IsTup (aU0.heap.push {cls:=.type "slice",data:=.fields #[.none,.int i t,.none]}) a vs.toArray:=⟨_,j5 _ o,rfl,_,rfl⟩
   have ei:(i.toNat:Int)=i:=by lia
   refine aX.calm (s₁:={aU0 with heap:=aU0.heap.push {cls:=.type "slice",data:=.fields #[.none,.int i t,.none]}}) c ?_
   refine bQ (s:={aU0 with heap:=aU0.heap.push {cls:=.type "slice",data:=.fields #[.none,.int i t,.none]}}) hT.typeIs slot_tuple_getitem.lookup (pI (b:=i.toNat) (u:=t) hT (by rw [ei];exact Heap.IsSliceOf.new ..) (by rw [n6,rl.length];lia) ?_ (by rw [n6,rl.length];exact h3))
   exact gG (s:={aU0 with heap:=aU0.heap.push {cls:=.type "slice",data:=.fields #[.none,.int i t,.none]}}) (p:=.tup (List.take i.toNat _)) S' ⟨_,_,0,rfl,s6 _ rfl,((rl.take i.toNat).keeps c.M5).keeps (Calm.push ..).M5⟩ q
  ·next p _=>
   split at k
   ·next l e=>
    obtain⟨hz,k⟩:=k
    rw [if_neg (by simp)] at k
    by_cases hi:0<=i
    ·rw [if_pos hi] at k
     refine fK aT6 ru e hz .none (.int i t) .none (by simp) (fun{vs h} r=>?_) k
     have ei:(i.toNat:Int)=i:=by lia
     refine⟨vs.take i.toNat,?_,r.take _⟩
     have:=slicePick_upto' vs.toArray i.toNat
     rw [ei] at this
     rw [this]
    ·rw [if_neg hi] at k
     refine fK aT6 ru e hz .none (.int i t) .none (by simp) (fun{vs h} r=>?_) k
     have ei : -((-i).toNat:Int)=i:=by lia
     refine⟨vs.take (l.length-(-i).toNat),?_,r.take _⟩
     have:=slicePick_butLast vs.toArray (-i).toNat (by lia)
     rw [ei] at this
     rw [this,n6,r.length]
   ·exact k.elim
 ·exact k.elim
theorem Ev.ak7{a b:PySem.Expr}{p pos:Pos}{Q:PV->AH->Prop}(hg:N6 g)(h:Ev g n env m H a fun p H₁=>Ev g n env m H₁ b fun q aT5=>q = .int (-1)/\match Q6 aT5 p with|some l=>l.length<=sizeLine/\Q (.lst l.reverse) aT5|none=>False):Ev g n env m H (.Subscript a (.Slice none none (some b) p) pos) Q:=fun A s R S F=>by
 refine Subscript_ (h.then R S F fun u s₁ p H₁ ru aT7 aT8 aU1 k=>wpAny_Slice ?_)
 rw [evalPart_none]
 refine j4 (j4 (Ev.then k R aT7 aU1 fun v aU0 q aT5 rv aT6 aT9 aU8 k=>?_))
 refine j6 (Q:=aX g aU0 aT5 Q) (E:=fun O O=>False) ?_ (fun O O x=>x.step (aT8.trans aT9)) fun O O x=>x
 obtain⟨rfl,k⟩:=k
 obtain⟨t,rfl⟩:=rv
 split at k
 ·next l e=>
  refine fK aT6 (ru.keeps aT9.M5) e k.1 .none .none (.int (-1) t) (by simp) (fun{vs h} r=>⟨vs.reverse,?_,r.reverse⟩) k.2
  rw [Pn];simp
 ·exact k.elim
end
section
variable{τ:T}{g:G τ}{n:Nat}{env:Env}{m:Loc}{H:AH}{Q:PV->AH->Prop}{A:Around}{s:Shared}
theorem M4.kept{h':Heap}(S:M4 g s H)(k:∀b o,s.heap.get? b=some o->h'.get? b=some o)(t:Nat):M4 g {s with heap:=h',toks:=t} H/\Calm s.heap H h' H:=by
 have P:T7 s.heap H h' H:=⟨fun b o O O e O O=>k b o e,fun b o O O e O O q=>⟨k b o e,q⟩,fun b o O e O O=>k b o e⟩
 exact⟨⟨fun b o e=>k b o (S.keep b o e),S.fresh,fun a o e=>(S.obj a o e).keeps P fun x z=>k _ _ z,S.gens,S.os⟩,fun b o e O O=>k b o e,fun O a b=>absurd a b,fun b o e=>⟨o,k b o e⟩,P⟩
theorem mV{h':Heap}{a:Addr}{l l':List PV}{vs':List Value}{k:Nat}(S:M4 g s H)(e:H a=some (.list l))(B:Heap.SameBut a s.heap h')(ho:h'.get? a=some (zJ vs' k))(r:K4 g.tab s.heap H l' vs')(t:Nat):
  M4 g {s with heap:=h',toks:=t} (upd H a (.list l'))/\Calm s.heap H h' (upd H a (.list l')):=
 S.turn (o':=.list l') e B ⟨vs',k,ho,r.keeps (aL S e B)⟩ t
theorem Pq{h':Heap}{H':AH}{t:Nat}(S:M4 g {s with heap:=h',toks:=t} H')(c:Calm s.heap H h' H')(q:Q .none H'):aX g s H Q .none {s with heap:=h',toks:=t}:=⟨.none,H',rfl,S,c,q⟩
theorem Q0{a:Addr}{l:List PV}{p:PV}(e:H a=some (.list l))(hz:l.length<=sizeLine)(q:Q .none (upd H a (.list (l++[p])))):Cl g n (.blt "list.append") [.obj a,p] H Q:=.b2 fun A s v1 v2 R S h1 h2=>by
 cases h1
 obtain⟨ws,k,o,tR⟩:=S.obj _ _ e
 refine call_meets (self:=.ref a) (rest:=[v2]) PySem.F.slot_list_append (⟨_,o,rfl⟩:s.TypeIs (.ref a) "list") PySem.F.entry_list_append (PySem.F.args_list_append_2 _ _) (list_append a ws.toArray k v2 (by rw [n6,tR.length];exact hz)) ⟨o,?_⟩
 have hu:=Heap.get?_update_self (Obj.mapSeq fun x=>x.push v2) o rfl
 obtain⟨S',c⟩:=mV (l':=l++[p]) (vs':=ws++[v2]) S e (I6 ..) (by
  rw [hu]
  simp only [Obj.mapSeq,List.push_toArray]
  rfl) (tR.append (.one h2)) s.toks
 exact Pq S' c q
theorem cD{a:Addr}{l k:List PV}{p:PV}(e:H a=some (.list l))(ep:p = .tup k\/Q6 H p=some k)(hz:l.length+k.length<=sizeLine)(q:Q .none (upd H a (.list (l++k)))):Cl g n (.blt "list.extend") [.obj a,p] H Q:=.b2 fun A s v1 v2 R S h1 h2=>by
 cases h1
 obtain⟨ws,j,o,tR⟩:=S.obj _ _ e
 have e1:ws.toArray.size=l.length:=by rw [n6,tR.length]
 have fin:∀(b:Addr) (zs:List Value),v2 = .ref b->K4 g.tab s.heap H k zs->aX g s H Q .none {s with heap:=s.heap.update a (Obj.mapSeq fun x=>x++zs.toArray)}:=by
  intro b zs _ rz
  have hu:=Heap.get?_update_self (Obj.mapSeq fun x=>x++zs.toArray) o rfl
  obtain⟨S',c⟩:=mV (l':=l++k) (vs':=ws++zs) S e (I6 ..) (by
   rw [hu]
   simp only [Obj.mapSeq,List.append_toArray]
   rfl) (tR.append rz) s.toks
  exact Pq S' c q
 have d1:∀zs:List Value,zs.length=k.length->¬(!ws.toArray.isEmpty&&Builtin.List.listTooLong (ws.toArray.size+zs.toArray.size))=true:=fun zs ez=>by
  have:Builtin.List.listTooLong (ws.toArray.size+zs.toArray.size)=false:=by
   unfold Builtin.List.listTooLong;rw [decide_eq_false_iff_not,e1,n6,ez];exact Nat.not_lt.mpr ‹_›
  rw [this];simp
 rcases ep with rfl|ep
 ·obtain⟨b,zs,i,rfl,o2,rz⟩:=h2
  have ez:zs.toArray.size=k.length:=by rw [n6,rz.length]
  exact call_meets (self:=.ref a) (rest:=[.ref b]) PySem.F.slot_list_extend (⟨_,o,rfl⟩:s.TypeIs (.ref a) "list") PySem.F.entry_list_extend (PySem.F.args_list_extend_2 _ _)
   (AutoSeq1.list_extend_list_tuple_0 a ws.toArray j b zs.toArray i (d1 zs rz.length) (by lia) (by lia)) ⟨o,o2,fin b zs rfl rz⟩
 ·obtain⟨b,zs,i,rfl,o2,rz⟩:=aA (h:=s.heap) S h2 (P0 ep)
  have ez:zs.toArray.size=k.length:=by rw [n6,rz.length]
  exact call_meets (self:=.ref a) (rest:=[.ref b]) PySem.F.slot_list_extend (⟨_,o,rfl⟩:s.TypeIs (.ref a) "list") PySem.F.entry_list_extend (PySem.F.args_list_extend_2 _ _)
   (AutoSeq1.list_extend_list_list_0 a ws.toArray j b zs.toArray i (d1 zs rz.length) (by lia) (by lia)) ⟨o,o2,fin b zs rfl rz⟩
theorem tU{a:Addr}{l:List PV}{p:PV}(e:H a=some (.list (l++[p]))) (hz:l.length+1<=sizeLine) (q:Q p (upd H a (.list l))):Cl g n (.blt "list.pop") [.obj a] H Q:=.b1 fun A s v1 R S h1=>by
 cases h1
 obtain⟨ws,j,o,tR⟩:=S.obj _ _ e
 have el:=tR.length
 rw [d7,I4] at el
 obtain⟨y,hy,ry⟩:=tR.get (k:=l.length) (p:=p) (by simp)
 have e1:ws.toArray.size=l.length+1:=by rw [n6,el]
 refine call_meets (self:=.ref a) (rest:=[]) PySem.F.slot_list_pop (⟨_,o,rfl⟩:s.TypeIs (.ref a) "list") PySem.F.entry_list_pop (PySem.F.args_list_pop_1 _) (MeetsSeq.list_pop_last a ws.toArray j y (by rw [e1];simpa using hy) (by lia)) ⟨o,?_⟩
 have hu:=Heap.get?_update_self (Obj.mapSeq fun xs=>xs.eraseIdxIfInBounds (ws.toArray.size-1)) o rfl
 have ee:ws.toArray.eraseIdxIfInBounds (ws.toArray.size-1)=(ws.take l.length).toArray:=by
  rw [e1]
  simp only [Nat.add_sub_cancel,List.eraseIdxIfInBounds_toArray]
  rw [List.eraseIdx_eq_take_drop_succ,List.drop_of_length_le (by lia),s7]
 have rt:=tR.take l.length
 rw [List.take_left'] at rt
 ·obtain⟨S',c⟩:=mV (l':=l) (vs':=ws.take l.length) S e (I6 ..) (by
   rw [hu]
   simp only [Obj.mapSeq,ee]
   rfl) rt s.toks
  exact⟨p,_,ry.keeps c.M5,S',c,q⟩
 ·rfl
noncomputable def ZJ(p:PV)(H:AH):Option Nat:=
 match p with
 |.tup l=>some l.length
 |.rng a b=>some (b-a).toNat
 |p=>(Q6 H p).map List.length
theorem JB{i:Int}{t k:Nat}{p:Prop}(S:M4 g s H)(q:Q (.int i) H):aX g s H Q (.int i t) {s with toks:=k}:=M8 (p:=.int i) S ⟨_,rfl⟩ q k
theorem lE(a b:Int):Builtin.Range.rangeSize a b 1=((b-a).toNat:Int):=PyProof.Rows.rangeSize_nat a b
theorem Pu{p:PV}{k:Nat}(e:ZJ p H=some k):(∃l,p = .tup l/\l.length=k)\/(∃a b,p = .rng a b/\(b-a).toNat=k)\/∃l,Q6 H p=some l/\l.length=k:=by
 cases p with
 |tup l=>exact .inl ⟨l,rfl,G6 e⟩
 |rng a b=>exact .inr (.inl ⟨a,b,rfl,G6 e⟩)
 |lst l=>exact .inr (.inr ⟨l,rfl,G6 e⟩)
 |obj a=>exact .inr (.inr (z9.mp e))
 |_=>cases e
theorem S5{p:PV}{k:Nat}(e:ZJ p H=some k)(hz:k<2 ^ 62)(q:Q (.int k) H):Cl g n (.blt "len") [p] H Q:=.b1 fun A s v1 R S h1=>by
 rcases Pu e with⟨l,rfl,rfl⟩|⟨a,b,rfl,rfl⟩|⟨l,el,rfl⟩
 ·obtain⟨a,ws,j,rfl,o,tR⟩:=h1
  have e1:ws.toArray.size=l.length:=by rw [n6,tR.length]
  exact len_tuple (⟨_,o,rfl,_,rfl⟩:IsTup s.heap a ws.toArray) (by rw [e1];lia) (e1▸JB (p:=True) S q)
 ·obtain⟨c,t,u,x,rfl,o⟩:=h1
  exact call_len_range o (lE a b) (by lia) (JB (p:=True) S q)
 ·obtain⟨a,ws,j,rfl,o,tR⟩:=aA (h:=s.heap) S h1 (P0 el)
  have e1:ws.toArray.size=l.length:=by rw [n6,tR.length]
  exact call_len_list (⟨_,o,rfl,_,rfl⟩:s.heap.IsList a ws.toArray) (by rw [e1];lia) (e1▸JB (p:=True) S q)
theorem ZK{p:PV}{k:List PV}{v:Value}(S:M4 g s H)(r:Rep g.tab s.heap H p v)(e:p = .tup k\/Q6 H p=some k):∃(b:Addr) (ob:Obj) (zs:List Value) (i:Nat) (T:String),(T = "list"\/T = "tuple")/\v = .ref b/\s.heap.get? b=some ob/\ob.cls = .type T/\ob.data = .seq zs.toArray i/\K4 g.tab s.heap H k zs:=by
 rcases e with rfl|e
 ·obtain⟨b,zs,i,rfl,o,rz⟩:=r;exact⟨b,_,zs,i,"tuple",.inr rfl,rfl,o,rfl,rfl,rz⟩
 ·obtain⟨b,zs,i,rfl,o,rz⟩:=aA (h:=s.heap) S r (P0 e);exact⟨b,_,zs,i,"list",.inl rfl,rfl,o,rfl,rfl,rz⟩
theorem JC{h':Heap}{c:Nat}{vs:List Value}{l:List PV}{t:Nat}(S:M4 g s H)(k:∀b o,s.heap.get? b=some o->h'.get? b=some o)(e:h'.get? s.heap.objs.size=some (zJ vs c))(r:K4 g.tab s.heap H l vs):
  (Q (.lst l) H->aX g s H Q (.ref s.heap.objs.size) {s with heap:=h',toks:=t})/\((∀a,H a=none->Q (.obj a) (upd H a (.list l)))->aX g s H Q (.ref s.heap.objs.size) {s with heap:=h',toks:=t}):=by
 obtain⟨S',c'⟩:=S.kept k t
 refine⟨fun q=>⟨.lst l,H,⟨_,vs,c,rfl,e,untracked S,r.keeps c'.M5⟩,S',c',q⟩,fun q=>?_⟩
 have un:=untracked S
 have ne:∀b o,s.heap.get? b=some o->b≠s.heap.objs.size:=fun b o z w=>Nat.lt_irrefl _ (w▸G8 z)
 have P:T7 s.heap H h' (upd H s.heap.objs.size (.list l)):=⟨fun b o O O e O O=>k b o e,fun b o O O e O O q=>⟨k b o e,by rw [w5 (ne b o e)];exact q⟩,fun b o O e O O=>k b o e⟩
 have C:Calm s.heap H h' (upd H s.heap.objs.size (.list l)):=⟨fun b o e O O=>k b o e,fun b a z=>by
  by_cases w:b=s.heap.objs.size
  ·rw [w];cases y:s.heap.get? s.heap.objs.size with
   |none=>rfl
   |some o=>exact absurd rfl (ne _ o y)
  ·rw [w5 w] at z;exact absurd a z,fun b o e=>⟨o,k b o e⟩,P⟩
 refine⟨.obj _,_,rfl,⟨fun b o e=>k b o (S.keep b o e),fun a z=>?_,fun a o z=>?_,S.gens,S.os⟩,C,q _ un⟩
 ·by_cases w:a=s.heap.objs.size
  ·rw [w];cases y:g.h₀.get? s.heap.objs.size with
   |none=>rfl
   |some o=>exact absurd rfl (ne _ o (S.keep _ _ y))
  ·rw [w5 w] at z;exact S.fresh a z
 ·by_cases w:a=s.heap.objs.size
  ·subst w;rw [p8] at z;cases z;exact⟨vs,c,e,r.keeps P⟩
  ·rw [w5 w] at z;exact(S.obj a o z).keeps P fun O y=>k _ _ y
theorem zY{p:PV}{k:List PV}(e:p = .tup k\/Q6 H p=some k)(hz:k.length<=sizeLine)(q:Q (.lst k) H\/∀a,H a=none->Q (.obj a) (upd H a (.list k))):Cl g n (.typ "list") [p] H Q:=.t1 fun A s v1 R S h1=>by
 obtain⟨b,ob,zs,i,T,hT,rfl,ho,hc,hd,rz⟩:=ZK S h1 e
 refine call_list_seq b hT ho hc hd (fun h' c' kp e'=>?_) (by rw [n6,rz.length];exact hz)
 have z:=JC (Q:=Q) (t:=s.toks) S kp e' rz
 exact q.elim z.1 z.2
noncomputable def S6(a:Int):Nat->List PV
 |0=>[]
 |k+1=>.int a::S6 (a+1) k
theorem aQ(k:Nat):∀a,(S6 a k).length=k:=by
 induction k with
 |zero=>intro a;rfl
 |succ k ih=>intro a;rw [S6,m8,ih]
theorem tV(k:Nat):∀(a:Int) (j:Nat),j<k->(S6 a k)[j]? = some (.int (a+j)):=by
 induction k with
 |zero=>intro a j h;exact absurd ‹_› (Nat.not_lt_zero _)
 |succ k ih=>
  intro a j h
  cases j with
  |zero=>rw [S6,List.getElem?_cons_zero];simp
  |succ j=>rw [S6,I3,ih _ _ (by exact J3 ‹_›)];congr 2;lia
theorem JD{h:Heap}{tab:Nat->Str}:∀{l:List PV} {vs:List Value},vs.length=l.length->(∀(j:Nat) (p:PV),l[j]? = some p->∃v,vs[j]? = some v/\Rep tab h H p v)->K4 tab h H l vs
 | [],[],_,_=>rfl
 | [],_::_,e,_=>by simp at e
 |_::_,[],e,_=>by simp at e
 |p::l,v::vs,e,k=>by
  obtain⟨v',hv,r⟩:=k 0 p rfl
  cases hv
  exact⟨v,vs,rfl,r,JD (by simpa using e) fun j q hq=>by
   obtain⟨x,hx,rx⟩:=k (j+1) q (by rw [I3];exact hq)
   exact⟨x,by rw [I3] at hx;exact hx,rx⟩⟩
theorem fM{b:Int}(q:Q (.rng 0 b) H):Cl g n (.typ "range") [.int b] H Q:=.t1 fun A s v1 R S r1=>by
 obtain⟨t,rfl⟩:=r1
 refine call_range_1 ?_
 have c:=Calm.push s.heap H {cls:=.type "range",data:=.fields #[.int 0 s.toks,.int b t,.int 1 (s.toks+1)]}
 exact⟨.rng 0 b,H,⟨_,_,_,_,rfl,s6 _ rfl⟩,S.push _ _,c,q⟩
theorem Mg{a b:Int}(q:Q (.rng a b) H):Cl g n (.typ "range") [.int a,.int b] H Q:=.t2 fun A s v1 v2 R S r1 r2=>by
 obtain⟨t,rfl⟩:=r1
 obtain⟨t',rfl⟩:=r2
 refine call_range_2 ?_
 exact⟨.rng a b,H,⟨_,_,_,_,rfl,s6 _ rfl⟩,S.push _ _,Calm.push ..,q⟩
noncomputable def Hg(a b:Int):Prop := -(2 ^ 60)<=a/\a<2 ^ 60/\ -(2 ^ 60)<=b/\b<2 ^ 60
theorem Hh{a b:Int}(hs:Hg a b)(hz:(b-a).toNat<=2 ^ 24)(q:Q (.lst (S6 a (b-a).toNat)) H\/∀x,H x=none->Q (.obj x) (upd H x (.list (S6 a (b-a).toNat)))):Cl g n (.typ "list") [.rng a b] H Q:=.t1 fun A s v1 R S r1=>by
 obtain⟨c,t,u,x,rfl,o⟩:=r1
 refine call_list_range R.handled o (small_one (by have:=hs.1;lia) (by have:=hs.2.1;lia) (by have:=hs.2.2.1;lia) (by have:=hs.2.2.2;lia)) (lE a b) hz fun h' tk acc' c' kp e' it=>?_
 have rz:K4 g.tab s.heap H (S6 a (b-a).toNat) acc'.toList:=by
  refine JD ?_ fun j p hp=>?_
  ·rw [aQ,Array.length_toList];exact it.1
  ·have hj:j<(b-a).toNat:=by have:=(v8.mp hp).1;rwa [aQ] at this
   rw [tV _ _ _ hj] at hp
   cases hp
   have hj':j<acc'.size:=by rw [it.1];exact hj
   obtain⟨t',e'⟩:=it.2 j _ (Array.getElem?_eq_getElem hj')
   exact⟨_,by rw [Array.getElem?_toList];exact Array.getElem?_eq_getElem hj',t',by rw [e',Int.mul_one]⟩
 have e2:h'.get? s.heap.objs.size=some (zJ acc'.toList c'):=by rw [e']
 have z:=JC (Q:=Q) (t:=tk) S kp e2 rz
 exact q.elim z.1 z.2
end
section
variable{τ:T}{g:G τ}{n:Nat}{env:Env}{m:Loc}{H:AH}{Q:PV->AH->Prop}{A:Around}{s:Shared}
theorem Df{p:PV}{k:List PV}(e:p = .tup k\/Q6 H p=some k)(hz:k.length<=sizeLine)(q:Q (.tup k) H):Cl g n (.typ "tuple") [p] H Q:=.t1 fun A s v1 R S h1=>by
 rcases e with rfl|e
 ·have h1':=h1
  obtain⟨b,zs,i,rfl,o,rz⟩:=h1
  exact call_tuple_tup (⟨_,o,rfl,_,rfl⟩:IsTup s.heap b zs.toArray) (M8 S h1' q s.toks)
 ·obtain⟨b,zs,i,rfl,o,rz⟩:=aA (h:=s.heap) S h1 (P0 e)
  refine call_tuple_list (⟨_,o,rfl,_,rfl⟩:s.heap.IsList b zs.toArray) (fun h' kp=>?_) (by rw [n6,rz.length];exact hz)
  obtain⟨S',c⟩:=S.kept kp s.toks
  exact(gG (s:={s with heap:=h'}) (p:=.tup k) S' ⟨_,zs,0,rfl,s6 _ rfl,(rz.keeps c.M5).keeps (Calm.push ..).M5⟩ q).step c
theorem dM{i:Int}(q:Q (.int i) H):Cl g n (.typ "int") [.int i] H Q:=.t1 fun A s v1 R S h1=>by
 obtain⟨t,rfl⟩:=h1
 exact call_int_int (M8 (p:=.int i) S ⟨_,rfl⟩ q s.toks)
theorem Vm{b:Bool}(q:Q (.int (if b then 1 else 0)) H):Cl g n (.typ "int") [.bool b] H Q:=.t1 fun A s v1 R S h1=>by
 cases h1
 exact call_int_bool (M8 (p:=.int _) S ⟨_,rfl⟩ q _)
theorem ZL{a b:Int}(q:Q (.int (if b > a then b else a)) H):Cl g n (.blt "max") [.int a,.int b] H Q:=.b2 fun A s v1 v2 R S r1 r2=>by
 obtain⟨t,rfl⟩:=r1
 obtain⟨t',rfl⟩:=r2
 refine max_two_ints R.handled fun h' tk kp=>?_
 obtain⟨S',c⟩:=S.kept kp tk
 split
 ·next h=>rw [if_pos h] at q;exact⟨.int b,H,⟨_,rfl⟩,S',c,q⟩
 ·next h=>rw [if_neg h] at q;exact⟨.int a,H,⟨_,rfl⟩,S',c,q⟩
noncomputable def bools:List PV->Option (List Bool)
 | []=>some []
 |.bool b::l=>(bools l).map (b :: ·)
 |_::_=>none
theorem yj:∀{l:List PV} {bs:List Bool},bools l=some bs->l=bs.map .bool
 | [],bs,h=>by cases h;rfl
 |p::l,bs,h=>by
  cases p<;>first|(cases h;done)|skip
  obtain⟨cs,hc,rfl⟩:=z9.mp h
  rw [I7,<- yj hc]
theorem ZM{p:PV}{l:List PV}{bs:List Bool}(e:Q6 H p=some l)(eb:bools l=some bs)(q:Q (.bool (bs.all id)) H):Cl g n (.blt "all") [p] H Q:=.b1 fun A s v1 R S h1=>by
 obtain⟨a,ws,j,rfl,o,tR⟩:=aA (h:=s.heap) S h1 (P0 e)
 have hl:s.heap.IsList a ws.toArray:=⟨_,o,rfl,_,rfl⟩
 have hlt:a<s.heap.objs.size:=G8 o
 refine call_all_walk (wpAny_pyIter_list hl ?_)
 have hb:=yj eb
 have hlen:ws.length=bs.length:=by rw [tR.length,hb,g8]
 have vals:∀i b,bs[i]? = some b->ws[i]? = some (Value.bool b):=fun i b hi=>by
  obtain⟨v,hv,r⟩:=tR.get (k:=i) (p:=.bool b) (by rw [hb,G7,hi];rfl)
  cases r;exact hv
 refine⟨s.heap.objs.size,_,_,_,_,_,fun i=>(bs[i]?).getD true,rfl,Walks.list (A:=A.in1) R.handled s.heap.objs.size a (Nat.ne_of_lt hlt) ws.toArray,⟨⟨_,s6 _ rfl,rfl,rfl⟩,hl.push _⟩,?_,fun h' tk kp=>?_⟩
 ·intro i v s' Q' E' hP hQ
  have hP':ws[i]? = some v:=by simpa using hP
  have hi:i<bs.length:=by rw [<- hlen];exact(v8.mp hP').1
  obtain⟨b,hb'⟩:∃b,bs[i]? = some b:=⟨bs[i],o7 hi⟩
  rw [vals i b hb'] at hP'
  cases hP'
  have hQ':Q' b s':=by simpa [hb'] using hQ
  exact wpAny_truthy_bool hQ'
 ·have kp':∀b o,s.heap.get? b=some o->h'.get? b=some o:=fun b o z=>kp b o (fun hm=>by
   rcases q7.mp hm with w|w
   ·rw [w] at z;exact Nat.lt_irrefl _ (G8 z)
   ·cases w) (j5 _ z)
  obtain⟨S',c⟩:=S.kept kp' tk
  have eq:(List.range ws.toArray.size).all (fun i=>(bs[i]?).getD true)=bs.all id:=by
   rw [n6,hlen,Bool.eq_iff_iff,m9,m9]
   constructor
   ·intro h x hx
    obtain⟨i,hi,rfl⟩:=List.mem_iff_getElem.mp hx
    have:=h i (List.mem_range.mpr hi)
    rw [o7 hi] at this
    exact this
   ·intro h i hi
    have hi':=List.mem_range.mp hi
    rw [o7 hi']
    exact h _ (List.getElem_mem hi')
  rw [eq]
  exact⟨.bool _,H,rfl,S',c,q⟩
noncomputable def BM(T:String)(name:Str)(id:String):Prop:=PlainAttrs T/\Slot T name id/\typeOf (.builtin id)=pure (.type "method_descriptor")/\handedIn (.builtin id)=true
noncomputable def Vn(T:String)(name:Str)(id:String):Bool:=
 (T == "list" && ((name == "append" && id == "list.append")||(name == "extend" && id == "list.extend")||(name == "pop" && id == "list.pop")||(name == "index" && id == "list.index"))) ||
 (T == "dict" && ((name == "get" && id == "dict.get")||(name == "pop" && id == "dict.pop")))
theorem Yx{T:String}{name:Str}{id:String}(h:Vn T name id=true):BM T name id:=by
 unfold Vn at h
 simp only [Bool.or_eq_true,Bool.and_eq_true,beq_iff_eq] at h
 rcases h with⟨rfl,((⟨rfl,rfl⟩|⟨rfl,rfl⟩)|⟨rfl,rfl⟩)|⟨rfl,rfl⟩⟩|⟨rfl,⟨rfl,rfl⟩|⟨rfl,rfl⟩⟩
 ·exact⟨PySem.F.plainAttrs_list,PySem.F.slot_list_append,PySem.F.type_list_append,by decide⟩
 ·exact⟨PySem.F.plainAttrs_list,PySem.F.slot_list_extend,PySem.F.type_list_extend,by decide⟩
 ·exact⟨PySem.F.plainAttrs_list,PySem.F.slot_list_pop,PySem.F.type_list_pop,by decide⟩
 ·exact⟨PySem.F.plainAttrs_list,PySem.F.slot_list_index,PySem.F.type_list_index,by decide⟩
 ·exact⟨PySem.F.plainAttrs_dict,PySem.F.slot_dict_get,PySem.F.type_dict_get,by decide⟩
 ·exact⟨PySem.F.plainAttrs_dict,PySem.F.slot_dict_pop,PySem.F.type_dict_pop,by decide⟩
inductive rI(H:AH):String->PV->Prop
 |list {a:Addr} {l:List PV}:H a=some (.list l)->rI H "list" (.obj a)
 |N5 {a:Addr} {l:List (Int×PV)}:H a=some (.N5 l)->rI H "dict" (.obj a)
 |T9 {a:Addr} {l:List (Nat×PV)}:H a=some (.T9 l)->rI H "dict" (.obj a)
 |Q9 {a:Addr} {l:List ((Int×Int)×PV)}:H a=some (.Q9 l)->rI H "dict" (.obj a)
 |lst {l:List PV}:rI H "list" (.lst l)
theorem ak8{T:String}{p:PV}{v:Value}(S:M4 g s H)(r:Rep g.tab s.heap H p v)(h:rI H T p):s.TypeIs v T/\∀a,v = .ref a->∃ob,s.heap.get? a=some ob/\ob.dict=none:=by
 cases h with
 |list e=>cases r;obtain⟨vs,k,o,_⟩:=S.obj _ _ e;exact⟨⟨_,o,rfl⟩,fun b hb=>by cases hb;exact⟨_,o,rfl⟩⟩
 |N5 e=>cases r;obtain⟨kvs,hd,_⟩:=(KD.int g).rep S e;exact⟨hd.typeIs,hd.mapOf.noDict⟩
 |T9 e=>cases r;obtain⟨kvs,hd,_⟩:=(KD.str g).rep S e;exact⟨hd.typeIs,hd.mapOf.noDict⟩
 |Q9 e=>cases r;obtain⟨xs,hd,_⟩:=S.obj _ _ e;exact⟨hd.typeIs,dictOfH_noDict hd⟩
 |lst=>obtain⟨a,vs,k,rfl,o,_⟩:=r;exact⟨⟨_,o,rfl⟩,fun b hb=>by cases hb;exact⟨_,o,rfl⟩⟩
theorem Ev.S7{o:PySem.Expr}{x:Nat}{T id:String}{es:List PySem.Expr}{apos pos:Pos}{Q:PV->AH->Prop}(hg:N6 g)(hb:qy o)(hbm:BM T (g.tab x) id)(hline:(apos.endLine==pos.line)=true)(hlen:es.length<30)(hs:∀e∈es,au e)
  (h:Ev g n env m H o fun p H₁=>rI H₁ T p/\mJ g n env m H₁ pos es fun l aT5=>Cl g n (.blt id) (p::l) aT5 Q):Ev g n env m H (.Call (.Attribute o (g.tab x) apos) es [] pos) Q:=fun A s R S F=>by
 refine wpAny_Call_method_late (trees:=backTo pos (starEach es env)) (hb _ _) ?_ hline rfl (h.then R S F fun v s' p H' r S' c F' q=>?_)
 ·have:(backTo pos (starEach es env)).all (fun y => !y.1)=true:=by
   have:=noStar (pos:=pos) (env:=env) hs
   rw [List.any_eq_false] at this
   rw [m9]
   intro y hy
   have:=this y hy
   simpa using this
  rw [this]
  show(true&&true&&decide (es.length+0+0<30))=true
  simp [hlen]
 ·obtain⟨b1,b2,b3,b4⟩:=hbm
  obtain⟨t1,t2⟩:=ak8 S' r q.1
  refine⟨T,id,b1,b2,b3,t1,t2,?_⟩
  exact aX.calm c (aY (fl:=[p]) hg R S' F' hs pD (⟨rfl,b4⟩:Rep g.tab s'.heap H' (.blt id) (.builtin id)) (K4.one r) q.2)
end
section
variable{τ:T}{g:G τ}{n:Nat}{env:Env}{m:Loc}{H:AH}{A:Around}{s:Shared}
noncomputable def itemsOf(H:AH):PV->Option (List PV)
 |.tup l=>some l
 |.rng a b=>some (S6 a (b-a).toNat)
 |p=>Q6 H p
noncomputable def Dg:PV->Prop
 |.rng a b=>Hg a b
 |_=>True
noncomputable def Yy(p:PV)(k:Prop):Prop:=match p with
 |.rng a b=>Hg a b/\k
 |_=>k
theorem Yy.src{p:PV}{k:Prop}(h:Yy p k):Dg p/\k:=by cases p<;>first|exact h|exact⟨trivial,h⟩
inductive aw1(I:Addr)(k:Nat)(h:Heap)(R:List Value->Prop):Prop
 |mk (t:Addr) (vs:List Value) (j:Nat) (i:IsTupIter h I t k) (o:h.get? t=some (zH vs j)) (r:R vs)
inductive aw2(I:Addr)(k:Nat)(h:Heap)(H:AH)(R:List Value->Prop):Prop
 |mk (t:Addr) (vs:List Value) (j:Nat) (i:h.IsListIter I t k) (o:h.get? t=some (zJ vs j)) (q:H t=none) (r:R vs)
noncomputable def X4(g:G τ)(p:PV)(I:Addr)(k:Nat)(h:Heap)(H:AH):Prop:=
 match p with
 |.tup l=>aw1 I k h (K4 g.tab h H l)
 |.rng a b=>IsRangeIter h I (a+k) (((b-a).toNat:Int)-k) 1
 |.lst l=>aw2 I k h H (K4 g.tab h H l)
 |.obj a=>h.IsListIter I a k/\∃l,H a=some (.list l)
 |_=>False
theorem X4.keeps{p:PV}{I:Addr}{k:Nat}{h h':Heap}{H H':AH}(x:X4 g p I k h H)(ki:∀o,h.get? I=some o->h'.get? I=some o)(P:T7 h H h' H')(e:itemsOf H' p=itemsOf H p):X4 g p I k h' H':=by
 cases p with
 |tup l=>obtain⟨t,vs,j,⟨o,e1,e2⟩,e3,r⟩:=x;exact⟨t,vs,j,⟨o,ki _ e1,e2⟩,P.tup _ _ _ _ e3 rfl rfl,r.keeps P⟩
 |rng a b=>exact ki _ x
 |lst l=>obtain⟨t,vs,j,⟨o,e1,e2⟩,e3,q,r⟩:=x;exact⟨t,vs,j,⟨o,ki _ e1,e2⟩,(P.lst _ _ _ _ e3 rfl rfl q).1,(P.lst _ _ _ _ e3 rfl rfl q).2,r.keeps P⟩
 |obj a=>
  obtain⟨⟨o,e1,e2⟩,l,hl⟩:=x
  rcases P0 (show Q6 H' (.obj a)=some l from e.trans (K9 hl)) with w|⟨b,w,e⟩
  ·cases w
  ·cases w;exact⟨⟨o,ki _ e1,e2⟩,l,e⟩
 |_=>exact x.elim
theorem X4.at{p:PV}{I:Addr}{k:Nat}{h:Heap}(x:X4 g p I k h H):∃o xs,h.get? I=some o/\o.data = .fields xs/\¬Gx o.cls/\o.cls≠.type "tuple"/\o.cls≠.type "list" := by
 cases p with
 |tup l=>obtain⟨t,vs,j,⟨o,e1,e2,e3⟩,_⟩:=x;exact⟨o,_,e1,e3,by rw [e2];simp,by rw [e2];simp,by rw [e2];simp⟩
 |rng a b=>exact⟨_,_,x,rfl,by simp,by simp,by simp⟩
 |lst l=>obtain⟨t,vs,j,⟨o,e1,e2,e3⟩,_⟩:=x;exact⟨o,_,e1,e3,by rw [e2];simp,by rw [e2];simp,by rw [e2];simp⟩
 |obj a=>obtain⟨⟨o,e1,e2,e3⟩,_⟩:=x;exact⟨o,_,e1,e3,by rw [e2];simp,by rw [e2];simp,by rw [e2];simp⟩
 |_=>exact x.elim
theorem dN(S:M4 g s H):s.heap.get? s.heap.objs.size=none/\H s.heap.objs.size=none/\g.h₀.get? s.heap.objs.size=none:=by
 have f:∀o,s.heap.get? s.heap.objs.size=some o->False:=fun o e=>Nat.lt_irrefl _ (G8 e)
 refine⟨?_,untracked S,?_⟩
 ·cases e:s.heap.get? s.heap.objs.size with
  |none=>rfl
  |some o=>exact(f o e).elim
 ·cases e:g.h₀.get? s.heap.objs.size with
  |none=>rfl
  |some o=>exact(f o (S.keep _ _ e)).elim
theorem cN{p:PV}{v:Value}{l:List PV}{P:Value->Shared->Prop}{E:Value->Shared->Prop}(S:M4 g s H)(r:Rep g.tab s.heap H p v)(e:itemsOf H p=some l)(ok:Dg p)
  (k:∀I s₁,M4 g s₁ H->Calm s.heap H s₁.heap H->X4 g p I 0 s₁.heap H->s.heap.get? I=none->H I=none->g.h₀.get? I=none->P (.ref I) s₁):wpAny (model g.prog g.w) A (pyIter v) P E s:=by
 obtain⟨f1,f2,f3⟩:=dN S
 have c:∀x,M4 g {s with heap:=s.heap.push x} H/\Calm s.heap H (s.heap.push x) H:=fun x=>⟨S.push x s.toks,Calm.push ..⟩
 cases p with
 |tup l=>
  obtain⟨t,vs,j,rfl,o,rl⟩:=r
  refine iter_tuple (⟨_,o,rfl,_,rfl⟩:IsTup s.heap t vs.toArray) (k _ _ (c _).1 (c _).2 ⟨t,vs,j,⟨_,s6 _ rfl,rfl,rfl⟩,j5 _ o,rl.keeps (c _).2.M5⟩ f1 f2 f3)
 |rng a b=>
  obtain⟨t,x,y,z,rfl,o⟩:=r
  refine wpAny_pyIter_range o (small_one (by have:=ok.1;lia) (by have:=ok.2.1;lia) (by have:=ok.2.2.1;lia) (by have:=ok.2.2.2;lia)) (k _ _ (c _).1 (c _).2 ?_ f1 f2 f3)
  show Heap.get? _ _=_
  rw [s6 _ rfl,lE]
  simp
 |lst l=>
  obtain⟨t,vs,j,rfl,o,q,rl⟩:=r
  exact wpAny_pyIter_list (⟨_,o,rfl,_,rfl⟩:s.heap.IsList t vs.toArray) (k _ _ (c _).1 (c _).2 ⟨t,vs,j,⟨_,s6 _ rfl,rfl,rfl⟩,j5 _ o,q,rl.keeps (c _).2.M5⟩ f1 f2 f3)
 |obj a=>
  rcases P0 (p:=.obj a) e with w|⟨b,w,e⟩
  ·cases w
  ·cases w
   cases r
   obtain⟨vs,j,o,rl⟩:=S.obj _ _ e
   exact wpAny_pyIter_list (⟨_,o,rfl,_,rfl⟩:s.heap.IsList a vs.toArray) (k _ _ (c _).1 (c _).2 ⟨⟨_,s6 _ rfl,rfl,rfl⟩,l,e⟩ f1 f2 f3)
 |_=>cases e
theorem ZP{h':Heap}{c:Addr}{x:Obj}{xs:Array Value}(S:M4 g s H)(e:s.heap.get? c=some x)(nd:x.data = .fields xs/\¬Gx x.cls)(hc:H c=none)(hb:g.h₀.get? c=none)(B:Heap.ExtBut c s.heap h')(t:Nat):
  M4 g {s with heap:=h',toks:=t} H/\T7 s.heap H h' H:=by
 have P:T7 s.heap H h' H:=by
  refine⟨fun b o ys k q d cc=>B b o (fun z=>?_) q,fun b o ys k q d cc z=>⟨B b o (fun z=>?_) q,z⟩,fun b o ys q d cc=>B b o (fun z=>?_) q⟩
  all_goals (subst z;rw [e] at q;cases q)
  ·rw [nd.1] at d;cases d
  ·rw [nd.1] at d;cases d
  ·exact nd.2 cc
 refine⟨⟨fun b o q=>B b o (fun z=>?_) (S.keep b o q),S.fresh,fun a o q=>(S.obj a o q).keeps P fun y z=>B a y (fun w=>?_) z,S.gens,S.os⟩,P⟩
 ·subst z;rw [hb] at q;cases q
 ·subst w;rw [hc] at q;cases q
theorem Goes.ext{F:Addr->Prop}{h h' h'':Heap}{H H':AH}{c:Addr}(a:Goes F h H h' H')(B:Heap.ExtBut c h' h'')(hc:h.get? c=none)(P:T7 h' H' h'' H'):Goes F h H h'' H':=by
 have ne:∀b o,h.get? b=some o->b≠c:=fun b o e z=>by rw [z,hc] at e;cases e
 exact⟨fun b o e q f=>B b o (ne b o e) (a.keep b o e q f),a.new,fun b o e=>let⟨o',e'⟩:=a.ex b o e;⟨o',B b o' (ne b o e) e'⟩,a.M5.trans P⟩
theorem pJ{p q:PV}{l:List PV}{I:Addr}{k:Nat}{P:Option Value->Shared->Prop}{E:Value->Shared->Prop}(S:M4 g s H)(x:X4 g p I k s.heap H)(hI:H I=none)(hb:g.h₀.get? I=none)(e:itemsOf H p=some l)(hq:l[k]? = some q)
  (K:∀v s',Rep g.tab s'.heap H q v->M4 g s' H->Goes (fun b=>b=I) s.heap H s'.heap H->X4 g p I (k+1) s'.heap H->P (some v) s'):wpAny (model g.prog g.w) A (pyNext (.ref I)) P E s:=by
 obtain⟨o,xs,e1,e2,e3,e4,e5⟩:=x.at
 have turn:∀h' t,Heap.SameBut I s.heap h'->(∃y,h'.get? I=some y)->M4 g {s with heap:=h',toks:=t} H/\Goes (fun b=>b=I) s.heap H h' H:=fun h' t B ex=>
  mQ S e1 ⟨fun ys j d=>(by rw [e2] at d;cases d),fun ys O=>e3⟩ hI hb B ex t
 cases p with
 |tup l'=>
  obtain⟨t,vs,j,it,ot,rl⟩:=x
  cases e
  obtain⟨v,hv,rv⟩:=rl.get hq
  have hne:t≠I:=fun z=>by rw [z,e1] at ot;cases ot;cases e2
  refine next_tuple_item it (⟨_,ot,rfl,_,rfl⟩:IsTup s.heap t vs.toArray) (by simpa using hv) fun h' it' B=>?_
  obtain⟨S',c⟩:=turn h' s.toks B (let⟨o,z,_⟩:=it';⟨o,z⟩)
  exact K v _ (rv.keeps c.M5) S' c ⟨t,vs,j,it',(B.2 t hne).trans ot,rl.keeps c.M5⟩
 |rng a b=>
  cases e
  have hk:k<(b-a).toNat:=by have:=(v8.mp hq).1;rwa [aQ] at this
  rw [tV _ _ _ hk] at hq
  cases hq
  have x':IsRangeIter s.heap I (a+k) (((b-a).toNat:Int)-k) 1:=x
  refine wpAny_pyNext_range_item x' (by lia) fun h' it' B=>?_
  obtain⟨S',c⟩:=turn h' (s.toks+1) B ⟨_,it'⟩
  refine K _ _ ⟨_,rfl⟩ S' c ?_
  show IsRangeIter h' I _ _ 1
  have h1:a+((k+1:Nat):Int)=a+k+1:=by lia
  have h2:((b-a).toNat:Int)-((k+1:Nat):Int)=(b-a).toNat-k-1:=by lia
  rw [h1,h2];exact it'
 |lst l'=>
  obtain⟨t,vs,j,it,ot,ut,rl⟩:=x
  cases e
  obtain⟨v,hv,rv⟩:=rl.get hq
  have hne:t≠I:=fun z=>by rw [z,e1] at ot;cases ot;cases e2
  refine wpAny_pyNext_list_item it (⟨_,ot,rfl,_,rfl⟩:s.heap.IsList t vs.toArray) (by simpa using hv) fun h' it' B=>?_
  obtain⟨S',c⟩:=turn h' s.toks B (let⟨o,z,_⟩:=it';⟨o,z⟩)
  exact K v _ (rv.keeps c.M5) S' c ⟨t,vs,j,it',(B.2 t hne).trans ot,ut,rl.keeps c.M5⟩
 |obj a=>
  obtain⟨it,l',hl⟩:=x
  have el:l'=l:=G6 ((K9 hl).symm.trans e)
  subst el
  obtain⟨vs,j,ot,rl⟩:=S.obj _ _ hl
  obtain⟨v,hv,rv⟩:=rl.get hq
  refine wpAny_pyNext_list_item it (⟨_,ot,rfl,_,rfl⟩:s.heap.IsList a vs.toArray) (by simpa using hv) fun h' it' B=>?_
  obtain⟨S',c⟩:=turn h' s.toks B (let⟨o,z,_⟩:=it';⟨o,z⟩)
  exact K v _ (rv.keeps c.M5) S' c ⟨it',l',hl⟩
 |_=>exact x.elim
theorem Dh{p:PV}{l:List PV}{I:Addr}{P:Option Value->Shared->Prop}{E:Value->Shared->Prop}(hh:A.handled=none)(S:M4 g s H)(x:X4 g p I l.length s.heap H)(hI:H I=none)(hb:g.h₀.get? I=none)(e:itemsOf H p=some l)
  (K:∀h',M4 g {s with heap:=h'} H->Heap.ExtBut I s.heap h'->T7 s.heap H h' H->P none {s with heap:=h'}):wpAny (model g.prog g.w) A (pyNext (.ref I)) P E s:=by
 obtain⟨o,xs,e1,e2,e3,e4,e5⟩:=x.at
 have turn:∀h',Heap.ExtBut I s.heap h'->P none {s with heap:=h'}:=fun h' B=>by
  obtain⟨S',P'⟩:=ZP S e1 ⟨e2,e3⟩ hI hb B s.toks
  exact K h' S' B P'
 cases p with
 |tup l'=>
  obtain⟨t,vs,j,it,ot,rl⟩:=x
  cases e
  exact next_tuple_end hh it (⟨_,ot,rfl,_,rfl⟩:IsTup s.heap t vs.toArray) (by rw [<- rl.length];simp) turn
 |rng a b=>
  cases e
  have x':IsRangeIter s.heap I (a+((S6 a (b-a).toNat).length:Nat)) (((b-a).toNat:Int)-((S6 a (b-a).toNat).length:Nat)) 1:=x
  exact wpAny_pyNext_range_end hh x' (by rw [aQ];lia) turn
 |lst l'=>
  obtain⟨t,vs,j,it,ot,ut,rl⟩:=x
  cases e
  exact wpAny_pyNext_list_end hh it (⟨_,ot,rfl,_,rfl⟩:s.heap.IsList t vs.toArray) (by rw [<- rl.length];simp) turn
 |obj a=>
  obtain⟨it,l',hl⟩:=x
  have el:l'=l:=G6 ((K9 hl).symm.trans e)
  subst el
  obtain⟨vs,j,ot,rl⟩:=S.obj _ _ hl
  exact wpAny_pyNext_list_end hh it (⟨_,ot,rfl,_,rfl⟩:s.heap.IsList a vs.toArray) (by rw [<- rl.length];simp) turn
 |_=>exact x.elim
end
section
variable{τ:T}{g:G τ}{n:Nat}{env:Env}{m:Loc}{H:AH}{A:Around}{s:Shared}
inductive Px(v:PV)(H:AH)(Q:AH->Prop):PV->PV->Prop
 |list {a:Addr} {l:List PV} {i:Int} (o:H a=some (.list l)) (h1:0<=i) (h2:i<l.length) (h3:l.length<=sizeLine) (h:Q (upd H a (.list (l.set i.toNat v)))):Px v H Q (.obj a) (.int i)
 |N5 {a:Addr} {l:List (Int×PV)} {i:Int} (o:H a=some (.N5 l)) (z:l.length<=sizeLine) (h:Q (upd H a (.N5 (fJ i v l)))):Px v H Q (.obj a) (.int i)
 |T9 {a:Addr} {l:List (Nat×PV)} {i:Nat} (o:H a=some (.T9 l)) (z:l.length<=sizeLine) (h:Q (upd H a (.T9 (fJ i v l)))):Px v H Q (.obj a) (.str i)
 |Q9 {a:Addr} {l:List ((Int×Int)×PV)} {ij:Int×Int} (o:H a=some (.Q9 l)) (z:l.length<=sizeLine) (h:Q (upd H a (.Q9 (fJ ij v l)))):Px v H Q (.obj a) (.tup [.int ij.1,.int ij.2])
noncomputable abbrev Mh(p k v:PV)(H:AH)(Q:AH->Prop):Prop:=Px v H Q p k
theorem Hi{a:Addr}{vs:List Value}{j:Nat}{i:Int}{t:Tok}{v:Value}{Q:Unit->Shared->Prop}{E:Value->Shared->Prop}(o:s.heap.get? a=some (zJ vs j))(h0:0<=i)(hn:i<vs.length)(hz:vs.length<=sizeLine)
  (h:Q () {s with heap:=s.heap.update a (Obj.mapSeq (·.setIfInBounds i.toNat v))}):wpAny (model g.prog g.w) A (setItem (.ref a) (.int i t) v) Q E s:=by
 have hl:s.heap.IsList a vs.toArray:=⟨_,o,rfl,_,rfl⟩
 have hfit:i<2 ^ 63:=by rw [p7] at hz;lia
 have hx:vs.toArray[i.toNat]? = some (vs[i.toNat]'(by lia)):=by simp
 unfold setItem
 refine z7 ?_
 refine c7 (wpAny_sequenceKey hl.typeIs (by decide) ?_)
 refine c7 (wpAny_callSpecial?_slot (name:=Str.ofString "__setitem__") hl.typeIs slot_list_setitem
  (wpAny_call_entry slot_list_setitem hl.typeIs entry_list_setitem ?_ (args_list_setitem _ _ _)))
 show wpAny _ _ (Builtin.List.listSubscript? (.int i t) >>= _) _ _ s
 refine c7 (wpAny_listSubscript_int (fitsIndex_of h0 hfit) ?_)
 obtain⟨k,rfl⟩:=Int.eq_ofNat_of_zero_le h0
 show wpAny _ _ ((seqItemAt a k >>= fun r=>pure (r.map (k,·))) >>= _) _ _ s
 refine c7 (c7 (wpAny_seqItemAt o rfl (j4 ?_)))
 have hx':vs.toArray[k]? = some (vs[k]'(by lia)):=hx
 rw [hx']
 show wpAny _ _ (setSeqItemAt a k v >>= _) _ _ s
 refine c7 (wpAny_setSeqItemAt o rfl ?_)
 first
  |exact c7 (j4 (j4 ⟨.none,rfl,j4 h⟩))
  |exact j4 ⟨.none,rfl,j4 h⟩
theorem ZQ{p k q:PV}{u kv v:Value}{Q:AH->Prop}(hg:N6 g)(R:R8 n A)(S:M4 g s H)(ru:Rep g.tab s.heap H p u)(rk:Rep g.tab s.heap H k kv)(rv:Rep g.tab s.heap H q v)(h:Mh p k q H Q):
  wpAny (model g.prog g.w) A (setItem u kv v) (fun O s' => ∃H',M4 g s' H'/\Calm s.heap H s'.heap H'/\Q H') (fun O O=>False) s:=by
 cases h with
 |@list a l i e h1 h2 h3 q=>
  cases ru
  obtain⟨t,rfl⟩:=rk
  obtain⟨vs,j,o,rl⟩:=S.obj _ _ e
  have el:=rl.length
  refine Hi o h1 (by lia) (by lia) ?_
  have hu:=Heap.get?_update_self (Obj.mapSeq (·.setIfInBounds i.toNat v)) o rfl
  obtain⟨S',c⟩:=mV (l':=l.set i.toNat _) (vs':=vs.set i.toNat v) S e (I6 ..) (by
   rw [hu]
   simp only [Obj.mapSeq,List.setIfInBounds_toArray]
   rfl) (rl.set i.toNat rv) s.toks
  exact⟨_,S',c,q⟩
 |N5 e z h=>cases ru;exact j6 ((KD.int g).setItem hg S e rk rv z) (fun O s' ⟨x,y⟩=>⟨_,x,y,h⟩) fun O O x=>x
 |T9 e z h=>cases ru;exact j6 ((KD.str g).setItem hg S e rk rv z) (fun O s' ⟨x,y⟩=>⟨_,x,y,h⟩) fun O O x=>x
 |Q9 e z h=>cases ru;exact j6 (av6 hg R S e rk rv z) (fun O s' ⟨x,y⟩=>⟨_,x,y,h⟩) fun O O x=>x
inductive AsP{τ:T}(g:G τ)(env:Env)(s:Shared)(H:AH)(Q:Loc->AH->Prop)(s':Shared):Prop
 |mk (m':Loc) (H':AH) (S:M4 g s' H') (F:N8 g env m' s'.heap H') (c:Goes (Own env) s.heap H s'.heap H') (q:Q m' H')
noncomputable def As{τ:T}(g:G τ)(n:Nat)(env:Env)(m:Loc)(H:AH)(tg:PySem.Expr)(q:PV)(Q:Loc->AH->Prop):Prop:=
 ∀A s v,R8 n A->M4 g s H->N8 g env m s.heap H->Rep g.tab s.heap H q v->wpAny (model g.prog g.w) A (assign tg env v) (fun O s'=>AsP g env s H Q s') (fun O O=>False) s
theorem AsP.step{s₁ s':Shared}{H₁:AH}{Q:Loc->AH->Prop}(c:Goes (Own env) s.heap H s₁.heap H₁)(x:AsP g env s₁ H₁ Q s'):AsP g env s H Q s':=
 let⟨m',H',S,F,c',q⟩:=x;⟨m',H',S,F,c.trans c',q⟩
theorem As.name{x:Nat}{pos:Pos}{q:PV}{Q:Loc->AH->Prop}(hg:N6 g)(k:env.kindOf (g.tab x)=some .local\/env.kindOf (g.tab x)=some .cell)(h:Q (w7 x q m) H):As g n env m H (.Name (g.tab x) pos) q Q:=fun A s v R S F r=>
 assign_Name (j6 (CN hg S F k r) (fun O s' ⟨a,b,c⟩=>⟨_,H,a,b,c,h⟩) fun O O x=>x)
theorem As.attr{o:PySem.Expr}{x:Nat}{pos:Pos}{q:PV}{Q:Loc->AH->Prop}(hg:N6 g)(h:Ev g n env m H o fun p H₁ => ∃a C dx l,p = .obj a/\H₁ a=some (.inst C dx)/\H₁ dx=some (.attrs l)/\g.fld C x=true/\l.length<900/\Q m (upd H₁ dx (.attrs (w7 x q l)))):As g n env m H (.Attribute o (g.tab x) pos) q Q:=fun A s v R S F r=>by
 rw [assign_Attribute]
 refine c7 (z7 (h.then R S F fun u s₁ p H₁ ru aT7 aT8 aU1 k=>?_))
 obtain⟨a,C,dx,l,rfl,e1,e2,hf,hz,q⟩:=k
 cases ru
 refine c7 (I8 (c7 (z7 (j6 (GC hg aT7 e1 e2 hf hz (r.keeps aT8.M5)) (fun O aU0 ⟨aT6,aT9⟩=>?_) fun O O x=>x))))
 exact wpAny_release ⟨m,_,aT6,aU1.goes aT9,(aT8.trans aT9).own,q⟩
theorem As.sub{o i:PySem.Expr}{pos:Pos}{q:PV}{Q:Loc->AH->Prop}(hg:N6 g)(h:Ev g n env m H o fun p H₁=>Ev g n env m H₁ i fun k aT5=>Mh p k q aT5 (Q m)):As g n env m H (.Subscript o i pos) q Q:=fun A s v R S F r=>by
 rw [arm_assign_Subscript]
 refine c7 (z7 (h.then R S F fun u s₁ p H₁ ru aT7 aT8 aU1 k=>?_))
 refine c7 (z7 (Ev.then k R aT7 aU1 fun w aU0 kk aT5 rk aT6 aT9 aU8 k=>?_))
 refine c7 (I8 (c7 (z7 (j6 (ZQ hg R aT6 (ru.keeps aT9.M5) rk ((r.keeps aT8.M5).keeps aT9.M5) k) (fun O aU2 ⟨aU9,aU3,aU7,q⟩=>?_) fun O O x=>x))))
 exact wpAny_release ⟨m,_,aU3,aU8.goes aU7,((aT8.trans aT9).trans aU7).own,q⟩
noncomputable def AsL{τ:T}(g:G τ)(n:Nat)(env:Env):Loc->AH->List PySem.Expr->List PV->(Loc->AH->Prop)->Prop
 |m,H,[],[],Q=>Q m H
 |m,H,t::ts,q::qs,Q=>As g n env m H t q fun m' H'=>AsL g n env m' H' ts qs Q
 |_,_,_,_,_=>False
noncomputable def mW(t:PySem.Expr):Prop := ∀rest env,assignEach (t::rest) env=(false,assign t env)::assignEach rest env
theorem Py:∀{ts:List PySem.Expr} {qs:List PV} {vs:List Value} {Q:Loc->AH->Prop} {m:Loc} {H:AH} {A:Around} {s:Shared},(∀t∈ts,mW t)->R8 n A->M4 g s H->N8 g env m s.heap H->K4 g.tab s.heap H qs vs->AsL g n env m H ts qs Q->
  wpAny (model g.prog g.w) A (assignInOrder ((assignEach ts env).map (·.2)) vs) (fun O s'=>AsP g env s H Q s') (fun O O=>False) s
 | [],[],_,Q,m,H,A,s,_,R,S,F,r,h=>by cases r;exact assignInOrder_nil ⟨m,H,S,F,.refl ..,h⟩
 |t::ts,q::qs,_,Q,m,H,A,s,hp,R,S,F,⟨v,vs,e,r,rl⟩,h=>by
  subst e
  rw [hp t (.head _)]
  refine assignInOrder_cons (j6 (h A s v R S F r) (fun O s₁ y=>?_) fun O O x=>x)
  obtain⟨m₁,H₁,aT7,aU1,aT8,k⟩:=y
  exact j6 (Py (fun x hx=>hp x (.tail _ hx)) R aT7 aU1 (rl.keeps aT8.M5) k) (fun O O x=>x.step aT8) fun O O x=>x
 | [],_::_,_,_,_,_,_,_,_,_,_,_,_,h=>h.elim
 |_::_,[],_,_,_,_,_,_,_,_,_,_,_,h=>h.elim
theorem dO:∀{ts:List PySem.Expr},(∀t∈ts,mW t)->(assignEach ts env).length=ts.length/\(assignEach ts env).findIdx? (·.1)=none
 | [],_=>⟨rfl,rfl⟩
 |t::ts,h=>by
  rw [h t (.head _)]
  obtain⟨a,b⟩:=dO fun x hx=>h x (.tail _ hx)
  exact⟨by rw [m8,a,m8],by rw [List.findIdx?_cons];simp [b]⟩
theorem JF{p:PV}{l:List PV}{I:Addr}{P:List Value->Shared->Prop}{E:Value->Shared->Prop}(hI:H I=none)(hb:g.h₀.get? I=none)(e:itemsOf H p=some l):∀(j k:Nat) (s:Shared),M4 g s H->X4 g p I k s.heap H->k+j=l.length->
  (∀vs s',K4 g.tab s'.heap H (l.drop k) vs->M4 g s' H->Goes (fun b=>b=I) s.heap H s'.heap H->X4 g p I l.length s'.heap H->P vs s')->wpAny (model g.prog g.w) A (draw (.ref I) j) P E s
 |0,k,s,S,x,hk,K=>by
  show wpAny _ _ (pure []) _ _ _
  have:k=l.length:=by lia
  subst this
  exact j4 (K [] s (by rw [List.drop_length];exact rfl) S (.refl ..) x)
 |j+1,k,s,S,x,hk,K=>by
  have hlt:k<l.length:=by exact Mine.Internal.eqs ‹_›
  show wpAny _ _ (pyNext (.ref I) >>= _) _ _ _
  refine c7 (pJ S x hI hb e (o7 hlt) fun v s₁ rv aT7 aT8 aZ5=>?_)
  refine c7 (z7 (JF hI hb e j (k+1) s₁ aT7 aZ5 (by exact Mine.Internal.eqt ‹_›) fun vs aU0 rl aT6 aT9 aW3=>j4 ?_))
  refine K (v::vs) aU0 ?_ aT6 (aT8.trans aT9) aW3
  rw [List.drop_eq_getElem_cons hlt]
  exact⟨v,vs,rfl,rv.keeps aT9.M5,rl⟩
theorem N8.apart{env:Env}{m:Loc}{I:Addr}(F:N8 g env m s.heap H)(e:s.heap.get? I=none):∀b,(b=env.locals\/∃x,env.cells.lookup x=some b)->b≠I:=by
 intro b hb z
 subst z
 rcases hb with hb|⟨x,hb⟩
 ·obtain⟨mv,⟨o,es,ep,e1,_⟩,_⟩:=F.ns
  rw [<- hb,e] at e1;cases e1
 ·obtain⟨_,_,v,⟨o,e1,_⟩⟩:=F.cells x b hb
  rw [e] at e1;cases e1
theorem cO{p:PV}{l:List PV}{v:Value}{P:List Value->Shared->Prop}{E:Value->Shared->Prop}(R:R8 n A)(S:M4 g s H)(F:N8 g env m s.heap H)(r:Rep g.tab s.heap H p v)(e:(∃l,p = .tup l)\/∃l,Q6 H p=some l)(el:itemsOf H p=some l)
  (K:∀vs s',K4 g.tab s'.heap H l vs->M4 g s' H->Calm s.heap H s'.heap H->N8 g env m s'.heap H->P vs s'):wpAny (model g.prog g.w) A (unpackItems v l.length none) P E s:=by
 have aw3:wpAny (model g.prog g.w) A (notIterableAtAll v) (fun b s'=>b=false/\s'=s) E s:=by
  unfold notIterableAtAll
  rcases e with⟨l',rfl⟩|⟨l',e⟩
  ·obtain⟨t,vs,j,rfl,o,rl⟩:=r
   refine c7 (wpAny_specialOf (⟨_,o,rfl⟩:s.TypeIs (.ref t) "tuple") slot_tuple_iter.lookup ?_)
   exact j4 ⟨rfl,rfl⟩
  ·obtain⟨t,vs,j,rfl,o,rl⟩:=aA (h:=s.heap) S r (P0 e)
   refine c7 (wpAny_specialOf (⟨_,o,rfl⟩:s.TypeIs (.ref t) "list") slot_list_iter.lookup ?_)
   exact j4 ⟨rfl,rfl⟩
 have ok:Dg p:=by
  rcases e with⟨l',rfl⟩|⟨l',e⟩
  ·trivial
  ·cases p<;>first|trivial|cases e
 unfold unpackItems
 refine c7 (j6 aw3 (fun b s' ⟨hb,hs⟩=>?_) fun O O x=>x)
 subst hb;subst hs
 simp only [K6,if_false]
 refine c7 (z7 (cN S r el ok fun I s₁ aT7 aT8 aZ5 f1 f2 f3=>?_))
 refine c7 (z7 (JF f2 f3 el l.length 0 s₁ aT7 aZ5 (by exact Nat.add_comm ..) fun vs aU0 rl aT6 aT9 aW3=>?_))
 rw [List.drop_zero] at rl
 rw [if_neg (by rw [rl.length];simp)]
 refine c7 (z7 (Dh R.handled aT6 aW3 f2 f3 el fun h' aU3 B aW1=>?_))
 simp only [Option.isSome_none,K6,if_false]
 have aW9:Calm s'.heap H aU0.heap H:=((aT8.weak (F':=fun b=>b=I) fun O z=>z.elim).trans aT9).drop fun b z=>.inl (z▸f1)
 have C:Calm s'.heap H h' H:=aW9.ext B f1 aW1
 exact j4 (K vs _ (rl.keeps aW1) aU3 C (F.goes C))
set_option tactic.hygienic true in
theorem As.tup{ts:List PySem.Expr}{k:Nat}{pos:Pos}{p:PV}{Q:Loc->AH->Prop}(hp:∀t∈ts,mW t)(h:((∃l,p = .tup l)\/∃l,Q6 H p=some l)/\match itemsOf H p with|some l=>l.length=ts.length/\AsL g n env m H ts l Q|none=>False):As g n env m H (.Tuple ts k pos) p Q:=fun A s v R S F r=>by
 rw [arm_assign_Tuple]
 obtain⟨h1,h2⟩:=h
 refine c7 (I8 ?_)
 unfold unpack
 obtain⟨e1,e2⟩:=dO (env:=env) hp
 rw [e1,e2]
 split at h2
 ·next l el=>
  rw [<- h2.1]
  refine c7 (z7 (cO R S F r h1 el fun vs s' rl S' c' F'=>?_))
  exact j6 (Py hp R S' F' rl h2.2) (fun O O x=>x.step c'.own) fun O O x=>x
 ·exact h2.elim
end
section
variable{τ:T}{g:G τ}{n:Nat}{env:Env}{m:Loc}{H:AH}{A:Around}{s:Shared}
theorem dF.asg{tg value:PySem.Expr}{pos:Pos}{Q:Out->Loc->AH->Prop}(hs:swapsWithSole [tg] value pos.line env=pure false)(hw:swappedStores [tg] value env=pure none)(he:assignEach [tg] env=[(false,PySem.assign tg env)])
  (h:Ev g n env m H value fun p H₁=>As g n env m H₁ tg p fun m' H'=>Q .next m' H'):dF g n env m H (.Assign [tg] value pos) Q:=fun A s R S F=>by
 rw [exec_Assign]
 refine c7 (I8 ?_)
 rw [hs]
 refine c7 (j4 ?_)
 rw [if_neg (by decide)]
 refine c7 (h.then R S F fun v s₁ p H₁ rv aT7 aT8 aU1 k=>?_)
 rw [hw,he]
 refine c7 (j4 ?_)
 show wpAny _ _ (do assignAll v [PySem.assign tg env];pure Flow.next) _ _ s₁
 refine c7 (j6 (k A s₁ v R aT7 aU1 rv) (fun O aU0 ⟨aV1,aT5,aT6,aU8,aT9,q⟩=>?_) fun O O x=>x)
 exact j4 ⟨.next,aV1,aT5,rfl,aT6,aU8,aT8.own.trans aT9,q⟩
noncomputable def qH:List Nat->List PV->Loc->Loc
 |x::xs,q::qs,m=>qH xs qs (w7 x q m)
 |_,_,m=>m
theorem Di(hg:N6 g):∀{xs:List Nat} {qs:List PV} {vs:List Value} {m:Loc} {s:Shared},(∀x∈xs,env.kindOf (g.tab x)=some .local\/env.kindOf (g.tab x)=some .cell)->xs.length=qs.length->M4 g s H->N8 g env m s.heap H->K4 g.tab s.heap H qs vs->
  wpAny (model g.prog g.w) A (assignInOrder (xs.map fun x=>bindName env (g.tab x)) vs) (fun O s'=>M4 g s' H/\N8 g env (qH xs qs m) s'.heap H/\Goes (Own env) s.heap H s'.heap H) (fun O O=>False) s
 | [],[],_,m,s,_,_,S,F,r=>by cases r;exact assignInOrder_nil ⟨S,F,.refl ..⟩
 |x::xs,q::qs,_,m,s,k,e,S,F,⟨v,vs,ev,r,rl⟩=>by
  subst ev
  refine assignInOrder_cons (wpAny_bindName (j6 (CN hg S F (k x (.head _)) r) (fun O s₁ ⟨aT7,aU1,aT8⟩=>?_) fun O O x=>x))
  exact j6 (Di hg (fun y hy=>k y (.tail _ hy)) (by simpa using e) aT7 aU1 (rl.keeps aT8.M5)) (fun O aU0 ⟨aT6,aU8,aT9⟩=>⟨aT6,aU8,aT8.trans aT9⟩) fun O O x=>x
 | [],_::_,_,_,_,_,e,_,_,_=>by simp at e
 |_::_,[],_,_,_,_,e,_,_,_=>by simp at e
theorem dF.swap{ts:List PySem.Expr}{k:Nat}{tpos:Pos}{value:PySem.Expr}{pos:Pos}{xs:List Nat}{Q:Out->Loc->AH->Prop}(hg:N6 g)(hs:swapsWithSole [.Tuple ts k tpos] value pos.line env=pure false)(hw:swappedStores [.Tuple ts k tpos] value env=pure (some (xs.map g.tab)))
  (hk:∀x∈xs,env.kindOf (g.tab x)=some .local\/env.kindOf (g.tab x)=some .cell)
  (h:Ev g n env m H value fun p H₁ => ∃l,p = .tup l/\l.length=xs.length/\Q .next (qH xs.reverse l.reverse m) H₁):dF g n env m H (.Assign [.Tuple ts k tpos] value pos) Q:=fun A s R S F=>by
 refine Assign_Tuple_swapped (h.then R S F fun v s₁ p H₁ rv aT7 aT8 aU1 k=>?_) hs hw
 obtain⟨l,rfl,el,q⟩:=k
 rw [g8,<- el]
 refine cO R aT7 aU1 rv (.inl ⟨l,rfl⟩) rfl fun vs aU0 rl aT6 aT9 aU8=>?_
 have e:(xs.map g.tab).reverse.map (fun n=>bindName env n)=xs.reverse.map fun x=>bindName env (g.tab x):=by rw [<- List.map_reverse,List.map_map];rfl
 rw [e]
 exact j6 (Di hg (fun x hx=>hk x (List.mem_reverse.mp hx)) (by rw [J1,J1,el]) aT6 aU8 rl.reverse) (fun O aU2 ⟨aU3,bb3,aU7⟩=>⟨.next,_,H₁,rfl,aU3,bb3,(aT8.trans aT9).own.trans aU7,q⟩) fun O O x=>x
theorem qI{tg:PySem.Expr}{I:Addr}{o:Obj}{v:Value}{P:Unit->Shared->Prop}{E:Value->Shared->Prop}(e:s.heap.get? I=some o)(c:o.cls = .type "list_iterator"\/o.cls = .type "tuple_iterator"\/o.cls = .type "range_iterator")(h:P () s):
  wpAny (model g.prog g.w) A (letOwnedTupleGo tg (.ref I) v) P E s:=by
 obtain⟨cl,d,dt,sl⟩:=o
 have key:wpAny (model g.prog g.w) A (letOwnedTupleGo (.Tuple [] 0 ⟨0,0,0,0⟩) (.ref I) v) P E s:=by
  cases v<;>first|exact j4 h|skip
  show wpAny _ _ (load I >>= _) _ _ _
  refine c7 (wpAny_load e ?_)
  dsimp only at c ⊢
  rcases c with rfl|rfl|rfl
  all_goals
   cases dt<;>exact j4 h
 cases tg<;>first|exact j4 h|exact key
theorem X4.kind{p:PV}{I:Addr}{k:Nat}{h:Heap}(x:X4 g p I k h H):∃o,h.get? I=some o/\(o.cls = .type "list_iterator"\/o.cls = .type "tuple_iterator"\/o.cls = .type "range_iterator"):=by
 cases p with
 |tup l=>obtain⟨t,vs,j,⟨o,e1,e2,e3⟩,_⟩:=x;exact⟨o,e1,.inr (.inl e2)⟩
 |rng a b=>exact⟨_,x,.inr (.inr rfl)⟩
 |lst l=>obtain⟨t,vs,j,⟨o,e1,e2,e3⟩,_⟩:=x;exact⟨o,e1,.inl e2⟩
 |obj a=>obtain⟨⟨o,e1,e2,e3⟩,_⟩:=x;exact⟨o,e1,.inl e2⟩
 |_=>exact x.elim
structure Mi{τ:T}(g:G τ) where
 st:Addr->Nat->Heap->AH->Prop
 pl:Addr->Addr->Prop
 items:AH->Option (List PV)
noncomputable def kNx{τ:T}(g:G τ)(A:Around)(tg:PySem.Expr)(I:Addr)(P:Value->Shared->Prop)(r:Option Value)(s₁:Shared):Prop:=match r with
 |none=>False
 |some v=>wpAny (model g.prog g.w) A (letOwnedTupleGo tg (.ref I) v) (fun O aU0=>P v aU0) (fun O O=>False) s₁
noncomputable def kFn(P:Shared->Prop)(r:Option Value)(s₁:Shared):Prop:=match r with
 |none=>P s₁
 |some _=>False
structure tW{τ:T}{g:G τ}(x:Mi g)(tg:PySem.Expr):Prop where
 self:∀I,x.pl I I
 has:∀{I b:Addr} {k:Nat} {h:Heap} {H:AH},x.st I k h H->x.pl I b->∃o,h.get? b=some o
 keeps:∀{I:Addr} {k:Nat} {h h':Heap} {H H':AH},x.st I k h H->(∀b o,x.pl I b->h.get? b=some o->h'.get? b=some o)->T7 h H h' H'->x.items H'=x.items H->x.st I k h' H'
 next:∀{A:Around} {s:Shared} {H:AH} {I:Addr} {k:Nat} {l:List PV} {q:PV} {P:Value->Shared->Prop},M4 g s H->x.st I k s.heap H->(∀b,x.pl I b->H b=none)->(∀b,x.pl I b->g.h₀.get? b=none)->x.items H=some l->l[k]? = some q->
  (∀v s',Rep g.tab s'.heap H q v->M4 g s' H->Goes (x.pl I) s.heap H s'.heap H->x.st I (k+1) s'.heap H->P v s')->wpAny (model g.prog g.w) A (pyNext (.ref I)) (kNx g A tg I P) (fun O O=>False) s
 fin:∀{A:Around} {s:Shared} {H:AH} {I:Addr} {l:List PV} {P:Shared->Prop},A.handled=none->M4 g s H->x.st I l.length s.heap H->(∀b,x.pl I b->H b=none)->(∀b,x.pl I b->g.h₀.get? b=none)->x.items H=some l->
  (∀h',M4 g {s with heap:=h'} H->(∀b o,¬x.pl I b->s.heap.get? b=some o->h'.get? b=some o)->T7 s.heap H h' H->P {s with heap:=h'})->wpAny (model g.prog g.w) A (pyNext (.ref I)) (kFn P) (fun O O=>False) s
theorem Goes.ZR{F P:Addr->Prop}{h h' h'':Heap}{H H':AH}(a:Goes F h H h' H')(B:∀b o,¬P b->h'.get? b=some o->h''.get? b=some o)(hc:∀b,P b->h.get? b=none)(Pr:T7 h' H' h'' H'):Goes F h H h'' H':=by
 have ne:∀b o,h.get? b=some o->¬P b:=fun b o e z=>by rw [hc b z] at e;cases e
 refine⟨fun b o e q f=>B b o (ne b o e) (a.keep b o e q f),a.new,fun b o e=>?_,a.M5.trans Pr⟩
 obtain⟨o',e'⟩:=a.ex b o e
 exact⟨o',B b o' (ne b o e) e'⟩
noncomputable def Vo{τ:T}(g:G τ)(p:PV):Mi g:=⟨fun I k h H=>X4 g p I k h H,fun I b=>b=I,fun H=>itemsOf H p⟩
theorem zZ{tg:PySem.Expr}(p:PV):tW (Vo g p) tg where
 self I:=rfl
 has x e:=by
  obtain⟨o,eo,_⟩:=x.kind
  cases e
  exact⟨o,eo⟩
 keeps x k P e:=x.keeps (fun o z=>k _ o rfl z) P e
 next S x hH hh e hq K:=pJ S x (hH _ rfl) (hh _ rfl) e hq fun v s' r S' c x'=>by
  obtain⟨o,eo,ck⟩:=X4.kind x'
  exact qI eo ck (K v s' r S' c x')
 fin hh S x hH hb e K:=Dh hh S x (hH _ rfl) (hb _ rfl) e fun h' S' B P=>K h' S' (fun b o n z=>B b o n z) P
noncomputable def Dj{τ:T}(g:G τ)(n:Nat)(env:Env)(tg:PySem.Expr)(body:List Stmt)(it:AH->Option (List PV))(l:List PV)(Q:Out->Loc->AH->Prop):List PV->Loc->AH->Prop
 | [],m,H=>Q .next m H
 |q::r,m,H=>As g n env m H tg q fun m₁ H₁=>Ex g n env m₁ H₁ body fun o aV1 aT5=>@Out.rec (fun O=>Prop) (it aT5=some l/\Dj g n env tg body it l Q r aV1 aT5) (Q .next aV1 aT5) (it aT5=some l/\Dj g n env tg body it l Q r aV1 aT5) (fun x=>Q (.ret x) aV1 aT5) o
inductive ZS{τ:T}(g:G τ)(n:Nat)(env:Env)(tg:PySem.Expr)(body:List Stmt)(x:Mi g)(l:List PV)(Q:Out->Loc->AH->Prop)(I:Addr)(h:Heap)(H:AH)(s':Shared)(m':Loc)(H':AH)(i:Nat):Prop
 |mk (S:M4 g s' H') (F:N8 g env m' s'.heap H') (C:Goes (fun b=>Own env b\/x.pl I b) h H s'.heap H') (at':x.st I i s'.heap H') (e:x.items H'=some l) (z:∀b,x.pl I b->H' b=none) (k:Dj g n env tg body x.items l Q (l.drop i) m' H')
theorem yp{tg:PySem.Expr}{body:List Stmt}{x:Mi g}{l:List PV}{I:Addr}{Q:Out->Loc->AH->Prop}{aU0:Shared}{aV1:Loc}{aT5:AH}{E:Value->Shared->Prop}(ok:tW x tg)(R:R8 n A)(fs:∀b,x.pl I b->s.heap.get? b=none)(fg:∀b,x.pl I b->g.h₀.get? b=none)
  (ap:∀c,(c=env.locals\/∃y,env.cells.lookup y=some c)->¬x.pl I c) (h:ZS g n env tg body x l Q I s.heap H aU0 aV1 aT5 0):
  codeAny (model g.prog g.w) A (.forLoop tg (.ref I) body [] env) (fun r s'=>match r with | .ok f=>GD g env s H Q f s' | .error e=>E e s') aU0:=by
 have nI:∀b,x.pl I b->¬Own env b:=fun b hb z=>by
  rcases z with z|⟨y,_,z⟩
  ·exact ap b (.inl z) hb
  ·exact ap b (.inr ⟨y,z⟩) hb
 refine codeAny_forLoop_any (fun j s' => ∃i m' H',j+i=l.length/\ZS g n env tg body x l Q I s.heap H s' m' H' i) (fun j s' hj=>?_) l.length ⟨0,aV1,aT5,rfl,h⟩
 obtain⟨i,m',H',hi,S',F',C',x',Ov,hI,fl⟩:=hj
 have drop:∀{h':Heap} {Gp:AH},Goes (fun b=>Own env b\/x.pl I b) s.heap H h' Gp->Goes (Own env) s.heap H h' Gp:=fun C=>C.drop fun b z=>z.elim .inr fun w=>.inl (fs b w)
 cases j with
 |succ j=>
  have hlt:i<l.length:=by lia
  rw [List.drop_eq_getElem_cons hlt] at fl
  refine j6 (ok.next (P:=fun v aU2=>Rep g.tab aU2.heap H' l[i] v/\M4 g aU2 H'/\Goes (x.pl I) s'.heap H' aU2.heap H'/\x.st I (i+1) aU2.heap H') S' x' hI fg Ov (o7 hlt) fun v aU2 a b c d=>⟨a,b,c,d⟩) (fun r s₁ z=>?_) fun O O x=>x.elim
  cases r with
  |none=>exact z.elim
  |some aX4=>
  refine j6 (show wpAny _ A (letOwnedTupleGo tg (.ref I) aX4) _ _ s₁ from z) (fun O aU2 z=>?_) fun O O x=>x.elim
  obtain⟨aX6,aU3,aU7,aX0⟩:=z
  refine j6 (fl A aU2 aX4 R aU3 (F'.CG aU7 ap) aX6) (fun O aU5 y=>?_) fun O O x=>x.elim
  obtain⟨bc3,bc4,aV2,aW2,aV3,aX7⟩:=y
  refine j6 (aX7 A aU5 R aV2 aW2) (fun f aV7 hx=>?_) fun O O x=>x.elim
  obtain⟨o,aY3,aW5,ro,aW0,aX1,aW6,aY4⟩:=hx
  have c45:Goes (Own env) aU2.heap H' aV7.heap aW5:=aV3.trans aW6
  have aV4:Goes (fun b=>Own env b\/x.pl I b) s.heap H aV7.heap aW5:=C'.trans ((aU7.weak fun b z=>.inr z).trans (c45.weak fun b z=>.inl z))
  have back:x.items aW5=some l/\Dj g n env tg body x.items l Q (l.drop (i+1)) aY3 aW5->∃k,k<j+1/\(∃i m' H',k+i=l.length/\ZS g n env tg body x l Q I s.heap H aV7 m' H' i):=fun k5=>
   ⟨j,H9 j,i+1,aY3,aW5,by lia,aW0,aX1,aV4,ok.keeps aX0 (fun b o' hb e'=>c45.keep b o' e' (hI b hb) (nI b hb)) c45.M5 (k5.1.trans Ov.symm),k5.1,fun b hb=>G4 (fun z=>by
    obtain⟨o,eo⟩:=ok.has aX0 hb
    exact nomatch eo.symm.trans (c45.new b (hI b hb) z)),k5.2⟩
  cases o with
  |next=>cases ro;exact back aY4
  |cont=>cases ro;exact back aY4
  |brk=>cases ro;exact⟨.next,aY3,aW5,rfl,aW0,aX1,drop aV4,aY4⟩
  |ret x=>obtain⟨u,rfl,ru⟩:=ro;exact⟨.ret x,aY3,aW5,⟨u,rfl,ru⟩,aW0,aX1,drop aV4,aY4⟩
 |zero=>
  obtain rfl:i=l.length:=(z6 i).symm.trans hi
  rw [List.drop_length] at fl
  refine j6 (ok.fin (P:=fun aU2 => ∃h',aU2={s' with heap:=h'}/\M4 g {s' with heap:=h'} H'/\(∀b o,¬x.pl I b->s'.heap.get? b=some o->h'.get? b=some o)/\T7 s'.heap H' h' H') R.handled S' x' hI fg Ov fun h' a b c=>⟨h',rfl,a,b,c⟩) (fun r s₁ z=>?_) fun O O x=>x.elim
  cases r with
  |some _=>exact z.elim
  |none=>
  obtain⟨h',rfl,aU3,B,aW1⟩:=z
  exact wpAny_execs_nil ⟨.next,m',H',rfl,aU3,F'.yc (fun b o e O w=>B b o (ap b w) e) (fun x O z O=>z) aW1,(drop C').ZR B fs aW1,fl⟩
theorem dF.for{tg iter:PySem.Expr}{body:List Stmt}{pos:Pos}{Q:Out->Loc->AH->Prop}(hf:∀x,foldedSetIterable iter env x=pure x)
  (h:Ev g n env m H iter fun p H₁=>Dg p/\match itemsOf H₁ p with|some l=>Dj g n env tg body (fun H=>itemsOf H p) l Q l m H₁|none=>False):dF g n env m H (.For tg iter body [] pos) Q:=fun A s R S F=>by
 refine wpAny_For (h.then R S F fun v s₁ p H₁ rv aT7 aT8 aU1 k=>?_) hf
 obtain⟨ok,k⟩:=k
 cases el:itemsOf H₁ p with
 |none=>rw [el] at k;exact k.elim
 |some l=>
  rw [el] at k
  refine cN aT7 rv el ok fun I aU0 aT6 aT9 aW3 f1 f2 f3=>?_
  have sI:s.heap.get? I=none:=by
   cases e:s.heap.get? I with
   |none=>rfl
   |some o=>obtain⟨o',e'⟩:=aT8.ex I o e;rw [f1] at e';cases e'
  have ap:=aU1.apart f1
  exact yp (x:=Vo g p) (zZ p) R (fun b z=>z▸sI) (fun b z=>z▸f3) (fun c w z=>ap c w z) ⟨aT6,aU1.goes aT9,(aT8.trans aT9).weak fun O z=>z.elim,aW3,el,fun b z=>z▸f2,k⟩
theorem dF.while{test:PySem.Expr}{body:List Stmt}{pos:Pos}{Q:Out->Loc->AH->Prop}(I:Nat->Loc->AH->Prop)(k:Nat)(h0:I k m H)
  (h:∀j m' H',I j m' H'->Ts g n env m' H' test fun b H₁=>if b then Ex g n env m' H₁ body fun o aV1 aT5=>match o with
    |.next => ∃i,i<j/\I i aV1 aT5
    |.cont => ∃i,i<j/\I i aV1 aT5
    |.brk=>Q .next aV1 aT5
    |.ret x=>Q (.ret x) aV1 aT5
   else Q .next m' H₁):dF g n env m H (.While test body [] pos) Q:=fun A s R S F=>by
 refine wpAny_While (codeAny_whileLoop (fun j s' => ∃m' H',I j m' H'/\M4 g s' H'/\N8 g env m' s'.heap H'/\Goes (Own env) s.heap H s'.heap H') (fun j s' hj=>?_) k ⟨m,H,h0,S,F,.refl ..⟩)
 obtain⟨m',H',hI,S',F',C'⟩:=hj
 refine(h j m' H' hI).then R S' F' fun b s₁ H₁ aT7 aT8 aU1 q=>?_
 cases b with
 |true=>
  simp only [if_true]
  refine j6 (q A s₁ R aT7 aU1) (fun f aU0 hx=>?_) fun O O x=>x.elim
  obtain⟨o,aV1,aT5,ro,aT6,aU8,aT9,aY5⟩:=hx
  have aW9:=(C'.trans aT8.own).trans aT9
  cases o with
  |next=>cases ro;obtain⟨i,hi,hI'⟩:=aY5;exact⟨i,hi,aV1,aT5,hI',aT6,aU8,aW9⟩
  |cont=>cases ro;obtain⟨i,hi,hI'⟩:=aY5;exact⟨i,hi,aV1,aT5,hI',aT6,aU8,aW9⟩
  |brk=>cases ro;exact⟨.next,aV1,aT5,rfl,aT6,aU8,aW9,aY5⟩
  |ret x=>obtain⟨u,rfl,ru⟩:=ro;exact⟨.ret x,aV1,aT5,⟨u,rfl,ru⟩,aT6,aU8,aW9,aY5⟩
 |false=>
  simp only [K6,if_false]
  exact wpAny_execs_nil ⟨.next,m',H₁,rfl,aT7,aU1,C'.trans aT8.own,q⟩
end
noncomputable def del(H:AH)(a:Addr):AH:=fun b=>if b=a then none else H b
theorem Pz(H:AH)(a:Addr):del H a a=none:=if_pos rfl
theorem V2(H:AH)(a:Addr)(o o':N7):upd (upd H a o) a o'=upd H a o':=by
 funext b
 by_cases e:b=a
 ·exact(if_pos e).trans (if_pos e).symm
 ·exact(if_neg e).trans ((if_neg e).trans (if_neg e).symm)
theorem V3{H:AH}{a:Addr}{o:N7}(h:H a=none):del (upd H a o) a=H:=by
 funext b
 by_cases e:b=a
 ·exact(if_pos e).trans (e▸h.symm)
 ·exact(if_neg e).trans (if_neg e)
noncomputable def R5(env:Env):List (Str×NameKind)->List (Str×Addr)->List (Str×Addr)
 | [],cs=>cs
 | (n,k)::r,cs=>R5 env r (if k == .free then(n,(env.cells.lookup n).getD 0)::cs else cs)
theorem tX{env:Env}:∀(names:List (Str×NameKind)) (cs:List (Str×Addr)),(∀x∈names,x.2 = .free->∃c,env.cells.lookup x.1=some c)->
  (forIn names cs fun(x:Str×NameKind) r=>do
   let(name,kind):=x
   if kind == .free then do
    let c <- cellOf env name
    pure (ForInStep.yield ((name,c)::r))
   else pure (ForInStep.yield r):Sem (List (Str×Addr)))=pure (R5 env names cs)
 | [],cs,_=>rfl
 | (n,k)::r,cs,h=>by
  rw [List.forIn_cons]
  have ih:=fun cs'=>tX r cs' fun x hx=>h x (.tail _ hx)
  show _=pure (R5 env r (if(k == .free)=true then(n,(env.cells.lookup n).getD 0)::cs else cs))
  cases e:k == .free with
  |true=>
   have:k = .free:=by simpa using e
   obtain⟨c,hc⟩:=h (n,k) (.head _) this
   have hc':cellOf env n=pure c:=by unfold cellOf;rw [hc]
   simp only [e,if_true,hc',pure_bind,hc,Option.getD_some]
   exact ih _
  |false=>
   simp only [e,K6,if_false,pure_bind]
   exact ih _
theorem aR{scope:Scope}{env:Env}(h:∀x∈scope.names,x.2 = .free->∃c,env.cells.lookup x.1=some c):closureFor scope env=pure (R5 env scope.names []):=by
 unfold closureFor
 have e:=tX scope.names [] h
 first
  |exact e
  | (simp only [bind_pure] at e ⊢;exact e)
theorem cP{env:Env}{y:Str}{c:Addr}:∀(names:List (Str×NameKind)) (cs:List (Str×Addr)),(∀c,cs.lookup y=some c->c=(env.cells.lookup y).getD 0)->(R5 env names cs).lookup y=some c->c=(env.cells.lookup y).getD 0/\((∃c,cs.lookup y=some c)\/(y,.free)∈names)
 | [],cs,h,e=>⟨h c e,.inl ⟨c,e⟩⟩
 | (n,k)::r,cs,h,e=>by
  have e:(R5 env r (if(k == .free)=true then(n,(env.cells.lookup n).getD 0)::cs else cs)).lookup y=some c:=e
  cases hk:k == .free with
  |false=>
   rw [hk] at e
   obtain⟨a,b⟩:=cP r cs h e
   exact⟨a,b.imp id fun z=>.tail _ z⟩
  |true=>
   rw [hk] at e
   have hk':k = .free:=by simpa using hk
   subst hk'
   by_cases hy:y=n
   ·subst hy
    obtain⟨a,b⟩:=cP r ((y,(env.cells.lookup y).getD 0)::cs) (fun c' e'=>by rw [u5,J2] at e';exact(G6 e').symm) e
    exact⟨a,.inr (.head _)⟩
   ·have hb:(y==n)=false:=s8.mpr hy
    obtain⟨a,b⟩:=cP r ((n,(env.cells.lookup n).getD 0)::cs) (fun c' e'=>by rw [u5,hb] at e';exact h c' e') e
    exact⟨a,b.elim (fun⟨c',e'⟩=>.inl ⟨c',by rw [u5,hb] at e';exact e'⟩) fun z=>.inr (.tail _ z)⟩
theorem qJ{env:Env}{y:Str}:∀(names:List (Str×NameKind)) (cs:List (Str×Addr)),((∃c,cs.lookup y=some c)\/(y,.free)∈names)->∃c,(R5 env names cs).lookup y=some c
 | [],cs,h=>by rcases h with h|h;exact h;cases h
 | (n,k)::r,cs,h=>by
  refine qJ r (if(k == .free)=true then(n,(env.cells.lookup n).getD 0)::cs else cs) ?_
  rcases h with⟨c,h⟩|h
  ·left
   split
   ·by_cases hy:y=n
    ·exact⟨_,by rw [u5,hy,J2]⟩
    ·exact⟨c,by rw [u5,s8.mpr hy];exact h⟩
   ·exact⟨c,h⟩
  ·rcases q7.mp h with h|h
   ·cases h
    left
    rw [if_pos (by rfl)]
    exact⟨_,by rw [u5,J2]⟩
   ·exact .inr h
section
variable{τ:T}{g:G τ}{n:Nat}{env:Env}{m:Loc}{H:AH}{A:Around}{s:Shared}
noncomputable def R9(caps:List Nat)(m:Loc):Loc:=m.filter fun x=>caps.contains x.1
theorem W7{caps:List Nat}{x:Nat}:∀{m:Loc} {p:PV},(R9 caps m).lookup x=some p->m.lookup x=some p/\x∈caps
 | [],_,h=>by cases h
 |q::r,p,h=>by
  unfold R9 at h
  rw [List.filter_cons] at h
  obtain⟨q1,q2⟩:=q
  by_cases hx:x=q1
  ·subst hx
   by_cases hc:caps.contains x=true
   ·rw [if_pos hc,u5,J2] at h
    cases h
    exact⟨by rw [u5,J2],by simpa using hc⟩
   ·rw [if_neg hc] at h
    have:=(W7 (m:=r) h).2
    exact absurd (by simpa using this) hc
  ·have hb:(x==q1)=false:=s8.mpr hx
   rw [u5,hb]
   refine W7 (m:=r) ?_
   split at h
   ·rw [u5,hb] at h;exact h
   ·exact h
structure eU{τ:T}(g:G τ)(scope:Scope)(caps:List Nat):Prop where
 kind:scope.kind = .function
 names:∀x∈scope.names,x.2 = .local->scope.names.lookup x.1=some .local
 PB:∀y∈scope.names,y.2≠.cell
 ZV:∀x∈caps,scope.names.lookup (g.tab x)=some .free
 free:∀y∈scope.names,y.2 = .free->∃x∈caps,g.tab x=y.1
noncomputable def yq(c:Str->NameKind->Bool)(names:List (Str×NameKind)):List (Str×NameKind):=names.map fun x=>(x.1,if c x.1 x.2=true then NameKind.cell else x.2)
theorem tY(scope:Scope)(env:Env):(relabel scope env).names=yq (fun n k=>k==NameKind.free&&env.scope.kind == .function&&env.kindOf n==some .cell) scope.names:=by
 show scope.names.map _=_
 unfold yq
 refine List.map_congr_left fun x O=>?_
 obtain⟨n,k⟩:=x
 dsimp only
 split<;>rfl
theorem mX(c:Str->NameKind->Bool){x:Str}{k:NameKind}:∀{names:List (Str×NameKind)},names.lookup x=some k->(yq c names).lookup x=some (if c x k=true then .cell else k)
 | [],h=>by cases h
 | (n,j)::r,h=>by
  show List.lookup x ((n,if c n j=true then NameKind.cell else j)::yq c r)=_
  rw [u5] at h ⊢
  by_cases hx:x=n
  ·subst hx
   rw [J2] at h ⊢
   cases h;rfl
  ·rw [s8.mpr hx] at h ⊢
   exact mX c h
theorem T4{scope:Scope}{env:Env}{x:Str}{k:NameKind}(h:scope.names.lookup x=some k):(relabel scope env).names.lookup x=some (if(k==NameKind.free&&env.scope.kind == .function&&env.kindOf x==some .cell)=true then .cell else k):=by
 rw [tY];exact mX _ h
theorem tZ(c:Str->NameKind->Bool){x:Str}:∀{names:List (Str×NameKind)},(∀y∈names,y.2≠.cell)->(yq c names).lookup x=some .cell->∃k,(x,k)∈names/\c x k=true
 | [],_,h=>by cases h
 | (n,j)::r,nc,h=>by
  have h':List.lookup x ((n,if c n j=true then NameKind.cell else j)::yq c r)=some .cell:=h
  rw [u5] at h'
  by_cases hx:x=n
  ·subst hx
   rw [J2] at h'
   by_cases hc:c x j=true
   ·exact⟨j,.head _,hc⟩
   ·rw [if_neg hc] at h'
    cases h'
    exact absurd rfl (nc _ (.head _))
  ·rw [s8.mpr hx] at h'
   obtain⟨k,a,b⟩:=tZ c (fun y hy=>nc y (.tail _ hy)) h'
   exact⟨k,.tail _ a,b⟩
theorem Aa{scope:Scope}{env:Env}{x:Str}(nc:∀y∈scope.names,y.2≠.cell)(h:(relabel scope env).names.lookup x=some .cell):(x,.free)∈scope.names/\env.kindOf x=some .cell:=by
 rw [tY] at h
 obtain⟨k,a,b⟩:=tZ _ nc h
 simp only [Bool.and_eq_true,beq_iff_eq] at b
 exact⟨by rw [<- b.1.1];exact a,b.2⟩
theorem Hj{scope:Scope}{caps:List Nat}{C:Addr}{s':Shared}{H':AH}(hg:N6 g)(sc:eU g scope caps)(hcap:∀x∈caps,env.kindOf (g.tab x)=some .cell\/env.kindOf (g.tab x)=some .free)(hb:∀x∈caps,∃p,m.lookup x=some p)(F:N8 g env m s.heap H)
  (k:∀b o,s.heap.get? b=some o->H b=none->s'.heap.get? b=some o) (un:∀x,s.heap.get? x≠none->H x=none->H' x=none) (P:T7 s.heap H s'.heap H')
  (hC:∃mv,s'.heap.Ns C mv) (hC1:H' C=none) (hC2:g.h₀.get? C=none):N8 g (compEnvC scope (R5 env scope.names []) C env) (R9 caps m) s'.heap H':=by
 have bnd:∀x∈caps,∃p c v,m.lookup x=some p/\env.cells.lookup (g.tab x)=some c/\s.heap.IsCell c (some v)/\Rep g.tab s.heap H p v:=fun x hx=>by
  obtain⟨p,hp⟩:=hb x hx
  obtain⟨c,v,a,b,d⟩:=F.cell x p hp (hcap x hx)
  exact⟨p,c,v,hp,a,b,d⟩
 have lk:∀y c,(R5 env scope.names []).lookup y=some c->∃x∈caps,g.tab x=y/\env.cells.lookup y=some c:=fun y c e=>by
  obtain⟨a,b⟩:=cP scope.names [] (fun c h=>by cases h) e
  rcases b with⟨_,b⟩|b
  ·cases b
  ·obtain⟨x,hx,rfl⟩:=sc.free _ b rfl
   obtain⟨p,c',v,_,hc,_⟩:=bnd x hx
   rw [hc] at a
   exact⟨x,hx,rfl,by rw [hc,a];rfl⟩
 have lk':∀x∈caps,∀c,env.cells.lookup (g.tab x)=some c->(R5 env scope.names []).lookup (g.tab x)=some c:=fun x hx c hc=>by
  obtain⟨c',e⟩:=qJ (env:=env) (y:=g.tab x) scope.names [] (.inr (mem_of_lookup (sc.ZV x hx)))
  obtain⟨_,_,_,hc'⟩:=lk _ _ e
  rw [hc] at hc';cases hc';exact e
 have knd:∀x∈caps,(compEnvC scope (R5 env scope.names []) C env).kindOf (g.tab x)=some .cell\/(compEnvC scope (R5 env scope.names []) C env).kindOf (g.tab x)=some .free:=fun x hx=>by
  show(relabel scope env).names.lookup _=_\/(relabel scope env).names.lookup _=_
  rw [T4 (sc.ZV x hx)]
  split
  ·exact .inl rfl
  ·exact .inr rfl
 have cl:∀y c v,env.cells.lookup y=some c->s.heap.IsCell c v->s'.heap.IsCell c v:=fun y c v z ⟨o,e,d⟩=>⟨o,k c o e (F.cells y c z).1,d⟩
 obtain⟨mv,hns⟩:=hC
 refine⟨sc.kind,F.globs,F.zL,⟨mv,hns,fun x p e kk=>?_⟩,fun x p e kk=>?_,fun x p e=>.inr (knd x (W7 e).2),hC1,hC2,fun y c e=>?_,fun x y c e1 e2=>?_,fun y e=>?_⟩
 ·rcases knd x (W7 e).2 with z|z<;>rw [z] at kk<;>cases kk
 ·obtain⟨a,b⟩:=W7 e
  obtain⟨p',c,v,hp,hc,hcl,r⟩:=bnd x b
  rw [a] at hp;cases hp
  exact⟨c,v,lk' x b c hc,cl _ _ _ hc hcl,r.keeps P⟩
 ·obtain⟨x,hx,rfl,hc⟩:=lk y c e
  obtain⟨z1,z2,v,z3⟩:=F.cells _ _ hc
  obtain⟨o,eo,_⟩:=id z3
  exact⟨un c (by rw [eo];simp) z1,z2,v,cl _ _ _ hc z3⟩
 ·obtain⟨_,_,_,h1⟩:=lk x c e1
  obtain⟨_,_,_,h2⟩:=lk y c e2
  exact F.inj x y c h1 h2
 ·obtain⟨a,b⟩:=Aa sc.PB e
  obtain⟨x,hx,rfl⟩:=sc.free _ a rfl
  obtain⟨p,c,v,_,hc,_⟩:=bnd x hx
  exact⟨c,lk' x hx c hc⟩
end
inductive CT where
 |one (x:Nat)|many (xs:List Nat)
noncomputable def CT.xs:CT->List Nat
 |.one x=>[x]
 |.many xs=>xs
noncomputable def ZW(H:AH):PV->Option (List PV)
 |.tup l=>some l
 |p=>Q6 H p
noncomputable def bindC(H:AH):CT->PV->Loc->Option Loc
 |.one x,q,m=>some (w7 x q m)
 |.many xs,q,m=>match ZW H q with
  |some l=>if l.length=xs.length then some (qH xs l m) else none
  |none=>none
noncomputable def gH(tab:Nat->Str)(zs:List (Nat×Pos)):List PySem.Expr:=zs.map fun z=>.Name (tab z.1) z.2
noncomputable def rJ(tab:Nat->Str)(ct:CT)(t:PySem.Expr):Prop:=match ct with
 |.one x => ∃p,t = .Name (tab x) p
 |.many xs => ∃zs k p,zs.map (·.1)=xs/\t = .Tuple (gH tab zs) k p
section
variable{τ:T}{g:G τ}{n:Nat}{env:Env}{m:Loc}{H:AH}{A:Around}{s:Shared}
theorem yr(hg:N6 g):∀{zs:List (Nat×Pos)} {qs:List PV} {vs:List Value} {m:Loc} {s:Shared},(∀z∈zs,env.kindOf (g.tab z.1)=some .local)->zs.length=qs.length->M4 g s H->N8 g env m s.heap H->K4 g.tab s.heap H qs vs->
  wpAny (model g.prog g.w) A (assignInOrder ((assignEach (gH g.tab zs) env).map (·.2)) vs) (fun O s'=>M4 g s' H/\N8 g env (qH (zs.map (·.1)) qs m) s'.heap H/\Goes (fun b=>b=env.locals) s.heap H s'.heap H) (fun O O=>False) s
 | [],[],_,m,s,_,_,S,F,r=>by cases r;exact assignInOrder_nil ⟨S,F,.refl ..⟩
 |z::zs,q::qs,_,m,s,k,e,S,F,⟨v,vs,ev,r,rl⟩=>by
  subst ev
  refine assignInOrder_cons (assign_Name (j6 (fD hg S F (k z (.head _)) r) (fun O s₁ ⟨aT7,aU1,aT8⟩=>?_) fun O O x=>x))
  exact j6 (yr hg (fun y hy=>k y (.tail _ hy)) (by simpa using e) aT7 aU1 (rl.keeps aT8.M5)) (fun O aU0 ⟨aT6,aU8,aT9⟩=>⟨aT6,aU8,aT8.trans aT9⟩) fun O O x=>x
 | [],_::_,_,_,_,_,e,_,_,_=>by simp at e
 |_::_,[],_,_,_,_,e,_,_,_=>by simp at e
theorem uc(env:Env):∀(zs:List (Nat×Pos)),(assignEach (gH g.tab zs) env).length=zs.length/\(assignEach (gH g.tab zs) env).findIdx? (·.1)=none
 | []=>⟨rfl,rfl⟩
 |z::zs=>by
  obtain⟨a,b⟩:=uc env zs
  have e:assignEach (gH g.tab (z::zs)) env=(false,assign (.Name (g.tab z.1) z.2) env)::assignEach (gH g.tab zs) env:=rfl
  rw [e]
  exact⟨by rw [m8,a,m8],by rw [List.findIdx?_cons];simp [b]⟩
set_option tactic.hygienic true in
theorem Dk{ct:CT}{tg:PySem.Expr}{q:PV}{v:Value}{m':Loc}(hg:N6 g)(ht:rJ g.tab ct tg)(hk:∀x∈ct.xs,env.kindOf (g.tab x)=some .local)(R:R8 n A)(S:M4 g s H)(F:N8 g env m s.heap H)(r:Rep g.tab s.heap H q v)(h:bindC H ct q m=some m'):
  wpAny (model g.prog g.w) A (assign tg env v) (fun O s'=>M4 g s' H/\N8 g env m' s'.heap H/\Goes (fun b=>b=env.locals) s.heap H s'.heap H) (fun O O=>False) s:=by
 cases ct with
 |one x=>
  obtain⟨p,rfl⟩:=ht
  cases h
  exact assign_Name (fD hg S F (hk x (.head _)) r)
 |many xs=>
  obtain⟨zs,k,p,rfl,rfl⟩:=ht
  simp only [bindC] at h
  split at h
  ·next l el=>
   split at h
   ·next hl=>
    cases h
    rw [arm_assign_Tuple]
    refine c7 (I8 ?_)
    unfold unpack
    obtain⟨e1,e2⟩:=uc (g:=g) env zs
    rw [g8] at hl
    rw [e1,e2,<- hl]
    have h1:(∃l,q = .tup l)\/∃l,Q6 H q=some l:=by
     cases q<;>first|exact .inl ⟨_,rfl⟩|exact .inr ⟨l,el⟩
    have h2:itemsOf H q=some l:=by
     cases q<;>first|exact el|cases el
    refine c7 (z7 (cO R S F r h1 h2 fun vs s' rl S' c' F'=>?_))
    exact j6 (yr hg (fun z hz=>hk _ (w6.mpr ⟨z,hz,rfl⟩)) hl.symm S' F' rl) (fun O aU0 ⟨aT6,aU8,aT9⟩=>⟨aT6,aU8,(c'.weak fun O z=>z.elim).trans aT9⟩) fun O O x=>x
   ·cases h
  ·cases h
noncomputable def tN(c:PySem.Expr)(dp:Nat)(elt target iter:PySem.Expr)(ifs:List PySem.Expr)(it acc:Value)(env:Env):Sem PySem.Fin:=do
 standAt iter.pos
 match <- pyNext it with
 |none=>pure (.done .next)
 |some v=>
  letOwnedTupleGo target it v
  PySem.assign target env v
  let mut ok:=true
  for c in ifs do
   if ok then ok <- isTrue c env (eval c env)
  if ok then
   (do let _ <- PySem.call (.builtin "list.append") [acc,<- eval elt env])
  again (.compLoop c dp it acc env)
theorem Ab{prog:Program}{w:World}{R:Result->Shared->Prop}{elt target iter:PySem.Expr}{gens:List Comprehension}{scope:Scope}{pos:Pos}{dp:Nat}{ifs:List PySem.Expr}{it acc:Value}{env:Env}(hT:compTurn (.ListComp elt gens scope pos) dp it acc env=tN (.ListComp elt gens scope pos) dp elt target iter ifs it acc env)(I:Nat->Shared->Prop)
  (turn:∀n s,I n s->wpAny (model prog w) A (pyNext it) (fun r s₁=>match r with
   |none=>R (.ok .next) s₁
   |some v=>wpAny (model prog w) A (letOwnedTupleGo target it v) (fun O aX8=>wpAny (model prog w) A (assign target env v) (fun O aU0=>
     wpAny (model prog w) A (forIn ifs true fun c r=>if r=true then do let ok <- isTrue c env (eval c env);pure (ForInStep.yield ok) else pure (ForInStep.yield r)) (fun ok aU2=>
      if ok=true then wpAny (model prog w) A (eval elt env) (fun x aU5=>
       wpAny (model prog w) A (call (.builtin "list.append") [acc,x]) (fun O aV7 => ∃m,m<n/\I m aV7) (fun O O=>False) aU5) (fun O O=>False) aU2
      else ∃m,m<n/\I m aU2) (fun O O=>False) aU0) (fun O O=>False) aX8) (fun O O=>False) s₁) (fun O O=>False) s)
  (n:Nat) (h:I n s):codeAny (model prog w) A (.compLoop (.ListComp elt gens scope pos) dp it acc env) R s:=by
 refine codeAny_loop rfl I (fun n s hI=>?_) n h
 show wpAny _ A ((compTurn (.ListComp elt gens scope pos) dp it acc env).onRaise (fun x=>do noteFrame x env;theTreesLotGoes x)) _ _ s
 refine wpAny_noted ?_
 rw [hT]
 unfold tN
 refine c7 (I8 (c7 (j6 (turn n s hI) (fun r s₁ aU6=>?_) fun O O h'=>h'.elim)))
 cases r with
 |none=>exact j4 aU6
 |some v=>
  refine c7 (j6 aU6 (fun O aX8 aZ6=>?_) fun O O h'=>h'.elim)
  refine c7 (j6 aZ6 (fun O aU0 aX5=>c7 (j6 aX5 (fun ok aU2 aV8=>?_) fun O O h'=>h'.elim)) fun O O h'=>h'.elim)
  cases ok with
  |false=>exact j4 ⟨rfl,aV8⟩
  |true=>
   exact c7 (c7 (j6 aV8 (fun x aU5 aX3=>c7 (j6 aX3 (fun O aV7 aW4=>j4 (j4 ⟨rfl,aW4⟩)) fun O O h'=>h'.elim)) fun O O h'=>h'.elim))
noncomputable def WC(ct:CT)(wi:Loc->AH->(Bool->AH->Prop)->Prop)(we:Loc->AH->(PV->AH->Prop)->Prop)(it:AH->Option (List PV))(l:List PV)(D:Addr)(fin:List PV->AH->Prop):List PV->List PV->Loc->AH->Prop
 | [],acc,_,H=>fin acc H
 |q::r,acc,m,H=>lk (bindC H ct q m) fun m₁=>wi m₁ H fun b H₁=>sel b (we m₁ H₁ fun x aT5=>(aT5 D=some (.list acc)/\acc.length<sizeLine/\it aT5=some l)/\WC ct wi we it l D fin r (acc++[x]) m₁ (upd aT5 D (.list (acc++[x]))))
   ((H₁ D=some (.list acc)/\it H₁=some l)/\WC ct wi we it l D fin r acc m₁ H₁)
noncomputable def cQ{τ:T}(g:G τ)(n:Nat)(env:Env)(ifs:List PySem.Expr)(wi:Loc->AH->(Bool->AH->Prop)->Prop):Prop := ∀m H Q,wi m H Q->∀A s,R8 n A->M4 g s H->N8 g env m s.heap H->
 wpAny (model g.prog g.w) A (forIn ifs true fun c r=>if r=true then do let ok <- isTrue c env (eval c env);pure (ForInStep.yield ok) else pure (ForInStep.yield r)) (TsP g s H Q) (fun O O=>False) s
theorem cQ.nil:cQ g n env [] fun O H K=>K true H:=fun O H O q O O O S O=>wpAny_tests_nil ⟨H,S,.refl ..,q⟩
theorem cQ.one{c:PySem.Expr}{wi:Loc->AH->(Bool->AH->Prop)->Prop}(h:∀m H Q,wi m H Q->Ts g n env m H c Q):cQ g n env [c] wi:=fun m H Q q A s R S F=>wpAny_tests_one (h m H Q q A s R S F)
theorem yt{p:PV}{I:Addr}{k:Nat}{P:Value->Shared->Prop}{E:Value->Shared->Prop}(hh:A.handled=none)(S:M4 g s H)(x:X4 g p I k s.heap H)(h:P (.ref I) s):wpAny (model g.prog g.w) A (pyIter (.ref I)) P E s:=by
 cases p with
 |tup l=>
  obtain⟨t,vs,j,it,ot,rl⟩:=x
  have hne:t≠I:=fun z=>by obtain⟨o,e1,e2,e3⟩:=it;rw [z,e1] at ot;cases ot;cases e3
  exact(Walks.tuple (prog:=g.prog) (w:=g.w) hh I t hne vs.toArray).self k s P E ⟨it,⟨_,ot,rfl,_,rfl⟩⟩ h
 |rng a b=>exact(Walks.range (prog:=g.prog) (w:=g.w) hh I a 1 (b-a).toNat).self k s P E (by
  have x':IsRangeIter s.heap I (a+k) (((b-a).toNat:Int)-k) 1:=x
  rw [Int.mul_one];exact x') h
 |lst l=>
  obtain⟨t,vs,j,it,ot,q,rl⟩:=x
  exact wpAny_pyIter_listiter it h
 |obj a=>obtain⟨it,l,hl⟩:=x;exact wpAny_pyIter_listiter it h
 |_=>exact x.elim
structure CI{τ:T}(g:G τ)(env:Env)(Fp:Addr->Prop)(x:Mi g)(l:List PV)(I D:Addr)(W:List PV->List PV->Loc->AH->Prop)(s₁:Shared)(H₁:AH)(i:Nat)(m:Loc)(acc:List PV)(H:AH)(s:Shared):Prop where
 S:M4 g s H
 F:N8 g env m s.heap H
 C:Goes Fp s₁.heap H₁ s.heap H
 xi:x.st I i s.heap H
 el:x.items H=some l
 hI:∀b,x.pl I b->H b=none
 hD:H D=some (.list acc)
 w:W (l.drop i) acc m H
theorem CI.go{Fp:Addr->Prop}{x:Mi g}{tg:PySem.Expr}{l acc:List PV}{I D:Addr}{W:List PV->List PV->Loc->AH->Prop}{s₁ aU5:Shared}{H₁ H':AH}{i:Nat}(ok:tW x tg)(aY6:Goes Fp s₁.heap H₁ aU5.heap H')(xi:x.st I i aU5.heap H')(el:x.items H'=some l)(hI:∀b,x.pl I b->H' b=none)
  (c:Calm aU5.heap H' s.heap H) (S:M4 g s H) (F:N8 g env m s.heap H) (e:x.items H=some l) (hD:H D=some (.list acc)) (w:W (l.drop i) acc m H):CI g env Fp x l I D W s₁ H₁ i m acc H s:=
 ⟨S,F,aY6.trans (c.weak fun O z=>z.elim),ok.keeps xi (fun b o hb e=>c.keep b o e (hI b hb) id) c.M5 (e.trans el.symm),e,fun b hb=>G4 fun z=>by
  obtain⟨o,eo⟩:=ok.has xi hb
  exact(nomatch (c.new b (hI b hb) z).symm.trans eo),hD,w⟩
theorem yu{p:PV}{l:List PV}{D:Addr}{o:N7}(ne:p≠.obj D)(e:itemsOf H p=some l):itemsOf (upd H D o) p=some l:=by
 cases p with
 |obj a=>
  show(upd H D o a).bind N7.CQ = some l
  rw [w5 fun z=>ne (congrArg PV.obj z)]
  exact e
 |_=>exact e
theorem ud{gens:List Comprehension}{scope:Scope}{pos:Pos}{dp:Nat}{Fp:Addr->Prop}{acc₀:List PV}{ct:CT}{tg elt iter:PySem.Expr}{ifs:List PySem.Expr}{x:Mi g}{l:List PV}{I D:Addr}{R':Result->Shared->Prop}{fin:List PV->AH->Prop}{s₁:Shared}{H₁:AH}{wi:Loc->AH->(Bool->AH->Prop)->Prop}{we:Loc->AH->(PV->AH->Prop)->Prop}(hT:∀it acc env,compTurn (.ListComp elt gens scope pos) dp it acc env=tN (.ListComp elt gens scope pos) dp elt tg iter ifs it acc env)(hg:N6 g)(R:R8 n A)
  (ht:rJ g.tab ct tg) (hk:∀x∈ct.xs,env.kindOf (g.tab x)=some .local) (he:∀m H Q,we m H Q->Ev g n env m H elt Q) (hi:cQ g n env ifs wi) (ok:tW x tg)
  (a1:∀b,x.pl I b->s₁.heap.get? b=none) (a3:s₁.heap.get? env.locals=none\/Fp env.locals) (bI:∀b,x.pl I b->g.h₀.get? b=none) (ap:∀b,(b=env.locals\/∃x,env.cells.lookup x=some b)->¬x.pl I b) (np:∀H o,x.items H=some l->x.items (upd H D o)=some l)
  (K:∀s' H' m' acc,M4 g s' H'->H' D=some (.list acc)->fin acc H'->Goes Fp s₁.heap H₁ s'.heap H'->N8 g env m' s'.heap H'->R' (.ok .next) s')
  (h:CI g env Fp x l I D (WC ct wi we x.items l D fin) s₁ H₁ 0 m acc₀ H s):
  codeAny (model g.prog g.w) A (.compLoop (.ListComp elt gens scope pos) dp (.ref I) (.ref D) env) R' s:=by
 refine Ab (hT _ _ _) (fun j s' => ∃i m' H' acc,i+j=l.length/\CI g env Fp x l I D (WC ct wi we x.items l D fin) s₁ H₁ i m' acc H' s') (fun j s' hj=>?_) l.length ⟨0,m,H,acc₀,z6 _,h⟩
 obtain⟨i,m',H',acc,hij,ci⟩:=hj
 cases j with
 |succ j=>
  have hlt:i<l.length:=by exact Mine.Internal.eqs ‹_›
  have hd:l.drop i=l[i]::l.drop (i+1):=List.drop_eq_getElem_cons hlt
  have w:=ci.w
  rw [hd] at w
  obtain⟨m₁,aZ7,w⟩:=U8 w
  refine j6 (ok.next (P:=fun v aU2=>Rep g.tab aU2.heap H' l[i] v/\M4 g aU2 H'/\Goes (x.pl I) s'.heap H' aU2.heap H'/\x.st I (i+1) aU2.heap H') ci.S ci.xi ci.hI bI ci.el (o7 hlt) fun v aU2 a b c d=>⟨a,b,c,d⟩) (fun r sn z=>?_) fun O O x=>x.elim
  cases r with
  |none=>exact z.elim
  |some aX4=>
  refine j6 (show wpAny _ A (letOwnedTupleGo tg (.ref I) aX4) _ _ sn from z) (fun O aU2 z=>?_) fun O O x=>x.elim
  obtain⟨aX6,aU3,aU7,aX0⟩:=z
  refine j6 (Dk hg ht hk R aU3 (ci.F.CG aU7 ap) aX6 aZ7) (fun O aU5 z=>?_) fun O O x=>x.elim
  obtain⟨aV2,aW2,aV3⟩:=z
  have bb4:x.st I (i+1) aU5.heap H':=ok.keeps aX0 (fun b o' hb e'=>aV3.keep b o' e' (ci.hI b hb) fun z=>ap env.locals (.inl rfl) (z▸hb)) aV3.M5 rfl
  have aY6:Goes Fp s₁.heap H₁ aU5.heap H':=(((ci.C.weak (F':=fun b=>Fp b\/x.pl I b\/b=env.locals) fun O z=>.inl z).trans (aU7.weak fun b z=>.inr (.inl z))).trans (aV3.weak fun b z=>.inr (.inr z))).drop fun b z=>z.elim .inr fun z=>z.elim (fun w=>.inl (a1 b w)) fun w=>w▸a3
  have nx:∀{s H m acc},CI g env Fp x l I D (WC ct wi we x.items l D fin) s₁ H₁ (i+1) m acc H s->∃k,k<j+1/\∃i m' H' acc,i+k=l.length/\CI g env Fp x l I D (WC ct wi we x.items l D fin) s₁ H₁ i m' acc H' s:=fun z=>⟨j,H9 j,i+1,_,_,_,by exact Mine.Internal.eqt ‹_›,z⟩
  refine j6 (hi _ _ _ w A aU5 R aV2 aW2) (fun b aV7 z=>?_) fun O O x=>x.elim
  obtain⟨aW5,aW0,aW6,k⟩:=z
  cases b with
  |false=>exact nx (CI.go ok aY6 bb4 ci.el ci.hI aW6 aW0 (aW2.goes aW6) k.1.2 k.1.1 k.2)
  |true=>
   refine(he _ _ _ k).then R aW0 (aW2.goes aW6) fun u bb5 q bc5 ru aY7 aY8 bc6 k=>?_
   refine j6 ((Q0 (g:=g) (n:=n) (Q:=fun r Gp=>Gp=upd bc5 D (.list (acc++[q]))) (p:=q) k.1.1 (Nat.le_of_lt k.1.2.1) rfl) A bb5 _ [.ref D,u] R aY7 ⟨rfl,by decide⟩ ⟨.ref D,[u],rfl,rfl,u,[],rfl,ru,rfl⟩) (fun r aZ8 z=>?_) fun O O x=>x.elim
   obtain⟨pr,aY9,_,aZ9,bb6,rfl⟩:=z
   exact nx (CI.go ok aY6 bb4 ci.el ci.hI ((aW6.trans aY8).trans bb6) aZ9 (bc6.goes bb6) (np _ _ k.1.2.2) (p8 ..) k.2)
 |zero=>
  obtain rfl:i=l.length:=by exact ‹_›
  have w:=ci.w
  rw [List.drop_length] at w
  refine j6 (ok.fin (P:=fun aU2 => ∃h',aU2={s' with heap:=h'}/\M4 g {s' with heap:=h'} H'/\(∀b o,¬x.pl I b->s'.heap.get? b=some o->h'.get? b=some o)/\T7 s'.heap H' h' H') R.handled ci.S ci.xi ci.hI bI ci.el fun h' a b c=>⟨h',rfl,a,b,c⟩) (fun r sn z=>?_) fun O O x=>x.elim
  cases r with
  |some _=>exact z.elim
  |none=>
  obtain⟨h',rfl,aU3,B,aW1⟩:=z
  exact K _ H' m' acc aU3 ci.hD w (ci.C.ZR B a1 aW1) (ci.F.yc (fun b o e O w=>B b o (ap b w) e) (fun x O z O=>z) aW1)
end
section
variable{τ:T}{g:G τ}{n:Nat}{env:Env}{m:Loc}{H:AH}{A:Around}{s:Shared}
theorem Dl{P:Value->Shared->Prop}{E:Value->Shared->Prop}(S:M4 g s H)(K:∀D s',M4 g s' (upd H D (.list []))->Calm s.heap H s'.heap (upd H D (.list []))->s.heap.get? D=none->H D=none->g.h₀.get? D=none->P (.ref D) s'):
  wpAny (model g.prog g.w) A (newList []) P E s:=by
 obtain⟨d1,d2,d3⟩:=dN S
 obtain⟨aU3,aU7⟩:=S.track (o:=.list []) (x:={cls:=.type "list",data:=.seq ([]:List Value).toArray}) rfl ⟨[],0,s6 _ rfl,rfl⟩
 exact wpAny_newObj_type (hd:=by size_fits) (K _ _ aU3 aU7 d1 d2 d3)
theorem Mj{scope:Scope}{cl:List (Str×Addr)}{P:Env->Shared->Prop}{E:Value->Shared->Prop}(S:M4 g s H)(nc:∀y∈scope.names,y.2≠.cell)(hk:scope.kind = .function)
  (K:∀C s',M4 g s' H->Calm s.heap H s'.heap H->s.heap.get? C=none->H C=none->g.h₀.get? C=none->(∃mv,s'.heap.Ns C mv)->P (newEnv scope C env.globals cl env.qual none .none (some env) 0) s'):
  wpAny (model g.prog g.w) A (newFunctionEnv scope env.globals cl [] env.qual none .none (some env)) P E s:=by
 obtain⟨g1,g2,g3⟩:=dN S
 refine wpAny_newFunctionEnv nc (by intro y hy;simp at hy) (fun aX3 hns B=>?_) hk
 have aV2:=S.push {cls:=.type (if(some env).isSome then "dict" else "frame"),data:=.dict #[]} s.toks
 obtain⟨o4,es4,ep4,e4,e4',_⟩:=id hns
 obtain⟨aW0,aW6⟩:=mQ aV2 (s6 _ rfl) ⟨fun xs k e=>(by cases e),fun xs e=>(by cases e)⟩ g2 g3 B ⟨_,e4⟩ (s.toks+([]:List (Str×Value)).length)
 have c0:Calm s.heap H (s.heap.push {cls:=.type (if(some env).isSome then "dict" else "frame"),data:=.dict #[]}) H:=Calm.push _ _ _
 have c35:Calm s.heap H aX3 H:=((c0.weak (F':=fun b=>b=s.heap.objs.size) fun O z=>z.elim).trans aW6).drop fun b z=>.inl (by rw [z];exact g1)
 exact K _ _ aW0 c35 g1 g2 g3 ⟨_,hns⟩
noncomputable def Ac{τ:T}{g:G τ}(x:Mi g):Prop := ∀{A:Around} {s:Shared} {H:AH} {I:Addr} {k:Nat} {P:Value->Shared->Prop} {E:Value->Shared->Prop},A.handled=none->M4 g s H->x.st I k s.heap H->P (.ref I) s->wpAny (model g.prog g.w) A (pyIter (.ref I)) P E s
structure ItG{τ:T}(g:G τ)(tg:PySem.Expr)(x:Mi g)(I:Addr)(l:List PV)(s₁ aU0:Shared)(H₁:AH):Prop where
 ok:tW x tg
 self:Ac x
 S:M4 g aU0 H₁
 c:Calm s₁.heap H₁ aU0.heap H₁
 st:x.st I 0 aU0.heap H₁
 f1:∀b,x.pl I b->s₁.heap.get? b=none
 f2:∀b,x.pl I b->H₁ b=none
 f3:∀b,x.pl I b->g.h₀.get? b=none
 el:x.items H₁=some l
 np:∀D,H₁ D=none->∀H o,x.items H=some l->x.items (upd H D o)=some l
noncomputable def Hl{τ:T}(g:G τ)(n:Nat)(env:Env)(m:Loc)(H:AH)(iter tg:PySem.Expr)(Q:(AH->Option (List PV))->List PV->AH->Prop):Prop:=
 ∀A s,R8 n A->M4 g s H->N8 g env m s.heap H->∀(P:Value->Shared->Prop) (E:Value->Shared->Prop),(∀x I l s₁ aU0 H₁,ItG g tg x I l s₁ aU0 H₁->M4 g s₁ H₁->Calm s.heap H s₁.heap H₁->N8 g env m s₁.heap H₁->Q x.items l H₁->P (.ref I) aU0)->wpAny (model g.prog g.w) A (eval iter env) (fun v s'=>wpAny (model g.prog g.w) A (pyIter v) P E s') (fun O O=>False) s
theorem Hl.of{iter tg:PySem.Expr}{Q:(AH->Option (List PV))->List PV->AH->Prop} (h:Ev g n env m H iter fun p H₁=>Yy p (lk (itemsOf H₁ p) fun l=>Q (fun H=>itemsOf H p) l H₁)):Hl g n env m H iter tg Q:=fun A s R S F P E K=>
 h.then R S F fun v s₁ p H₁ rv aT7 aT8 aU1 k=>by
  obtain⟨ok,k⟩:=k.src
  obtain⟨l,el,k⟩:=U8 k
  refine cN aT7 rv el ok fun I aU0 aT6 aT9 aW3 f1 f2 f3=>K (Vo g p) I l s₁ aU0 H₁ ⟨zZ p,fun hh S x h=>yt hh S x h,aT6,aT9,aW3,fun b z=>z▸f1,fun b z=>z▸f2,fun b z=>z▸f3,el,fun D hD H o e=>yu (fun z=>?_) e⟩ aT7 aT8 aU1 k
  subst z
  rcases P0 (p:=.obj D) el with w|⟨b,w,e⟩
  ·cases w
  ·cases w;rw [hD] at e;cases e
theorem pK{scope:Scope}{caps:List Nat}{tg elt iter:PySem.Expr}{rest:List Comprehension}{ifs:List PySem.Expr}{pos:Pos}{x:Mi g}{I:Addr}{aU0:Shared}{l:List PV}{RR:Value->Addr->Result->Shared->Prop}{fin:Addr->List PV->AH->Prop}{E:Value->Shared->Prop}
  (hg:N6 g) (R:R8 n A) (sc:eU g scope caps) (hcap:∀x∈caps,env.kindOf (g.tab x)=some .cell\/env.kindOf (g.tab x)=some .free) (hb:∀x∈caps,∃p,m.lookup x=some p)
  (S:M4 g s H) (F:N8 g env m s.heap H) (aU4:ItG g tg x I l s aU0 H)
  (L:∀D C aU5,M4 g aU5 (upd H D (.list []))->N8 g (compEnvC scope (R5 env scope.names []) C env) (R9 caps m) aU5.heap (upd H D (.list []))->Calm s.heap H aU5.heap (upd H D (.list []))->x.st I 0 aU5.heap (upd H D (.list []))->x.items (upd H D (.list []))=some l->(∀b,x.pl I b->upd H D (.list []) b=none)->s.heap.get? C=none->H D=none->
   (∀b,(b=(compEnvC scope (R5 env scope.names []) C env).locals\/∃x,(compEnvC scope (R5 env scope.names []) C env).cells.lookup x=some b)->¬x.pl I b)->(∀H o,x.items H=some l->x.items (upd H D o)=some l)->
   (∀s' H' m' acc,M4 g s' H'->H' D=some (.list acc)->fin D acc H'->Calm s.heap H s'.heap H'->N8 g (compEnvC scope (R5 env scope.names []) C env) m' s'.heap H'->RR (.ref D) C (.ok .next) s')->
   codeAny (model g.prog g.w) A (.compLoop (.ListComp elt (⟨tg,iter,ifs,0⟩::rest) scope pos) 0 (.ref I) (.ref D) (compEnvC scope (R5 env scope.names []) C env)) (RR (.ref D) C) aU5)
  (K:∀D C s' H' acc,M4 g s' H'->H' D=some (.list acc)->fin D acc H'->Calm s.heap H s'.heap H'->s.heap.get? D=none->H D=none->s.heap.get? C=none->H' C=none->g.h₀.get? C=none->(∃mc o,s'.heap.Ns C mc/\s'.heap.get? C=some o/\(∀xs k,o.data≠.seq xs k)/\∀xs,o.data≠.fields xs)->RR (.ref D) C (.ok .next) s'):
  wpAny (model g.prog g.w) A (newList []) (fun acc aU2=>wpAny (model g.prog g.w) A (newFunctionEnv scope env.globals (R5 env scope.names []) [] env.qual none .none (some env)) (fun cenv aU5=>
   codeAny (model g.prog g.w) A (.compStart (.ListComp elt (⟨tg,iter,ifs,0⟩::rest) scope pos) 0 (.ref I) acc {cenv with scope:=relabel scope env}) (RR acc cenv.locals) aU5) E aU2) E aU0:=by
 have aT6:=aU4.S
 have aT9:=aU4.c
 have aW3:=aU4.st
 have f1:=aU4.f1
 have f2:=aU4.f2
 have f3:=aU4.f3
 have el:=aU4.el
 refine Dl aT6 fun D aU2 aU3 aU7 d1 d2 d3=>Mj aU3 sc.PB sc.kind fun C aU5 aV2 aV3 g1 g2 g3 hns=>?_
 have aV4:Calm s.heap H aU5.heap (upd H D (.list [])):=(aT9.trans aU7).trans aV3
 have sN:∀b,aU0.heap.get? b=none->s.heap.get? b=none:=fun b z=>by
  cases e:s.heap.get? b with
  |none=>rfl
  |some o=>obtain⟨o',e'⟩:=aT9.ex b o e;rw [z] at e';cases e'
 have sN3:∀b,aU2.heap.get? b=none->aU0.heap.get? b=none:=fun b z=>by
  cases e:aU0.heap.get? b with
  |none=>rfl
  |some o=>obtain⟨o',e'⟩:=aU7.ex b o e;rw [z] at e';cases e'
 have sD:=sN _ d1
 have sC:=sN _ (sN3 _ g1)
 have eI:∀b,x.pl I b->∃o,aU0.heap.get? b=some o:=fun b hb=>aU4.ok.has aW3 hb
 have nID:∀b,x.pl I b->b≠D:=fun b hb z=>by obtain⟨o,e⟩:=eI b hb;rw [z,d1] at e;cases e
 have nIC:∀b,x.pl I b->C≠b:=fun b hb z=>by obtain⟨o,e⟩:=eI b hb;rw [<- z,sN3 _ g1] at e;cases e
 have uI:∀b,x.pl I b->upd H D (.list []) b=none:=fun b hb=>by rw [w5 (nID b hb)];exact f2 b hb
 have Ov:x.items (upd H D (.list []))=some l:=aU4.np D d2 _ _ el
 have xI:x.st I 0 aU5.heap (upd H D (.list [])):=aU4.ok.keeps aW3 (fun b o hb e=>(aU7.trans aV3).keep b o e (f2 b hb) id) (aU7.trans aV3).M5 (Ov.trans el.symm)
 have Fc:N8 g (compEnvC scope (R5 env scope.names []) C env) (R9 caps m) aU5.heap (upd H D (.list [])):=
  Hj (s:=s) (s':=aU5) hg sc hcap hb F (fun b o e q=>aV4.keep b o e q id) (fun x q e=>G4 fun z=>q (aV4.new x e z)) aV4.M5 hns g2 g3
 have ap:∀b,(b=(compEnvC scope (R5 env scope.names []) C env).locals\/∃x,(compEnvC scope (R5 env scope.names []) C env).cells.lookup x=some b)->¬x.pl I b:=by
  intro b hb' z
  rcases hb' with w|⟨y0,w⟩
  ·exact nIC _ z w.symm
  ·obtain⟨a,b'⟩:=cP (env:=env) scope.names [] (fun c h=>by cases h) w
   rcases b' with⟨_,b'⟩|b'
   ·cases b'
   ·obtain⟨y,hy,rfl⟩:=sc.free _ b' rfl
    obtain⟨p',hp'⟩:=hb y hy
    obtain⟨c,v',e1,⟨o',e2,_⟩,_⟩:=F.cell y p' hp' (hcap y hy)
    rw [e1] at a
    have a':b=c:=a
    have f1:=f1 _ z;rw [a'] at f1;rw [f1] at e2;cases e2
 have loop:=L D C aU5 aV2 Fc aV4 xI Ov uI sC d2 ap (fun H o e=>aU4.np D d2 H o e) (fun s' H' m' acc S' hD' hf C' F'=>by
  obtain⟨mc,⟨o,es,ep,e1,e2,e3⟩,_⟩:=F'.ns
  exact K _ _ s' H' acc S' hD' hf C' sD d2 sC F'.Cz g3 ⟨mc,o,⟨o,es,ep,e1,e2,e3⟩,e1,fun xs k e=>(by rw [e2] at e;cases e),fun xs e=>(by rw [e2] at e;cases e)⟩)
 exact codeAny_compStart_list loop (aU4.self R.handled aV2 xI loop)
theorem Dm{scope:Scope}{caps:List Nat}{ct:CT}{tg elt iter:PySem.Expr}{ifs:List PySem.Expr}{pos:Pos}{x:Mi g}{I:Addr}{aU0:Shared}{l:List PV}{RR:Value->Addr->Result->Shared->Prop}{fin:Addr->List PV->AH->Prop}{E:Value->Shared->Prop}{wi:Loc->AH->(Bool->AH->Prop)->Prop}{we:Loc->AH->(PV->AH->Prop)->Prop}
  (hg:N6 g) (R:R8 n A) (sc:eU g scope caps) (hcap:∀x∈caps,env.kindOf (g.tab x)=some .cell\/env.kindOf (g.tab x)=some .free) (hb:∀x∈caps,∃p,m.lookup x=some p)
  (ht:rJ g.tab ct tg) (hk:∀x∈ct.xs,scope.names.lookup (g.tab x)=some .local)
  (S:M4 g s H) (F:N8 g env m s.heap H) (aU4:ItG g tg x I l s aU0 H)
  (he:∀env',env'.scope=relabel scope env->∀m H Q,we m H Q->Ev g n env' m H elt Q) (hi:∀env',env'.scope=relabel scope env->cQ g n env' ifs wi)
  (h:∀D,H D=none->WC ct wi we x.items l D (fin D) l [] (R9 caps m) (upd H D (.list [])))
  (K:∀D C s' H' acc,M4 g s' H'->H' D=some (.list acc)->fin D acc H'->Calm s.heap H s'.heap H'->s.heap.get? D=none->H D=none->s.heap.get? C=none->H' C=none->g.h₀.get? C=none->(∃mc o,s'.heap.Ns C mc/\s'.heap.get? C=some o/\(∀xs k,o.data≠.seq xs k)/\∀xs,o.data≠.fields xs)->RR (.ref D) C (.ok .next) s'):
  wpAny (model g.prog g.w) A (newList []) (fun acc aU2=>wpAny (model g.prog g.w) A (newFunctionEnv scope env.globals (R5 env scope.names []) [] env.qual none .none (some env)) (fun cenv aU5=>
   codeAny (model g.prog g.w) A (.compStart (.ListComp elt [⟨tg,iter,ifs,0⟩] scope pos) 0 (.ref I) acc {cenv with scope:=relabel scope env}) (RR acc cenv.locals) aU5) E aU2) E aU0:=
 pK hg R sc hcap hb S F aU4 (fun D C aU5 aV2 Fc aV4 xI Ov uI sC d2 ap np K'=>ud (Fp:=fun O=>False) (s₁:=s) (H₁:=H) (fin:=fin D) (fun O O O=>rfl) hg R ht (fun x hx=>by
  show(relabel scope env).names.lookup _=_
  rw [T4 (hk x hx)]
  rfl) (he _ rfl) (hi _ rfl) aU4.ok aU4.f1 (.inl sC) aU4.f3 ap np (fun s' H' m' acc S' hD' hf C' F'=>K' s' H' m' acc S' hD' hf C' F') ⟨aV2,Fc,aV4,xI,Ov,uI,p8 ..,h _ d2⟩) K
theorem sS{h':Heap}{c:Addr}{x:Obj}(S:M4 g s H)(e:s.heap.get? c=some x)(nd:(∀xs k,x.data≠.seq xs k)/\∀xs,x.data≠.fields xs)(hc:H c=none)(hb:g.h₀.get? c=none)(B:Heap.ExtBut c s.heap h')(t:Nat):
  M4 g {s with heap:=h',toks:=t} H/\T7 s.heap H h' H:=by
 have P:T7 s.heap H h' H:=by
  refine⟨fun b o ys k q d cc=>B b o (fun z=>?_) q,fun b o ys k q d cc z=>⟨B b o (fun z=>?_) q,z⟩,fun b o ys q d cc=>B b o (fun z=>?_) q⟩
  all_goals (subst z;rw [e] at q;cases q)
  ·exact nd.1 _ _ d
  ·exact nd.1 _ _ d
  ·exact nd.2 _ d
 refine⟨⟨fun b o q=>B b o (fun z=>?_) (S.keep b o q),S.fresh,fun a o q=>(S.obj a o q).keeps P fun y z=>B a y (fun w=>?_) z,S.gens,S.os⟩,P⟩
 ·subst z;rw [hb] at q;cases q
 ·subst w;rw [hc] at q;cases q
theorem sU{D:Addr}{acc:List PV}{s':Shared}{H':AH}(S:M4 g s' H')(e:H' D=some (.list acc))(C:Calm s.heap H s'.heap H')(hD:s.heap.get? D=none):
  M4 g s' (del H' D)/\Calm s.heap H s'.heap (del H' D)/\Rep g.tab s'.heap (del H' D) (.lst acc) (.ref D):=by
 have P:T7 s'.heap H' s'.heap (del H' D):=⟨fun O O O O e O O=>e,fun b O O O e' O O q=>⟨e',by unfold del;split;rfl;exact q⟩,fun O O O e O O=>e⟩
 obtain⟨vs,k,o,r⟩:=S.obj _ _ e
 have un:∀b,del H' D b≠none->H' b≠none:=fun b z w=>z (by unfold del;split;rfl;exact w)
 refine⟨⟨S.keep,fun a z=>S.fresh a (un a z),fun a o z=>?_,S.gens,S.os⟩,⟨C.keep,fun b z w=>C.new b z (un b w),C.ex,C.M5.trans P⟩,⟨D,vs,k,rfl,o,Pz ..,r.keeps P⟩⟩
 unfold del at z
 split at z
 ·cases z
 ·exact(S.obj a o z).keeps P fun O y=>y
noncomputable def CompI(m:Loc)(caps:List Nat)(ct:CT)(wi:Loc->AH->(Bool->AH->Prop)->Prop)(we:Loc->AH->(PV->AH->Prop)->Prop)(fin:List PV->AH->Prop)(it:AH->Option (List PV))(l:List PV)(H:AH):Prop:=
 ∀D,H D=none->WC ct wi we it l D (fun acc H'=>fin acc (del H' D)) l [] (R9 caps m) (upd H D (.list []))
noncomputable def cR(m:Loc)(caps:List Nat)(ct:CT)(wi:Loc->AH->(Bool->AH->Prop)->Prop)(we:Loc->AH->(PV->AH->Prop)->Prop)(fin:List PV->AH->Prop)(p:PV)(H:AH):Prop:=
 Yy p (lk (itemsOf H p) fun l=>CompI m caps ct wi we fin (fun H=>itemsOf H p) l H)
theorem Ev.comp{scope:Scope}{caps:List Nat}{ct:CT}{tg elt iter:PySem.Expr}{ifs:List PySem.Expr}{pos:Pos}{wi:Loc->AH->(Bool->AH->Prop)->Prop}{we:Loc->AH->(PV->AH->Prop)->Prop}{Q:PV->AH->Prop}(hg:N6 g)(sc:eU g scope caps)(hcap:∀x∈caps,env.kindOf (g.tab x)=some .cell\/env.kindOf (g.tab x)=some .free)(hb:∀x∈caps,∃q,m.lookup x=some q)
  (ht:rJ g.tab ct tg) (hk:∀x∈ct.xs,scope.names.lookup (g.tab x)=some .local) (hf:∀x,foldedSetIterable iter env x=pure x)
  (he:∀env',env'.scope=relabel scope env->∀m H Q,we m H Q->Ev g n env' m H elt Q) (hi:∀env',env'.scope=relabel scope env->cQ g n env' ifs wi) (h:Hl g n env m H iter tg (CompI m caps ct wi we fun acc H'=>Q (.lst acc) H')):Ev g n env m H (.ListComp elt [⟨tg,iter,ifs,0⟩] scope pos) Q:=fun A s R S F=>by
 have hcl:∀x∈scope.names,x.2 = .free->∃c,env.cells.lookup x.1=some c:=fun x hx hfree=>by
  obtain⟨y,hy,e⟩:=sc.free x hx hfree
  obtain⟨p,hp⟩:=hb y hy
  obtain⟨c,_,e1,_⟩:=F.cell y p hp (hcap y hy)
  exact⟨c,by rw [<- e];exact e1⟩
 rw [eval_ListComp]
 refine wpAny_comprehension_free (use:=none) rfl hf (aR hcl) sc.kind sc.names (h A s R S F _ _ fun x I l s₁ aU0 H₁ aU4 aT7 aT8 aU1 k=>?_)
 refine Dm (RR:=fun acc C=>compPost (model g.prog g.w) A (fun O O=>False) none (aX g s H Q) acc C) (fin:=fun D acc H'=>Q (.lst acc) (del H' D)) hg R sc hcap hb ht hk aT7 aU1 aU4 he hi k fun D C s' H' acc S' hD' hf C' sD hD sC hC ZX ⟨mc,o,hns,eo,nd⟩=>⟨mc,hns,fun h' B=>?_⟩
 obtain⟨aT6,aX9⟩:=sS S' eo nd hC ZX B.extBut s'.toks
 have aW9:Calm s.heap H h' H':=(aT8.trans C').ext B.extBut (by
  cases e:s.heap.get? C with
  |none=>rfl
  |some o=>obtain⟨o',e'⟩:=aT8.ex C o e;rw [sC] at e';cases e') aX9
 have sD':s.heap.get? D=none:=by
  cases e:s.heap.get? D with
  |none=>rfl
  |some o=>obtain⟨o',e'⟩:=aT8.ex D o e;rw [sD] at e';cases e'
 obtain⟨aU3,aV9,r⟩:=sU aT6 hD' aW9 sD'
 exact⟨.lst acc,_,r,aU3,aV9,hf⟩
theorem dF.Vp{scope:Scope}{caps:List Nat}{ct:CT}{tg elt iter:PySem.Expr}{ifs:List PySem.Expr}{pos pos' spos:Pos}{x:Nat}{wi:Loc->AH->(Bool->AH->Prop)->Prop}{we:Loc->AH->(PV->AH->Prop)->Prop}{Q:Out->Loc->AH->Prop}(hg:N6 g)(sc:eU g scope caps)(hcap:∀x∈caps,env.kindOf (g.tab x)=some .cell\/env.kindOf (g.tab x)=some .free)(hb:∀x∈caps,∃q,m.lookup x=some q)
  (ht:rJ g.tab ct tg) (hk:∀x∈ct.xs,scope.names.lookup (g.tab x)=some .local) (hf:∀x,foldedSetIterable iter env x=pure x) (hx:env.kindOf (g.tab x)=some .local)
  (hs:swapsWith (.ListComp elt [⟨tg,iter,ifs,0⟩] scope pos) (some (.Name (g.tab x) pos')) spos.line env=pure true)
  (he:∀env',env'.scope=relabel scope env->∀m H Q,we m H Q->Ev g n env' m H elt Q) (hi:∀env',env'.scope=relabel scope env->cQ g n env' ifs wi) (h:Hl g n env m H iter tg (CompI m caps ct wi we fun acc H'=>Q .next (w7 x (.lst acc) m) H')):dF g n env m H (.Assign [.Name (g.tab x) pos'] (.ListComp elt [⟨tg,iter,ifs,0⟩] scope pos) spos) Q:=fun A s R S F=>by
 have hcl:∀x∈scope.names,x.2 = .free->∃c,env.cells.lookup x.1=some c:=fun x hx hfree=>by
  obtain⟨y,hy,e⟩:=sc.free x hx hfree
  obtain⟨p,hp⟩:=hb y hy
  obtain⟨c,_,e1,_⟩:=F.cell y p hp (hcap y hy)
  exact⟨c,by rw [<- e];exact e1⟩
 rw [exec_Assign_Name_used _ _ _ _ hs]
 refine c7 (I8 (c7 ?_))
 show wpAny _ A (do let _ <- comprehension (.ListComp elt [⟨tg,iter,ifs,0⟩] scope pos) scope env _ (newList []) false (eval iter env) (some (PySem.assign (.Name (g.tab x) pos') env))) _ _ s
 refine c7 (j6 (wpAny_comprehension_free (use:=some (PySem.assign (.Name (g.tab x) pos') env)) (Q:=fun O s'=>GD g env s H Q .next s') (E:=fun O O=>False) rfl hf (aR hcl) sc.kind sc.names (h A s R S F _ _ fun xx I l s₁ aU0 H₁ aU4 aT7 aT8 aU1 k=>?_)) (fun O s' hq=>j4 (j4 hq)) fun O O e=>e)
 refine Dm (RR:=fun acc C=>compPost (model g.prog g.w) A (fun O O=>False) (some (PySem.assign (.Name (g.tab x) pos') env)) (fun O s'=>GD g env s H Q .next s') acc C) (fin:=fun D acc H'=>Q .next (w7 x (.lst acc) m) (del H' D)) hg R sc hcap hb ht hk aT7 aU1 aU4 he hi k fun D C s' H' acc S' hD' hf C' sD hD sC hC ZX ⟨mc,o,hns,eo,nd⟩=>?_
 have sC':s.heap.get? C=none:=by
  cases e:s.heap.get? C with
  |none=>rfl
  |some o=>obtain⟨o',e'⟩:=aT8.ex C o e;rw [sC] at e';cases e'
 have sD':s.heap.get? D=none:=by
  cases e:s.heap.get? D with
  |none=>rfl
  |some o=>obtain⟨o',e'⟩:=aT8.ex D o e;rw [sD] at e';cases e'
 have ba0:=aT8.trans C'
 have nCL:C≠env.locals:=fun z=>by
  obtain⟨mv,⟨oL,es,ep,eL,_⟩,_⟩:=F.ns
  rw [<- z,sC'] at eL;cases eL
 -- the value,as it is called behind the store
 have fin:∀q aU9,M4 g s' aU9->Calm s.heap H s'.heap aU9->aU9 C=none->Rep g.tab s'.heap aU9 q (.ref D)->Q .next (w7 x q m) aU9->
   wpAny (model g.prog g.w) A (PySem.assign (.Name (g.tab x) pos') env (.ref D)) (fun O s'' => ∃m,s''.heap.Ns C m/\∀h',Heap.SameBut C s''.heap h'->GD g env s H Q .next {s'' with heap:=h'}) (fun O O=>False) s':=by
  intro q aU9 aU3 aV9 hC3 r3 q3
  refine assign_Name (j6 (fD hg aU3 (F.goes aV9) hx r3) (fun O aU5 ⟨aV2,aW2,aV3⟩=>?_) fun O O x=>x)
  have eo4:=aV3.keep C o eo hC3 nCL
  obtain⟨o',es',ep',n1,n2⟩:=hns
  rw [eo] at n1;cases n1
  refine⟨mc,⟨o,es',ep',eo4,n2⟩,fun h' B=>?_⟩
  obtain⟨aW0,aY0⟩:=sS aV2 eo4 nd hC3 ZX B.extBut aU5.toks
  have aX1:N8 g env (w7 x q m) h' aU9:=aW2.yc (fun b o e O w=>B.extBut b o (fun z=>by
   subst z
   rcases w with w|⟨y,w⟩
   ·exact nCL w
   ·obtain⟨_,_,v,⟨oc,ec,_⟩⟩:=F.cells y _ w
    rw [sC'] at ec;cases ec) e) (fun x O z O=>z) aY0
  exact⟨.next,_,aU9,rfl,aW0,aX1,(aV9.own.trans (aV3.weak fun b z=>.inl z)).ext B.extBut sC' aY0,q3⟩
 show wpAny _ A (PySem.assign (.Name (g.tab x) pos') env (.ref D)) _ _ _
 obtain⟨aU3,aV9,r⟩:=sU S' hD' ba0 sD'
 exact fin (.lst acc) _ aU3 aV9 (by unfold del;split;rfl;exact hC) r hf
end
section
variable{τ:T}{g:G τ}{n:Nat}{env:Env}{m:Loc}{H:AH}{A:Around}{s:Shared}{Q:PV->AH->Prop}
theorem PJ{C:Addr}(S:M4 g s H):∃a dx,a=s.heap.objs.size+1/\dx=s.heap.objs.size/\H a=none/\H dx=none/\a≠dx/\
  M4 g {s with heap:=(s.heap.push emptyDict).push (instObj C s.heap.objs.size)} (upd (upd H dx (.attrs [])) a (.inst C dx))/\Calm s.heap H ((s.heap.push emptyDict).push (instObj C s.heap.objs.size)) (upd (upd H dx (.attrs [])) a (.inst C dx)):=by
 obtain⟨f1,f2,f3⟩:=dN S
 obtain⟨aT7,aT8⟩:=S.track (o:=.attrs []) (x:=emptyDict) rfl ⟨fun O=>none,Heap.Ns1.of_empty (Heap.Ns.new s.heap (.type "dict")),fun y h=>absurd rfl h,fun O=>rfl⟩
 obtain⟨g1,g2,g3⟩:=dN aT7
 have sz:(s.heap.push emptyDict).objs.size=s.heap.objs.size+1:=Heap.size_push ..
 obtain⟨aT6,aT9⟩:=aT7.track (o:=.inst C s.heap.objs.size) (x:=instObj C s.heap.objs.size) rfl (s6 _ rfl)
 dsimp only at aT6 aT9 g2
 rw [sz] at aT6 aT9 g2
 have ne:s.heap.objs.size+1≠s.heap.objs.size:=by lia
 rw [w5 ne] at g2
 exact⟨_,_,rfl,rfl,g2,f2,ne,aT6,aT8.trans aT9⟩
theorem Vq{C f:Addr}{l:List PV}(hg:N6 g)(hi:g.init C=some f)(h:∀a dx,H a=none->H dx=none->a≠dx->yg g n (.obj f) (.obj a::l) (upd (upd H dx (.attrs [])) a (.inst C dx)) fun r H'=>r = .none/\Q (.obj a) H'):Cl g (n+1) (.obj C) l H Q:=fun A s v vs R S rv rl=>by
 cases rv
 obtain⟨i1,i2,i3,i4⟩:=hg.init C f hi
 have X:=hg.X.keeps S.keep
 obtain⟨a,dx,rfl,rfl,ha,hdx,ne,S',c'⟩:=PJ (C:=C) S
 refine wpAny_call (codeAny_mono (R:=CK g s H Q) ?_ fun r s' ⟨u,e,x⟩=>by subst e;exact x)
 refine make_core (makes_of X i1) (looks_findIn X i2) (fun self=>bind_fn X self (beq_iff_eq.mp i3)) (.inl rfl) ?_
 have w:(Code.builtin "type.__call__" ⟨.ref C::vs,[]⟩).weight=1:=rfl
 have u:(Code.builtin "type.__call__" ⟨.ref C::vs,[]⟩).cUnits=1:=rfl
 have R':R8 n (A.under (.builtin "type.__call__" ⟨.ref C::vs,[]⟩)):=⟨R.handled,by
  show A.depth+(Code.builtin "type.__call__" ⟨.ref C::vs,[]⟩).weight+2*n<_
  rw [w];have:=R.depth;lia,by
  show A.units+(Code.builtin "type.__call__" ⟨.ref C::vs,[]⟩).cUnits+20*n+100<_
  rw [u];have:=R.units;lia⟩
 have rl':=rl.keeps c'.M5
 refine codeAny_mono (h _ _ ha hdx ne _ _ (.ref f) (.ref (s.heap.objs.size+1)::vs) R' S' rfl ⟨_,_,rfl,rfl,rl'⟩) fun r s' ⟨u,e,z⟩=>?_
 subst e
 obtain⟨p,H',r',aT6,aT9,rfl,q⟩:=z
 cases r'
 exact⟨rfl,_,rfl,.obj _,H',rfl,aT6,c'.trans aT9,q⟩
theorem Ev.PK{o:PySem.Expr}{x:Nat}{es:List PySem.Expr}{apos pos:Pos}(hg:N6 g)(hb:qy o)(hline:(apos.endLine==pos.line)=true)(hlen:es.length<30)(hs:∀e∈es,au e)
  (h:Ev g n env m H o fun p H₁ => ∃C f,p = .obj C/\g.tL C x=some f/\mJ g n env m H₁ pos es fun l aT5=>Cl g n (.obj f) l aT5 Q):Ev g n env m H (.Call (.Attribute o (g.tab x) apos) es [] pos) Q:=fun A s R S F=>by
 rw [arm_eval_Call,hb]
 refine c7 (h.then R S F fun v s' p H' r S' c F' q=>aX.calm c (c7 (I8 ?_)))
 obtain⟨C,f,rfl,hm,q⟩:=q
 cases r
 obtain⟨mc,f1,f2,f3,f4⟩:=hg.tL C x f hm
 have X:=hg.X.keeps S'.keep
 have few:methodCallForm (es.length+([]:List Keyword).length) (backTo pos (starEach es env)) (backToKw pos (keywordEach [] env))=true:=by
  have:(backTo pos (starEach es env)).all (fun y => !y.1)=true:=by
   have:=noStar (pos:=pos) (env:=env) hs
   rw [List.any_eq_false] at this
   rw [m9]
   intro y hy
   have:=this y hy
   simpa using this
  unfold methodCallForm
  rw [this]
  show(true&&true&&decide (es.length+0+0<30))=true
  simp [hlen]
 unfold methodCall
 rw [few]
 refine c7 (z7 ?_)
 show wpAny _ _ (getMethod (.ref C) (g.tab x) _) _ _ _
 refine method_cls X f1 (cls_value X f2 f3 rfl ?_)
 refine c7 ?_
 unfold methodCallPos
 rw [hline]
 refine j4 ?_
 have aT6:=S'.tok (s'.toks+1)
 exact aX.calm (s:=s') (s₁:={s' with toks:=s'.toks+1}) (.refl ..) (aY (s:={s' with toks:=s'.toks+1}) hg R aT6 F' hs (jG hg f4) (rfl:Rep g.tab s'.heap H' (.obj f) (.ref f)) (fl:=[]) rfl q)
end
section
variable{τ:T}{g:G τ}{n:Nat}{env:Env}{m:Loc}{H:AH}{A:Around}{s:Shared}{Q:PV->AH->Prop}
theorem Ev.gJ{pos:Pos}(k:N7)(hk:k = .N5 []\/k = .T9 []\/k = .Q9 [])(h:∀a,H a=none->Q (.obj a) (upd H a k)):Ev g n env m H (.Dict [] [] pos) Q:=fun A s R S F=>by
 refine wpAny_Dict_empty ?_
 obtain⟨f1,f2,f3⟩:=dN S
 have r:jR g (s.heap.push {cls:=.type "dict",data:=.dict #[]}) (upd H s.heap.objs.size k) s.heap.objs.size k:=by
  rcases hk with rfl|rfl|rfl
  ·exact⟨[],Heap.DictOf.new ..,.nil⟩
  ·exact⟨[],Heap.DictOf.new ..,.nil⟩
  ·exact⟨[],Heap.DictOfH.new ..,.nil⟩
 obtain⟨S',c⟩:=S.track (x:={cls:=.type "dict",data:=.dict #[]}) rfl r
 exact⟨.obj _,_,rfl,S',c,h _ f2⟩
section
variable{K J:Type} [DecidableEq K] [DecidableEq J](D:KD g K J)
inductive aa2(D:KD g K J)(h:Heap)(H:AH):List (K×PV)->List (Value×Value)->Prop
 |nil:aa2 D h H [] []
 |cons {k:K} {p:PV} {kv v:Value} {l:List (K×PV)} {r:List (Value×Value)} (a:Rep g.tab h H (D.key k) kv) (b:Rep g.tab h H p v) (z:aa2 D h H l r):aa2 D h H ((k,p)::l) ((kv,v)::r)
inductive aJ7(D:KD g K J)(h:Heap)(H:AH)(l:List (K×PV))(vs:List (Value×Value)):Prop
 |mk (kvs:List (J×Value)) (c:Carries D.knd vs kvs) (r:gD D.f g.tab h H l kvs) (e:kvs.map (·.1)=(l.map (·.1)).map D.f)
end
end
theorem uf{α:Type}:∀{ks:List Str} {vs:List α},ks.length=vs.length->ks.Nodup->ks.filterMap (fun n=>((ks.zip vs).lookup n).map fun v=>(n,v))=ks.zip vs
 | [],[],_,_=>rfl
 |k::ks,v::vs,e,nd=>by
  obtain⟨n1,n2⟩:=G5.mp nd
  rw [List.zip_cons_cons,List.filterMap_cons,u5,J2]
  simp only [Option.map_some]
  have ih:=uf (ks:=ks) (vs:=vs) (by simpa using e) n2
  refine congrArg _ (Eq.trans (aM fun x hx=>?_) ih)
  have:(x==k)=false:=s8.mpr fun z=>n1 (z▸hx)
  rw [u5,this]
 | [],_::_,e,_=>by simp at e
 |_::_,[],e,_=>by simp at e
theorem iJ{α:Type}{x:Str}:∀{ks:List Str} {vs:List α},ks.length=vs.length->x∈ks->((ks.zip vs).lookup x).isNone=false
 |k::ks,v::vs,e,h=>by
  rw [List.zip_cons_cons,u5]
  by_cases z:x=k
  ·rw [z,J2];rfl
  ·rw [s8.mpr z]
   exact iJ (by simpa using e) ((q7.mp h).resolve_left z)
 | [],_,_,h=>by cases h
 |_::_,[],e,_=>by simp at e
theorem Vr{α:Type}{ks:List Str}{vs:List α}(e:ks.length=vs.length)(nd:ks.Nodup):(ks++[]).filterMap (fun n=>((ks.zip vs).lookup n).map fun v=>(n,v))=ks.zip vs:=by rw [s7];exact uf e nd
theorem cT{fd:FuncData}{args:List Arg}{kd:List (Option PySem.Expr)}{df:List PySem.Expr}{vs:List Value}(hp:fd.params=⟨[],args,none,[],kd,none,df⟩)(hd:fd.defaults = .none)(nd:(args.map (·.arg)).Nodup) (hl:vs.length=args.length):
  bindArgs fd ⟨vs,[]⟩=pure ((args.map (·.arg)).zip vs):=by
 have el:(args.map (·.arg)).length=vs.length:=by rw [g8,hl]
 have hz:¬(decide (vs.length > (args.map (·.arg)).length)&&true)=true:=fun z=>absurd (u9 (q9.mp z).1) (el▸Nat.lt_irrefl _)
 have hm:¬(!(((args.map (·.arg)).take ((args.map (·.arg)).length-0)).filter fun n=>(((args.map (·.arg)).zip vs).lookup n).isNone).isEmpty)=true:=by
  rw [Nat.sub_zero,List.take_length,List.filter_eq_nil_iff.mpr fun x hx=>Bool.eq_false_iff.mp (iJ el hx)]
  exact nofun
 obtain⟨_,_,_,_,_,_,_,_,_,_,_,_,_,_,_⟩:=fd
 cases hp
 cases hd
 refine(if_neg hz).trans ?_
 rw [show(Option.getD none #[]:Array Value).toList=[] from rfl,List.drop_nil,List.zip_nil_right]
 have fin:=congrArg (pure:List (Str×Value)->Sem (List (Str×Value))) (Vr el nd)
 exact(if_neg hm).trans fin
noncomputable abbrev PE:=PySem.Expr
theorem n7{a b:Bool}(h:(a&&b)=true):a=true/\b=true:=q9.mp h
noncomputable def PV.int? : PV->Option Int
 |.int i=>some i
 |_=>.none
noncomputable def PV.pL : PV->Option (List PV)
 |.tup l=>some l
 |.lst l=>some l
 |_=>.none
noncomputable def PV.Vs : PV->Option (List PV)
 |.tup l=>some l
 |_=>.none
noncomputable def PV.truth? : PV->Option Bool
 |.none=>some false
 |.bool b=>some b
 |.int i=>some (i != 0)
 |.tup l=>@Bool.rec (fun O=>Option Bool) .none (some (!l.isEmpty)) (Nat.ble l.length 1000)
 |_=>.none
noncomputable def PV.isO:PV->Bool
 |.obj _=>true
 |_=>false
theorem cM.of{p:PV}{B:Bool->Prop}(h:lk p.truth? B):cM p B:=by
 cases p with
 |tup l=>
  have h:lk (@Bool.rec (fun O=>Option Bool) .none (some (!l.isEmpty)) (Nat.ble l.length 1000)) B:=h
  cases e:Nat.ble l.length 1000 with
  |false=>rw [e] at h;exact h.elim
  |true=>
   rw [e] at h
   exact⟨d8 (d9 e) (by rw [p7];decide),h⟩
 |_=>exact h
noncomputable abbrev Ns:=List (Str×NameKind)
noncomputable def qK(k:NameKind)(ns:Ns)(s:Str):Bool:=(ns.lookup s==some k)
noncomputable def Ml(ns:Ns)(s:Str):Bool:=qK .local ns s||qK .cell ns s
theorem R7{k:NameKind}{ns:Ns}{s:Str}(h:qK k ns s=true):ns.lookup s=some k:=eq_of_beq h
theorem mY{ns:Ns}{s:Str}(h:Ml ns s=true):ns.lookup s=some .local\/ns.lookup s=some .cell:=(Bool.or_eq_true_iff.mp h).imp R7 R7
structure V7(ns:Ns)(env:Env):Prop where
 kind:env.scope.kind = .function
 look:∀s k,ns.lookup s=some k->k≠.free->env.kindOf s=some k
 free:∀s,ns.lookup s=some .free->env.kindOf s=some .cell\/env.kindOf s=some .free
theorem V7.comp{env env':Env}{sc:Scope}(he:env'.scope=relabel sc env)(hk:sc.kind = .function):V7 sc.names env':=by
 have k:∀s,env'.kindOf s=(relabel sc env).names.lookup s:=fun s=>by unfold Env.kindOf;rw [he]
 refine⟨by rw [he];exact hk,fun s k' e ne=>?_,fun s e=>?_⟩
 ·rw [k,T4 e,show(k'==NameKind.free)=false from s8.mpr ne]
  rfl
 ·rw [k,T4 e]
  cases(NameKind.free==NameKind.free&&env.scope.kind == .function&&env.kindOf s==some .cell) with
  |true=>exact .inl rfl
  |false=>exact .inr rfl
theorem Ts.mono{τ:T}{g:G τ}{n:Nat}{env:Env}{m:Loc}{H:AH}{e:PySem.Expr}{Q Q':Bool->AH->Prop}(h:Ts g n env m H e Q)(k:∀p H',Q p H'->Q' p H'):Ts g n env m H e Q':=
 fun A s R S F=>h.then R S F fun b s' H' S' c F' q=>⟨H',S',c,k b H' q⟩
theorem V7.lc{ns:Ns}{env:Env}{s:Str}(he:V7 ns env)(h:Ml ns s=true):env.kindOf s=some .local\/env.kindOf s=some .cell:=(mY h).imp (fun k=>he.look _ _ k nofun) fun k=>he.look _ _ k nofun
noncomputable def kids:PE->List PE
 |.BoolOp _ es _=>es
 |.BinOp a _ b _=>[a,b]
 |.UnaryOp _ a _=>[a]
 |.IfExp t a b _=>[t,a,b]
 |.Dict ks vs _=>ks.map (·.getD default)++vs
 |.ListComp e gs _ _=>match gs with
  | ⟨t,i,ifs,_⟩::_=>e::t::i::ifs
  | []=>[e]
 |.Compare a _ bs _=>a::bs
 |.Call f es _ _=>f::es
 |.Attribute e _ _=>[e]
 |.Subscript a i _=>[a,i]
 |.List es _=>es
 |.Tuple es _ _=>es
 |.Slice lo hi st _=>[lo.getD default,hi.getD default,st.getD default]
 |_=>[]
noncomputable def kid(e:PE)(i:Nat):PE:=(kids e).getD i default
noncomputable def kc:PE->Nat
 |.Constant _ k _=>k
 |.Tuple _ k _=>k
 |_=>0
structure Sh(e:PE):Prop where
 plain:au e
 fold:∀env v,foldedSetIterable e env v=pure v
 marks:∀op,behindInMarks op e=false
noncomputable abbrev WE := ∀{τ:T},G τ->Nat->Loc->AH->(PV->AH->Prop)->Prop
noncomputable abbrev WT := ∀{τ:T},G τ->Nat->Loc->AH->(Bool->AH->Prop)->Prop
noncomputable abbrev aa3(to:(Nat->Str)->PE->PE)(ok:T->Ns->PE->Bool)(w:WE):Prop := ∀{τ:T} {g:G τ},N6 g->∀{ns:Ns} {env:Env} {n:Nat} {m:Loc} {H:AH} {Q:PV->AH->Prop} (x:PE),ok τ ns x=true->V7 ns env->w g n m H Q->Ev g n env m H (to τ.tab x) Q
noncomputable abbrev al4(to:(Nat->Str)->PE->PE)(ok:T->Ns->PE->Bool)(w:WT):Prop := ∀{τ:T} {g:G τ},N6 g->∀{ns:Ns} {env:Env} {n:Nat} {m:Loc} {H:AH} {Q:Bool->AH->Prop} (x:PE),ok τ ns x=true->V7 ns env->w g n m H Q->Ts g n env m H (to τ.tab x) Q
structure X where
 to:(Nat->Str)->PE->PE
 ok:T->Ns->PE->Bool
 wE:WE
 wT:WT
 sE:aa3 to ok wE
 sT:al4 to ok wT
 sh:∀tab x,Sh (to tab x)
 bs:Bool
 sb:bs=true->∀tab x,qy (to tab x)
 nc:Bool
 sn:nc=true->∀tab x t line env,swapsWith (to tab x) t line env=pure false
 nt:Bool
 st:nt=true->∀tab x ts j p env,swappedStores [.Tuple ts j p] (to tab x) env=pure none
noncomputable def rv{α:Type}(Q:α->AH->Prop)(H:AH)(b:α):Prop:=Q b H
noncomputable def kT(Q:Bool->AH->Prop)(p:PV)(H:AH):Prop:=lk p.truth? (rv Q H)
noncomputable abbrev asT(w:WE):WT:=fun g n m H Q=>w g n m H (kT Q)
structure Sf(b:Bool)(e:PE):Prop where
 sh:Sh e
 pt:plainT e
 sb:b=true->qy e
 sn:∀t line env,swapsWith e t line env=pure false
 st:∀ts j p env,swappedStores [.Tuple ts j p] e env=pure none
theorem al5{to:(Nat->Str)->PE->PE}{ok:T->Ns->PE->Bool}{w:WE}(s:aa3 to ok w)(pt:∀tab x,plainT (to tab x)):al4 to ok (asT w):=
 fun hg O O O O O O x h he w=>Ts.plain (pt _ x) ((s hg x h he w).mono fun O O z=>cM.of z)
noncomputable def X.of(b:Bool)(to:(Nat->Str)->PE->PE)(ok:T->Ns->PE->Bool)(w:WE)(s:aa3 to ok w)(f:∀tab x,Sf b (to tab x)):X:=
 ⟨to,ok,w,asT w,s,al5 s fun tab x=>(f tab x).pt,fun tab x=>(f tab x).sh,b,fun h tab x=>(f tab x).sb h,true,fun O tab x=>(f tab x).sn,true,fun O tab x=>(f tab x).st⟩
section
variable{α:Type}(w:AH->(PV->AH->Prop)->Prop)(v:AH->(Bool->AH->Prop)->Prop)(Q:PV->AH->Prop)(B:Bool->AH->Prop)(L:List PV->AH->Prop)(p:PV)(H:AH)(b:Bool)
noncomputable def kC(l:List PV)(H:AH):Prop:=L (p::l) H
noncomputable def kL(w:AH->(List PV->AH->Prop)->Prop)(p:PV)(H:AH):Prop:=w H (kC L p)
noncomputable def kV:Prop:=sel b (w H Q) (Q p H)
noncomputable def kAV:Prop:=lk p.truth? (kV w Q p H)
noncomputable def kU:Prop:=sel b (Q p H) (w H Q)
noncomputable def kOV:Prop:=lk p.truth? (kU w Q p H)
noncomputable def kAT(b:Bool)(H:AH):Prop:=sel b (v H B) (B false H)
noncomputable def kOT(b:Bool)(H:AH):Prop:=sel b (B true H) (v H B)
end
section
variable{τ:T}(g:G τ)(n:Nat)
noncomputable def Gq:List X->Loc->AH->(List PV->AH->Prop)->Prop
 | [],_,H,Q=>Q [] H
 |e::es,m,H,Q=>e.wE g n m H (kL Q (Gq es m))
noncomputable def aa4:List X->Loc->AH->(PV->AH->Prop)->Prop
 | [],_,_,_=>False
 | [e],m,H,Q=>e.wE g n m H Q
 |e::es,m,H,Q=>e.wE g n m H (kAV (aa4 es m) Q)
noncomputable def aa5:List X->Loc->AH->(PV->AH->Prop)->Prop
 | [],_,_,_=>False
 | [e],m,H,Q=>e.wE g n m H Q
 |e::es,m,H,Q=>e.wE g n m H (kOV (aa5 es m) Q)
noncomputable def aa6:List X->Loc->AH->(Bool->AH->Prop)->Prop
 | [],_,H,Q=>Q true H
 |e::es,m,H,Q=>e.wT g n m H (kAT (aa6 es m) Q)
noncomputable def aa7:List X->Loc->AH->(Bool->AH->Prop)->Prop
 | [],_,H,Q=>Q false H
 |e::es,m,H,Q=>e.wT g n m H (kOT (aa7 es m) Q)
end
noncomputable abbrev hd(es:List PE):PE:=es.headD default
noncomputable def toL(tab:Nat->Str):List X->List PE->List PE
 | [],_=>[]
 |x::xs,es=>x.to tab (hd es)::toL tab xs es.tail
noncomputable def Ad(τ:T)(ns:Ns):List X->List PE->Bool
 | [],_=>true
 |x::xs,es=>x.ok τ ns (hd es)&&Ad τ ns xs es.tail
theorem JG(tab:Nat->Str)(xs:List X):∀es,(toL tab xs es).length=xs.length:=by
 induction xs with
 |nil=>exact fun O=>rfl
 |cons x xs ih=>exact fun es=>congrArg (·+ 1) (ih _)
theorem W8(tab:Nat->Str)(xs:List X):∀es,∀e∈toL tab xs es,au e:=by
 induction xs with
 |nil=>exact fun O O h=>nomatch h
 |cons x xs ih=>exact fun es e h=>(q7.mp h).elim (fun z=>z▸(x.sh _ _).plain) (ih _ e)
section
variable{τ:T}{g:G τ}(hg:N6 g){ns:Ns}{env:Env}{n:Nat}{pos:Pos}
include hg
theorem rK(xs:List X):∀(es:List PE) {m:Loc} {H:AH} {Q:List PV->AH->Prop},Ad τ ns xs es=true->V7 ns env->Gq g n xs m H Q->mJ g n env m H pos (toL τ.tab xs es) Q:=by
 induction xs with
 |nil=>exact fun O O O O O O w=>mJ.nil w
 |cons x xs ih=>exact fun es m H Q h he w=>mJ.cons (x.sh _ _).plain ((x.sE hg _ (n7 h).1 he w).mono fun p H₁ w=>ih _ (n7 h).2 he w)
theorem al6(xs:List X):∀(es:List PE) {m:Loc} {H:AH} {Q:PV->AH->Prop},Ad τ ns xs es=true->V7 ns env->aa4 g n xs m H Q->Ev g n env m H (.BoolOp .And (toL τ.tab xs es) pos) Q:=by
 induction xs with
 |nil=>exact fun O O O O O O w=>w.elim
 |cons x xs ih=>cases xs with
  |nil=>exact fun es m H Q h he w=>Ev.av8 (x.sE hg _ (n7 h).1 he w)
  |cons y ys=>exact fun es m H Q h he w=>Ev.av9 ((x.sE hg _ (n7 h).1 he w).mono fun p H₁ w=>cM.of (by
    obtain⟨b,e,w⟩:=U8 w
    refine j9 e ?_
    cases b with
    |true=>exact ih _ (n7 h).2 he w
    |false=>exact w))
theorem al7(xs:List X):∀(es:List PE) {m:Loc} {H:AH} {Q:PV->AH->Prop},Ad τ ns xs es=true->V7 ns env->aa5 g n xs m H Q->Ev g n env m H (.BoolOp .Or (toL τ.tab xs es) pos) Q:=by
 induction xs with
 |nil=>exact fun O O O O O O w=>w.elim
 |cons x xs ih=>cases xs with
  |nil=>exact fun es m H Q h he w=>Ev.or1 (x.sE hg _ (n7 h).1 he w)
  |cons y ys=>exact fun es m H Q h he w=>Ev.orS ((x.sE hg _ (n7 h).1 he w).mono fun p H₁ w=>cM.of (by
    obtain⟨b,e,w⟩:=U8 w
    refine j9 e ?_
    cases b with
    |true=>exact w
    |false=>exact ih _ (n7 h).2 he w))
theorem al8(xs:List X):∀(es:List PE) {m:Loc} {H:AH} {Q:Bool->AH->Prop},Ad τ ns xs es=true->V7 ns env->aa6 g n xs m H Q->Ts g n env m H (.BoolOp .And (toL τ.tab xs es) pos) Q:=by
 induction xs with
 |nil=>exact fun O O O O O O w=>Ts.Zr w
 |cons x xs ih=>exact fun es m H Q h he w=>Ts.and ((x.sT hg _ (n7 h).1 he w).mono fun b H₁ w=>by
   cases b with
   |true=>exact ih _ (n7 h).2 he w
   |false=>exact w)
theorem al9(xs:List X):∀(es:List PE) {m:Loc} {H:AH} {Q:Bool->AH->Prop},Ad τ ns xs es=true->V7 ns env->aa7 g n xs m H Q->Ts g n env m H (.BoolOp .Or (toL τ.tab xs es) pos) Q:=by
 induction xs with
 |nil=>exact fun O O O O O O w=>Ts.aj9 w
 |cons x xs ih=>exact fun es m H Q h he w=>Ts.or ((x.sT hg _ (n7 h).1 he w).mono fun b H₁ w=>by
   cases b with
   |true=>exact w
   |false=>exact ih _ (n7 h).2 he w)
end
theorem Ae(H:AH)(p:PV):p.isD=true->res H p=p:=
 PV.rec (motive_1:=fun p=>p.isD=true->res H p=p) (motive_2:=fun l=>PV.V0 l=true->wD H l=l) (fun O=>rfl) (fun O O=>rfl) (fun O O=>rfl) (fun O O=>rfl)
  (fun O ih h=>congrArg PV.tup (ih h)) (fun O O O=>rfl) (fun O h=>nomatch (show false=true from h)) (fun O O=>rfl) (fun O O=>rfl) (fun O O O=>rfl)
  (fun O=>rfl) (fun x l ih il h=>(congr (congrArg List.cons (ih (n7 h).1)) (il (n7 h).2):res H x::wD H l=x::l)) p
theorem PL(H:AH)(l:List PV)(h:PV.V0 l=true):wD H l=l:=PV.tup.inj (Ae H (.tup l) h)
noncomputable def okIn(p:PV)(l:List PV):Bool:=p.isD&&(PV.V0 l&&Nat.ble (PV.depths l) 60)
noncomputable def rM(p q:PV):Bool:=p.isD&&(q.isD&&Nat.ble q.depth 60)
noncomputable abbrev wF(op:PySem.CmpOp)(p q:PV)(H:AH)(Q:Bool->Prop):Prop:=zX H Q op p q
noncomputable def ug(p:PV)(l:List PV):Bool:=l.any fun y=>y.eqv p
noncomputable def InK(p:PV)(Q:Bool->Prop)(R:Prop)(l:List PV):Prop:=sel (okIn p l) (Q (ug p l)) R
noncomputable def Yz(p q:PV)(Q:Bool->Prop)(R:Prop):Prop:=@Option.rec (List PV) (fun O=>Prop) R (InK p Q R) q.pL
noncomputable def kNb(Q:Bool->Prop)(b:Bool):Prop:=Q (!b)
noncomputable def kOb(op:PySem.CmpOp)(Q:Bool->Prop)(a b:Int):Prop:=lk (ZD op a b) Q
noncomputable def kOa(op:PySem.CmpOp)(q:PV)(Q:Bool->Prop)(a:Int):Prop:=lk q.int? (kOb op Q a)
noncomputable def wG(op:PySem.CmpOp)(p q:PV)(H:AH)(Q:Bool->Prop):Prop:=match op with
 |.Eq=>sel (rM p q) (Q (p.eqv q)) (wF .Eq p q H Q)
 |.NotEq=>sel (rM p q) (Q (!p.eqv q)) (wF .NotEq p q H Q)
 |.Is=>sel (isNone q) (Q (isNone p)) False
 |.IsNot=>sel (isNone q) (Q (!isNone p)) False
 |.In=>Yz p q Q (wF .In p q H Q)
 |.NotIn=>Yz p q (kNb Q) (wF .NotIn p q H Q)
 |op=>lk p.int? (kOa op q Q)
theorem am0{p q:PV}{H:AH}(e:rM p q=true):GK H p q/\(res H p).eqv (res H q)=p.eqv q:=by
 obtain⟨a,b⟩:=n7 e
 obtain⟨b,c⟩:=n7 b
 rw [GK,Ae H p a,Ae H q b]
 exact⟨⟨a,b,.inl (d9 c)⟩,rfl⟩
theorem YB{p:PV}{l:List PV}(e:okIn p l=true):LQ p l:=⟨(n7 e).1,(n7 (n7 e).2).1,.inl (d9 (n7 (n7 e).2).2)⟩
theorem Mp{q:PV}(h:isNone q=true):q = .none:=by cases q<;>first|rfl|exact nomatch (show false=true from h)
theorem Ho{q:PV}{l:List PV}(h:q.pL = some l):q = .tup l\/q = .lst l:=by cases q<;>first|exact nomatch (show none=some l from h)|(cases(show some _=some l from h);first|exact .inl rfl|exact .inr rfl)
theorem pN{p:PV}{a:Int}(h:p.int? = some a):p = .int a:=by cases p<;>first|exact nomatch (show none=some a from h)|(cases(show some _=some a from h);rfl)
theorem PN{q:PV}{l:List PV}(h:q.Vs = some l):q = .tup l:=by cases q<;>first|exact nomatch (show none=some l from h)|(cases(show some _=some l from h);rfl)
theorem Yz.of{p q:PV}{H:AH}{Q:Bool->Prop}{R:Prop}(h:Yz p q Q R):InP p q H Q/\NoT q H\/R:=by
 unfold Yz at h
 cases e:q.pL with
 |none=>rw [e] at h;exact .inr h
 |some l=>
  rw [e] at h
  have h:sel (okIn p l) (Q (ug p l)) R:=h
  cases e2:okIn p l with
  |false=>rw [e2] at h;exact .inr h
  |true=>
   rw [e2] at h
   rcases Ho e with rfl|rfl
   ·have z:=PL H l (n7 (n7 e2).2).1
    exact .inl ⟨.tup (z.symm▸YB e2) (z.symm▸h),fun O O z O=>(nomatch z)⟩
   ·exact .inl ⟨.lst (YB e2) h,fun O O z O=>(nomatch z)⟩
theorem PX{p q:PV}{H:AH}{Q:Bool->Prop}{f:Bool->Bool}{R:Prop}(k:GK H p q->Q (f ((res H p).eqv (res H q)))->R) (h:sel (rM p q) (Q (f (p.eqv q))) R):R:=by
 cases e:rM p q with
 |true=>rw [e] at h;obtain⟨a,b⟩:=am0 (H:=H) e;exact k a (b.symm▸h)
 |false=>rw [e] at h;exact h
theorem Qa{q:PV}{P R:Prop}(k:q = .none->P->R)(h:sel (isNone q) P False):R:=(tK h).elim fun e h=>k (Mp e) h
theorem Vt{op:PySem.CmpOp}{p q:PV}{H:AH}{Q:Bool->Prop}(h:lk p.int? fun a=>lk q.int? fun b=>lk (ZD op a b) Q):Pj op p q H Q:=by
 obtain⟨a,e1,h⟩:=U8 h
 obtain⟨b,e2,h⟩:=U8 h
 obtain⟨c,e3,h⟩:=U8 h
 rw [pN e1,pN e2]
 exact .ord e3 h
theorem wG.of{op:PySem.CmpOp}{p q:PV}{H:AH}{Q:Bool->Prop}(h:wG op p q H Q):Pj op p q H Q:=by
 cases op with
 |Eq=>exact PX (f:=id) .eq h
 |NotEq=>exact PX (f:=not) .ne h
 |Is=>exact Qa (fun e h=>by subst e;exact .is h) h
 |IsNot=>exact Qa (fun e h=>by subst e;exact .isn h) h
 |In=>exact(Yz.of h).elim (fun z=>.mem z.1) id
 |NotIn=>exact(Yz.of (show Yz p q (fun b=>Q (!b)) (wF .NotIn p q H Q) from h)).elim (fun z=>.nmem z.2 z.1) id
 |_=>exact Vt h
section
variable{τ:T}{g:G τ}{n:Nat}{m:Loc}{H:AH}
noncomputable abbrev Qc(g:G τ)(op:PySem.Operator)(p q:PV)(H:AH)(Q:PV->AH->Prop):Prop:=CV g H Q op p q
noncomputable def kIn(Q:PV->AH->Prop)(H:AH)(c:Int):Prop:=Q (.int c) H
noncomputable def am3(op:PySem.Operator)(Q:PV->AH->Prop)(H:AH)(a b:Int):Prop:=lk (pG op a b) (kIn Q H)
noncomputable def aw5(g:G τ)(op:PySem.Operator)(p q:PV)(H:AH)(Q:PV->AH->Prop)(a:Int):Prop:=@Option.rec Int (fun O=>Prop) (Qc g op p q H Q) (am3 op Q H a) q.int?
noncomputable def Qd(g:G τ)(op:PySem.Operator)(p q:PV)(H:AH)(Q:PV->AH->Prop):Prop:=
 @Option.rec Int (fun O=>Prop) (Qc g op p q H Q) (aw5 g op p q H Q) p.int?
theorem Qd.of{op:PySem.Operator}{p q:PV}{Q:PV->AH->Prop}(h:Qd g op p q H Q):Zx g op p q H Q:=by
 unfold Qd at h
 cases e1:p.int? with
 |none=>rw [e1] at h;exact h
 |some a=>
  rw [e1] at h
  have h:@Option.rec Int (fun O=>Prop) (Qc g op p q H Q) (am3 op Q H a) q.int? := h
  cases e2:q.int? with
  |none=>rw [e2] at h;exact h
  |some b=>
   rw [e2] at h
   obtain⟨c,e3,h⟩:=U8 h
   rw [pN e1,pN e2]
   exact .int e3 h
noncomputable abbrev SubL(g:G τ)(p q:PV)(H:AH)(Q:PV->AH->Prop):Prop:=zW g H Q p q
theorem JH{p:PV}{l:List PV}{i:Int}{r:PV}{Q:PV->AH->Prop}(e1:p.pL = some l)(e:LR l i=some r)(h:Q r H):Vl g p (.int i) H Q:=by
 rcases Ho e1 with rfl|rfl
 ·exact .tup e h
 ·exact .lst e h
noncomputable def nth:List PV->Nat->Option PV
 | [],_=>none
 |x::l,k=>match k with
  |0=>some x
  |k+1=>nth l k
theorem Qe:∀(l:List PV) (k:Nat),nth l k=l[k]?
 | [],_=>rfl
 |_::_,0=>rfl
 |_::l,k+1=>(Qe l k).trans (I3).symm
theorem mZ{l:List PV}{i:Nat}(h:i<2 ^ 62):LR l (i:Int)=l[i]? := by
 unfold LR
 rw [if_pos (Int.natCast_nonneg i),if_pos (by exact Int.ofNat_lt.mpr ‹_›)]
 rfl
noncomputable def AtK(k:Nat)(Q:PV->AH->Prop)(H:AH)(l:List PV):Prop:=lk (nth l k) (rv Q H)
noncomputable def AtW(g:G τ)(p:PV)(k:Nat)(H:AH)(Q:PV->AH->Prop):Prop:=
 @Option.rec (List PV) (fun O=>Prop) (SubL g p (.int k) H Q) (AtK k Q H) p.pL
theorem AtW.of{p:PV}{k:Nat}{Q:PV->AH->Prop}(hk:k<2 ^ 62)(h:AtW g p k H Q):Vl g p (.int k) H Q:=by
 have z:∀l,LR l (k:Int)=nth l k:=fun l=>(mZ hk).trans (Qe l k).symm
 clear hk
 unfold AtW at h
 cases e1:p.pL with
 |none=>rw [e1] at h;exact h
 |some l=>
  rw [e1] at h
  exact(U8 (show lk (nth l k) (fun r=>Q r H) from h)).elim fun r k=>JH e1 ((z l).trans k.1) k.2
end
noncomputable def X.none:X:=.of true (fun O e=>.Constant .none (kc e) e.pos) (fun O O O=>true) (fun g n m H Q=>Q .none H) (fun O O O O O O O O O O w=>Ev.aj4 w) fun O O=>⟨⟨fun O O=>rfl,fun O O=>rfl,fun O=>rfl⟩,fun O O=>rfl,fun O O O=>rfl,fun O O O=>rfl,fun O O O O=>rfl⟩
noncomputable def X.gK(b:Bool):X:=.of true (fun O e=>.Constant (.bool b) (kc e) e.pos) (fun O O O=>true) (fun g n m H Q=>Q (.bool b) H) (fun O O O O O O O O O O w=>Ev.aj5 w) fun O O=>⟨⟨fun O O=>rfl,fun O O=>rfl,fun O=>rfl⟩,fun O O=>rfl,fun O O O=>rfl,fun O O O=>rfl,fun O O O O=>rfl⟩
noncomputable def X.int(i:Int):X:=.of true (fun O e=>.Constant (.int i) (kc e) e.pos) (fun O O O=>true) (fun g n m H Q=>Q (.int i) H) (fun O O O O O O O O O O w=>Ev.Zm w) fun O O=>⟨⟨fun O O=>rfl,fun O O=>rfl,fun O=>rfl⟩,fun O O=>rfl,fun O O O=>rfl,fun O O O=>rfl,fun O O O O=>rfl⟩
noncomputable def X.str(x:Nat):X:=.of true (fun tab e=>.Constant (.str (tab x)) (kc e) e.pos) (fun O O O=>true) (fun g n m H Q=>Q (.str x) H) (fun O O O O O O O O O O w=>Ev.av2 w) fun O O=>⟨⟨fun O O=>rfl,fun O O=>rfl,fun O=>rfl⟩,fun O O=>rfl,fun O O O=>rfl,fun O O O=>rfl,fun O O O O=>rfl⟩
noncomputable def X.loc(x:Nat):X:=.of true (fun tab e=>.Name (tab x) e.pos) (fun O O O=>true) (fun g n m H Q=>lk (m.lookup x) (rv Q H))
 (fun hg O O O O O O O O O w=>(U8 w).elim fun O z=>Ev.loc hg z.1 z.2) fun O O=>⟨⟨fun O O=>rfl,fun O O=>rfl,fun O=>rfl⟩,fun O O=>rfl,fun O O O=>rfl,fun O O O=>rfl,fun O O O O=>rfl⟩
noncomputable def X.glob(x:Nat):X:=.of true (fun tab e=>.Name (tab x) e.pos) (fun τ ns O=>qK .globalImplicit ns (τ.tab x)) (fun{τ} g n m H Q=>lk (τ.glob x) (rv Q H))
 (fun hg O O O O O O O h he w=>(U8 w).elim fun O z=>Ev.glob hg z.1 (he.look _ _ (R7 h) nofun) z.2) fun O O=>⟨⟨fun O O=>rfl,fun O O=>rfl,fun O=>rfl⟩,fun O O=>rfl,fun O O O=>rfl,fun O O O=>rfl,fun O O O O=>rfl⟩
noncomputable def X.attr(o:X)(x:Nat):X:=.of true (fun tab e=>.Attribute (o.to tab (kid e 0)) (tab x) e.pos) (fun τ ns e=>o.bs&&o.ok τ ns (kid e 0)) (fun g n m H Q=>o.wE g n m H (H8 g x Q))
 (fun hg O O O O O O O h he w=>Ev.attr hg (o.sb (n7 h).1 _ _) (o.sE hg _ (n7 h).2 he w)) fun O O=>⟨⟨fun O O=>rfl,fun O O=>rfl,fun O=>rfl⟩,fun O O=>rfl,fun O O O=>rfl,fun O O O=>rfl,fun O O O O=>rfl⟩
theorem aa9{k:Nat}(h:Nat.ble k 1000=true):k<=sizeLine:=d8 (d9 h) (by rw [p7];exact Nat.le_add_left ..)
theorem Af{tab:Nat->Str}{es:List X}{xs:List PE}(h:Nat.ble es.length 1000=true):(toL tab es xs).length<=sizeLine:=(JG tab es xs).symm▸aa9 h
noncomputable abbrev ab0(τ:T)(ns:Ns)(es:List X)(xs:List PE):Bool:=Nat.ble es.length 1000&&Ad τ ns es xs
noncomputable def kTu(Q:PV->AH->Prop)(l:List PV)(H:AH):Prop:=Q (.tup l) H
noncomputable def kLi(Q:PV->AH->Prop)(l:List PV)(H:AH):Prop:=Q (.lst l) H
noncomputable def kLT(Q:PV->AH->Prop)(l:List PV)(H:AH):Prop := ∀a,H a = .none->Q (.obj a) (upd H a (.list l))
noncomputable def X.tup(es:List X):X where
 to tab e:=.Tuple (toL tab es (kids e)) (kc e) e.pos
 ok τ ns e:=ab0 τ ns es (kids e)
 wE g n m H Q:=Gq g n es m H (kTu Q)
 wT O O O O O:=False
 sE hg O O O O O O O h he w:=Ev.tuple (Af (n7 h).1) (rK hg es _ (n7 h).2 he w)
 sT O O O O O O O O O O w:=w.elim
 sh O O:=⟨fun O O=>rfl,fun O O=>rfl,fun O=>rfl⟩
 bs:=true
 sb O O O O O:=rfl
 nc:=true
 sn O O O O O O:=rfl
 nt:=false
 st h:=nomatch h
noncomputable def X.lst(es:List X):X:=.of true (fun tab e=>.List (toL tab es (kids e)) e.pos) (fun τ ns e=>ab0 τ ns es (kids e)) (fun g n m H Q=>Gq g n es m H (kLi Q))
 (fun hg O O O O O O O h he w=>Ev.list (Af (n7 h).1) (rK hg es _ (n7 h).2 he w)) fun O O=>⟨⟨fun O O=>rfl,fun O O=>rfl,fun O=>rfl⟩,fun O O=>rfl,fun O O O=>rfl,fun O O O=>rfl,fun O O O O=>rfl⟩
noncomputable def X.bR(es:List X):X:=.of true (fun tab e=>.List (toL tab es (kids e)) e.pos) (fun τ ns e=>ab0 τ ns es (kids e)) (fun g n m H Q=>Gq g n es m H (kLT Q))
 (fun hg O O O O O O O h he w=>Ev.aj6 (Af (n7 h).1) (rK hg es _ (n7 h).2 he w)) fun O O=>⟨⟨fun O O=>rfl,fun O O=>rfl,fun O=>rfl⟩,fun O O=>rfl,fun O O O=>rfl,fun O O O=>rfl,fun O O O O=>rfl⟩
noncomputable def gJ:Nat->N7
 |0=>.N5 []
 |1=>.T9 []
 |_=>.Q9 []
theorem Vu(k:Nat):gJ k = .N5 []\/gJ k = .T9 []\/gJ k = .Q9 []:=match k with
 |0=>.inl rfl
 |1=>.inr (.inl rfl)
 |_+2=>.inr (.inr rfl)
noncomputable def X.gJ(k:Nat):X:=.of true (fun tab e=>.Dict [] [] e.pos) (fun O O O=>true) (fun g n m H Q => ∀a,H a = .none->Q (.obj a) (upd H a (Mine.Internal.gJ k)))
 (fun O O O O O O O O O O w=>Ev.gJ _ (Vu k) w) fun O O=>⟨⟨fun O O=>rfl,fun O O=>rfl,fun O=>rfl⟩,fun O O=>rfl,fun O O O=>rfl,fun O O O=>rfl,fun O O O O=>rfl⟩
section
variable{τ:T}{g:G τ}(hg:N6 g){ns:Ns}{env:Env}{n:Nat}{m:Loc}{H:AH}{Q:PV->AH->Prop}
include hg
end
noncomputable def Vv(τ:T)(x:Nat):Bool:=match τ.glob x with
 |some (.blt _)=>true
 |some (.typ _)=>true
 |some (.obj a)=>(τ.fn a).isSome||(τ.init a).isSome
 |_=>false
theorem JK{τ:T}{g:G τ}(hg:N6 g){x:Nat}{p:PV}(e:τ.glob x=some p)(h:Vv τ x=true):Plain g p:=by
 unfold Vv at h
 rw [e] at h
 cases p with
 |blt=>exact pD
 |typ=>exact LK
 |obj a=>
  rcases Bool.or_eq_true_iff.mp h with h|h
  ·obtain⟨d,e⟩:=Option.isSome_iff_exists.mp h
   obtain⟨_,_,_,_,k,_⟩:=hg.fn a d e
   exact jG hg k
  ·obtain⟨f,e⟩:=Option.isSome_iff_exists.mp h
   exact jG hg (hg.init a f e).2.2.2
 |_=>exact nomatch (show false=true from h)
noncomputable def kCl{τ:T}(g:G τ)(n:Nat)(p:PV)(Q:PV->AH->Prop)(l:List PV)(H:AH):Prop:=Cl g n p l H Q
noncomputable def kCa{τ:T}(g:G τ)(n:Nat)(es:List X)(m:Loc)(H:AH)(Q:PV->AH->Prop)(p:PV):Prop:=Gq g n es m H (kCl g n p Q)
noncomputable def X.call(f:Nat)(es:List X):X:=.of (!es.isEmpty) (fun tab e=>.Call (.Name (tab f) (kid e 0).pos) (toL tab es (kids e).tail) [] e.pos)
 (fun τ ns e=>(qK .globalImplicit ns (τ.tab f)&&Vv τ f)&&Ad τ ns es (kids e).tail) (fun{τ} g n m H Q=>lk (τ.glob f) (kCa g n es m H Q))
 (fun hg O O O O O O O h he w=>(U8 w).elim fun O z=>Ev.call hg rfl (W8 _ _ _) (Ev.glob hg z.1 (he.look _ _ (R7 (n7 (n7 h).1).1) nofun) ⟨JK hg z.1 (n7 (n7 h).1).2,rK hg es _ (n7 h).2 he z.2⟩))
 fun O O=>⟨⟨fun O O=>rfl,fun O O=>rfl,fun O=>rfl⟩,fun O O=>rfl,fun h=>by cases es with|nil=>cases h|cons _ _=>exact fun O O=>rfl,fun O O O=>rfl,fun O O O O=>rfl⟩
section
variable{τ:T}(g:G τ)(n:Nat)(op:PySem.Operator)(co:PySem.CmpOp)(ty id:String)(es:List X)(m:Loc)(H:AH)(Q:PV->AH->Prop)(C:Bool->AH->Prop)(p q:PV)(a f:Addr)(b i:X)(l:List PV)(k:Nat)(tf:Bool)(c:Bool)
noncomputable def aw6:Prop:=Plain g p/\Gq g n es m H (kCl g n p Q)
noncomputable def kM2(l:List PV)(H:AH):Prop:=Cl g n (.obj f) (.obj a::l) H Q
noncomputable def kM(a f:Addr)(H:AH):Prop:=Gq g n es m H (kM2 g n Q a f)
noncomputable def aw7(l:List PV)(H:AH):Prop:=Cl g n (.blt id) (p::l) H Q
noncomputable def kLm(p:PV)(H:AH):Prop:=rI H ty p/\Gq g n es m H (aw7 g n id Q p)
noncomputable def kB2(p q:PV)(H:AH):Prop:=Qd g op p q H Q
noncomputable def kB(p:PV)(H:AH):Prop:=b.wE g n m H (kB2 g op Q p)
noncomputable def am4(H:AH)(i:Int):Prop:=Q (.int (-i)) H
noncomputable def aw8(p:PV)(H:AH):Prop:=lk p.int? (am4 Q H)
noncomputable def aw9(p q:PV)(H:AH):Prop:=SubL g p q H Q
noncomputable def kSb(p:PV)(H:AH):Prop:=i.wE g n m H (aw9 g Q p)
noncomputable def kAt(p:PV)(H:AH):Prop:=AtW g p k H Q
noncomputable def am5(H:AH)(l:List PV):Prop:=sel (Nat.ble l.length sizeLine) (Q (.lst l.reverse) H) False
noncomputable def ax0(p:PV)(H:AH):Prop:=lk (Q6 H p) (am5 Q H)
noncomputable def ax1(H:AH)(c:Bool):Prop:=Q (.bool (!c)) H
noncomputable def kNt(p:PV)(H:AH):Prop:=lk p.truth? (ax1 Q H)
noncomputable def kNT(c:Bool)(H:AH):Prop:=C (!c) H
noncomputable def kBl(H:AH)(c:Bool):Prop:=Q (.bool c) H
noncomputable def ax2(p q:PV)(H:AH):Prop:=wG co p q H (kBl Q H)
noncomputable def kCm(p:PV)(H:AH):Prop:=b.wE g n m H (ax2 co Q p)
noncomputable def ax3(p q:PV)(H:AH):Prop:=wG co p q H (rv C H)
noncomputable def kCt(p:PV)(H:AH):Prop:=b.wE g n m H (ax3 co C p)
noncomputable def kI(i:X)(c:Bool)(H:AH):Prop:=sel c (b.wE g n m H Q) (i.wE g n m H Q)
end
noncomputable def X.JL(f:Nat)(es:List X):X:=.of (!es.isEmpty) (fun tab e=>.Call (.Name (tab f) (kid e 0).pos) (toL tab es (kids e).tail) [] e.pos)
 (fun τ ns e=>Ad τ ns es (kids e).tail) (fun g n m H Q=>lk (m.lookup f) (aw6 g n es m H Q))
 (fun hg O O O O O O O h he w=>(U8 w).elim fun O z=>Ev.call hg rfl (W8 _ _ _) (Ev.loc hg z.1 ⟨z.2.1,rK hg es _ h he z.2.2⟩))
 fun O O=>⟨⟨fun O O=>rfl,fun O O=>rfl,fun O=>rfl⟩,fun O O=>rfl,fun h=>by cases es with|nil=>cases h|cons _ _=>exact fun O O=>rfl,fun O O O=>rfl,fun O O O O=>rfl⟩
noncomputable abbrev toM(o:X)(x:Nat)(es:List X)(tab:Nat->Str)(e:PE):PE:=.Call (.Attribute (o.to tab (kid (kid e 0) 0)) (tab x) (kid e 0).pos) (toL tab es (kids e).tail) [] e.pos
noncomputable abbrev okM(o:X)(es:List X)(τ:T)(ns:Ns)(e:PE):Bool:=(o.bs&&(((kid e 0).pos.endLine==e.pos.line)&&Nat.blt es.length 30))&&(o.ok τ ns (kid (kid e 0) 0)&&Ad τ ns es (kids e).tail)
theorem Dn{tab:Nat->Str}{es:List X}{xs:List PE}(h:Nat.blt es.length 30=true):(toL tab es xs).length<30:=(JG tab es xs).symm▸d9 h
noncomputable def X.meth(o:X)(x:Nat)(es:List X):X:=.of true (toM o x es) (okM o es) (fun g n m H Q=>o.wE g n m H (MethP g x (kM g n es m Q)))
 (fun hg O O O O O O O h he w=>Ev.meth hg (o.sb (n7 (n7 h).1).1 _ _) (n7 (n7 (n7 h).1).2).1 (Dn (n7 (n7 (n7 h).1).2).2) (W8 _ _ _) ((o.sE hg _ (n7 (n7 h).2).1 he w).mono fun O O w=>w.mono fun O O O w=>rK hg es _ (n7 (n7 h).2).2 he w))
 fun O O=>⟨⟨fun O O=>rfl,fun O O=>rfl,fun O=>rfl⟩,fun O O=>rfl,fun O O O=>rfl,fun O O O=>rfl,fun O O O O=>rfl⟩
noncomputable def X.PK(c x:Nat)(es:List X):X:=.of true (toM (.glob c) x es) (okM (.glob c) es) (fun{τ} g n m H Q=>lk (τ.glob c) fun p => ∃C f,p = .obj C/\τ.tL C x = .some f/\Gq g n es m H (kCl g n (.obj f) Q))
 (fun hg O O O O O O O h he w=>(U8 w).elim fun O z=>Ev.PK hg (fun O O=>rfl) (n7 (n7 (n7 h).1).2).1 (Dn (n7 (n7 (n7 h).1).2).2) (W8 _ _ _) (Ev.glob hg z.1 (he.look _ _ (R7 (n7 (n7 h).2).1) nofun) (z.2.elim fun C z=>z.elim fun f z=>⟨C,f,z.1,z.2.1,rK hg es _ (n7 (n7 h).2).2 he z.2.2⟩)))
 fun O O=>⟨⟨fun O O=>rfl,fun O O=>rfl,fun O=>rfl⟩,fun O O=>rfl,fun O O O=>rfl,fun O O O=>rfl,fun O O O O=>rfl⟩
noncomputable def X.S7(o:X)(ty:String)(x:Nat)(id:String)(es:List X):X:=.of true (toM o x es) (fun τ ns e=>Vn ty (τ.tab x) id&&okM o es τ ns e) (fun g n m H Q=>o.wE g n m H (kLm g n ty id es m Q))
 (fun hg O O O O O O O h he w=>Ev.S7 hg (o.sb (n7 (n7 (n7 h).2).1).1 _ _) (Yx (n7 h).1) (n7 (n7 (n7 (n7 h).2).1).2).1 (Dn (n7 (n7 (n7 (n7 h).2).1).2).2) (W8 _ _ _) ((o.sE hg _ (n7 (n7 (n7 h).2).2).1 he w).mono fun O O w=>⟨w.1,rK hg es _ (n7 (n7 (n7 h).2).2).2 he w.2⟩))
 fun O O=>⟨⟨fun O O=>rfl,fun O O=>rfl,fun O=>rfl⟩,fun O O=>rfl,fun O O O=>rfl,fun O O O=>rfl,fun O O O O=>rfl⟩
noncomputable abbrev Vw(a b:X)(τ:T)(ns:Ns)(e:PE):Bool:=a.ok τ ns (kid e 0)&&b.ok τ ns (kid e 1)
noncomputable def X.bin(op:PySem.Operator)(a b:X):X:=.of true (fun tab e=>.BinOp (a.to tab (kid e 0)) op (b.to tab (kid e 1)) e.pos) (Vw a b) (fun g n m H Q=>a.wE g n m H (kB g n op m Q b))
 (fun hg O O O O O O O h he w=>Ev.bin ((a.sE hg _ (n7 h).1 he w).mono fun O O w=>(b.sE hg _ (n7 h).2 he w).mono fun O O w=>Qd.of w)) fun O O=>⟨⟨fun O O=>rfl,fun O O=>rfl,fun O=>rfl⟩,fun O O=>rfl,fun O O O=>rfl,fun O O O=>rfl,fun O O O O=>rfl⟩
inductive Dp(p q:PV)(H:AH)(Q:PV->AH->Prop):Prop
 |mk {l k:List PV} (e1:Q6 H p=some l) (e2:Q6 H q=some k) (hz:l.length+k.length<=sizeLine) (h:∀a,H a=none->Q (.obj a) (upd H a (.list (l++k)))):Dp p q H Q
theorem Dp.ex{p q:PV}{H:AH}{Q:PV->AH->Prop}(h:Dp p q H Q):∃l k,Q6 H p=some l/\Q6 H q=some k/\l.length+k.length<=sizeLine/\∀a,H a=none->Q (.obj a) (upd H a (.list (l++k))):=by
 cases h with
 |mk e1 e2 hz h=>exact⟨_,_,e1,e2,hz,h⟩
noncomputable def ax4(Q:PV->AH->Prop)(p q:PV)(H:AH):Prop:=Dp p q H Q
noncomputable def kAd{τ:T}(g:G τ)(n:Nat)(m:Loc)(Q:PV->AH->Prop)(b:X)(p:PV)(H:AH):Prop:=b.wE g n m H (ax4 Q p)
noncomputable def X.Zz(a b:X):X:=.of true (fun tab e=>.BinOp (a.to tab (kid e 0)) .Add (b.to tab (kid e 1)) e.pos) (Vw a b) (fun g n m H Q=>a.wE g n m H (kAd g n m Q b))
 (fun hg O O O O O O O h he w=>Ev.Zz ((a.sE hg _ (n7 h).1 he w).mono fun O O w=>(b.sE hg _ (n7 h).2 he w).mono fun O O w=>w.ex)) fun O O=>⟨⟨fun O O=>rfl,fun O O=>rfl,fun O=>rfl⟩,fun O O=>rfl,fun O O O=>rfl,fun O O O=>rfl,fun O O O O=>rfl⟩
theorem ab2{p:PV}{P:Int->Prop}(h:lk p.int? P):match(generalizing:=false) p with | .int i=>P i|_=>False:=by cases p<;>exact h
noncomputable def X.neg(a:X):X:=.of true (fun tab e=>.UnaryOp .USub (a.to tab (kid e 0)) e.pos) (fun τ ns e=>a.ok τ ns (kid e 0)) (fun g n m H Q=>a.wE g n m H (aw8 Q))
 (fun hg O O O O O O O h he w=>Ev.neg ((a.sE hg _ h he w).mono fun O O w=>ab2 w)) fun O O=>⟨⟨fun O O=>rfl,fun O O=>rfl,fun O=>rfl⟩,fun O O=>rfl,fun O O O=>rfl,fun O O O=>rfl,fun O O O O=>rfl⟩
noncomputable def X.sub(a i:X):X:=.of true (fun tab e=>.Subscript (a.to tab (kid e 0)) (i.to tab (kid e 1)) e.pos) (Vw a i) (fun g n m H Q=>a.wE g n m H (kSb g n m Q i))
 (fun hg O O O O O O O h he w=>Ev.sub hg ((a.sE hg _ (n7 h).1 he w).mono fun O O w=>(i.sE hg _ (n7 h).2 he w).mono fun O O w=>w)) fun O O=>⟨⟨fun O O=>rfl,fun O O=>rfl,fun O=>rfl⟩,fun O O=>rfl,fun O O O=>rfl,fun O O O=>rfl,fun O O O O=>rfl⟩
theorem Qf{k:Nat}(h:Nat.ble k 1000=true):k<2 ^ 62:=G3 (d9 h) (by decide)
noncomputable def X.at(a:X)(k:Nat):X:=.of true (fun tab e=>.Subscript (a.to tab (kid e 0)) (.Constant (.int k) (kc (kid e 1)) (kid e 1).pos) e.pos) (fun τ ns e=>Nat.ble k 1000&&a.ok τ ns (kid e 0)) (fun g n m H Q=>a.wE g n m H (kAt g Q k))
 (fun hg O O O O O O O h he w=>Ev.sub hg ((a.sE hg _ (n7 h).2 he w).mono fun O O w=>Ev.Zm (AtW.of (Qf (n7 h).1) w))) fun O O=>⟨⟨fun O O=>rfl,fun O O=>rfl,fun O=>rfl⟩,fun O O=>rfl,fun O O O=>rfl,fun O O O=>rfl,fun O O O O=>rfl⟩
inductive Qg(b:Bool)(p:PV)(i:Int)(H:AH)(Q:PV->AH->Prop):Prop
 |mk:SlP b p i H Q->Qg b p i H Q
theorem Qg.of{q p:PV}{b:Bool}{H:AH}{Q:PV->AH->Prop}(h:lk q.int? fun i=>Qg b p i H Q):match(generalizing:=false) q with | .int i=>SlP b p i H Q|_=>False:=by cases q<;>first|exact h.1|exact h
noncomputable def ax5(Q:PV->AH->Prop)(tf:Bool)(p:PV)(H:AH)(i:Int):Prop:=Qg tf p i H Q
noncomputable def ax6(Q:PV->AH->Prop)(tf:Bool)(p q:PV)(H:AH):Prop:=lk q.int? (ax5 Q tf p H)
noncomputable def kSl{τ:T}(g:G τ)(n:Nat)(m:Loc)(Q:PV->AH->Prop)(tf:Bool)(i:X)(p:PV)(H:AH):Prop:=i.wE g n m H (ax6 Q tf p)
noncomputable def X.slF(a i:X):X:=.of true (fun tab e=>.Subscript (a.to tab (kid e 0)) (.Slice (some (i.to tab (kid (kid e 1) 0))) Option.none Option.none (kid e 1).pos) e.pos) (fun τ ns e=>a.ok τ ns (kid e 0)&&i.ok τ ns (kid (kid e 1) 0)) (fun g n m H Q=>a.wE g n m H (kSl g n m Q true i))
 (fun hg O O O O O O O h he w=>Ev.ZG hg ((a.sE hg _ (n7 h).1 he w).mono fun O O w=>(i.sE hg _ (n7 h).2 he w).mono fun O O w=>Qg.of w)) fun O O=>⟨⟨fun O O=>rfl,fun O O=>rfl,fun O=>rfl⟩,fun O O=>rfl,fun O O O=>rfl,fun O O O=>rfl,fun O O O O=>rfl⟩
noncomputable def X.UW(a i:X):X:=.of true (fun tab e=>.Subscript (a.to tab (kid e 0)) (.Slice Option.none (some (i.to tab (kid (kid e 1) 1))) Option.none (kid e 1).pos) e.pos) (fun τ ns e=>a.ok τ ns (kid e 0)&&i.ok τ ns (kid (kid e 1) 1)) (fun g n m H Q=>a.wE g n m H (kSl g n m Q false i))
 (fun hg O O O O O O O h he w=>Ev.aw0 hg ((a.sE hg _ (n7 h).1 he w).mono fun O O w=>(i.sE hg _ (n7 h).2 he w).mono fun O O w=>Qg.of w)) fun O O=>⟨⟨fun O O=>rfl,fun O O=>rfl,fun O=>rfl⟩,fun O O=>rfl,fun O O O=>rfl,fun O O O=>rfl,fun O O O O=>rfl⟩
theorem ab3{p:PV}{H:AH}{Q:PV->AH->Prop}(h:lk (Q6 H p) fun l=>sel (Nat.ble l.length sizeLine) (Q (.lst l.reverse) H) False):match Q6 H p with|some l=>l.length<=sizeLine/\Q (.lst l.reverse) H|none=>False:=by
 obtain⟨l,e,h⟩:=U8 h
 rw [e]
 exact(tK h).imp d9 id
noncomputable def X.slR(a:X):X:=.of true (fun tab e=>.Subscript (a.to tab (kid e 0)) (.Slice Option.none Option.none (some (.UnaryOp .USub (.Constant (.int 1) (kc (kid (kid (kid e 1) 2) 0)) (kid (kid (kid e 1) 2) 0).pos) (kid (kid e 1) 2).pos)) (kid e 1).pos) e.pos) (fun τ ns e=>a.ok τ ns (kid e 0))
 (fun g n m H Q=>a.wE g n m H (ax0 Q))
 (fun hg O O O O O O O h he w=>Ev.ak7 hg ((a.sE hg _ h he w).mono fun O O w=>Ev.neg (Ev.Zm ⟨rfl,ab3 w⟩))) fun O O=>⟨⟨fun O O=>rfl,fun O O=>rfl,fun O=>rfl⟩,fun O O=>rfl,fun O O O=>rfl,fun O O O=>rfl,fun O O O O=>rfl⟩
noncomputable def X.not(a:X):X where
 to tab e:=.UnaryOp .Not (a.to tab (kid e 0)) e.pos
 ok τ ns e:=a.ok τ ns (kid e 0)
 wE g n m H Q:=a.wE g n m H (kNt Q)
 wT g n m H Q:=a.wT g n m H (kNT Q)
 sE hg O O O O O O O h he w:=Ev.not ((a.sE hg _ h he w).mono fun O O w=>cM.of w)
 sT hg O O O O O O O h he w:=Ts.not (a.sT hg _ h he w)
 sh O O:=⟨fun O O=>rfl,fun O O=>rfl,fun O=>rfl⟩
 bs:=true
 sb O O O O O:=rfl
 nc:=true
 sn O O O O O O:=rfl
 nt:=true
 st O O O O O O O:=rfl
noncomputable def X.cmp(op:PySem.CmpOp)(a b:X):X where
 to tab e:=.Compare (a.to tab (kid e 0)) [op] [b.to tab (kid e 1)] e.pos
 ok:=Vw a b
 wE g n m H Q:=a.wE g n m H (kCm g n op m Q b)
 wT g n m H Q:=a.wE g n m H (kCt g n op m Q b)
 sE hg O O O O O O O h he w:=Ev.cmp hg ((b.sh _ _).marks op) ((a.sE hg _ (n7 h).1 he w).mono fun O O w=>(b.sE hg _ (n7 h).2 he w).mono fun O O w=>wG.of w)
 sT hg O O O O O O O h he w:=Ts.cmp hg ((b.sh _ _).marks op) ((a.sE hg _ (n7 h).1 he w).mono fun O O w=>(b.sE hg _ (n7 h).2 he w).mono fun O O w=>wG.of w)
 sh O O:=⟨fun O O=>rfl,fun O O=>rfl,fun O=>rfl⟩
 bs:=true
 sb O O O O O:=rfl
 nc:=true
 sn O O O O O O:=rfl
 nt:=true
 st O O O O O O O:=rfl
noncomputable def X.and(es:List X):X where
 to tab e:=.BoolOp .And (toL tab es (kids e)) e.pos
 ok τ ns e:=Ad τ ns es (kids e)
 wE g n m H Q:=aa4 g n es m H Q
 wT g n m H Q:=aa6 g n es m H Q
 sE hg O O O O O O O h he w:=al6 hg es _ h he w
 sT hg O O O O O O O h he w:=al8 hg es _ h he w
 sh O O:=⟨fun O O=>rfl,fun O O=>rfl,fun O=>rfl⟩
 bs:=true
 sb O O O O O:=rfl
 nc:=true
 sn O O O O O O:=rfl
 nt:=true
 st O O O O O O O:=rfl
noncomputable def X.or(es:List X):X where
 to tab e:=.BoolOp .Or (toL tab es (kids e)) e.pos
 ok τ ns e:=Ad τ ns es (kids e)
 wE g n m H Q:=aa5 g n es m H Q
 wT g n m H Q:=aa7 g n es m H Q
 sE hg O O O O O O O h he w:=al7 hg es _ h he w
 sT hg O O O O O O O h he w:=al9 hg es _ h he w
 sh O O:=⟨fun O O=>rfl,fun O O=>rfl,fun O=>rfl⟩
 bs:=true
 sb O O O O O:=rfl
 nc:=true
 sn O O O O O O:=rfl
 nt:=true
 st O O O O O O O:=rfl
noncomputable def X.sV(t a b:X):X where
 to tab e:=.IfExp (t.to tab (kid e 0)) (a.to tab (kid e 1)) (b.to tab (kid e 2)) e.pos
 ok τ ns e:=t.ok τ ns (kid e 0)&&(a.ok τ ns (kid e 1)&&b.ok τ ns (kid e 2))
 wE g n m H Q:=t.wT g n m H (kI g n m Q a b)
 wT O O O O O:=False
 sE hg O O O O O O O h he w:=Ev.ifx ((t.sT hg _ (n7 h).1 he w).mono fun c O w=>Gw w (a.sE hg _ (n7 (n7 h).2).1 he) (b.sE hg _ (n7 (n7 h).2).2 he))
 sT O O O O O O O O O O w:=w.elim
 sh O O:=⟨fun O O=>rfl,fun O O=>rfl,fun O=>rfl⟩
 bs:=true
 sb O O O O O:=rfl
 nc:=true
 sn O O O O O O:=rfl
 nt:=true
 st O O O O O O O:=rfl
noncomputable def Qh:List Nat->List PE->List (Nat×Pos)
 | [],_=>[]
 |x::xs,es=>(x,(hd es).pos)::Qh xs es.tail
theorem Qi(xs:List Nat):∀es,(Qh xs es).map (·.1)=xs:=by
 induction xs with
 |nil=>exact fun O=>rfl
 |cons x xs ih=>exact fun es=>congrArg (x :: ·) (ih _)
noncomputable def Vx(tab:Nat->Str)(e:PE):CT->PE
 |.one x=>.Name (tab x) e.pos
 |.many xs=>.Tuple (gH tab (Qh xs (kids e))) (kc e) e.pos
theorem uh(tab:Nat->Str)(e:PE)(ct:CT):rJ tab ct (Vx tab e ct):=by
 cases ct with
 |one x=>exact⟨_,rfl⟩
 |many xs=>exact⟨_,_,_,Qi xs _,rfl⟩
noncomputable def cU(tab:Nat->Str)(sc:List (Nat×NameKind)):Scope:=⟨.function,sc.map fun y=>(tab y.1,y.2),false,false,[]⟩
noncomputable def ax8(ns:Ns)(s:Str):Bool:=qK .free ns s||qK .cell ns s
noncomputable def Hp(tab:Nat->Str)(caps:List Nat)(ns:Ns)(sc:Scope):Bool:=
 sc.names.all (fun x=>(!decide (x.2 = .local)||qK .local sc.names x.1)&&(!decide (x.2 = .cell)&&(!decide (x.2 = .free)||caps.any fun y=>decide (x.1=tab y)))) &&
  caps.all fun x=>qK .free sc.names (tab x)&&ax8 ns (tab x)
theorem Qj{P:Prop} [Decidable P]{b:Bool}(h:(!decide P||b)=true)(p:P):b=true:=by
 rw [decide_eq_true p] at h
 exact h
theorem uo{τ:T}{g:G τ}{ns:Ns}{env:Env}{caps:List Nat}{sc:Scope}(hk:sc.kind = .function)(he:V7 ns env)(h:Hp τ.tab caps ns sc=true):eU g sc caps/\∀x∈caps,env.kindOf (τ.tab x)=some .cell\/env.kindOf (τ.tab x)=some .free:=by
 have h2:=fun x hx=>n7 (m9.mp (n7 h).1 x hx)
 have h3:=fun x hx=>n7 (m9.mp (n7 h).2 x hx)
 exact⟨⟨hk,fun x hx e=>R7 (Qj (h2 x hx).1 e),fun y hy e=>(nomatch (decide_eq_true e).symm.trans ((Bool.not_eq_true' _).mp (n7 (h2 y hy).2).1)),fun x hx=>R7 (h3 x hx).1,fun y hy e=>(List.any_eq_true.mp (Qj (n7 (h2 y hy).2).2 e)).elim fun x z=>⟨x,z.1,(u9 z.2).symm⟩⟩,fun x hx=>(Bool.or_eq_true_iff.mp (h3 x hx).2).elim (fun z=>he.free _ (R7 z)) fun z=>.inl (he.look _ _ (R7 z) nofun)⟩
noncomputable def gO(m:Loc)(caps:List Nat):Bool:=caps.all fun x=>(m.lookup x).isSome
noncomputable def Ag{τ:T}(g:G τ)(n:Nat)(ifs:List X):Loc->AH->(Bool->AH->Prop)->Prop:=fun m H K=>match ifs with
 | []=>K true H
 |c::_=>c.wT g n m H K
noncomputable abbrev wpK{τ:T}(g:G τ)(n:Nat)(caps:List Nat)(ct:CT)(elt iter:X)(ifs:List X)(m:Loc)(H:AH)(Q:PV->AH->Prop):Prop:=
 sel (gO m caps) (iter.wE g n m H (cR m caps ct (Ag g n ifs) (elt.wE g n) (kLi Q))) False
noncomputable abbrev toK(ct:CT)(elt iter:X)(ifs:List X)(sc:List (Nat×NameKind))(tab:Nat->Str)(e:PE):PE:=.ListComp (elt.to tab (kid e 0)) [⟨Vx tab (kid e 1) ct,iter.to tab (kid e 2),toL tab ifs ((kids e).drop 3),0⟩] (cU tab sc) e.pos
noncomputable def okK(caps:List Nat)(ct:CT)(elt iter:X)(ifs:List X)(sc:List (Nat×NameKind))(τ:T)(ns:Ns)(e:PE):Bool:=
 (Hp τ.tab caps ns (cU τ.tab sc)&&(ct.xs.all (fun x=>qK .local (cU τ.tab sc).names (τ.tab x))&&Nat.ble ifs.length 1))&&((elt.ok τ (cU τ.tab sc).names (kid e 0)&&iter.ok τ ns (kid e 2))&&Ad τ (cU τ.tab sc).names ifs ((kids e).drop 3))
section
variable{τ:T}{g:G τ}(hg:N6 g){ns:Ns}{env:Env}{n:Nat}{m:Loc}{H:AH}
include hg
theorem ab4{ifs:List X}{es:List PE}(h:Ad τ ns ifs es=true)(hl:Nat.ble ifs.length 1=true)(he:V7 ns env):cQ g n env (toL τ.tab ifs es) (Ag g n ifs):=by
 cases ifs with
 |nil=>exact cQ.nil
 |cons c cs=>cases cs with
  |nil=>exact cQ.one fun m H Q w=>c.sT hg _ (n7 h).1 he w
  |cons _ _=>exact nomatch (show false=true from hl)
theorem Ah{caps:List Nat}{ct:CT}{elt iter:X}{ifs:List X}{sc:List (Nat×NameKind)}{e:PE}(h:okK caps ct elt iter ifs sc τ ns e=true)(he:V7 ns env):
  (eU g (cU τ.tab sc) caps/\∀x∈caps,env.kindOf (τ.tab x)=some .cell\/env.kindOf (τ.tab x)=some .free)/\(∀x∈ct.xs,(cU τ.tab sc).names.lookup (τ.tab x)=some .local)/\
   (∀env',env'.scope=relabel (cU τ.tab sc) env->∀m H Q,elt.wE g n m H Q->Ev g n env' m H (elt.to τ.tab (kid e 0)) Q)/\(∀env',env'.scope=relabel (cU τ.tab sc) env->cQ g n env' (toL τ.tab ifs ((kids e).drop 3)) (Ag g n ifs))/\iter.ok τ ns (kid e 2)=true:=by
 obtain⟨h1,h4⟩:=n7 h
 obtain⟨h1,h2⟩:=n7 h1
 obtain⟨h2,h3⟩:=n7 h2
 obtain⟨h4,h6⟩:=n7 h4
 obtain⟨h4,h5⟩:=n7 h4
 exact⟨uo rfl he h1,fun x hx=>R7 (m9.mp h2 x hx),fun env' hs m H Q w=>elt.sE hg _ h4 (V7.comp hs rfl) w,fun env' hs=>ab4 hg h6 h3 (V7.comp hs rfl),h5⟩
omit hg in
theorem Y4{caps:List Nat}{P:Prop}(h:sel (gO m caps) P False):(∀x∈caps,∃p,m.lookup x=some p)/\P:=(tK h).imp (fun e x hx=>Option.isSome_iff_exists.mp (m9.mp e x hx)) id
end
noncomputable def X.comp(caps:List Nat)(ct:CT)(elt iter:X)(ifs:List X)(sc:List (Nat×NameKind)):X where
 to:=toK ct elt iter ifs sc
 ok:=okK caps ct elt iter ifs sc
 wE g n m H Q:=wpK g n caps ct elt iter ifs m H Q
 wT O O O O O:=False
 sE hg O O O O O O O h he w:=by
  obtain⟨⟨s1,s2⟩,h2,h3,h4,h5⟩:=Ah hg h he
  exact Ev.comp hg s1 s2 (Y4 w).1 (uh _ _ ct) h2 ((iter.sh _ _).fold _) h3 h4 (Hl.of (iter.sE hg _ h5 he (Y4 w).2))
 sT O O O O O O O O O O w:=w.elim
 sh O O:=⟨fun O O=>rfl,fun O O=>rfl,fun O=>rfl⟩
 bs:=true
 sb O O O O O:=rfl
 nc:=false
 sn h:=nomatch h
 nt:=true
 st O O O O O O O:=rfl
noncomputable abbrev WA := ∀{τ:T},G τ->Nat->PV->Loc->AH->(Loc->AH->Prop)->Prop
structure Tg where
 to:(Nat->Str)->PE->PE
 ok:T->Ns->PE->Bool
 w:WA
 s:∀{τ:T} {g:G τ},N6 g->∀{ns:Ns} {env:Env} {n:Nat} {p:PV} {m:Loc} {H:AH} {Q:Loc->AH->Prop} (x:PE),ok τ ns x=true->V7 ns env->w g n p m H Q->As g n env m H (to τ.tab x) p Q
 pl:∀tab x,mW (to tab x)
 nt:Bool
 st:∀tab x v env,(nt=false->∀ts j p,swappedStores [.Tuple ts j p] v env=pure none)->swappedStores [to tab x] v env=pure none
noncomputable def Tg.name(x:Nat):Tg where
 to tab e:=.Name (tab x) e.pos
 ok τ ns O:=Ml ns (τ.tab x)
 w O O p m H Q:=Q (w7 x p m) H
 s hg O O O O O O O O h he w:=As.name hg (he.lc h) w
 pl O O O O:=rfl
 nt:=true
 st O O O O O:=rfl
inductive iK{τ:T}(g:G τ)(x:Nat)(q:PV)(Q:AH->Prop):PV->AH->Prop
 |mk {a C dx:Addr} {l:List (Nat×PV)} {H:AH} (e1:H a=some (.inst C dx)) (e2:H dx=some (.attrs l)) (hf:τ.fld C x=true) (hl:l.length<900) (h:Q (upd H dx (.attrs (w7 x q l)))):iK g x q Q (.obj a) H
theorem iK.ex{τ:T}{g:G τ}{x:Nat}{q:PV}{Q:AH->Prop}{p:PV}{H:AH}(h:iK g x q Q p H):∃a C dx l,p = .obj a/\H a=some (.inst C dx)/\H dx=some (.attrs l)/\τ.fld C x=true/\l.length<900/\Q (upd H dx (.attrs (w7 x q l))):=by
 cases h with
 |mk e1 e2 hf hl h=>exact⟨_,_,_,_,rfl,e1,e2,hf,hl,h⟩
noncomputable def Tg.attr(o:X)(x:Nat):Tg where
 to tab e:=.Attribute (o.to tab (kid e 0)) (tab x) e.pos
 ok τ ns e:=o.ok τ ns (kid e 0)
 w g n q m H Q:=o.wE g n m H (iK g x q (Q m))
 s hg O O O O O O O O h he w:=As.attr hg ((o.sE hg _ h he w).mono fun O O z=>z.ex)
 pl O O O O:=rfl
 nt:=true
 st O O O O O:=rfl
noncomputable def ay0(q:PV)(K:AH->Prop)(p k:PV)(H:AH):Prop:=Mh p k q H K
noncomputable def kTs{τ:T}(g:G τ)(n:Nat)(i:X)(q:PV)(m:Loc)(K:AH->Prop)(p:PV)(H:AH):Prop:=i.wE g n m H (ay0 q K p)
noncomputable def Tg.sub(o i:X):Tg where
 to tab e:=.Subscript (o.to tab (kid e 0)) (i.to tab (kid e 1)) e.pos
 ok τ ns e:=o.ok τ ns (kid e 0)&&i.ok τ ns (kid e 1)
 w g n q m H Q:=o.wE g n m H (kTs g n i q m (Q m))
 s hg O O O O O O O O h he w:=As.sub hg ((o.sE hg _ (n7 h).1 he w).mono fun O O w=>i.sE hg _ (n7 h).2 he w)
 pl O O O O:=rfl
 nt:=true
 st O O O O O:=rfl
noncomputable def kTa(w:Loc->AH->(Loc->AH->Prop)->Prop)(Q:Loc->AH->Prop)(m:Loc)(H:AH):Prop:=w m H Q
noncomputable def Vy{τ:T}(g:G τ)(n:Nat):List Tg->List PV->Loc->AH->(Loc->AH->Prop)->Prop
 | [],l,m,H,Q=>match l with
  | []=>Q m H
  |_=>False
 |t::ts,l,m,H,Q=>match l with
  |q::qs=>t.w g n q m H (kTa (Vy g n ts qs) Q)
  | []=>False
noncomputable def Hq(tab:Nat->Str):List Tg->List PE->List PE
 | [],_=>[]
 |t::ts,es=>t.to tab (hd es)::Hq tab ts es.tail
noncomputable def ab5(τ:T)(ns:Ns):List Tg->List PE->Bool
 | [],_=>true
 |t::ts,es=>t.ok τ ns (hd es)&&ab5 τ ns ts es.tail
theorem Vz(tab:Nat->Str)(ts:List Tg):∀es,∀t∈Hq tab ts es,mW t:=by
 induction ts with
 |nil=>exact fun O O h=>nomatch h
 |cons x xs ih=>exact fun es e h=>(q7.mp h).elim (fun z=>z▸x.pl _ _) (ih _ e)
theorem As.mono{τ:T}{g:G τ}{n:Nat}{env:Env}{m:Loc}{H:AH}{tg:PySem.Expr}{q:PV}{Q Q':Loc->AH->Prop}(h:As g n env m H tg q Q)(k:∀m H,Q m H->Q' m H):As g n env m H tg q Q':=
 fun A s v R S F r=>j6 (h A s v R S F r) (fun O s' ⟨m',H',a,b,c,q⟩=>⟨m',H',a,b,c,k _ _ q⟩) fun O O x=>x
theorem sole{tg v:PE}{line:Nat}{env:Env}(h:swapsWith v (some tg) line env=pure false):swapsWithSole [tg] v line env=pure false:=h
theorem am8{τ:T}{g:G τ}(hg:N6 g){ns:Ns}{env:Env}{n:Nat}(he:V7 ns env){Q:Loc->AH->Prop}(ts:List Tg):∀(es:List PE) (l:List PV) {m:Loc} {H:AH},ab5 τ ns ts es=true->Vy g n ts l m H Q->AsL g n env m H (Hq τ.tab ts es) l Q:=by
 induction ts with
 |nil=>
  intro es l m H h w
  cases l with
  |nil=>exact w
  |cons _ _=>exact w.elim
 |cons t ts ih=>
  intro es l m H h w
  cases l with
  |nil=>exact w.elim
  |cons q qs=>exact(t.s hg _ (n7 h).1 he w).mono fun O O w=>ih _ _ (n7 h).2 w
theorem Qk(tab:Nat->Str)(ts:List Tg):∀es,(Hq tab ts es).length=ts.length:=by
 induction ts with
 |nil=>exact fun O=>rfl
 |cons x xs ih=>exact fun es=>congrArg (·+ 1) (ih _)
noncomputable abbrev asW{τ:T}(g:G τ)(n:Nat)(ts:List Tg)(m:Loc)(H:AH)(Q:Loc->AH->Prop)(l:List PV):Prop:=sel (Nat.beq l.length ts.length) (Vy g n ts l m H Q) False
theorem asW.of{τ:T}{g:G τ}{n:Nat}{ts:List Tg}{m:Loc}{H:AH}{Q:Loc->AH->Prop}{l:List PV}(h:asW g n ts m H Q l):l.length=ts.length/\Vy g n ts l m H Q:=(tK h).imp Nat.eq_of_beq_eq_true id
noncomputable def Tg.tup(ts:List Tg):Tg where
 to tab e:=.Tuple (Hq tab ts (kids e)) (kc e) e.pos
 ok τ ns e:=ab5 τ ns ts (kids e)
 w g n q m H Q:=@Option.rec (List PV) (fun O=>Prop) (lk (Q6 H q) (asW g n ts m H Q)) (asW g n ts m H Q) q.Vs
 s {τ g} hg ns env n p m H Q x h he w:=by
  have key:∀l,asW g n ts m H Q l->l.length=(Hq τ.tab ts (kids x)).length/\AsL g n env m H (Hq τ.tab ts (kids x)) l Q:=fun l z=>⟨z.of.1.trans (Qk _ _ _).symm,am8 hg he ts _ _ h z.of.2⟩
  refine As.tup (Vz _ _ _) ?_
  cases e:p.Vs with
  |some l=>
   rw [e] at w
   rw [PN e]
   exact⟨.inl ⟨l,rfl⟩,key l w⟩
  |none=>
   rw [e] at w
   obtain⟨l,e2,w⟩:=U8 w
   refine⟨.inr ⟨l,e2⟩,?_⟩
   rw [show itemsOf H p=some l by cases p<;>first|exact e2|exact nomatch e2]
   exact key l w
 pl O O O O:=rfl
 nt:=false
 st O O O O h:=h rfl _ _ _
structure iM(τ:T)(ns:Ns)(env:Env):Prop where
 kind:env.scope.kind = .function
 names:env.scope.names=ns
 code:∀c,τ.lam ns=some c->env.code = .ref c.1/\env.qual ++ "<lambda>" = c.2.2
theorem iM.ok{τ:T}{ns:Ns}{env:Env}(h:iM τ ns env):V7 ns env:=by
 have k:∀s,env.kindOf s=ns.lookup s:=fun s=>by unfold Env.kindOf;rw [h.names]
 exact⟨h.kind,fun s O e O=>(k s).trans e,fun s e=>.inr ((k s).trans e)⟩
theorem iM.bk{τ:T}{ns:Ns}{env:Env}(h:iM τ ns env):env.blockKind = .function:=by unfold Env.blockKind;rw [h.kind];rfl
noncomputable def env0(ns:Ns):Env:={scope:=⟨.function,ns,false,false,[]⟩,locals:=0,globals:=0,cells:=[]}
theorem ab6{τ:T}{ns:Ns}{env:Env}(h:iM τ ns env)(ts:List PE)(v:PE):swappedStores ts v env=swappedStores ts v (env0 ns):=by
 obtain⟨⟨k,n,a,b,c⟩,_,_,_,_,_,_,_,_⟩:=env
 obtain⟨h1,h2,_⟩:=h
 cases h1
 cases h2
 rfl
noncomputable def ab7(r:Sem (Option (List Str))) (l:Option (List Str)):Bool:=match r with
 |.pure x=>decide (x=l)
 |_=>false
theorem JM{τ:T}{ns:Ns}{env:Env}{ts:List PE}{v:PE}{l:Option (List Str)}(he:iM τ ns env)(h:ab7 (swappedStores ts v (env0 ns)) l=true):swappedStores ts v env=pure l:=by
 rw [ab6 he]
 generalize swappedStores ts v (env0 ns)=r at h ⊢
 cases r<;>first|exact congrArg Sem.pure (u9 h)|exact nomatch (show false=true from h)
noncomputable def am9:Stmt->List PE
 |.Expr e _=>[e]
 |.Return e _=>[e.getD default]
 |.Assign ts v _=>ts++[v]
 |.For t i _ _ _=>[t,i]
 |.While t _ _ _=>[t]
 |.If t _ _ _=>[t]
 |.Raise e _ _=>[e.getD default]
 |_=>[]
noncomputable def O7(s:Stmt)(i:Nat):PE:=(am9 s).getD i default
noncomputable def blk:Stmt->List Stmt
 |.For _ _ a _ _=>a
 |.While _ a _ _=>a
 |.If _ a _ _=>a
 |.Try a _ _ _ _=>a
 |_=>[]
noncomputable def an0:Stmt->List Stmt
 |.If _ _ b _=>b
 |_=>[]
noncomputable abbrev WS := ∀{τ:T},G τ->Nat->Loc->AH->(Out->Loc->AH->Prop)->Prop
structure S where
 to:(Nat->Str)->Stmt->Stmt
 ok:T->Ns->Stmt->Bool
 w:WS
 s:∀{τ:T} {g:G τ},N6 g->∀{ns:Ns} {env:Env} {n:Nat} {m:Loc} {H:AH} {Q:Out->Loc->AH->Prop} (x:Stmt),ok τ ns x=true->iM τ ns env->w g n m H Q->dF g n env m H (to τ.tab x) Q
noncomputable abbrev YC(Q:Out->Loc->AH->Prop)(k:Loc->AH->Prop)(o:Out)(m:Loc)(H:AH):Prop:=@Out.rec (fun O=>Prop) (k m H) (Q .brk m H) (Q .cont m H) (fun p=>Q (.ret p) m H) o
noncomputable def Va(w:Loc->AH->(Out->Loc->AH->Prop)->Prop)(Q:Out->Loc->AH->Prop)(m:Loc)(H:AH):Prop:=w m H Q
noncomputable def O5{τ:T}(g:G τ)(n:Nat):List S->Loc->AH->(Out->Loc->AH->Prop)->Prop
 | [],m,H,Q=>Q .next m H
 |s::ss,m,H,Q=>s.w g n m H (YC Q (Va (O5 g n ss) Q))
noncomputable abbrev hdS(es:List Stmt):Stmt:=es.headD default
noncomputable def jU(tab:Nat->Str):List S->List Stmt->List Stmt
 | [],_=>[]
 |s::ss,xs=>s.to tab (hdS xs)::jU tab ss xs.tail
noncomputable def ni(τ:T)(ns:Ns):List S->List Stmt->Bool
 | [],_=>true
 |s::ss,xs=>s.ok τ ns (hdS xs)&&ni τ ns ss xs.tail
theorem GD.mono{τ:T}{g:G τ}{env:Env}{s s':Shared}{H:AH}{f:Flow}{Q Q':Out->Loc->AH->Prop}(h:GD g env s H Q f s')(k:∀o m H,Q o m H->Q' o m H):GD g env s H Q' f s':=
 let⟨o,m',H',r,S,F,c,q⟩:=h;⟨o,m',H',r,S,F,c,k _ _ _ q⟩
theorem dF.mono{τ:T}{g:G τ}{n:Nat}{env:Env}{m:Loc}{H:AH}{st:Stmt}{Q Q':Out->Loc->AH->Prop}(h:dF g n env m H st Q)(k:∀o m H,Q o m H->Q' o m H):dF g n env m H st Q':=
 fun A s R S F=>j6 (h A s R S F) (fun O O x=>x.mono k) fun O O x=>x
theorem Ex.mono{τ:T}{g:G τ}{n:Nat}{env:Env}{m:Loc}{H:AH}{ss:List Stmt}{Q Q':Out->Loc->AH->Prop}(h:Ex g n env m H ss Q)(k:∀o m H,Q o m H->Q' o m H):Ex g n env m H ss Q':=
 fun A s R S F=>j6 (h A s R S F) (fun O O x=>x.mono k) fun O O x=>x
theorem uq{τ:T}{g:G τ}(hg:N6 g){ns:Ns}{env:Env}{n:Nat}(he:iM τ ns env){Q:Out->Loc->AH->Prop}(ss:List S):∀(xs:List Stmt) {m:Loc} {H:AH},ni τ ns ss xs=true->O5 g n ss m H Q->Ex g n env m H (jU τ.tab ss xs) Q:=by
 induction ss with
 |nil=>exact fun O O O O w=>Ex.nil w
 |cons s ss ih=>exact fun xs m H h w=>Ex.cons ((s.s hg _ (n7 h).1 he w).mono fun o m' H' w=>by
   cases o with
   |next=>exact ih _ (n7 h).2 w
   |brk=>exact w
   |cont=>exact w
   |ret p=>exact w)
section
variable{τ:T}(g:G τ)(n:Nat)(m:Loc)(Q:Out->Loc->AH->Prop)(p:PV)(H:AH)
noncomputable def kN(_p:PV)(H:AH):Prop:=Q .next m H
noncomputable def nx(m:Loc)(H:AH):Prop:=Q .next m H
noncomputable def kA(t:Tg)(p:PV)(H:AH):Prop:=t.w g n p m H (nx Q)
noncomputable def ay1(ts:List Tg)(l:List PV)(H:AH):Prop:=asW g n ts m H (nx Q) l
noncomputable def ay2(xs:List Nat)(l:List PV):Prop:=sel (Nat.beq l.length xs.length) (Q .next (qH xs.reverse l.reverse m) H) False
noncomputable def kSw(xs:List Nat)(p:PV)(H:AH):Prop:=lk p.Vs (ay2 m Q H xs)
noncomputable def kAc(x:Nat)(p:PV)(H:AH):Prop:=Q .next (w7 x p m) H
noncomputable def kR(p:PV)(H:AH):Prop:=Q (.ret p) m H
noncomputable def kIf(a b:List S)(c:Bool)(H:AH):Prop:=sel c (O5 g n a m H Q) (O5 g n b m H Q)
end
noncomputable def S.bad:S:=⟨fun O x=>x,fun O O O=>true,fun O O O O O=>False,fun O O O O O O O O O O w=>w.elim⟩
noncomputable def S.expr(e:X):S:=⟨fun tab x=>.Expr (e.to tab (O7 x 0)) x.pos,fun τ ns x=>e.nc&&e.ok τ ns (O7 x 0),fun g n m H Q=>e.wE g n m H (kN m Q),fun hg O O O O O O O h he w=>dF.expr (by unfold interactive;rw [he.kind];rfl) (e.sn (n7 h).1 _ _ _ _ _) (e.sE hg _ (n7 h).2 he.ok w)⟩
noncomputable def S.asg(t:Tg)(e:X):S:=⟨fun tab x=>.Assign [t.to tab (O7 x 0)] (e.to tab (O7 x 1)) x.pos,fun τ ns x=>(e.nc&&(t.nt||e.nt))&&(t.ok τ ns (O7 x 0)&&e.ok τ ns (O7 x 1)),fun g n m H Q=>e.wE g n m H (kA g n m Q t),fun hg O O O O O O O h he w=>dF.asg (sole (e.sn (n7 (n7 h).1).1 _ _ _ _ _)) (t.st _ _ _ _ fun z ts j p=>e.st (by have:=(n7 (n7 h).1).2;rw [z] at this;exact this) _ _ ts j p _) (t.pl _ _ _ _) ((e.sE hg _ (n7 (n7 h).2).2 he.ok w).mono fun O O w=>t.s hg _ (n7 (n7 h).2).1 he.ok w)⟩
noncomputable def S.an1(ts:List Tg)(es:List X):S:=⟨fun tab x=>.Assign [(Tg.tup ts).to tab (O7 x 0)] ((X.tup es).to tab (O7 x 1)) x.pos,fun τ ns x=>ab7 (swappedStores [(Tg.tup ts).to τ.tab (O7 x 0)] ((X.tup es).to τ.tab (O7 x 1)) (env0 ns)) none&&((Tg.tup ts).ok τ ns (O7 x 0)&&(X.tup es).ok τ ns (O7 x 1)),fun g n m H Q=>Gq g n es m H (ay1 g n m Q ts),fun hg O O O O O O O h he w=>dF.asg (sole rfl) (JM he (n7 h).1) rfl (((X.tup es).sE (Q:=fun p H₁=>(Tg.tup ts).w _ _ p _ H₁ _) hg _ (n7 (n7 h).2).2 he.ok w).mono fun O O w=>(Tg.tup ts).s hg _ (n7 (n7 h).2).1 he.ok w)⟩
noncomputable def S.swap(xs:List Nat)(es:List X):S:=⟨fun tab x=>.Assign [.Tuple (gH tab (Qh xs (kids (O7 x 0)))) (kc (O7 x 0)) (O7 x 0).pos] ((X.tup es).to tab (O7 x 1)) x.pos,fun τ ns x=>ab7 (swappedStores [.Tuple (gH τ.tab (Qh xs (kids (O7 x 0)))) (kc (O7 x 0)) (O7 x 0).pos] ((X.tup es).to τ.tab (O7 x 1)) (env0 ns)) (some (xs.map τ.tab))&&(xs.all (fun y=>Ml ns (τ.tab y))&&(X.tup es).ok τ ns (O7 x 1)),fun g n m H Q=>(X.tup es).wE g n m H (kSw m Q xs),fun hg O O O O O O O h he w=>dF.swap hg rfl (JM he (n7 h).1) (fun y hy=>he.ok.lc (m9.mp (n7 (n7 h).2).1 y hy)) (((X.tup es).sE hg _ (n7 (n7 h).2).2 he.ok w).mono fun p H₁ w=>(U8 w).elim fun l z=>⟨l,PN z.1,(tK z.2).imp Nat.eq_of_beq_eq_true id⟩)⟩
noncomputable def Dq(s:Str)(sc:Scope):Bool := !(sc.names.any fun x=>x.1==s&&(x.2 == .local||x.2 == .cell))
noncomputable def S.VB(x:Nat)(caps:List Nat)(ct:CT)(elt iter:X)(ifs:List X)(sc:List (Nat×NameKind)):S:=⟨fun tab s=>.Assign [.Name (tab x) (O7 s 0).pos] (toK ct elt iter ifs sc tab (O7 s 1)) s.pos,fun τ ns s=>(qK .local ns (τ.tab x)&&(((O7 s 0).pos.line==(O7 s 1).pos.line)&&Dq (τ.tab x) (cU τ.tab sc)))&&okK caps ct elt iter ifs sc τ ns (O7 s 1),fun g n m H Q=>wpK g n caps ct elt iter ifs m H (kAc m Q x),fun{τ O} hg O env O O O O s h he w=>by
  obtain⟨⟨s1,s2⟩,h2,h3,h4,h5⟩:=Ah hg (n7 h).2 he.ok
  have loc:=he.ok.look _ _ (R7 (n7 (n7 h).1).1) nofun
  refine dF.Vp hg s1 s2 (Y4 w).1 (uh _ _ ct) h2 ((iter.sh _ _).fold _) loc ?_ h3 h4 (Hl.of (iter.sE hg _ h5 he.ok (Y4 w).2))
  show(pure (env.blockKind == .function&&env.kindOf (τ.tab x)==some .local&&(O7 s 0).pos.line==(O7 s 1).pos.line&&Dq (τ.tab x) (cU τ.tab sc)):Sem Bool)=pure true
  rw [he.bk,loc,(n7 (n7 (n7 h).1).2).1,(n7 (n7 (n7 h).1).2).2]
  rfl⟩
noncomputable def S.ret(e:X):S:=⟨fun tab x=>.Return (some (e.to tab (O7 x 0))) x.pos,fun τ ns x=>e.ok τ ns (O7 x 0),fun g n m H Q=>e.wE g n m H (kR m Q),fun hg O O O O O O O h he w=>dF.ret (e.sE hg _ h he.ok w)⟩
noncomputable def S.ay4:S:=⟨fun O x=>.Return none x.pos,fun O O O=>true,fun O O m H Q=>Q (.ret .none) m H,fun O O O O O O O O O O w=>dF.Vf w⟩
noncomputable def S.cont:S:=⟨fun O x=>.Continue x.pos,fun O O O=>true,fun O O m H Q=>Q .cont m H,fun O O O O O O O O O O w=>dF.cont w⟩
noncomputable def S.iff(t:X)(a b:List S):S:=⟨fun tab x=>.If (t.to tab (O7 x 0)) (jU tab a (blk x)) (jU tab b (an0 x)) x.pos,fun τ ns x=>t.ok τ ns (O7 x 0)&&(ni τ ns a (blk x)&&ni τ ns b (an0 x)),fun g n m H Q=>t.wT g n m H (kIf g n m Q a b),fun hg O O O O O O O h he w=>dF.iff ((t.sT hg _ (n7 h).1 he.ok w).mono fun O O w=>Gw w (uq hg he a _ (n7 (n7 h).2).1) (uq hg he b _ (n7 (n7 h).2).2))⟩
noncomputable def kGo(p:PV)(l:List PV)(w:Loc->AH->Prop)(m:Loc)(H:AH):Prop:=sel p.isO (itemsOf H p=some l/\w m H) (w m H)
noncomputable def kTn(p:PV)(l:List PV)(Q:Out->Loc->AH->Prop)(w:Loc->AH->Prop)(o:Out)(m:Loc)(H:AH):Prop:=@Out.rec (fun O=>Prop) (kGo p l w m H) (Q .next m H) (kGo p l w m H) (fun x=>Q (.ret x) m H) o
noncomputable def ur(asg:PV->Loc->AH->(Loc->AH->Prop)->Prop)(body:Loc->AH->(Out->Loc->AH->Prop)->Prop)(p:PV)(l:List PV)(Q:Out->Loc->AH->Prop):List PV->Loc->AH->Prop
 | [],m,H=>Q .next m H
 |q::r,m,H=>asg q m H (Va body (kTn p l Q (ur asg body p l Q r)))
noncomputable def kF2{τ:T}(g:G τ)(n:Nat)(m:Loc)(Q:Out->Loc->AH->Prop)(t:Tg)(body:List S)(p:PV)(H:AH)(l:List PV):Prop:=ur (t.w g n) (O5 g n body) p l Q l m H
noncomputable def kF{τ:T}(g:G τ)(n:Nat)(m:Loc)(Q:Out->Loc->AH->Prop)(t:Tg)(body:List S)(p:PV)(H:AH):Prop:=Yy p (lk (itemsOf H p) (kF2 g n m Q t body p H))
noncomputable def S.for(t:Tg)(it:X)(body:List S):S:=⟨fun tab x=>.For (t.to tab (O7 x 0)) (it.to tab (O7 x 1)) (jU tab body (blk x)) [] x.pos,fun τ ns x=>t.ok τ ns (O7 x 0)&&(it.ok τ ns (O7 x 1)&&ni τ ns body (blk x)),fun g n m H Q=>it.wE g n m H (kF g n m Q t body),fun{τ g} hg ns env n m O Q x h he w=>dF.for ((it.sh _ _).fold _) ((it.sE hg _ (n7 (n7 h).2).1 he.ok w).mono fun p H₁ w=>⟨w.src.1,by
  obtain⟨l,e,w⟩:=U8 w.src.2
  rw [e]
  have same:∀{aT5:AH} {P:Prop},sel p.isO (itemsOf aT5 p=some l/\P) P->itemsOf aT5 p=some l/\P:=fun z=>by
   cases p<;>first|exact z|exact⟨e,z⟩
  have key:∀(r:List PV) (m:Loc) (H:AH),ur (t.w g n) (O5 g n body) p l Q r m H->Dj g n env (t.to τ.tab (O7 x 0)) (jU τ.tab body (blk x)) (fun H=>itemsOf H p) l Q r m H:=by
   intro r
   induction r with
   |nil=>exact fun O O w=>w
   |cons q r ih=>exact fun m H w=>(t.s hg _ (n7 h).1 he.ok w).mono fun m₁ H₁ w=>(uq hg he body _ (n7 (n7 h).2).2 w).mono (fun o aV1 aT5 w=>by
     cases o with
     |next=>exact(same w).imp id (ih _ _)
     |cont=>exact(same w).imp id (ih _ _)
     |brk=>exact w
     |ret x=>exact w)
  exact key l m H₁ w⟩)⟩
noncomputable abbrev onL(I:Nat->Loc->AH->Prop)(j:Nat)(Q:Out->Loc->AH->Prop)(o:Out)(m:Loc)(H:AH):Prop:=@Out.rec (fun O=>Prop) (∃i,i<j/\I i m H) (Q .next m H) (∃i,i<j/\I i m H) (fun p=>Q (.ret p) m H) o
noncomputable def kWh{τ:T}(g:G τ)(n:Nat)(m:Loc)(Q:Out->Loc->AH->Prop)(body:List S)(R:Out->Loc->AH->Prop)(b:Bool)(H:AH):Prop:=sel b (O5 g n body m H R) (Q .next m H)
inductive pO{τ:T}(g:G τ)(n:Nat)(t:X)(body:List S)(m:Loc)(H:AH)(Q:Out->Loc->AH->Prop):Prop
 |mk (I:Nat->Loc->AH->Prop) (k:Nat) (h0:I k m H) (h:∀j m' H',I j m' H'->t.wT g n m' H' (kWh g n m' Q body (onL I j Q))):pO g n t body m H Q
noncomputable def S.while(t:X)(body:List S):S:=⟨fun tab x=>.While (t.to tab (O7 x 0)) (jU tab body (blk x)) [] x.pos,fun τ ns x=>t.ok τ ns (O7 x 0)&&ni τ ns body (blk x),fun g n m H Q=>pO g n t body m H Q,fun hg O O O O O O O h he w=>by
  cases w with
  |mk I k h0 w=>exact dF.while I k h0 fun j m' H' hI=>(t.sT hg _ (n7 h).1 he.ok (w j m' H' hI)).mono fun b H₁ w=>Gw w (fun w=>(uq hg he body _ (n7 h).2 w).mono (fun o aV1 aT5 w=>by
    cases o with
    |next=>exact w
    |cont=>exact w
    |brk=>exact w
    |ret x=>exact w)) id⟩
section
variable{prog:Program}{w:World}{A:Around}{E:Value->Shared->Prop}{s:Shared}
theorem uw{it t:Addr}{items:Array Value}{i:Nat}{Q:Value->Shared->Prop}(hh:A.handled=none)(hit:s.heap.IsTupleIter it t i)(ht:s.heap.IsTuple t items)(hx:items[i]? = none)
  (hE:∀h' e,Heap.ExtBut it s.heap h'->(∃o,h'.get? e=some o/\o.cls = .type "StopIteration")->E (.ref e) {s with heap:=h'}):wpAny (model prog w) A (Builtin.SmallTypes.nextOf (.ref it)) Q E s:=by
 obtain⟨o,ho,hc,hd⟩:=id hit
 obtain⟨ol,hol,_,nl,hdl⟩:=ht
 unfold Builtin.SmallTypes.nextOf
 refine c7 (wpAny_callSpecial?_slot (name:=Str.ofString "__next__") hit.typeIs PySem.F.slot_tuple_iterator_next (wpAny_call_entry PySem.F.slot_tuple_iterator_next hit.typeIs PySem.F.entry_tuple_iterator_next ?_ (PySem.F.args_tuple_iterator_next_1 _)))
 show wpAny _ _ (field (.ref it) 0 >>= _) _ _ s
 refine c7 (wpAny_field ho hd (x:=.ref t) rfl ?_)
 show wpAny _ _ (if(Value.ref t==Value.none)=true then _ else _) _ _ s
 rw [if_neg (show ¬((Value.ref t==Value.none)=true) from Bool.false_ne_true)]
 show wpAny _ _ (field (.ref it) 1 >>= _) _ _ s
 refine c7 (wpAny_field ho hd (x:=.int i 0) rfl ?_)
 show wpAny _ _ (seqItems? (.ref t) >>= _) _ _ s
 refine c7 (wpAny_seqItems hol hdl ?_)
 simp only [Int.toNat_natCast,hx]
 refine c7 (wpAny_rule (c7 (wpAny_setField ho hd (by simp) ?_)))
 show wpAny _ _ (newExc (.type "StopIteration") [] >>= _) _ _ _
 refine c7 ?_
 simp only [newExc,newTuple]
 refine c7 (wpAny_newObj_type ?_ (by size_fits))
 refine c7 (m:=firstArgMember _ _) (wpAny_of_eq (a:=Value.none) (by first|rfl|(simp only [firstArgMember];rfl)) (wpAny_newObj_type ?_ (by size_fits)))
 delta raiseNew
 refine c7 (wpAny_handled ?_)
 first|rw [show A.in1.handled=none from hh]|rw [hh]
 exact c7 (j4 (wpAny_throw (hE _ _ (((I6 ..).extBut.push _).push _) ⟨_,s6 _ rfl,rfl⟩)))
theorem Dr{M:Model}{Q:Bool->Shared->Prop}{b:Bool}(h:∀b,Q b s):wpAny M A (pure b) Q E s:=j4 (h b)
theorem ux(l:Addr)(items:Array Value)(n:Nat):Meets (Builtin.«enumerate.__new__» ⟨[.type "enumerate",.ref l],[]⟩) (fun O R s=>s.heap.get? l=some ⟨.type "tuple",none,.seq items n,#[]⟩/\
   R (.ok (.ret (.ref (s.heap.push {cls:=.type "tuple_iterator",data:=.fields #[.ref l,.int 0 0]}).objs.size)))
    {s with heap:=(s.heap.push {cls:=.type "tuple_iterator",data:=.fields #[.ref l,.int 0 0]}).push {cls:=.type "enumerate",data:=.fields #[.none,.bool false,.ref s.heap.objs.size,rawInt 0,.none,.none]}}):=
 .of_wp fun prog w A R s h=>by
  obtain⟨hp,g,d,tk,os⟩:=s;obtain⟨hl,h⟩:=h
  have hsub:=sub_enumerate
  have hL:Heap.IsTuple (Shared.heap ⟨hp,g,d,tk,os⟩) l items:=⟨_,hl,rfl,n,rfl⟩
  wp_walk using AutoSeq1.wpAny_loadPart' hl
  refine wpAny_stack_any fun st=>Dr fun b=>?_
  cases b
  ·wp_walk using AutoSeq1.wpAny_loadPart' hl,wpAny_pyIter_tuple hL
   exact⟨_,rfl,h⟩
  ·wp_walk using AutoSeq1.wpAny_loadPart' hl,wpAny_pyIter_tuple hL
   exact⟨_,rfl,h⟩
end
theorem wH{prog:Program}{w:World}{A:Around}{E:Value->Shared->Prop}{s:Shared}{l:Addr}{items:Array Value}{n:Nat}{Q:Value->Shared->Prop}(hl:s.heap.get? l=some ⟨.type "tuple",none,.seq items n,#[]⟩)
  (h:∀h',IsEnum h' (s.heap.objs.size+1) s.heap.objs.size 0 .none->h'.IsTupleIter s.heap.objs.size l 0->(∀b o,s.heap.get? b=some o->h'.get? b=some o)->Q (.ref (s.heap.objs.size+1)) {s with heap:=h'}):wpAny (model prog w) A (call (.type "enumerate") [.ref l]) Q E s:=by
 refine callType_new PySem.F.called_enumerate (by decide) (PySem.F.typeCall_enumerate_1 _) (PySem.F.newCall_enumerate_1 _) (fun obj=>PySem.F.args_object_init_2 obj _) PySem.F.entry_enumerate_new (ux l items n) ⟨hl,?_⟩
 have hz:(s.heap.push {cls:=.type "tuple_iterator",data:=.fields #[.ref l,.int 0 0]}).objs.size=s.heap.objs.size+1:=Heap.size_push ..
 show _/\_
 rw [hz]
 have he:IsEnum ((s.heap.push {cls:=.type "tuple_iterator",data:=.fields #[.ref l,.int 0 0]}).push
   {cls:=.type "enumerate",data:=.fields #[.none,.bool false,.ref s.heap.objs.size,rawInt 0,.none,.none]}) (s.heap.objs.size+1) s.heap.objs.size 0 .none:=by
  have:=s6 (s.heap.push {cls:=.type "tuple_iterator",data:=.fields #[.ref l,.int 0 0]})
   (o:={cls:=.type "enumerate",data:=.fields #[.none,.bool false,.ref s.heap.objs.size,rawInt 0,.none,.none]}) rfl
  rw [hz] at this;exact this
 exact⟨⟨_,he,rfl⟩,h _ he ⟨_,j5 _ (s6 _ rfl),rfl,rfl⟩ fun b o x=>j5 _ (j5 _ x)⟩
section
variable{τ:T}{g:G τ}{s:Shared}{H:AH}
theorem M4.tab{h':Heap}{P:Addr}{q:Str}(S:M4 g s H)(hP:H P=some (.code q))(B:Heap.ExtBut P s.heap h')(r:jR g h' H P (.code q))(t:Nat):M4 g {s with heap:=h',toks:=t} H/\Calm s.heap H h' H:=by
 obtain⟨ps,e,_⟩:=S.obj _ _ hP
 have ne:∀b,H b=none->b≠P:=fun b z w=>by rw [w,hP] at z;cases z
 have nt:∀b o n,s.heap.get? b=some o->o.cls = .type n->b≠P:=fun b o n eb k w=>by rw [w,e] at eb;cases eb;cases k
 have pr:T7 s.heap H h' H:=⟨fun b o xs k eb O c=>B b o (nt b o _ eb c) eb,fun b o xs k eb O c z=>⟨B b o (ne b z) eb,z⟩,fun b o xs eb O c=>B b o (c.elim (nt b o _ eb) (nt b o _ eb)) eb⟩
 refine⟨⟨fun b o eb=>B b o (fun w=>?_) (S.keep b o eb),S.fresh,fun a o ea=>?_,S.gens,S.os⟩,fun b o eb z O=>B b o (ne b z) eb,fun b z w=>absurd z w,fun b o eb=>?_,pr⟩
 ·have:=S.fresh P (by rw [hP];exact nofun)
  rw [w,this] at eb;cases eb
 ·by_cases w:a=P
  ·subst w;rw [hP] at ea;cases ea;exact r
  ·exact(S.obj a o ea).keeps pr fun x ex=>B a x w ex
 ·by_cases w:b=P
  ·subst w;exact r.has
  ·exact⟨o,B b o w eb⟩
theorem N6.grow(hg:N6 g){h':Heap}(k:∀b o,g.h₀.get? b=some o->h'.get? b=some o):N6 (⟨g.w,h',g.os⟩:G τ):=by
 have pr:T7 g.h₀ (fun O=>none) h' (fun O=>none):=⟨fun b o O O e O O=>k b o e,fun b o O O e O O q=>⟨k b o e,q⟩,fun b o O e O O=>k b o e⟩
 obtain⟨mg,mb,n1,n2,n3⟩:=hg.names
 obtain⟨mg',b1,b2⟩:=hg.bm
 refine{inj:=hg.inj,dbg:=hg.dbg,X:=hg.X.keeps k,nolimit:=hg.nolimit.keeps k,ao:=hg.ao,Js:=hg.Js,fld:=hg.fld,meth:=hg.meth,fn:=hg.fn,tL:=hg.tL,init:=hg.init,names:=⟨mg,mb,n1.keeps k,n2.keeps k,fun x p e=>(n3 x p e).elim fun v z=>⟨v,z.1,z.2.keeps pr⟩⟩,mods:=fun e=>?_,bm:=⟨mg',b1.keeps k,fun P hP=>?_⟩,lam:=fun ns c P q e=>⟨(hg.lam ns c P q e).1.keeps k,(hg.lam ns c P q e).2⟩,sd:=fun a x p e=>?_}
 ·cases q:g.h₀.get? sysModules with
  |none=>exact hg.mods q
  |some o=>exact nomatch (k _ _ q).symm.trans e
 ·obtain⟨bm,o,c1,c2,c3,c4,c5,c6⟩:=b2 P fun o e=>hP o (k _ _ e)
  exact⟨bm,o,c1,c2,c3,c4,k _ _ c5,c6⟩
 ·obtain⟨m,v,⟨o,es,ep,e1,e2⟩,a2,r⟩:=hg.sd a x p e
  exact⟨m,v,⟨o,es,ep,k _ _ e1,e2⟩,a2,r.keeps pr⟩
noncomputable def kJ(h:Heap)(H:AH):Heap:=hideAll h ((List.range h.objs.size).filter fun b=>(H b).isSome)
theorem Ds{h:Heap}{b:Addr}{o:Obj}(e:(kJ h H).get? b=some o):h.get? b=some o/\H b=none:=by
 have e':=of_hideAll _ e
 refine⟨e',?_⟩
 cases q:H b with
 |none=>rfl
 |some x=>
  have:(kJ h H).get? b=none:=hideAll_none _ (List.mem_filter.mpr ⟨List.mem_range.mpr (G8 e'),by rw [q];rfl⟩)
  rw [this] at e;cases e
theorem jH{h:Heap}{b:Addr}{o:Obj}(e:h.get? b=some o)(z:H b=none):(kJ h H).get? b=some o:=
 hideAll_get _ e fun w=>by have:=(List.mem_filter.mp w).2;rw [z] at this;cases this
theorem M4.base(S:M4 g s H){b:Addr}{o:Obj}(e:g.h₀.get? b=some o):(kJ s.heap H).get? b=some o:=jH (S.keep b o e) (by
 cases q:H b with
 |none=>rfl
 |some x=>have:=S.fresh b (by rw [q];exact nofun);rw [this] at e;cases e)
theorem M4.wide(S:M4 g s H):M4 (⟨g.w,kJ s.heap H,g.os⟩:G τ) s H:=
 ⟨fun b o e=>(Ds e).1,fun a z=>by
  cases q:(kJ s.heap H).get? a with
  |none=>rfl
  |some o=>exact absurd (Ds q).2 z,S.obj,S.gens,S.os⟩
theorem M4.narrow{h':Heap}(k:∀b o,g.h₀.get? b=some o->h'.get? b=some o)(S:M4 (⟨g.w,h',g.os⟩:G τ) s H):M4 g s H:=
 ⟨fun b o e=>S.keep b o (k b o e),fun a z=>(by
  cases q:g.h₀.get? a with
  |none=>rfl
  |some o=>exact nomatch (k a o q).symm.trans (S.fresh a z)),S.obj,S.gens,S.os⟩
theorem M4.again{h':Heap}{s':Shared}{H':AH}(S:M4 (⟨g.w,h',g.os⟩:G τ) s H)(S':M4 g s' H')(c:Calm s.heap H s'.heap H'):M4 (⟨g.w,h',g.os⟩:G τ) s' H':=by
 have un:∀b o,h'.get? b=some o->H b=none:=fun b o e=>by
  cases q:H b with
  |none=>rfl
  |some x=>exact nomatch e.symm.trans (S.fresh b (by rw [q];exact nofun))
 refine⟨fun b o e=>c.keep b o (S.keep b o e) (un b o e) id,fun a z=>?_,S'.obj,S'.gens,S'.os⟩
 cases q:h'.get? a with
 |none=>rfl
 |some o=>have:=c.new a (un a o q) z;rw [S.keep a o q] at this;cases this
end
structure Ql(τ:T)(pl go:Nat)(ps:Arguments)(body:PE)(sc:Scope):Prop where
 args:∃a:Arg,a.arg=τ.tab go/\ps=⟨[],[a],none,[],[],none,[]⟩
 kind:sc.kind = .function
 co:sc.isCoroutine=false
 gen:sc.isGenerator=false
 names:sc.names=[(τ.tab go,.local),(τ.tab pl,.free)]
 body:∃p1 p2 p3,body = .Subscript (.Name (τ.tab pl) p1) (.Name (τ.tab go) p2) p3
noncomputable def uy{τ:T}(g:G τ)(pl:Nat)(q:Str)(ps:Arguments)(body:PE)(sc:Scope)(h:Heap)(f cc:Addr):Prop:=
 ∃pm c' ctv o vs t,h.get? f=some {cls:=.type "function",data:=.func (kla_fn "<lambda>" q ps body sc [(g.tab pl,cc)] pm (.ref c') ctv)}/\h.get? c'=some o/\o.cls = .type "code"/\o.data = .fields vs/\vs[1]? = some (.str q t)
section
variable{τ:T}{g:G τ}{s:Shared}{H:AH}{A:Around}
set_option tactic.hygienic true in
omit g s H A in
theorem Hr{pos:Pos}{v c:Value}{i j:Nat}(n:Nat):∀{l:List Value},l.length<=n->TriplesOk l->codeAmong pos (l++[rawInt i,rawInt j,c])=some v->codeAmong pos l=some v\/v=c:=by
 have nil:codeAmong pos ([]++[rawInt i,rawInt j,c])=some v->codeAmong pos []=some v\/v=c:=fun z=>.inr (cJ (show(if _ then some c else none)=some v from z)).2.symm
 induction n with
 |zero=>
  intro l h _ z
  cases List.eq_nil_of_length_eq_zero (Nat.le_zero.mp h)
  exact nil z
 |succ n ih=>
  intro l h w z
  cases l with
  |nil=>exact nil z
  |cons x l=>
   cases x<;>first|exact(show False from w).elim|skip
   case int a t=>
    cases l with
    |nil=>exact(show False from w).elim
    |cons y l=>
     cases y<;>first|exact(show False from w).elim|skip
     case int b u=>
      cases l with
      |nil=>exact(show False from w).elim
      |cons d r=>
       have z:(if(a==pos.line&&b==pos.col)=true then some d else codeAmong pos (r++[rawInt i,rawInt j,c]))=some v:=z
       show(if(a==pos.line&&b==pos.col)=true then some d else codeAmong pos r)=some v\/v=c
       by_cases q:(a==pos.line&&b==pos.col)=true
       ·rw [if_pos q] at z;rw [if_pos q];exact .inl z
       ·rw [if_neg q] at z;rw [if_neg q];exact ih (v7 (v7 (J3 h))) w z
theorem fcode{env:Env}{c P:Addr}{q:Str}{pos:Pos}{fl:Nat}{nm:Str}{ps:Arguments}{sc:Scope}{b:FuncBody}{M:Model}{Q:Value->Shared->Prop}{E:Value->Shared->Prop}(S:M4 g s H)(hP:H P=some (.code q))(hc:env.code = .ref c)(C:CodeHd g.h₀ c P)
  (h:∀c' h' tk,Heap.ExtBut P s.heap h'->(∃o vs t,h'.get? c'=some o/\o.cls = .type "code"/\o.data = .fields vs/\vs[1]? = some (.str q t))->jR g h' H P (.code q)->Q (.ref c') {s with heap:=h',toks:=tk}):
  wpAny M A (functionCode env pos fl nm q ps sc b) Q E s:=by
 obtain⟨qs,e,tr,cs⟩:=S.obj _ _ hP
 have C':=C.keeps S.keep
 cases k:codeAmong pos qs.toList with
 |some v=>
  obtain⟨c',o,vs,t,rfl,a2,a3,a4,a5⟩:=cs pos v k
  exact wpAny_functionCode_hit hc (C'.code e tr) k (h c' s.heap s.toks (fun O O O e=>e) ⟨o,vs,t,a2,a3,a4,a5⟩ ⟨qs,e,tr,cs⟩)
 |none=>
  refine wpAny_functionCodeX hc (C'.code e tr) (C'.tab e) k fun c' h' tk hx hge hlt hcode hrec htab hnew=>?_
  obtain⟨P',_,_,⟨⟨o',vs',e1,e2,e3,_⟩,_⟩⟩:=hnew
  obtain⟨c2,o,vs,t,r1,r2,r3,r4⟩:=hrec
  cases r1
  rw [e1] at r2;cases r2
  rw [e3] at r3;cases r3
  refine h c' h' tk hx ⟨o',vs',t,e1,e2,e3,r4⟩ ⟨_,htab.2,?_,fun pos' v kv=>?_⟩
  ·obtain⟨_,_,_,_,_,_,_,_,_,op,f1,f2,_,_,_,_,_,f8,f9,f10,_⟩:=hcode
   rw [htab.2] at f8;cases f8;cases f9;exact f10
  ·rw [Array.toList_append] at kv
   rcases Hr _ (o9 _) tr kv with kv|rfl
   ·obtain⟨c1,o1,vs1,t1,rfl,b2,b3,b4,b5⟩:=cs pos' v kv
    refine⟨c1,o1,vs1,t1,rfl,hx c1 o1 (fun w=>?_) b2,b3,b4,b5⟩
    rw [w,e] at b2;cases b2;cases b3
   ·exact⟨c',o',vs',t,rfl,e1,e2,e3,r4⟩
theorem Qm{env:Env}{m:Loc}{c P cc:Addr}{q:Str}{pl go:Nat}{ps:Arguments}{body:PE}{sc:Scope}{pos:Pos}{vc:Value}{E:Value->Shared->Prop}{k:Value->Shared->Prop}(hg:N6 g)(S:M4 g s H)(F:N8 g env m s.heap H)
  (hl:Ql τ pl go ps body sc) (hc:env.code = .ref c) (hq:env.qual ++ "<lambda>" = q) (C:CodeHd g.h₀ c P) (nP:P≠mainGlobals) (hP:H P=some (.code q)) (hcc:env.cells.lookup (τ.tab pl)=some cc) (ic:s.heap.IsCell cc (some vc))
  (h:∀s' f,M4 g s' H->Calm s.heap H s'.heap H->s.heap.get? f=none->uy g pl q ps body sc s'.heap f cc->s'.heap.IsCell cc (some vc)->k (.ref f) s'):wpAny (model g.prog g.w) A (eval (.Lambda ps body sc pos) env) k E s:=by
 have hd:defaultsOf ps env=([],[]):=by
  obtain⟨a,_,rfl⟩:=hl.args
  rfl
 refine kla_eval hd ?_
 rw [hq,makeFunction_eq]
 simp only [List.zip_nil_right,List.filterMap_nil,List.isEmpty_nil,if_true,pure_bind]
 have hcl:closureFor sc env=pure [(τ.tab pl,cc)]:=by
  unfold closureFor
  rw [hl.names]
  simp only [List.forIn_cons,List.forIn_nil,cellOf,hcc]
  rfl
 obtain⟨mg,b1,b2⟩:=hg.bm
 have hPn:∀o,g.h₀.get? P≠some o:=fun o e=>nomatch e.symm.trans (S.fresh P (by rw [hP];exact nofun))
 obtain⟨bm,ob,b2,b3,b4,b5,b6,b7,b8,b9⟩:=b2 P hPn
 unfold makeTail
 rw [hcl,F.globs]
 refine c7 (j4 ?_)
 refine c7 (wpAny_newTextTuple ?_)
 have S1:=S.push {cls:=.type "tuple",data:=.seq ([(τ.tab pl,cc)].map fun x=>Value.str x.1 0).toArray} s.toks
 refine c7 (fcode (s:={s with heap:=s.heap.push _}) (S.push _ s.toks) hP hc C fun c' h' tk hx hr ho=>?_)
 obtain⟨S2,C2⟩:=(S.push _ s.toks).tab hP hx ho tk
 refine c7 (wpAny_builtinsFor (b1.keeps S2.keep) b2 b3 (S2.keep _ _ b6) b7 b8 b9 ?_)
 refine c7 (wpAny_nsGet (b1.keeps S2.keep) ?_)
 refine c7 (j4 (wpAny_newObj_type ?_ (by size_fits)))
 obtain⟨oc,e1,e2⟩:=ic
 have hcH:H cc=none:=(F.cells _ _ hcc).1
 obtain⟨o,vs,t,r1,r2,r3,r4⟩:=hr
 have an2:∀b o,s.heap.get? b=some o->H b=none->h'.get? b=some o:=fun b o e z=>hx b o (fun w=>by rw [w,hP] at z;cases z) (j5 _ e)
 refine h _ _ (S2.push _ tk) ((Calm.push ..).trans (C2.trans (Calm.push ..))) ?_ ⟨_,c',_,o,vs,t,s6 _ rfl,j5 _ r1,r2,r3,r4⟩ ⟨oc,j5 _ (an2 _ _ e1 hcH),e2⟩
 cases e:s.heap.get? h'.objs.size with
 |none=>rfl
 |some x=>
  obtain⟨y,hy⟩:=C2.ex _ _ (j5 _ e)
  exact absurd (G8 hy) (Nat.lt_irrefl _)
omit g s H A in
theorem uz{K V:Type} [BEq K] [LawfulBEq K]{k y:K}{v w:V}(e:[(k,v)].lookup y=some w):y=k/\w=v:=by
 rw [u5] at e
 cases z:y==k with
 |true=>rw [z] at e;cases e;exact⟨eq_of_beq z,rfl⟩
 |false=>rw [z] at e;cases e
omit g s H A in
theorem gP{K V:Type} [BEq K] [LawfulBEq K]{k j y:K}{v u w:V}(e:[(k,v),(j,u)].lookup y=some w):(y=k/\w=v)\/(y=j/\w=u):=by
 rw [u5] at e
 cases z:y==k with
 |true=>rw [z] at e;cases e;exact .inl ⟨eq_of_beq z,rfl⟩
 |false=>rw [z] at e;exact .inr (uz e)
omit g s H A in
theorem jJ{K V:Type} [BEq K] [LawfulBEq K]{k:K}{v:V}{r:List (K×V)}:((k,v)::r).lookup k=some v:=by rw [u5,J2]
omit g s H A in
theorem JN{K V:Type} [BEq K] [LawfulBEq K]{k j:K}{v u:V}(ne:j≠k):[(k,v),(j,u)].lookup j=some u:=by rw [u5,s8.mpr ne];exact jJ
theorem Qn{env:Env}{aU6:Heap}{go pl:Nat}{i:Int}{t:Tok}{D cc:Addr}{mv:Str->Option Value}(hk:env.scope.kind = .function)(e1:env.globals=mainGlobals)(e2:env.builtins=builtinsNs)
  (kd:∀y,env.kindOf y=[(g.tab go,NameKind.local),(g.tab pl,.free)].lookup y) (ne:g.tab pl≠g.tab go) (ec:env.cells=[(g.tab pl,cc)]) (hns:aU6.Ns env.locals mv) (mg:mv (g.tab go)=some (.int i t))
  (c:aU6.IsCell cc (some (.ref D))) (lH:H env.locals=none) (lB:g.h₀.get? env.locals=none) (cH:H cc=none) (c0:g.h₀.get? cc=none):N8 g env [(go,.int i),(pl,.obj D)] aU6 H:=by
 have one:∀{y c},env.cells.lookup y=some c->y=g.tab pl/\c=cc:=fun e=>uz (ec▸e)
 have kl:env.kindOf (g.tab go)=some .local:=(kd _).trans jJ
 have kf:env.kindOf (g.tab pl)=some .free:=(kd _).trans (JN ne)
 refine⟨hk,e1,e2,⟨mv,hns,fun x p e k=>?_⟩,fun x p e k=>?_,fun x p e=>?_,lH,lB,fun y c' e=>?_,fun y z c e1 e2=>(one e1).1.trans (one e2).1.symm,fun y k=>?_⟩
 ·rcases gP e with⟨rfl,rfl⟩|⟨rfl,rfl⟩
  ·exact⟨.int i t,mg,t,rfl⟩
  ·exact nomatch kf.symm.trans k
 ·rcases gP e with⟨rfl,rfl⟩|⟨rfl,rfl⟩
  ·rcases k with k|k<;>exact nomatch kl.symm.trans k
  ·exact⟨cc,.ref D,ec▸jJ,c,rfl⟩
 ·rcases gP e with⟨rfl,rfl⟩|⟨rfl,rfl⟩
  ·exact .inl kl
  ·exact .inr (.inr kf)
 ·obtain⟨rfl,rfl⟩:=one e
  exact⟨cH,c0,_,c⟩
 ·rcases gP ((kd y).symm.trans k) with⟨_,z⟩|⟨_,z⟩<;>exact nomatch z
theorem Qo{h':Heap}{f cc D:Addr}{q:Str}{pl go n:Nat}{ps:Arguments}{body:PE}{sc:Scope}{i:Int}{Q:PV->AH->Prop}(hg:N6 g)(kk:∀b o,g.h₀.get? b=some o->h'.get? b=some o)(hl:Ql τ pl go ps body sc)(ne:pl≠go)
  (hL:uy g pl q ps body sc h' f cc) (ic:h'.IsCell cc (some (.ref D))) (c0:g.h₀.get? cc=none) (w:SubL g (.obj D) (.int i) H Q):Cl (⟨g.w,h',g.os⟩:G τ) (n+1) (.obj f) [.int i] H Q:=yg.cl fun A s v vs R S rv rl=>by
 cases rv
 obtain⟨v1,r1,rfl,⟨t,rfl⟩,rfl⟩:=rl
 obtain⟨pm,c',ctv,o,fs,t',k1,k2,k3,k4,k5⟩:=hL
 have k1':=S.keep _ _ k1
 obtain⟨oc,c1,c2⟩:=ic
 have un:∀b o,h'.get? b=some o->H b=none:=fun b o e=>by
  cases z:H b with
  |none=>rfl
  |some x=>exact nomatch e.symm.trans (S.fresh b (by rw [z];exact nofun))
 obtain⟨a,ea,rfl⟩:=hl.args
 have hb:=cT (fd:=kla_fn "<lambda>" q ⟨[],[a],none,[],[],none,[]⟩ body sc [(g.tab pl,cc)] pm (.ref c') ctv) (vs:=[.int i t]) rfl rfl (G5.mpr ⟨List.not_mem_nil,List.nodup_nil⟩) rfl
 refine kla_callFunE (by have:=R.depth;exact Mine.Internal.rm3 ‹_›) k1' rfl hl.co hl.gen rfl ⟨c',o,fs,t',rfl,S.keep _ _ k2,k4,k5⟩ ?_
 rw [hb]
 have S0:M4 g s H:=S.narrow kk
 refine j4 (wpAny_newFunctionEnv (fun x hx=>?_) (fun x hx=>?_) (fun aU6 hns hsb=>⟨?_,?_⟩) hl.kind)
 ·have hx:x∈sc.names:=hx
  rw [hl.names] at hx
  rcases q7.mp hx with rfl|hx
  ·exact nofun
  ·rw [j8.mp hx];exact nofun
 ·obtain rfl:x=(a.arg,.int i t):=j8.mp hx
  show sc.names.lookup a.arg=_
  rw [hl.names,ea];exact jJ
 ·exact(hg.nolimit.keeps S0.keep).fresh _ hsb
 show codeAny _ _ (.expr body (envX q sc s.heap.objs.size f (.ref c') [(g.tab pl,cc)])) _ _
 have aV6:∀b o,s.heap.get? b=some o->aU6.get? b=some o:=fun b o e=>hsb.extBut b o (Nat.ne_of_lt (G8 e)) (j5 _ e)
 have C0:Calm s.heap H aU6 H:=⟨fun b o e O O=>aV6 b o e,fun O a b=>absurd a b,fun b o e=>⟨o,aV6 b o e⟩,⟨fun b o O O e O O=>aV6 b o e,fun b o O O e O O q=>⟨aV6 b o e,q⟩,fun b o O e O O=>aV6 b o e⟩⟩
 have S1:M4 g ({s with heap:=aU6,toks:=s.toks+1}:Shared) H:=⟨fun b o e=>aV6 b o (S0.keep b o e),S0.fresh,fun a o e=>(S0.obj a o e).keeps C0.M5 fun x e=>aV6 _ x e,S0.gens,S0.os⟩
 have kd:∀y,(envX q sc s.heap.objs.size f (.ref c') [(g.tab pl,cc)]).kindOf y=[(τ.tab go,NameKind.local),(τ.tab pl,.free)].lookup y:=fun y=>by
  show sc.names.lookup y=_
  rw [hl.names]
 have F:N8 g (envX q sc s.heap.objs.size f (.ref c') [(g.tab pl,cc)]) [(go,.int i),(pl,.obj D)] aU6 H:=
  Qn hl.kind rfl rfl kd (fun z=>ne (hg.inj _ _ z)) rfl hns (by show [(a.arg,Value.int i t)].lookup (g.tab go)=_;rw [ea];exact jJ) ⟨oc,aV6 _ _ (S.keep _ _ c1),c2⟩ (S.off (o9 _))
   (by
    cases z:g.h₀.get? s.heap.objs.size with
    |none=>rfl
    |some o=>exact absurd (G8 (S0.keep _ o z)) (Nat.lt_irrefl _)) (un _ _ c1) c0
 obtain⟨p1,p2,p3,rfl⟩:=hl.body
 have R1:R8 n (A.deeper (envX q sc s.heap.objs.size f (.ref c') [(g.tab pl,cc)])):=⟨R.handled,by have:=R.depth;show A.depth+1+2*n<_;lia,by have:=R.units;show A.units+3+20*n+100<_;exact Mine.Internal.rm2 ‹_›⟩
 have ev:Ev g n (envX q sc s.heap.objs.size f (.ref c') [(g.tab pl,cc)]) [(go,.int i),(pl,.obj D)] H (.Subscript (.Name (τ.tab pl) p1) (.Name (τ.tab go) p2) p3) Q:=
  Ev.sub hg (Ev.loc (x:=pl) (p:=.obj D) hg (JN ne) (Ev.loc (x:=go) (p:=.int i) hg jJ w))
 refine kla_codeExpr (j6 (ev _ _ R1 S1 F) (fun u s' z=>?_) fun O O z=>z.elim)
 obtain⟨p,H',r,S',c,z⟩:=z
 have cc:=C0.trans c
 exact⟨u,rfl,p,H',r,S.again S' cc,cc,z⟩
theorem at3{α β:Type}{h:Heap}{a:Addr}{x:Obj}{P:Obj->α->β->Prop}(z:∃o b c,h.get? a=some o/\P o b c)(e:h.get? a=some x)(k:∀b c,P x b c->False):False:=
 z.elim fun O z=>z.elim fun b z=>z.elim fun c z=>k b c (G6 (z.1.symm.trans e)▸z.2)
theorem jR.VD{h:Heap}{a:Addr}{o:N7}{x:Obj}{vs:Array Value}(r:jR g h H a o)(e:h.get? a=some x)(c:x.cls = .type "code")(d:x.data = .fields vs):False:=by
 cases o with
 |list l=>cases r with|mk _ _ e1 _=>cases e.symm.trans e1;exact nomatch d
 |N5 l=>exact r.elim fun O z=>at3 z.1 e fun O O w=>nomatch d.symm.trans w.2.1
 |T9 l=>exact r.elim fun O z=>at3 z.1 e fun O O w=>nomatch d.symm.trans w.2.1
 |Q9 l=>exact r.elim fun O z=>at3 z.1 e fun O O w=>nomatch d.symm.trans w.2.1
 |inst C dx=>cases e.symm.trans (show h.get? a=_ from r);exact nomatch d
 |code nm=>exact r.elim fun O z=>by cases e.symm.trans z.1;cases c
 |exc C d=>exact r.elim fun O z=>by cases e.symm.trans z;cases c
 |attrs l=>exact r.elim fun O z=>at3 z.1 e fun O O w=>nomatch d.symm.trans w.1
theorem uy.wide{pl:Nat}{q:Str}{ps:Arguments}{body:PE}{sc:Scope}{f cc:Addr}(S:M4 g s H)(h:uy g pl q ps body sc s.heap f cc)(nf:H f=none):uy (⟨g.w,kJ s.heap H,g.os⟩:G τ) pl q ps body sc (kJ s.heap H) f cc:=by
 obtain⟨pm,c',ctv,o,fs,t',k1,k2,k3,k4,k5⟩:=h
 refine⟨pm,c',ctv,o,fs,t',jH k1 nf,jH k2 ?_,k3,k4,k5⟩
 cases z:H c' with
 |none=>rfl
 |some o=>exact((S.obj _ _ z).VD k2 k3 k4).elim
theorem an3(f:Addr)(c:Value)(d:Option Addr)(fd:FuncData)(sl:Array (Option Value)):keepIn [(f,⟨c,d,.func fd,sl⟩)] (.ref f)=true:=by
 unfold keepIn;simp
theorem uy.plain{h':Heap}{w:World}{os:OsState}{pl:Nat}{q:Str}{ps:Arguments}{body:PE}{sc:Scope}{f cc:Addr}(h:uy (⟨w,h',os⟩:G τ) pl q ps body sc h' f cc):Plain (⟨w,h',os⟩:G τ) (.obj f):=fun M hp H v k r=>by
 cases r
 obtain⟨pm,c',ctv,o,fs,t',k1,_⟩:=h
 exact keeps_K (an3 f _ _ _ _) hp fun a o e=>by
  rw [u5] at e
  cases z:a==f with
  |true=>rw [z] at e;cases e;rw [eq_of_beq z];exact k _ _ k1
  |false=>rw [z] at e;cases e
inductive Mq(g:G τ)(n:Nat)(tm pl ret:Nat)(P:Addr)(m:Loc)(H:AH)(Q:PV->AH->Prop):Prop
 |mk {t:PV} {D fr:Addr} (e1:m.lookup tm=some t) (e2:m.lookup pl=some (.obj D)) (e3:τ.glob ret=some (.obj fr)) (hP:∀ns c q,τ.lam ns=some (c,P,q)->H P=some (.code q))
   (h:∀g':G τ,N6 g'->∀f,Plain g' (.obj f)->(∀(k:Nat) (i:Int) (v:PV) (l:List (Int×PV)) (H':AH) (Q':PV->AH->Prop),1<=k->H' D=some (.N5 l)->Y0 i l=some v->Q' v H'->Cl g' k (.obj f) [.int i] H' Q')->Cl g' n (.obj fr) [t,.obj f] H Q):Mq g n tm pl ret P m H Q
noncomputable def ab8:PE->Arg
 |.Lambda ps _ _ _=>ps.args.headD default
 |_=>default
noncomputable def VF:PE->List (Str×Const)
 |.Lambda _ _ sc _=>sc.more
 |_=>[]
noncomputable def Ai:PE->PE
 |.Lambda _ b _ _=>b
 |e=>e
noncomputable abbrev an4(tab:Nat->Str)(go:Nat)(e:PE):Arguments:=⟨[],[{ab8 e with arg:=tab go}],none,[],[],none,[]⟩
noncomputable abbrev ay6(tab:Nat->Str)(pl go:Nat)(e:PE):PE:=.Subscript (.Name (tab pl) (kid (Ai e) 0).pos) (.Name (tab go) (kid (Ai e) 1).pos) (Ai e).pos
noncomputable abbrev an5(tab:Nat->Str)(pl go:Nat)(e:PE):Scope:=⟨.function,[(tab go,.local),(tab pl,.free)],false,false,VF e⟩
noncomputable abbrev ay7(tab:Nat->Str)(tm pl go ret:Nat)(e:PE):PE:=.Call (.Name (tab ret) (kid e 0).pos) [.Name (tab tm) (kid e 1).pos,.Lambda (an4 tab go (kid e 2)) (ay6 tab pl go (kid e 2)) (an5 tab pl go (kid e 2)) (kid e 2).pos] [] e.pos
theorem Mq.ev{ns:Ns}{env:Env}{n:Nat}{m:Loc}{tm pl go ret:Nat}{P c:Addr}{q:Str}{ps:Arguments}{body:PE}{sc:Scope}{pos ab9 p0 p1:Pos}{Q:PV->AH->Prop}(hg:N6 g)(he:iM τ ns env)(hk:qK .globalImplicit ns (τ.tab ret)=true)(hc:qK .cell ns (τ.tab pl)=true)(el:τ.lam ns=some (c,P,q))(hl:Ql τ pl go ps body sc)(ne:pl≠go)(hpl:Vv τ ret=true)
  (w:Mq g n tm pl ret P m H Q):Ev g n env m H (.Call (.Name (τ.tab ret) p0) [.Name (τ.tab tm) p1,.Lambda ps body sc pos] [] ab9) Q:=fun A s R S F=>by
 cases w with | @mk t D fr e1 e2 e3 hP h=>?_
 obtain⟨hcode,an6⟩:=he.code _ el
 obtain⟨C,nP⟩:=hg.lam _ _ _ _ el
 have hP:=hP _ _ _ el
 show wpAny _ _ (eval (.Name (τ.tab ret) p0) env >>= fun v=>callWith ab9 v [] (backTo ab9 (starEach [.Name (τ.tab tm) p1,.Lambda ps body sc pos] env)) []) _ _ _
 refine c7 ((Ev.glob (Q:=fun p H'=>p = .obj fr/\H'=H) hg e3 (he.ok.look _ _ (R7 hk) nofun) ⟨rfl,rfl⟩).then R S F fun fv s0 p H0 r S0 c0 F0 z=>aX.calm c0 ?_)
 obtain⟨rfl,rfl⟩:=z
 refine callWith_of (P:=fun hh => ∃H':AH,(∀b o,g.h₀.get? b=some o->hh.get? b=some o)/\Rep g.tab hh H' (.obj fr) fv) rfl (fun hh ⟨H',k,r⟩=>JK hg e3 hpl _ hh H' fv k r) ?_
 refine evalArgs_plain ?_
 refine spliced_cons ((Ev.loc (Q:=fun p H'=>p=t/\H'=H0) hg e1 ⟨rfl,rfl⟩).then R S0 F0 fun v s1 p H1 r1 S1 c1 F1 z=>?_)
 obtain⟨rfl,rfl⟩:=z
 obtain⟨cc,vc,k1,k2,k3⟩:=F1.cell pl _ e2 (.inl (he.ok.look _ _ (R7 hc) nofun))
 cases k3
 refine spliced_cons (Qm hg S1 F1 hl hcode an6 C nP hP k1 k2 fun s2 f S2 c2 nf hL ic=>?_)
 refine spliced_nil ⟨⟨_,S2.keep,r.keeps (c1.trans c2).M5⟩,aX.calm (c1.trans c2) ?_⟩
 have un:H1 f=none:=by
  cases z:H1 f with
  |none=>rfl
  |some o=>obtain⟨x,hx⟩:=(S1.obj _ _ z).has;exact nomatch hx.symm.trans nf
 obtain⟨q1,q2,_⟩:=F1.cells _ _ k1
 have hw:=hL.wide S2 un
 obtain⟨oc,ic1,ic2⟩:=ic
 have kk:∀b o,g.h₀.get? b=some o->(kJ s2.heap H1).get? b=some o:=fun b o e=>S2.base e
 refine j6 (h ⟨g.w,kJ s2.heap H1,g.os⟩ (hg.grow kk) f hw.plain (fun k i v l H' Q' k1 k2 k3 k4=>?_) A s2 fv [v,.ref f] R S2.wide (r.keeps (c1.trans c2).M5) ⟨v,_,rfl,r1.keeps c2.M5,.ref f,[],rfl,rfl,rfl⟩) (fun u s' ⟨p,H',a,b,c,d⟩=>⟨p,H',a,b.narrow kk,c,d⟩) fun O O x=>x
 obtain⟨j,rfl⟩:∃j,k=j+1:=⟨k-1,by lia⟩
 refine Qo hg kk hl ne hw ⟨oc,jH ic1 q1,ic2⟩ q2 (.od k2 k3 k4)
end
noncomputable def YD(o:Option (Addr×Addr×Str))(P:Addr):Bool:=match o with
 |some x=>Nat.beq x.2.1 P
 |none=>false
theorem Qp{o:Option (Addr×Addr×Str)}{P:Addr}(h:YD o P=true):∃c q,o=some (c,P,q):=by
 cases o with
 |none=>cases h
 |some x=>obtain⟨c,P',q⟩:=x;cases Nat.eq_of_beq_eq_true h;exact⟨c,q,rfl⟩
noncomputable def VG(τ:T)(ns:Ns)(tm pl go ret:Nat)(P:Addr):Bool:=
 (qK .globalImplicit ns (τ.tab ret)&&(qK .cell ns (τ.tab pl)&&(!Nat.beq pl go&&Vv τ ret)))&&YD (τ.lam ns) P
noncomputable def S.Qq(bl ap:Nat)(c:X)(tm pl go ret:Nat)(P:Addr):S:=
 ⟨fun tab s=>.Expr (.Call (.Attribute (.Name (tab bl) (kid (kid (O7 s 0) 0) 0).pos) (tab ap) (kid (O7 s 0) 0).pos) [.List [c.to tab (kid (kid (O7 s 0) 1) 0),ay7 tab tm pl go ret (kid (kid (O7 s 0) 1) 1)] (kid (O7 s 0) 1).pos] [] (O7 s 0).pos) s.pos,fun τ ns s=>(Vn "list" (τ.tab ap) "list.append" && ((kid (O7 s 0) 0).pos.endLine==(O7 s 0).pos.line))&&(c.ok τ ns (kid (kid (O7 s 0) 1) 0)&&VG τ ns tm pl go ret P),fun g n m H Q=>lk (m.lookup bl) fun b=>rI H "list" b/\c.wE g n m H fun p H₁=>Mq g n tm pl ret P m H₁ fun r aT5=>Cl g n (.blt "list.append") [b,.lst [p,r]] aT5 fun O aU9=>Q .next m aU9,fun{τ g} hg O O O O O O s h he w=>(U8 w).elim fun b z=>by
  obtain⟨h1,h2⟩:=n7 h
  obtain⟨h1,h3⟩:=n7 h1
  obtain⟨h2,h4⟩:=n7 h2
  obtain⟨h4,h5⟩:=n7 h4
  obtain⟨a1,a2⟩:=n7 h4
  obtain⟨a2,a3⟩:=n7 a2
  obtain⟨a3,a4⟩:=n7 a3
  obtain⟨cc,q,el⟩:=Qp h5
  refine dF.expr (by unfold interactive;rw [he.kind];rfl) rfl ?_
  refine Ev.S7 hg (fun O O=>rfl) (Yx h1) h3 (by show(1:Nat)<30;decide) (fun e he=>j8.mp he▸fun O O=>rfl) (Ev.loc hg z.1 ⟨z.2.1,mJ.cons (fun O O=>rfl) (Ev.list (by show(2:Nat)<=_;rw [p7];decide) (mJ.cons (c.sh _ _).plain ((c.sE hg _ h2 he.ok z.2.2).mono fun p H₁ w=>mJ.cons (fun O O=>rfl) ?_)))⟩)
  exact(Mq.ev hg he a1 a2 el ⟨⟨_,rfl,rfl⟩,rfl,rfl,rfl,rfl,_,_,_,rfl⟩ (fun z=>by rw [z,Nat.beq_refl] at a3;cases a3) a4 w).mono fun r aT5 w=>mJ.nil (mJ.nil w)⟩
noncomputable def defOf(p:Program):List Nat->Option (Arguments×List Stmt×Scope)
 | [i]=>match p.main.body[i]? with
  |some (.FunctionDef _ a b _ _ _ sc _ _ _)=>some (a,b,sc)
  |_=>none
 | [i,j]=>match p.main.body[i]? with
  |some (.ClassDef _ _ _ cb _ _ _ _ _ _ _)=>match cb[j]? with
   |some (.FunctionDef _ a b _ _ _ sc _ _ _)=>some (a,b,sc)
   |_=>none
  |_=>none
 |_=>none
noncomputable def fnD(p:Program)(path:List Nat)(name qual:Str)(gl:Addr)(dflt doc pm code:Value)(bl:Addr):FuncData:=match defOf p path with
 |some (a,b,sc)=>⟨name,qual,a,.stmts b,sc,gl,[],dflt,.none,doc,pm,none,code,.none,bl⟩
 |none=>⟨name,qual,⟨[],[],none,[],[],none,[]⟩,.stmts [],⟨.function,[],false,false,[]⟩,gl,[],dflt,.none,doc,pm,none,code,.none,bl⟩
structure TD where
 prog:Program
 texts:List Str
 K:Frag
 yw:List (Nat×PV)
 YF:List (Addr×List (Nat×PV))
 yx:List (Addr×List (Nat×Addr))
 yC:List (Addr×List (Nat×Addr))
 yD:List (Addr×Addr)
 Mr:List (Addr×List Nat)
 fnL:List (Addr×(List Nat×List Nat))
 ac1:List ((Nat×Nat)×Nat)
 Qs:Option (List Nat×Addr×Addr×Str)
noncomputable def tabOf(l:List Str)(i:Nat):Str:=(l[i]?).getD ⟨Array.replicate (i+1000) 1⟩
noncomputable def VH{α:Type}(l:List (Addr×List (Nat×α))) (a:Addr) (x:Nat):Option α:=(l.lookup a).bind fun r=>r.lookup x
noncomputable def ac2:Data->Option FuncData
 |.func fd=>some fd
 |_=>none
noncomputable def pP(K:Frag)(a:Addr):Option FuncData:=(K.lookup a).bind fun o=>ac2 o.data
noncomputable def TD.T(d:TD):T where
 prog:=d.prog
 tab:=tabOf d.texts
 K:=d.K
 glob:=fun x=>d.yw.lookup x
 T9:=VH d.YF
 fld:=fun C x=>(d.Mr.lookup C).any fun r=>r.elem x
 meth:=VH d.yx
 tL:=VH d.yC
 init:=fun x=>d.yD.lookup x
 fn:=fun a=>(d.fnL.lookup a).bind fun q=>(pP d.K a).map fun fd=>⟨fd,q.2⟩
 cat:=fun a b=>d.ac1.lookup (a,b)
 lam:=fun ns=>d.Qs.bind fun r=>(defOf d.prog r.1).bind fun x=>if x.2.2.names=ns then some r.2 else none
noncomputable def Qt(i:Int):Value->Bool
 |.int j _=>decide (i=j)
 |_=>false
noncomputable def Qu(x:Str):Value->Bool
 |.str y _=>decide (y=x)
 |_=>false
noncomputable def YG(f:List Value->Bool):Data->Bool
 |.seq vs _=>f vs.toList
 |_=>false
noncomputable def Qv(K:Frag)(f:List Value->Bool):Value->Bool
 |.ref a=>@Option.rec Obj (fun O=>Bool) false (fun o=>decide (o.cls = .type "tuple")&&o.dict.isNone&&(o.slots.size==0)&&YG f o.data) (K.lookup a)
 |_=>false
theorem Qw{i:Int}:∀{v:Value},Qt i v=true->∃t,v = .int i t:=fun{v} e=>by
 cases v with
 |int j t=>exact⟨t,by rw [u9 e]⟩
 |_=>exact nomatch (show false=true from e)
theorem Qx{i:Str}:∀{v:Value},Qu i v=true->∃t,v = .str i t:=fun{v} e=>by
 cases v with
 |str j t=>exact⟨t,by rw [<- u9 e]⟩
 |_=>exact nomatch (show false=true from e)
theorem Qy{K:Frag}{f:List Value->Bool}{h:Heap}{R:List Value->Prop}(X:K.In h)(z:∀vs,f vs=true->R vs){v:Value}(e:Qv K f v=true):aj3 h v R:=by
 cases v with
 |ref a=>
  have e:@Option.rec Obj (fun O=>Bool) false (fun o=>decide (o.cls = .type "tuple")&&o.dict.isNone&&(o.slots.size==0)&&YG f o.data) (K.lookup a)=true:=e
  cases q:K.lookup a with
  |none=>rw [q] at e;cases e
  |some o=>
   rw [q] at e
   obtain⟨c,d,t,s⟩:=o
   have e:=q9.mp e
   have e':=q9.mp e.1
   have e'':=q9.mp e'.1
   cases t with
   |seq vs n=>
    refine⟨a,vs.toList,n,rfl,?_,z _ e.2⟩
    have e1:c = .type "tuple" := u9 e''.1
    have e2:d=none:=Option.isNone_iff_eq_none.mp e''.2
    have e3:s = #[]:=Array.eq_empty_of_size_eq_zero (u9 e'.2)
    rw [X _ _ q,e1,e2,e3]
   |_=>exact nomatch (show false=true from e.2)
 |_=>exact nomatch (show false=true from e)
noncomputable def Dt(tab:Nat->Str)(K:Frag):PV->Value->Bool:=PV.rec (motive_1:=fun O=>Value->Bool) (motive_2:=fun O=>List Value->Bool)
 (fun v=>decide (v = .none)) (fun b v=>decide (v = .bool b)) Qt (fun n=>Qu (tab n)) (fun O f=>Qv K f) (fun O O O=>false) (fun a v=>decide (v = .ref a)) (fun n v=>decide (v = .builtin n)&&handedIn (.builtin n)) (fun n v=>decide (v = .type n)) (fun O O O=>false)
 List.isEmpty fun O O=>Pa
noncomputable def Qz(tab:Nat->Str)(K:Frag):List PV->List Value->Bool:=PV.rec_1 (motive_1:=fun O=>Value->Bool) (motive_2:=fun O=>List Value->Bool)
 (fun v=>decide (v = .none)) (fun b v=>decide (v = .bool b)) Qt (fun n=>Qu (tab n)) (fun O f=>Qv K f) (fun O O O=>false) (fun a v=>decide (v = .ref a)) (fun n v=>decide (v = .builtin n)&&handedIn (.builtin n)) (fun n v=>decide (v = .type n)) (fun O O O=>false)
 List.isEmpty fun O O=>Pa
section
variable{tab:Nat->Str}{K:Frag}{h:Heap}{H:AH}
theorem JQ(vs:List Value)(e:vs.isEmpty=true):K4 tab h H [] vs:=List.isEmpty_iff.mp e
theorem Du{p:PV}{l:List PV}{f:Value->Bool}{g:List Value->Bool}(x:∀v,f v=true->Rep tab h H p v)(y:∀vs,g vs=true->K4 tab h H l vs)(vs:List Value)(e:Pa f g vs=true):K4 tab h H (p::l) vs:=by
 cases vs with
 |nil=>cases e
 |cons v vs=>exact⟨v,vs,rfl,x v (q9.mp e).1,y vs (q9.mp e).2⟩
noncomputable abbrev an7(tab:Nat->Str)(K:Frag)(h:Heap)(H:AH)(p:PV):Prop := ∀v,Dt tab K p v=true->Rep tab h H p v
noncomputable abbrev an8(tab:Nat->Str)(K:Frag)(h:Heap)(H:AH)(l:List PV):Prop := ∀vs,Qz tab K l vs=true->K4 tab h H l vs
theorem JR(X:K.In h):∀p,an7 tab K h H p:=
 PV.rec (motive_1:=an7 tab K h H) (motive_2:=an8 tab K h H)
  (fun v e=>u9 (p:=v = .none) e) (fun b v e=>u9 (p:=v = .bool b) e) (fun O O e=>Qw e) (fun O O e=>Qx e) (fun O z O e=>Qy X z e) (fun O O O e=>nomatch (show false=true from e)) (fun a v e=>u9 (p:=v = .ref a) e)
  (fun n v e=>⟨u9 (p:=v = .builtin n) (q9.mp e).1,(q9.mp e).2⟩) (fun n v e=>u9 (p:=v = .type n) e) (fun O O O e=>nomatch (show false=true from e)) JQ fun O O x y=>Du x y
theorem Hs(X:K.In h){p:PV}{v:Value}(e:Dt tab K p v=true):Rep tab h H p v:=JR X p v e
theorem VJ(X:K.In h){l:List PV}:an8 tab K h H l:=by
 induction l with
 |nil=>exact JQ
 |cons p l ih=>exact Du (JR X p) ih
end
theorem mem_lookup{α:Type}{x:Nat}{p:α}:∀{l:List (Nat×α)},l.lookup x=some p->(x,p)∈l
 | [],e=>nomatch e
 | (y,q)::l,e=>by
  rw [u5] at e
  cases h:x==y with
  |true=>
   rw [h] at e
   cases e
   rw [beq_iff_eq.mp h]
   exact .head _
  |false=>
   rw [h] at e
   exact .tail _ (mem_lookup e)
theorem Aj{α:Type}{a:Addr}{x:Nat}{p:α}{l:List (Addr×List (Nat×α))} (e:VH l a x=some p):∃r,(a,r)∈l/\(x,p)∈r:=by
 obtain⟨r,h,e⟩:=Option.bind_eq_some_iff.mp e
 exact⟨r,mem_lookup h,mem_lookup e⟩
noncomputable def sW(l:List Str):Bool:=l.all (fun x=>PySem.PyData.strOk x && !(x==("__debug__" : Str)) && !(x==("__classdict__" : Str))&&decide (x.cps.size<1000))
noncomputable def nameB(tab:Nat->Str)(K:Frag)(q:Nat×PV)(v:Value):Bool:=Dt tab K q.2 v && !(tab q.1==("__name__" : Str))
noncomputable def nameV(tab:Nat->Str)(K:Frag)(q:Nat×PV)(o:Option Value):Bool:=@Option.rec Value (fun O=>Bool) ((bootBuiltins (tab q.1)).any (nameB tab K q)) (Dt tab K q.2) o
noncomputable def Ht(tab:Nat->Str)(K:Frag)(q:Nat×PV):Bool:=(nsIn K mainGlobals (tab q.1)).any (nameV tab K q)
noncomputable def QB(tab:Nat->Str)(K:Frag)(q:Addr×List Nat):Bool:=hasDictIn K q.1&&plainOver K q.1&&findIn K (.ref q.1) "__setattr__" == some (some (.builtin "object.__setattr__"))&&plainGet K q.1 "" && q.2.all fun x=>findIn K (.ref q.1) (tab x)==some none
noncomputable def Hu(tab:Nat->Str)(K:Frag)(q:Addr×List (Nat×Addr)):Bool:=plainGet K q.1 "" && q.2.all fun x=>findIn K (.ref q.1) (tab x.1)==some (some (.ref x.2))&&isFn K (.ref x.2)&&keepIn K (.ref x.2)
noncomputable def QC(K:Frag)(a:Addr):Bool:=(pP K a).any fun fd=>keepIn K (.ref a)&&codeIn K fd.code fd.qualname
noncomputable def an9(f:Addr):Option CFound->Bool
 |some (.val v)=>decide (v = .ref f)
 |_=>false
theorem VK{f:Addr}{o:Option CFound}(h:an9 f o=true):o=some (.val (.ref f)):=by
 cases o with
 |none=>exact nomatch (show false=true from h)
 |some c=>cases c<;>first|exact nomatch (show false=true from h)|exact congrArg (fun v=>some (CFound.val v)) (u9 h)
noncomputable def Hv(tab:Nat->Str)(K:Frag)(q:Addr×List (Nat×Addr)):Bool:=specialIn K (.ref q.1) "__getattribute__" == some (some (.builtin "type.__getattribute__"))&&readsIn K q.1 (.type "type")&&q.2.all fun x=>an9 x.2 (findCls K (.ref q.1) (.type "type") (tab x.1))&&keepIn K (.ref x.2)
noncomputable def Hw(K:Frag)(q:Addr×Addr):Bool:=makesIn K q.1&&findIn K (.ref q.1) "__init__" == some (some (.ref q.2))&&isFn K (.ref q.2)&&keepIn K (.ref q.1)
noncomputable def ac3(tab:Nat->Str)(K:Frag)(q:Addr×List (Nat×PV)):Bool:=q.2.all fun x=>(nsIn K q.1 (tab x.1)).any fun o=>o.any (Dt tab K x.2)
noncomputable def ac4(K:Frag)(a:Addr):Bool:=(K.lookup a).isSome
noncomputable def JT(d:TD):Bool:=match d.Qs with
 |some (_,c,P,_)=>codeHdIn d.K c P && !Nat.beq P mainGlobals
 |none=>true
theorem QD{d:TD}{ns:List (Str×NameKind)}{c P:Addr}{q:Str}(e:d.T.lam ns=some (c,P,q)):∃path,d.Qs=some (path,c,P,q):=by
 obtain⟨⟨path,r⟩,h,e⟩:=Option.bind_eq_some_iff.mp e
 obtain⟨x,h2,e⟩:=Option.bind_eq_some_iff.mp e
 exact⟨path,(cJ e).2▸h⟩
noncomputable def TD.ok(d:TD):Bool:=let tab:=tabOf d.texts
 d.yw.all (Ht tab d.K)&&d.Mr.all (QB tab d.K)&&d.yx.all (Hu tab d.K)&&d.fnL.all (fun q=>QC d.K q.1)&&d.yC.all (Hv tab d.K)&&d.yD.all (Hw d.K)&&d.YF.all (ac3 tab d.K)&&ac4 d.K sysModules&&JT d
theorem nj{l:List Str}{i:Nat}(h:i<l.length):tabOf l i=l[i]:=by unfold tabOf;rw [o7 h];rfl
theorem jf{l:List Str}{i:Nat}(h:¬i<l.length):tabOf l i=⟨Array.replicate (i+1000) 1⟩:=by unfold tabOf;rw [J4 (by exact Nat.le_of_not_lt ‹_›)];rfl
theorem lF{l:List Str}(h:sW l=true)(i:Nat):PySem.PyData.strOk (tabOf l i)=true/\(tabOf l i==("__debug__" : Str))=false/\(tabOf l i==("__classdict__" : Str))=false:=by
 by_cases q:i<l.length
 ·rw [nj q]
  have:=m9.mp h _ (List.getElem_mem q)
  simp only [Bool.and_eq_true,Bool.not_eq_true',decide_eq_true_eq] at this
  exact⟨this.1.1.1,this.1.1.2,this.1.2⟩
 ·rw [jf q]
  refine⟨?_,?_,?_⟩
  ·unfold PySem.PyData.strOk
   rw [Array.all_eq_true]
   intro j hj
   simp
  ·rw [s8]
   intro e
   have:=congrArg (fun x:Str=>x.cps.size) e
   simp only [Array.size_replicate] at this
   have k:("__debug__" : Str).cps.size=9:=by decide +kernel
   lia
  ·rw [s8]
   intro e
   have:=congrArg (fun x:Str=>x.cps.size) e
   simp only [Array.size_replicate] at this
   have k:("__classdict__" : Str).cps.size=13:=by decide +kernel
   lia
theorem Mt{l:List Str}(h:sW l=true)(nd:l.Nodup)(i j:Nat)(e:tabOf l i=tabOf l j):i=j:=by
 have sz:∀k,k<l.length->(tabOf l k).cps.size<1000:=fun k q=>by
  rw [nj q]
  have:=m9.mp h _ (List.getElem_mem q)
  simp only [Bool.and_eq_true,decide_eq_true_eq] at this
  exact this.2
 by_cases q:i<l.length<;>by_cases q':j<l.length
 ·rw [nj q,nj q'] at e
  exact(List.getElem_inj nd).mp e
 ·have:=sz i q
  rw [e,jf q',Array.size_replicate] at this
  lia
 ·have:=sz j q'
  rw [<- e,jf q,Array.size_replicate] at this
  lia
 ·rw [jf q,jf q'] at e
  have:=congrArg (fun x:Str=>x.cps.size) e
  simp only [Array.size_replicate] at this
  lia
theorem any_some{α:Type}{o:Option α}{f:α->Bool}(h:o.any f=true):∃x,o=some x/\f x=true:=by
 cases o with
 |none=>cases h
 |some x=>exact⟨x,rfl,h⟩
theorem YH{d:TD}{f:Addr}{x:Fn}(e:d.T.fn f=some x):∃path,(f,path,x.ps)∈d.fnL/\pP d.K f=some x.fd:=by
 obtain⟨⟨path,ps⟩,h1,e⟩:=Option.bind_eq_some_iff.mp e
 obtain⟨fd,h2,rfl⟩:=z9.mp e
 exact⟨path,mem_lookup h1,h2⟩
theorem Dv{K:Frag}{a:Addr}{fd:FuncData}(e:pP K a=some fd):∃oc od osl,K.lookup a=some ⟨oc,od,.func fd,osl⟩:=by
 obtain⟨⟨oc,od,dt,osl⟩,h,e⟩:=Option.bind_eq_some_iff.mp e
 cases dt<;>first|exact nomatch (show none=some fd from e)|(cases e;exact⟨_,_,_,h⟩)
structure Base(mg mb:Str->Option Value)(h:Heap):Prop where
 g:h.Ns mainGlobals mg
 b:h.Ns builtinsNs mb
 nolimit:h.NoLimit
 builtins:∀x:Str,x≠"__name__"->mb x=bootBuiltins x
 bmain:∃bm ob,mg "__builtins__" = some (.ref bm)/\bm≠builtinsNs/\h.get? bm=some ob/\ob.cls = .type "module"/\ob.dict=some builtinsNs/\ob.data = .plain
theorem N6.of{d:TD}{g:G d.T}{mg mb:Str->Option Value}(h:d.ok=true)(ht:sW d.texts=true)(nd:d.texts.Nodup)
  (X:d.K.In g.h₀) (T:Base mg mb g.h₀) (hsd:∀q∈d.YF,∃es n,d.K.lookup q.1=some ⟨.type "dict",none,.dict es n,#[]⟩/\KeysLit g.w.params es.toList):N6 g:=by
 have h':=h
 simp only [TD.ok,Bool.and_eq_true] at h'
 obtain⟨⟨⟨⟨⟨⟨⟨⟨h1,h2⟩,h3⟩,h4⟩,h5⟩,h6⟩,h7⟩,h8⟩,h9⟩:=h'
 refine{
  inj:=Mt ht nd
  dbg:=fun i=>(lF ht i).2.1
  X:=X
  nolimit:=T.nolimit
  names:=⟨mg,mb,T.g,T.b,fun x p e=>?_⟩
  mods:=?_
  bm:=⟨mg,T.g,fun P hP=>?_⟩
  lam:=fun ns c P q e=>?_
  ao:=fun i=>(lF ht i).1
  Js:=fun i=>(lF ht i).2.2
  fld:=fun C x e=>?_
  meth:=fun C x f e=>?_
  fn:=fun f x e=>?_
  tL:=fun C x f e=>?_
  sd:=fun a x p e=>?_
  init:=fun C f e=>?_}
 ·have k:=m9.mp h1 _ (mem_lookup e)
  obtain⟨o,hv,k⟩:=any_some k
  cases o with
  |some v=>exact⟨v,.inl (mg_of X T.g hv),Hs X k⟩
  |none=>
   obtain⟨v,hb,k⟩:=any_some k
   exact⟨v,.inr ⟨mg_none_of X T.g hv,(T.builtins _ (s8.mp ((Bool.not_eq_true' _).mp (n7 k).2))).trans hb⟩,Hs X (n7 k).1⟩
 ·obtain⟨o,e⟩:=Option.isSome_iff_exists.mp h8
  rw [X _ _ e];simp
 ·obtain⟨bm,ob,b1,b2,b3,b4,b5,b6⟩:=T.bmain
  refine⟨bm,ob,b1,b2,fun q=>?_,fun q=>hP ob (q▸b3),b3,b4,b5,b6⟩
  obtain⟨o,es,ep,e,hd,_⟩:=T.g
  rw [q,e] at b3;cases b3;rw [hd] at b6;cases b6
 ·obtain⟨path,e⟩:=QD e
  unfold JT at h9
  rw [e] at h9
  obtain⟨k1,k2⟩:=n7 h9
  exact⟨codeHd_of_K X k1,fun z=>by subst z;rw [Nat.beq_refl] at k2;cases k2⟩
 ·obtain⟨r,hr,e'⟩:=any_some e
  obtain⟨k,k5⟩:=n7 (m9.mp h2 _ (mem_lookup hr))
  obtain⟨k,k4⟩:=n7 k
  obtain⟨k,k3⟩:=n7 k
  exact⟨k4,(n7 k).1,beq_iff_eq.mp (m9.mp k5 x (List.elem_iff.mp e')),(n7 k).2,beq_iff_eq.mp k3⟩
 ·obtain⟨r,m1,m2⟩:=Aj e
  have k:=n7 (m9.mp h3 _ m1)
  have k6:=n7 (m9.mp k.2 _ m2)
  exact⟨k.1,beq_iff_eq.mp (n7 k6.1).1,(n7 k6.1).2,k6.2⟩
 ·obtain⟨path,m1,m2⟩:=YH e
  obtain⟨fd,k0,k⟩:=any_some (m9.mp h4 _ m1)
  cases G6 (k0.symm.trans m2)
  obtain⟨oc,od,osl,e1⟩:=Dv m2
  exact⟨oc,od,osl,e1,(n7 k).1,(n7 k).2⟩
 ·obtain⟨r,m1,m2⟩:=Aj e
  obtain⟨k,k3⟩:=n7 (m9.mp h5 _ m1)
  obtain⟨k7,k8⟩:=n7 (m9.mp k3 _ m2)
  exact⟨_,beq_iff_eq.mp (n7 k).1,(n7 k).2,VK k7,k8⟩
 ·obtain⟨r,m1,m2⟩:=Aj e
  obtain⟨o,hv,k⟩:=any_some (m9.mp (m9.mp h7 _ m1) _ m2)
  obtain⟨v,rfl,k⟩:=any_some k
  obtain⟨es,n,q1,q2⟩:=hsd _ m1
  exact⟨_,v,mapOf_K (prog:=g.prog) X q1 q2,find_K q1 hv,Hs X k⟩
 ·have k:=m9.mp h6 _ (mem_lookup e)
  have k:=n7 k
  have k1:=n7 k.1
  exact⟨(n7 k1.1).1,beq_iff_eq.mp (n7 k1.1).2,k1.2,k.2⟩
inductive bH(τ:T)(f:Addr)(ps:List Nat)(body:List S):Prop
 |mk (fd:FuncData) (x:List Stmt) (e:τ.fn f=some ⟨fd,ps⟩) (hb:fd.body = .stmts (jU τ.tab body x)) (hc:fd.closure=[]) (h1:fd.scope.isCoroutine=false) (h2:fd.scope.isGenerator=false) (h3:fd.scope.kind = .function) (h4:fd.globals=mainGlobals) (h5:fd.builtins=builtinsNs) (nd:ps.Nodup)
   (hk:∀x∈ps,Ml fd.scope.names (τ.tab x)=true) (ok:ni τ fd.scope.names body x=true) (p1:fd.params.posonlyargs=[]) (p2:fd.params.vararg=none) (p3:fd.params.kwonlyargs=[]) (p4:fd.params.kwarg=none) (p5:fd.params.args.map (·.arg)=ps.map τ.tab) (lm:∀c,τ.lam fd.scope.names=some c->fd.code = .ref c.1/\fd.qualname ++ ".<locals>." ++ "<lambda>" = c.2.2):bH τ f ps body
noncomputable def Ak(fd:FuncData):List Stmt:=match fd.body with
 |.stmts ss=>ss
 |_=>[]
noncomputable def Al(d:TD)(f:Addr):Option FuncBody:=(d.T.fn f).map fun x=>x.fd.body
noncomputable def readAt(d:TD)(f:Addr)(body:List S):Option FuncBody:=(d.T.fn f).map fun x=>.stmts (jU d.T.tab body (Ak x.fd))
noncomputable def YJ(o:Option (Addr×Addr×Str))(v:Value)(q:Str):Bool:=match o with
 |some c=>match v with
  |.ref a=>Nat.beq a c.1&&decide (q ++ ".<locals>." ++ "<lambda>" = c.2.2)
  |_=>false
 |none=>true
theorem QF{o:Option (Addr×Addr×Str)}{v:Value}{q:Str}(h:YJ o v q=true):∀c,o=some c->v = .ref c.1/\q ++ ".<locals>." ++ "<lambda>" = c.2.2:=by
 rintro c rfl
 cases v<;>first|exact⟨congrArg Value.ref (Nat.eq_of_beq_eq_true (n7 h).1),u9 (n7 h).2⟩|exact nomatch (show false=true from h)
noncomputable def JV(d:TD)(f:Addr)(ps:List Nat)(body:List S):Bool:=match d.T.fn f with
 |some ⟨fd,qs⟩=>YJ (d.T.lam fd.scope.names) fd.code fd.qualname&&(decide (qs=ps)&&(fd.closure.isEmpty&&(!fd.scope.isCoroutine&&(!fd.scope.isGenerator&&(decide (fd.scope.kind = .function)&&(decide (fd.globals=mainGlobals)&&(decide (fd.builtins=builtinsNs)&&(decide ps.Nodup &&
   (ps.all (fun x=>Ml fd.scope.names (d.T.tab x))&&(ni d.T fd.scope.names body (Ak fd)&&(fd.params.posonlyargs.isEmpty&&(fd.params.vararg.isNone&&(fd.params.kwonlyargs.isEmpty&&(fd.params.kwarg.isNone&&decide (fd.params.args.map (·.arg)=ps.map d.T.tab)))))))))))))))
 |none=>false
theorem bH.of{d:TD}{f:Addr}{ps:List Nat}{body:List S}(h:JV d f ps body=true)(hb:Al d f=readAt d f body):bH d.T f ps body:=by
 unfold JV at h
 cases e:d.T.fn f with
 |none=>rw [e] at h;cases h
 |some x=>
  obtain⟨fd,qs⟩:=x
  rw [e] at h
  have hb:some fd.body=some (.stmts (jU d.T.tab body (Ak fd))):=by rw [Al,readAt,e] at hb;exact hb
  obtain⟨a0,h⟩:=n7 h
  obtain⟨a1,h⟩:=n7 h
  obtain⟨a2,h⟩:=n7 h
  obtain⟨a3,h⟩:=n7 h
  obtain⟨a4,h⟩:=n7 h
  obtain⟨a5,h⟩:=n7 h
  obtain⟨a6,h⟩:=n7 h
  obtain⟨a7,h⟩:=n7 h
  obtain⟨a8,h⟩:=n7 h
  obtain⟨a9,h⟩:=n7 h
  obtain⟨b1,h⟩:=n7 h
  obtain⟨b2,h⟩:=n7 h
  obtain⟨b3,h⟩:=n7 h
  obtain⟨b4,h⟩:=n7 h
  obtain⟨b5,b6⟩:=n7 h
  cases u9 a1
  exact⟨fd,_,e,G6 hb,List.isEmpty_iff.mp a2,(Bool.not_eq_true' _).mp a3,(Bool.not_eq_true' _).mp a4,u9 a5,u9 a6,u9 a7,u9 a8,m9.mp a9,b1,List.isEmpty_iff.mp b2,Option.isNone_iff_eq_none.mp b3,List.isEmpty_iff.mp b4,Option.isNone_iff_eq_none.mp b5,u9 b6,QF a0⟩
noncomputable def codeS(s:Str):Nat:=s.cps.toList.foldl (fun a c=>a*1114112+c) 1
noncomputable def Am:List Nat->Bool
 | []=>true
 |x::l=>l.all (fun y => !Nat.beq x y)&&Am l
theorem yE:∀{l:List Nat},Am l=true->l.Nodup
 | [],_=>.nil
 |x::l,h=>by
  obtain⟨h1,h2⟩:=n7 (show(l.all (fun y => !Nat.beq x y)&&Am l)=true from h)
  exact G5.mpr ⟨fun m=>Nat.ne_of_beq_eq_false ((Bool.not_eq_true' _).mp (m9.mp h1 x m)) rfl,yE h2⟩
theorem Hx{l:List Str}(h:Am (l.map codeS)=true):l.Nodup:=
 (List.pairwise_map.mp (yE h)).imp fun ne e=>ne (congrArg codeS e)
theorem pQ{α β:Type}{f:α->β}(inj:∀a b,f a=f b->a=b){l:List α}(h:l.Nodup):(l.map f).Nodup:=List.Pairwise.map f (fun a b ne e=>ne (inj _ _ e)) h
noncomputable def jg(τ:T)(f:Addr)(k:Nat)(ds:List PV):Prop := ∀(g:G τ),N6 g->∀fd ps,τ.fn f=some ⟨fd,ps⟩->∀(s:Shared) (H:AH) (vs:List Value),M4 g s H->vs.length=k->∃ws,K4 τ.tab s.heap H ds ws/\BindsTo s fd ⟨vs,[]⟩ ((ps.map τ.tab).zip (vs++ws))
section
variable{τ:T}{g:G τ}{n:Nat}{f:Addr}{ps:List Nat}{body:List S}{H:AH}{Q:PV->AH->Prop}
theorem JW{q:Arguments}(p1:q.posonlyargs=[])(p2:q.vararg=none)(p3:q.kwonlyargs=[])(p4:q.kwarg=none):q=⟨[],q.args,none,[],q.kw_defaults,none,q.defaults⟩:=by
 cases q
 cases p1
 cases p2
 cases p3
 cases p4
 rfl
theorem bH.YK{l l':List PV}(o:bH τ f ps body)(hg:N6 g)(hl:l'.length<=ps.length)(hd:∀fd,τ.fn f=some ⟨fd,ps⟩->fd.params=⟨[],fd.params.args,none,[],fd.params.kw_defaults,none,fd.params.defaults⟩->fd.params.args.map (·.arg)=ps.map τ.tab->ps.Nodup->∀s vs,M4 g s H->K4 τ.tab s.heap H l vs->∃vs',K4 τ.tab s.heap H l' vs'/\BindsTo s fd ⟨vs,[]⟩ ((ps.map τ.tab).zip vs'))
  (h:O5 g n body (ps.zip l') H (mO Q)):yg g (n+1) (.obj f) l H Q:=by
 cases o with
 |mk fd x e hb hc h1 h2 h3 h4 h5 nd hk ok p1 p2 p3 p4 p5 lm=>
  have z:fd.params=⟨[],fd.params.args,none,[],fd.params.kw_defaults,none,fd.params.defaults⟩:=JW p1 p2 p3 p4
  exact yg.body (ps:=ps) (l':=l') hg e hb hc h1 h2 h3 h4 h5 nd (fun x hx=>mY (hk x hx)) hl (hd fd e z p5 nd) fun env he hc hq=>uq hg ⟨by rw [he];exact h3,by rw [he],fun c e=>⟨hc.trans (lm c e).1,by rw [hq];exact(lm c e).2⟩⟩ body x ok h
theorem bH.call{l:List PV}(o:bH τ f ps body)(hg:N6 g)(hd:∀fd ps,τ.fn f=some ⟨fd,ps⟩->fd.defaults = .none)(hl:l.length=ps.length)(h:O5 g n body (ps.zip l) H (mO Q)):yg g (n+1) (.obj f) l H Q:=
 o.YK hg (Nat.le_of_eq hl) (fun fd e z p5 nd s vs S r=>⟨vs,r,by
  have k:=cT (vs:=vs) z (hd fd ps e) (by rw [p5];exact pQ hg.inj nd) (by have:=congrArg List.length p5;rw [g8,g8] at this;rw [r.length,hl,this])
  rw [p5] at k
  exact BindsTo.of_eq k⟩) h
theorem bH.YL{l ds:List PV}(o:bH τ f ps body)(hg:N6 g)(hd:jg τ f l.length ds)(hl:l.length+ds.length=ps.length)(h:O5 g n body (ps.zip (l++ds)) H (mO Q)):yg g (n+1) (.obj f) l H Q:=
 o.YK hg (by rw [d7];exact Nat.le_of_eq hl) (fun fd e O O O s vs S r=>(hd g hg fd ps e s H vs S r.length).elim fun ws k=>⟨vs++ws,r.append k.1,k.2⟩) h
structure O2(τ:T)(f:Addr)(ps:List Nat)(body:List S):Prop where
 ok:bH τ f ps body
 nd:∀fd ps,τ.fn f=some ⟨fd,ps⟩->fd.defaults = .none
theorem O2.call{l:List PV}(o:O2 τ f ps body)(hg:N6 g)(hl:l.length=ps.length)(h:O5 g n body (ps.zip l) H (mO Q)):yg g (n+1) (.obj f) l H Q:=o.ok.call hg o.nd hl h
end
noncomputable def QG(d:TD)(f:Addr):Bool:=match pP d.K f with
 |some fd=>match fd.defaults with
  |.none=>true
  |_=>false
 |none=>false
theorem O2.of{d:TD}{f:Addr}{ps:List Nat}{body:List S}(h:JV d f ps body=true)(hb:Al d f=readAt d f body)(hn:QG d f=true):O2 d.T f ps body:=
 ⟨bH.of h hb,fun fd ps e=>by
  obtain⟨_,_,q⟩:=YH e
  unfold QG at hn
  rw [show pP d.K f=some fd from q] at hn
  dsimp only at hn
  generalize fd.defaults=v at hn ⊢
  cases v<;>first|rfl|exact nomatch (show false=true from hn)⟩
theorem jg.of{d:TD}{f:Addr}{ps:List Nat}{fd:FuncData}{k:Nat}{ds:List PV}(hf:d.T.fn f=some ⟨fd,ps⟩)(ws:List Value)(hr:Qz (tabOf d.texts) d.K ds ws=true)
  (hb:∀vs:List Value,vs.length=k->∀S,peek d.K S (bindArgs fd ⟨vs,[]⟩)=some ((ps.map (tabOf d.texts)).zip (vs++ws))):jg d.T f k ds:=fun g hg fd' ps' e s H vs S hl=>by
 rw [hf] at e
 cases e
 have X:d.K.In s.heap:=hg.X.keeps S.keep
 exact⟨ws,VJ X _ hr,kp_binds X (hb vs hl)⟩
section
variable{τ:T}{g:G τ}{n k:Nat}{m:Loc}{H:AH}{Q:PV->AH->Prop}{C:Bool->Prop}
theorem leB{j k n:Nat}(h:k<=n)(e:Nat.ble j k=true):j<=n:=d8 (d9 e) h
theorem fC{k:Nat}(h:Nat.ble k 16777216=true):k<=sizeLine:=by rw [p7];exact d9 h
theorem O2.clC{f:Addr}{ps:List Nat}{body:List S}{l:List PV}(o:O2 τ f ps body)(hg:N6 g)(hl:l.length=ps.length)(hn:k+1<=n)(h:∀n,k<=n->O5 g n body (ps.zip l) H (mO Q)):yg g n (.obj f) l H Q:=by
 cases n with
 |zero=>exact absurd hn (Nat.not_succ_le_zero k)
 |succ n=>exact o.call hg hl (h n (J3 hn))
theorem O2.cl{f:Addr}{ps:List Nat}{body:List S}{l:List PV}(o:O2 τ f ps body)(hg:N6 g)(hl:l.length=ps.length)(hn:k+1<=n)(h:∀n,k<=n->O5 g n body (ps.zip l) H (mO Q)):Cl g n (.obj f) l H Q:=(o.clC hg hl hn h).cl
theorem bH.clD{f:Addr}{ps:List Nat}{body:List S}{l ds:List PV}(o:bH τ f ps body)(hg:N6 g)(hd:jg τ f l.length ds)(hl:l.length+ds.length=ps.length)(hn:k+1<=n)(h:∀n,k<=n->O5 g n body (ps.zip (l++ds)) H (mO Q)):Cl g n (.obj f) l H Q:=by
 cases n with
 |zero=>exact absurd hn (Nat.not_succ_le_zero k)
 |succ n=>exact(o.YL hg hd hl (h n (J3 hn))).cl
theorem aU{p:PV}{l:List PV}{i:Int}{r:PV}(e1:p.pL = some l)(e:LR l i=some r)(h:Q r H):SubL g p (.int i) H Q:=JH e1 e h
theorem uD{a:Addr}{l:List PV}{i:Int}{r:PV}(o:H a=some (.list l))(e:LR l i=some r)(h:Q r H):SubL g (.obj a) (.int i) H Q:=.ol o e h
theorem aB{a:Addr}{l:List PV}{i:Nat}{r:PV}(o:H a=some (.list l))(hi:i<2 ^ 62)(e:l[i]? = some r)(h:Q r H):SubL g (.obj a) (.int (i:Int)) H Q:=uD o ((mZ hi).trans e) h
theorem Mu{a:Addr}{l:List (Int×PV)}{k:Int}{r:PV}(o:H a=some (.N5 l))(e:Y0 k l=some r)(h:Q r H):SubL g (.obj a) (.int k) H Q:=.od o e h
theorem len_list{a:Addr}{l:List PV}(o:H a=some (.list l)):ZJ (.obj a) H=some l.length:=congrArg (Option.map List.length) (K9 o)
theorem O8{a:Addr}{l:List PV}{P:Prop}(o:H a=some (.list l))(h:P):rI H "list" (.obj a)/\P:=⟨.list o,h⟩
theorem yF{a:Addr}{l:List ((Int×Int)×PV)} {k q:PV} {ij:Int×Int} {Q:AH->Prop} (o:H a=some (.Q9 l)) (e:pairOf k=some ij) (hl:l.length<=sizeLine) (h:Q (upd H a (.Q9 (fJ ij q l)))):Mh (.obj a) k q H Q:=by
 rw [CZ e];exact .Q9 o hl h
theorem set_list{a:Addr}{l:List PV}{i:Nat}{q:PV}{Q:AH->Prop}(o:H a=some (.list l))(hi:i<l.length)(hl:l.length<=sizeLine)(h:Q (upd H a (.list (l.set i q)))):Mh (.obj a) (.int i) q H Q:=.list o (Int.natCast_nonneg i) (Int.ofNat_lt.mpr hi) hl h
theorem Mv{a:Addr}{l:List (Int×PV)}{i:Int}{q:PV}{Q:AH->Prop}(o:H a=some (.N5 l))(hl:l.length<=sizeLine)(h:Q (upd H a (.N5 (fJ i q l)))):Mh (.obj a) (.int i) q H Q:=.N5 o hl h
theorem ao1{a:Addr}{l:List (Int×PV)}{k:Int}(e:H a=some (.N5 l))(h:C (Y0 k l).isSome):wF .In (.int k) (.obj a) H C:=.mem (.od e h)
theorem JX{a:Addr}{l:List PV}(e:H a=some (.list l))(d:PV.V0 l=true)(h:C (!l.isEmpty)):wF .NotEq (.obj a) (.lst []) H C:=by
 have z:res H (.obj a) = .lst l:=by rw [zU,e]
 refine .ne ⟨by rw [z];exact d,rfl,.inl (show 1<=60 by decide)⟩ ?_
 rw [z]
 cases l<;>exact h
theorem yG{l k:List PV}(e:l.length+k.length<=sizeLine)(h:Q (.tup (l++k)) H):Qc g .Add (.tup l) (.tup k) H Q:=.tup e h
theorem QJ{l:List PV}{i:Int}(h1:1<=i)(h2:i<=l.length)(h3:l.length<=sizeLine)(h:Q (.tup (l.drop i.toNat)) H):Qg true (.tup l) i H Q:=⟨⟨h1,h2,h3⟩,h⟩
end
theorem at_of{τ:T}{g:G τ}{p:PV}{l:List PV}{k:Nat}{r:PV}{H:AH}{Q:PV->AH->Prop}(e:p.pL = some l)(e2:nth l k=some r)(h:Q r H):AtW g p k H Q:=by
 unfold AtW
 rw [e]
 exact j9 e2 h
theorem yH(m:Loc):R9 [] m=[]:=List.filter_eq_nil_iff.mpr fun O O=>nofun
theorem Ao{x:Nat}{p:PV}{y:Nat×PV}{r:Loc}(e:Nat.beq y.1 x=true):w7 x p (y::r)=(x,p)::r:=sJ e
theorem Hy{x:Nat}{p:PV}{y:Nat×PV}{r:Loc}(e:Nat.beq y.1 x=false):w7 x p (y::r)=y::w7 x p r:=sJ e
theorem cF(x:Nat)(p q:PV)(m:Loc):w7 x q (w7 x p m)=w7 x q m:=by
 induction m with
 |nil=>exact Ao (Nat.beq_refl x)
 |cons y r ih=>
  cases e:Nat.beq y.1 x with
  |true=>rw [Ao e,Ao e];exact Ao (Nat.beq_refl x)
  |false=>rw [Hy e,Hy e,Hy e,ih]
theorem nq{α:Type}{f w:α->PV}{ct:CT}{we:Loc->AH->(PV->AH->Prop)->Prop}{it:AH->Option (List PV)}{l:List PV}{D:Addr}{H:AH}{fin:List PV->AH->Prop}(I:Loc->Prop)(mm:α->Loc)(xs:List α)
  (hb:∀a∈xs,∀o m,I m->bindC (upd H D o) ct (f a) m=some (mm a)/\I (mm a)) (he:∀a∈xs,∀o K,K (w a) (upd H D o)->we (mm a) (upd H D o) K) (hp:∀o,it (upd H D o)=some l):
  ∀(acc:List PV) (m:Loc),I m->acc.length+xs.length<=sizeLine->fin (acc++xs.map w) (upd H D (.list (acc++xs.map w)))->WC ct (fun m H K=>K true H) we it l D fin (xs.map f) acc m (upd H D (.list acc)):=by
 induction xs with
 |nil=>
  intro acc m _ _ h
  rw [List.map_nil,s7] at h
  exact h
 |cons a xs ih=>
  intro acc m hm hl h
  have b:=hb a (.head _) (.list acc) m hm
  refine j9 b.1 (he a (.head _) _ _ ⟨⟨p8 ..,G9 (Nat.lt_add_of_pos_right (Nat.succ_pos _)) hl,hp _⟩,?_⟩)
  rw [V2]
  refine ih (fun a ha=>hb a (.tail _ ha)) (fun a ha=>he a (.tail _ ha)) (acc++[w a]) _ b.2 ?_ ?_
  ·rw [d7,Nat.add_assoc,Nat.add_comm [w a].length];exact hl
  ·rw [j7];exact h
theorem pR{α:Type}{f w:α->PV}{x:Nat}{caps:List Nat}{we:Loc->AH->(PV->AH->Prop)->Prop}{m:Loc}{H:AH}{fin:List PV->AH->Prop}(xs:List α)(hl:xs.length<=sizeLine)
  (he:∀a∈xs,∀D o K,H D=none->K (w a) (upd H D o)->we (w7 x (f a) (R9 caps m)) (upd H D o) K) (h:fin (xs.map w) H):cR m caps (.one x) (fun m H K=>K true H) we fin (.tup (xs.map f)) H:=fun D hD=>
 nq (it:=fun H=>itemsOf H (.tup (xs.map f))) (ct:=.one x) (f:=f) (w:=w) (fun m' => ∀q,w7 x q m'=w7 x q (R9 caps m)) (fun a=>w7 x (f a) (R9 caps m)) xs (fun a O o m' hm=>⟨congrArg some (hm _),fun q=>cF ..⟩) (fun a ha o K k=>he a ha D o K hD k) (fun O=>rfl) [] _ (fun O=>rfl) (by rw [List.length_nil,z6];exact hl) (by
  rw [K8,V3 hD];exact h)
section
variable{τ:T}{g:G τ}{n:Nat}{H:AH}{Q:PV->AH->Prop}{s:Shared}
noncomputable abbrev kO(l:List Nat):List PV:=l.map fun(i:Nat)=>PV.int (i:Int)
theorem Dw{h:Heap}:∀{l:List Nat} {vs:List Value},K4 g.tab h H (kO l) vs->IntsAre vs (l.map Int.ofNat)
 | [],_,r=>by cases r;exact .nil
 |x::l,_,⟨v,r,e,⟨t,e'⟩,z⟩=>by subst e;subst e';exact .cons _ t (Dw z)
theorem Dy{h:Heap}:∀{l:List Nat} {vs:List Value},IntsAre vs (l.map Int.ofNat)->K4 g.tab h H (kO l) vs
 | [],_,r=>by cases r;rfl
 |x::l,_,r=>by
  rw [I7] at r
  cases r with
  |cons _ t z=>exact⟨_,_,rfl,⟨t,rfl⟩,Dy z⟩
theorem QK{ns:List Int}{l:List Nat}(p:ns.Perm (l.map Int.ofNat)):∃l':List Nat,ns=l'.map Int.ofNat/\l'.Perm l:=by
 have h:∀x∈ns,∃k:Nat,x=Int.ofNat k:=fun x hx=>by
  obtain⟨k,_,rfl⟩:=w6.mp (p.mem_iff.mp hx)
  exact⟨k,rfl⟩
 have e:ns=(ns.map Int.toNat).map Int.ofNat:=by
  clear p
  induction ns with
  |nil=>rfl
  |cons x ns ih=>
   obtain⟨k,rfl⟩:=h x (.head _)
   rw [I7,I7,<- ih fun y hy=>h y (.tail _ hy)];rfl
 refine⟨_,e,?_⟩
 have:=p.map Int.toNat
 rwa [List.map_map,show Int.toNat ∘ Int.ofNat=id from rfl,List.map_id] at this
theorem Mw{a:Addr}{l:List Nat}(e:H a=some (.list (kO (0::l)))) (hz:l.length<63) (q:∀l':List Nat,(0::l').Perm (0::l)->Q (.lst (kO (0::l'))) H):Cl g n (.blt "sorted") [.obj a] H Q:=.b1 fun A s v1 R S h1=>by
 cases h1
 obtain⟨ws,k,o,tR⟩:=S.obj _ _ e
 refine sorted_ints (⟨_,o,rfl,_,rfl⟩:s.heap.IsList a ws.toArray) (Dw tR) (by rw [tR.length,g8,m8];exact Nat.succ_lt_succ hz) fun out ns' I' p pw=>?_
 obtain⟨l',rfl,p'⟩:=QK p
 cases l' with
 |nil=>exact absurd p'.length_eq (by simp)
 |cons z l'=>
  obtain rfl:z=0:=by
   rcases q7.mp (p'.mem_iff.mpr (.head _)) with h|h
   ·exact h.symm
   ·exact Nat.le_zero.mp (Int.ofNat_le.mp ((List.pairwise_cons.mp pw).1 _ (List.mem_map_of_mem h)))
  obtain⟨c,hc⟩:=sortedAll_at s.heap ws out
  obtain⟨S',C'⟩:=S.kept (h':=sortedAll s.heap ws out) (fun b o=>sortedAll_old) s.toks
  have hn:=untracked (S.push (s:=s) {cls:=.type "list",data:=.seq #[] 0} s.toks)
  exact⟨.lst (kO (0::l')),H,⟨_,out.toList,c,rfl,hc,(size_push' s.heap _)▸hn,Dy I'⟩,S',C',q l' p'⟩
theorem VL{a:Addr}{l:List (Int×PV)}(hg:N6 g)(e:H a=some (.N5 l))(hz:l.length<2 ^ 62)(q:Q (.int l.length) H):Cl g n (.blt "len") [.obj a] H Q:=.b1 fun A s v1 R S h1=>by
 cases h1
 obtain⟨kvs,hd,r⟩:=S.obj _ _ e
 refine call_len_dict (knd:=intKind g.prog g.w) (s8.mpr fun z=>hg.mods (z▸S.fresh a (by rw [e];exact nofun))) hd (by rw [r.length];lia) ?_
 rw [r.length]
 exact JB (p:=True) S q
end
structure Aq(bm:List Value):Prop where
 e:bm.contains (.type "Exception")=true
 b:bm.contains (.type "BaseException")=true
 a:bm.contains (.type "AttributeError")=false
 n:bm.contains (.type "NameError")=false
noncomputable abbrev Mx:String := "Exception"
noncomputable abbrev Z1:String := "Exception.__new__"
noncomputable abbrev gQ:String := "Exception.__init__"
theorem lG:ExcBaseFacts Mx Z1 gQ [.type "Exception",.type "BaseException",.type "object"]:=PySem.F.excBase_Exception
section
variable{prog:Program}{w:World}{A:Around}{E:Value->Shared->Prop}{R:Result->Shared->Prop}{h:Heap}{g:Array GenState}{d:Drawn}{t:Nat}{os:OsState}
variable{nm q:Str}{C N:Addr}{bs bm:List Value}{hdct:Bool}{sn:List Str}{sub:List Value}{ab:Bool}{col:Option Bool}{dd:Option Addr}{k0 k1 k2 k3 k5:Option Value}
theorem uE{C:Addr}{bm:List Value}{X:String}{b:Bool}(h:bm.contains (.type X)=b):(Value.ref C::bm).contains (.type X)=b:=by rw [List.contains_cons,h];rfl
theorem wI{M:Model}(B:Aq bm){rest:List Value}{Q:Unit->Shared->Prop}(hC:h.get? C=some (excClassObj nm q C N bs bm hdct sn sub ab col dd k0 k1 k2 k3 k5 Z1))(hq:Q () ⟨h,g,d,t,os⟩):
  wpAny M A (checkBuiltinCall Z1 ⟨.ref C::rest,[]⟩) Q E ⟨h,g,d,t,os⟩:=by
 have hcont:=uE (C:=C) B.e
 have hstar:=lG.noStar
 simp only [checkBuiltinCall,lG.newKind,lG.newSplit,lG.newRow]
 repeat (first|refine K1 hC ?_|(refine wpAny_isSubtype_exc hC ?_;rw [hcont])|refine wpAny_staticBase_exc hC ?_|refine wpAny_madeBy_exc hC ?_|simp only [bne_self_eq_false,K6,if_false]|wp_step)
 exact hq
theorem VN(B:Aq bm){rest:List Value}(hC:h.get? C=some (excClassObj nm q C N bs bm hdct sn sub ab col dd k0 k1 k2 k3 k5 Z1))
  (hq:R (.ok (.ret (.ref (h.objs.size+1)))) ⟨(h.push {cls:=.type "tuple",data:=.seq rest.toArray}).push (W0 C none h.objs.size),g,d,t,os⟩) (hrest:rest.length<=sizeLine):
  codeAny (model prog w) A (.builtin Z1 ⟨.ref C::rest,[]⟩) R ⟨h,g,d,t,os⟩:=by
 have hends:=lG.ends
 have hcB:=uE (C:=C) B.e
 have hcA:=uE (C:=C) B.a
 have hcN:=uE (C:=C) B.n
 refine codeAny_builtinAt lG.entry ?_
 unfold Builtin.«BaseException.__new__»
 refine PySem.wpAt_bind ?_
 show PySem.wpAt _ _ _ (stack >>= _) _ _ _
 refine PySem.wpAt_bind (PySem.wpAt_stack fun p below=>PySem.wpAt_of_wpAny ?_)
 wp_walk
 refine PySem.wpAt_of_wpAny ?_
 rw [lG.owner]
 repeat (first|with_reducible refine wpAny_madeHere_exc lG.canon hC ?_|with_reducible refine K1 hC ?_|(with_reducible refine wpAny_isSubtype_exc hC ?_;first|rw [hcB]|rw [hcA]|rw [hcN])|wp_step)
 show R _ _
 rw [Heap.size_push]
 exact hq
noncomputable abbrev excAt(h:Heap)(C:Addr)(rest:List Value):Heap:=(h.push {cls:=.type "tuple",data:=.seq rest.toArray}).push (W0 C none h.objs.size)
theorem uF{C:Addr}{rest:List Value}{b:Addr}{o:Obj}(e:h.get? b=some o):(excAt h C rest).get? b=some o:=j5 _ (j5 _ e)
theorem wJ(B:Aq bm){rest:List Value}{f:Addr}{Q:Fin->Shared->Prop}(hC:h.get? C=some (excClassObj nm q C N bs bm hdct sn sub ab col dd k0 k1 k2 k3 k5 Z1))
  (hi:Looks (model prog w) h (typeLookup (.ref C) "__init__") (some (.ref f))) (hf:∀self,Looks (model prog w) h (bindSpecial (.ref f) self) (.ref f,[self]))
  (hq:codeAny (model prog w) A (.call (.ref f) ⟨.ref (h.objs.size+1)::rest,[]⟩) (fun r s'=>match r with | .ok (.ret v)=>v = .none/\Q (.done (.ret (.ref (h.objs.size+1)))) s' | .ok _=>False | .error e=>E e s') ⟨excAt h C rest,g,d,t,os⟩) (hrest:rest.length<=sizeLine):
  wpAny (model prog w) A (Builtin.«type.__call__» ⟨.ref C::rest,[]⟩) Q E ⟨h,g,d,t,os⟩:=by
 repeat (first|with_reducible refine K1 hC ?_|with_reducible refine wpAny_madeBy_exc hC ?_|wp_step)
 refine codeAny_call_builtin_code (Code.quiet_builtin _ lG.quiet) (wI B hC ?_)
 refine VN B hC ?_ hrest
 show wpAny _ _ _ _ _ _
 have bc7:=uF (C:=C) (rest:=rest) hC
 have hget:(excAt h C rest).get? (h.objs.size+1)=some (W0 C none h.objs.size):=by heap_get
 have hcC:(Value.ref C::bm).contains (.ref C)=true:=by simp
 have bc8:=hi.keeps (h':=excAt h C rest) fun b o e=>uF e
 have bc9:=(hf (.ref (h.objs.size+1))).keeps (h':=excAt h C rest) fun b o e=>uF e
 unfold isInstance
 repeat (first|with_reducible refine K1 hget ?_|(with_reducible refine wpAny_isSubtype_exc bc7 ?_;rw [hcC])|wp_step)
 show wpAny _ _ (typeLookup (.ref C) _) _ _ _
 refine bc8.at ?_
 refine z7 (c7 ?_)
 refine bc9.at (c7 (wpAny_call (codeAny_mono hq fun r s' z=>?_)))
 rcases r with e|(v|_|_|_)<;>first|exact z|exact z.elim|skip
 obtain⟨rfl,z⟩:=z
 wp_walk
 exact z
theorem QL(B:Aq bm){rest:List Value}{f:Addr}(hC:h.get? C=some (excClassObj nm q C N bs bm hdct sn sub ab col dd k0 k1 k2 k3 k5 Z1))
  (hi:Looks (model prog w) h (typeLookup (.ref C) "__init__") (some (.ref f))) (hf:∀self,Looks (model prog w) h (bindSpecial (.ref f) self) (.ref f,[self]))
  (hq:codeAny (model prog w) (A.under (.builtin "type.__call__" ⟨.ref C::rest,[]⟩)) (.call (.ref f) ⟨.ref (h.objs.size+1)::rest,[]⟩) (InitBack (h.objs.size+1) R) ⟨excAt h C rest,g,d,t,os⟩) (hrest:rest.length<=sizeLine):
  codeAny (model prog w) A (.call (.ref C) ⟨rest,[]⟩) R ⟨h,g,d,t,os⟩:=by
 have f1:=tc_lookup
 have f2:=tc_bind (.ref C)
 have hT:(⟨h,g,d,t,os⟩:Shared).TypeIs (.ref C) "type" := ⟨_,hC,rfl⟩
 refine codeAny_of_tree ?_
 show wpAny _ _ (callAny (.ref C) _) _ _ _
 repeat (any_goals (first|assumption|with_reducible refine K1 hC ?_|wp_step))
 refine⟨rfl,?_⟩
 refine codeAny_call_builtin_at (Code.quiet_builtin _ (by decide +kernel)) entry_typeCall (wpAny_check_type_call_sub hC (wJ B hC hi hf (codeAny_mono hq fun r s' z=>?_) hrest))
 rcases r with e|(v|_|_|_)<;>exact z
theorem uG{M:Model}(B:Aq bm){e:Addr}{oe:Obj}{rest:List Value}{Q:Unit->Shared->Prop}
  (hC:h.get? C=some (excClassObj nm q C N bs bm hdct sn sub ab col dd k0 k1 k2 k3 k5 Z1)) (he:h.get? e=some oe) (hcls:oe.cls = .ref C) (hq:Q () ⟨h,g,d,t,os⟩):
  wpAny M A (checkBuiltinCall gQ ⟨.ref e::rest,[]⟩) Q E ⟨h,g,d,t,os⟩:=by
 have hcB:=uE (C:=C) B.e
 have hshort:=lG.noStar
 simp only [checkBuiltinCall,lG.initKind,lG.initSplit,lG.initRow]
 repeat (first|(with_reducible refine K1 he ?_;rw [hcls])|with_reducible refine K1 hC ?_|(with_reducible refine wpAny_isSubtype_exc hC ?_;rw [hcB])|wp_step)
 refine wpAny_onRaise ?_
 rw [show ∀(a b:String) (n:Nat),Bind.check ⟨.positional,"*",Mx,.self,[⟨"args",.varPos,false⟩]⟩ a b n (List.map (fun x=>x.fst) ({pos:=Value.ref e::rest}:Args).kw)=pure () from
  fun a b n=>check_star_args _ _ _ _ _ _]
 exact j4 hq
theorem QM(B:Aq bm){e t0:Addr}{de:Option Addr}{rest:List Value}{Q:Value->Shared->Prop}
  (hC:h.get? C=some (excClassObj nm q C N bs bm hdct sn sub ab col dd k0 k1 k2 k3 k5 Z1)) (he:h.get? e=some (W0 C de t0)) (hrest:rest.length<=sizeLine)
  (hq:∀h',h'.get? e=some (W0 C de h.objs.size)->h'.objs.size=h.objs.size+1->(∀b,b≠e->h'.get? b=(h.push {cls:=.type "tuple",data:=.seq rest.toArray}).get? b)->Q .none ⟨h',g,d,t,os⟩):
  wpAny (model prog w) A (call (.builtin gQ) (.ref e::rest)) Q E ⟨h,g,d,t,os⟩:=by
 refine wpAny_call (codeAny_call_builtin lG.init.plain lG.initEntry (uG B hC he rfl ?_))
 have aY1:=j5 (h:=h) {cls:=.type "tuple",data:=.seq rest.toArray} he
 wp_walk
 refine hq _ ?_ ?_ fun b hb=>Heap.get?_update_other _ _ (Ne.symm hb)
 ·rw [Heap.get?_update_self _ aY1 rfl]
  rfl
 ·rw [Heap.size_after_update,Heap.size_push]
noncomputable abbrev VP:String := "object.__setattr__"
theorem Mz:StoreFacts Mx [.type "Exception",.type "BaseException",.type "object"] VP "object" := PySem.F.store_Exception
theorem Ar{M:Model}(B:bm.contains (.type "object")=true){x:Addr}{o:Obj}{nameV v:Value}{Q:Unit->Shared->Prop}
  (hC:h.get? C=some (excClassObj nm q C N bs bm hdct sn sub ab col dd k0 k1 k2 k3 k5 Z1)) (hx:h.get? x=some o) (hc:o.cls = .ref C) (hq:Q () ⟨h,g,d,t,os⟩):
  wpAny M A (checkBuiltinCall VP ⟨[.ref x,nameV,v],[]⟩) Q E ⟨h,g,d,t,os⟩:=by
 have hcB:=uE (C:=C) B
 have ha:=Mz.args (.ref x) nameV v
 simp only [checkBuiltinCall,Mz.kind,Mz.split]
 refine c7 ?_
 ·unfold isInstance
  repeat (first|(with_reducible refine K1 hx ?_;rw [hc])|(with_reducible refine wpAny_isSubtype_exc hC ?_;rw [hcB])|wp_step)
  exact hq
noncomputable abbrev QS(h:Heap)(x:Addr):Heap:=(h.push {cls:=.type "dict",data:=.dict #[]}).update x fun o=>{cls:=o.cls,dict:=some h.objs.size,data:=o.data,slots:=o.slots}
inductive JZ(h:Heap)(C x:Addr)(t0:Addr)(name:Str)(v:Value)(h':Heap):Option Addr->(Str->Option Value)->Prop
 |new {mA:Str->Option Value} (e:h'.get? x=some (W0 C (some h.objs.size) t0)) (n:h'.Ns1 h.objs.size (fun y=>if y=name then some v else none)) (m:(QS h x).get? x=some (W0 C (some h.objs.size) t0)) (k:Heap.SameBut h.objs.size (QS h x) h'):JZ h C x t0 name v h' none mA
 |old {dx:Addr} {mA:Str->Option Value} (e:h'.get? x=some (W0 C (some dx) t0)) (n:h'.Ns1 dx (fun y=>if y=name then some v else mA y)) (k:Heap.SameBut dx h h'):JZ h C x t0 name v h' (some dx) mA
theorem rN{tk:Tok}{x t0:Addr}{de:Option Addr}{mA:Str->Option Value}{name:Str}{v:Value}{Q:Fin->Shared->Prop}{ns:List Str}
  (hC:h.get? C=some (excClassObj nm q C N bs bm true sn sub ab col dd k0 k1 k2 k3 k5 Z1)) (hp:refuseLoop (.ref x) "__setattr__" (.ref C::bm)=pure ()) (ht:Looks (model prog w) h (typeLookup (.ref C) name) none)
  (hx:h.get? x=some (W0 C de t0)) (hd:∀dx,de=some dx->dx≠x/\h.Ns1 dx mA) (hw:Within mA ns) (hsz:ns.length<=sizeLine)
  (hq:∀h' tk',JZ h C x t0 name v h' de mA->Q (.done (.ret .none)) ⟨h',g,d,tk',os⟩):
  wpAny (model prog w) A (Builtin.«object.__setattr__» ⟨[.ref x,.str name tk,v],[]⟩) Q E ⟨h,g,d,t,os⟩:=by
 have hc:(W0 C de t0).cls = .ref C:=rfl
 unfold Builtin.«object.__setattr__»
 repeat (first|rw [refuse_eq]|rw [hp]|(with_reducible refine K1 hx ?_;rw [hc])|with_reducible refine wpAny_mroOf_exc hC ?_|with_reducible refine ht.at ?_|wp_step)
 cases de with
 |none=>
  rw [if_neg (by simp [typeHasDict])]
  have ba1:(h.push {cls:=.type "dict",data:=.dict #[]}).get? x=some (W0 C none t0):=j5 _ hx
  have hxs:x≠h.objs.size:=Nat.ne_of_lt (G8 hx)
  refine c7 (wpAny_alloc' ?_)
  refine c7 (wpAny_update' ba1 ?_)
  refine j4 ?_
  have hgd:((h.push {cls:=.type "dict",data:=.dict #[]}).update x fun o=>{cls:=o.cls,dict:=some h.objs.size,data:=o.data,slots:=o.slots}).get? h.objs.size
    = some {cls:=.type "dict",data:=.dict #[]}:=
   (Heap.get?_update_ne _ _ _ _ hxs.symm).trans (Heap.get?_push_at rfl rfl)
  have hnd:((h.push {cls:=.type "dict",data:=.dict #[]}).update x fun o=>{cls:=o.cls,dict:=some h.objs.size,data:=o.data,slots:=o.slots}).Ns h.objs.size (fun O=>none):=
   ⟨_,#[],_,hgd,rfl,fun e he=>absurd he (by simp),fun O=>rfl⟩
  show wpAny _ _ (Builtin.ObjectAttr.storeInDict h.objs.size (.str name tk) name v) _ _ _
  unfold Builtin.ObjectAttr.storeInDict Builtin.ObjectAttr.newKeyGuard
  refine c7 (j4 (c7 (wpAny_nsSet1 (Heap.Ns1.of_empty hnd) fun h' hn' hs=>?_)))
  obtain⟨oD,esD,epD,hoD,hdD,hcD⟩:=hn'.count (Within.cons name v Within.nil)
  refine c7 (wpAny_lookBehind hoD (by rw [hdD];exact pastItsLine_dict (d8 hcD (by rw [m8,List.length_nil,p7];decide))) ?_)
  wp_walk
  exact hq h' _ (.new ((hs.2 x hxs).trans (Heap.get?_update_self _ ba1 rfl)) hn' (Heap.get?_update_self _ ba1 rfl) hs)
 |some dx=>
  obtain⟨hne,hns⟩:=hd dx rfl
  refine j4 ?_
  show wpAny _ _ (Builtin.ObjectAttr.storeInDict dx (.str name tk) name v) _ _ _
  unfold Builtin.ObjectAttr.storeInDict Builtin.ObjectAttr.newKeyGuard
  refine c7 (j4 (c7 (wpAny_nsSet1 hns fun h' hn' hs=>?_)))
  obtain⟨oD,esD,epD,hoD,hdD,hcD⟩:=hn'.count (Within.cons name v hw)
  refine c7 (wpAny_lookBehind hoD (by rw [hdD];exact pastItsLine_dict (d8 hcD (by rw [m8];omega))) ?_)
  wp_walk
  exact hq h' _ (.old ((hs.2 x hne.symm).trans hx) hn' hs)
theorem yI{x t0:Addr}{de:Option Addr}{mA:Str->Option Value}{name:Str}{v:Value}{Q:Unit->Shared->Prop}{ns:List Str}(B:bm.contains (.type "object")=true)
  (hC:h.get? C=some (excClassObj nm q C N bs bm true sn sub ab col dd k0 k1 k2 k3 k5 Z1)) (hp:refuseLoop (.ref x) "__setattr__" (.ref C::bm)=pure ()) (ht:Looks (model prog w) h (typeLookup (.ref C) name) none)
  (hl:Looks (model prog w) h (typeLookup (.ref C) "__setattr__") (some (.builtin VP)))
  (hx:h.get? x=some (W0 C de t0)) (hd:∀dx,de=some dx->dx≠x/\h.Ns1 dx mA) (hw:Within mA ns) (hsz:ns.length<=sizeLine)
  (hq:∀h' tk',JZ h C x t0 name v h' de mA->Q () ⟨h',g,d,tk',os⟩):
  wpAny (model prog w) A (setAttr (.ref x) name v) Q E ⟨h,g,d,t,os⟩:=by
 have f3:=Mz.slot.bind (.ref x)
 have hc:(W0 C de t0).cls = .ref C:=rfl
 unfold setAttr callSpecial? specialOf
 repeat (any_goals (first|assumption|(with_reducible refine K1 hx ?_;rw [hc])|with_reducible refine hl.at ?_|wp_step))
 refine codeAny_call_builtin Mz.slot.plain Mz.entry (Ar B hC hx rfl (rN hC hp ht hx hd hw hsz fun h' tk' z=>?_))
 repeat (any_goals (first|assumption|wp_step))
 exact hq h' tk' z
end
section
variable{M:Model}{A:Around}{E:Value->Shared->Prop}{env:Env}
variable{nm q:Str}{C N:Addr}{bs bm:List Value}{hdct:Bool}{sn:List Str}{sub:List Value}{ab:Bool}{col:Option Bool}{dd:Option Addr}{k0 k1 k2 k3 k5:Option Value}
theorem MF{s:Shared}{x:Sem Value}{Q:Flow->Shared->Prop}(B:Aq bm)(hh:A.handled=none)
  (h:wpAny M A x (fun v s₁ => ∃e de t,v = .ref e/\s₁.heap.get? C=some (excClassObj nm q C N bs bm hdct sn sub ab col dd k0 k1 k2 k3 k5 Z1)/\s₁.heap.get? e=some (W0 C de t)/\E (.ref e) s₁) E s):
  wpAny M A (raiseStmt env (some x) none) Q E s:=by
 have hcB:=uE (C:=C) B.b
 unfold raiseStmt
 refine c7 (j6 h (fun v s₁ aU6=>?_) fun O O x=>x)
 obtain⟨e,de,t,rfl,hC,he,hE⟩:=aU6
 obtain⟨hp,g,d,tk,os⟩:=s₁
 repeat (first|with_reducible refine K1 he ?_|with_reducible refine K1 hC ?_|(with_reducible refine wpAny_isSubtype_exc hC ?_;rw [hcB])|wp_step)
 exact wpAny_raiseNew_none hh hE
end
section
variable{prog:Program}{w:World}{A:Around}{E:Value->Shared->Prop}{env:Env}
variable{nm q:Str}{C N:Addr}{bs bm:List Value}{hdct:Bool}{sn:List Str}{sub:List Value}{ab:Bool}{col:Option Bool}{dd:Option Addr}{k0 k1 k2 k3 k5:Option Value}
theorem QT{s:Shared}{x:PySem.Expr}{pos:Pos}{Q:Flow->Shared->Prop}(B:Aq bm)(hh:A.handled=none)
  (h:wpAny (model prog w) A (eval x env) (fun v s₁ => ∃e de t,v = .ref e/\s₁.heap.get? C=some (excClassObj nm q C N bs bm hdct sn sub ab col dd k0 k1 k2 k3 k5 Z1)/\s₁.heap.get? e=some (W0 C de t)/\E (.ref e) s₁) E s):
  wpAny (model prog w) A (exec (.Raise (some x) none pos) env) Q E s:=by
 rw [arm_exec_Raise]
 refine c7 (I8 (MF (C:=C) (nm:=nm) (q:=q) (N:=N) (bs:=bs) (bm:=bm) (hdct:=hdct) (sn:=sn) (sub:=sub) (ab:=ab) (col:=col) (dd:=dd) (k0:=k0) (k1:=k1) (k2:=k2) (k3:=k3) (k5:=k5) B hh ?_))
 refine c7 (j6 h (fun v aU2 aV8=>c7 (I8 (j4 aV8))) fun O O x=>x)
end
structure ExcAt(τ:T)(C f:Addr):Prop where
 cls:∃nm q N bs bm sn sub ab col dd k0 k1 k2 k3 k5,τ.K.lookup C=some (excClassObj nm q C N bs bm true sn sub ab col dd k0 k1 k2 k3 k5 Z1)/\Aq bm/\bm.contains (.type "object")=true/\∀x,refuseLoop (.ref x) "__setattr__" (.ref C::bm)=pure ()
 init:findIn τ.K (.ref C) "__init__" = some (some (.ref f))
 fn:isFn τ.K (.ref f)=true
 keep:keepIn τ.K (.ref C)=true
 sa:findIn τ.K (.ref C) "__setattr__" = some (some (.builtin VP))
section
variable{τ:T}{g:G τ}{n:Nat}{env:Env}{m:Loc}{H:AH}{A:Around}{s:Shared}{Q:PV->AH->Prop}
theorem ac5{C f:Addr}{l:List PV}(hg:N6 g)(X:ExcAt τ C f)(hl:l.length<=sizeLine)(h:∀a,H a=none->yg g n (.obj f) (.obj a::l) (upd H a (.exc C none)) fun r H'=>r = .none/\Q (.obj a) H'):Cl g (n+1) (.obj C) l H Q:=fun A s v vs R S rv rl=>by
 cases rv
 obtain⟨nm,q,N,bs,bm,sn,sub,ab,col,dd,k0,k1,k2,k3,k5,hK,B,_,_⟩:=X.cls
 have XK:=hg.X.keeps S.keep
 have hC:=XK _ _ hK
 have aT7:=S.push {cls:=.type "tuple",data:=.seq vs.toArray} s.toks
 obtain⟨aT6,aT9⟩:=aT7.track (o:=.exc C none) (x:=W0 C none s.heap.objs.size) rfl ⟨_,s6 _ rfl⟩
 have c':=(Calm.push s.heap H {cls:=.type "tuple",data:=.seq vs.toArray}).trans aT9
 have sz:(s.heap.push {cls:=.type "tuple",data:=.seq vs.toArray}).objs.size=s.heap.objs.size+1:=Heap.size_push ..
 dsimp only at aT6 c'
 rw [sz] at aT6 c'
 have ha:H (s.heap.objs.size+1)=none:=S.off (Nat.le_succ _)
 refine wpAny_call (codeAny_mono (R:=CK g s H Q) ?_ fun r s' ⟨u,e,x⟩=>by subst e;exact x)
 refine QL B hC (looks_findIn XK X.init) (fun self=>bind_fn XK self (beq_iff_eq.mp X.fn)) ?_ (by rw [rl.length];exact hl)
 have w:(Code.builtin "type.__call__" ⟨.ref C::vs,[]⟩).weight=1:=rfl
 have u:(Code.builtin "type.__call__" ⟨.ref C::vs,[]⟩).cUnits=1:=rfl
 have R':R8 n (A.under (.builtin "type.__call__" ⟨.ref C::vs,[]⟩)):=⟨R.handled,by
  show A.depth+(Code.builtin "type.__call__" ⟨.ref C::vs,[]⟩).weight+2*n<_
  rw [w];have:=R.depth;lia,by
  show A.units+(Code.builtin "type.__call__" ⟨.ref C::vs,[]⟩).cUnits+20*n+100<_
  rw [u];have:=R.units;lia⟩
 have rl':=rl.keeps c'.M5
 refine codeAny_mono (h _ ha _ _ (.ref f) (.ref (s.heap.objs.size+1)::vs) R' aT6 rfl ⟨_,_,rfl,rfl,rl'⟩) fun r s' ⟨u,e,z⟩=>?_
 subst e
 obtain⟨p,H',r',aT6,aT9,rfl,q⟩:=z
 cases r'
 exact⟨rfl,_,rfl,.obj _,H',rfl,aT6,c'.trans aT9,q⟩
theorem Dz{C f a:Addr}{p:PV}{d:Option Addr}(hg:N6 g)(X:ExcAt τ C f)(e:H a=some (.exc C d))(q:Q .none H):Cl g n (.blt gQ) [.obj a,p] H Q:=.b2 fun A s v u R S rv ru=>by
 cases rv
 obtain⟨nm,qn,N,bs,bm,sn,sub,ab,col,dd,k0,k1,k2,k3,k5,hK,B,_,_⟩:=X.cls
 have hC:=hg.X.keeps S.keep _ _ hK
 obtain⟨t0,he⟩:=S.obj _ _ e
 refine QM B hC he (show 1<=sizeLine by rw [p7];decide) fun h' h1 h2 h3=>?_
 have hsz:∀b o,b≠a->s.heap.get? b=some o->h'.get? b=some o:=fun b o hb k=>(h3 b hb).trans (j5 _ k)
 have aT7:=S.push {cls:=.type "tuple",data:=.seq [u].toArray} s.toks
 have ay8:upd H a (.exc C d)=H:=funext fun b=>by
  by_cases z:b=a
  ·rw [z,p8,e]
  ·exact w5 z
 have Bt:Heap.SameBut a (s.heap.push {cls:=.type "tuple",data:=.seq [u].toArray}) h':=⟨by rw [h2,Heap.size_push],h3⟩
 obtain⟨aT6,aT9⟩:=aT7.turn (o':=.exc C d) e Bt ⟨_,h1⟩ s.toks
 rw [ay8] at aT6 aT9
 exact⟨.none,H,rfl,aT6,(Calm.push ..).trans aT9,q⟩
inductive Hz{τ:T}(g:G τ)(x:Nat)(q:PV)(Q:AH->Prop):PV->AH->Prop
 |new {a C f:Addr} {H:AH} (e1:H a=some (.exc C none)) (X:ExcAt τ C f) (hf:findIn τ.K (.ref C) (τ.tab x)=some none) (h:∀dx,H dx=none->Q (upd (upd H dx (.attrs [(x,q)])) a (.exc C (some dx)))):Hz g x q Q (.obj a) H
 |old {a C dx f:Addr} {l:List (Nat×PV)} {H:AH} (e1:H a=some (.exc C (some dx))) (e2:H dx=some (.attrs l)) (X:ExcAt τ C f) (hf:findIn τ.K (.ref C) (τ.tab x)=some none) (hl:l.length<900) (h:Q (upd H dx (.attrs (w7 x q l)))):Hz g x q Q (.obj a) H
theorem ac6{a dx C:Addr}{l:List (Nat×PV)}{d:Option Addr}(e1:H a=some (.exc C d))(e2:H dx=some (.attrs l)):dx≠a:=fun z=>by rw [z,e1] at e2;cases e2
theorem VR{x:Nat}{q p:PV}{u v:Value}{K:AH->Prop}(hg:N6 g)(S:M4 g s H)(ru:Rep g.tab s.heap H p u)(rv:Rep g.tab s.heap H q v)(h:Hz g x q K p H):
  wpAny (model g.prog g.w) A (setAttr u (g.tab x) v) (fun O s' => ∃H',M4 g s' H'/\Calm s.heap H s'.heap H'/\K H') (fun O O=>False) s:=by
 cases h with
 |@new a C f _ e1 X hf h=>
  cases ru
  obtain⟨nm,qn,N,bs,bm,sn,sub,ab,col,dd,k0,k1,k2,k3,k5,hK,B,ho,hp⟩:=X.cls
  have XK:=hg.X.keeps S.keep
  obtain⟨t0,he⟩:=S.obj _ _ e1
  refine yI ho (XK _ _ hK) (hp a) (looks_findIn XK hf) (looks_findIn XK X.sa) he (mA:=fun O=>none) (fun dx z=>nomatch z) Within.nil (z8 _) fun h' tk' z=>?_
  cases z with
  |new z1 z2 z3 z4=>
  have sz:H s.heap.objs.size=none:=S.off (o9 _)
  obtain⟨aT7,aT8⟩:=S.track (o:=.attrs []) (x:={cls:=.type "dict",data:=.dict #[]}) rfl ⟨fun O=>none,Heap.Ns1.of_empty (Heap.Ns.new s.heap (.type "dict")),fun y h=>absurd rfl h,fun O=>rfl⟩
  have ne:a≠s.heap.objs.size:=fun z=>by rw [z,sz] at e1;cases e1
  obtain⟨aT6,aT9⟩:=aT7.turn (o':=.exc C (some s.heap.objs.size)) ((w5 ne).trans e1) (I6 ..) ⟨_,z3⟩ s.toks
  have e2:upd (upd H s.heap.objs.size (.attrs [])) a (.exc C (some s.heap.objs.size)) s.heap.objs.size=some (.attrs []):=(w5 ne.symm).trans (p8 ..)
  obtain⟨mA,Nm,w,r⟩:=aT6.obj _ _ e2
  have bd1:=rv.keeps (aT8.trans aT9).M5
  have aW1:T7 _ _ h' _:=aL (o':=.attrs [(x,q)]) aT6 e2 z4
  have hr:jR g h' (upd (upd (upd H s.heap.objs.size (.attrs [])) a (.exc C (some s.heap.objs.size))) s.heap.objs.size (.attrs [(x,q)])) s.heap.objs.size (.attrs [(x,q)]):=by
   refine⟨_,z2,fun y hy=>?_,fun y=>?_⟩
   ·by_cases z:y=g.tab x
    ·rw [z];exact .head _
    ·exact absurd (if_neg z) hy
   ·show gC _ _ _ (List.lookup y [(x,q)]) (if g.tab y=g.tab x then some v else none)
    by_cases z:y=x
    ·rw [z,aW rfl,if_pos rfl];exact⟨v,rfl,bd1.keeps aW1⟩
    ·rw [aq z,if_neg fun e=>z (hg.inj _ _ e)];rfl
  obtain⟨aU3,aU7⟩:=aT6.turn (o':=.attrs [(x,q)]) e2 z4 hr tk'
  have ee:upd (upd (upd H s.heap.objs.size (.attrs [])) a (.exc C (some s.heap.objs.size))) s.heap.objs.size (.attrs [(x,q)])=upd (upd H s.heap.objs.size (.attrs [(x,q)])) a (.exc C (some s.heap.objs.size)):=funext fun b=>by
   unfold upd
   by_cases z:b=a
   ·rw [if_neg (z▸ne),if_pos z,if_pos z]
   ·by_cases y:b=s.heap.objs.size
    ·rw [if_pos y,if_neg z,if_pos y]
    ·rw [if_neg y,if_neg z,if_neg y,if_neg z,if_neg y]
  rw [ee] at aU3 aU7
  exact⟨_,aU3,(aT8.trans aT9).trans aU7,h _ sz⟩
 |@old a C dx f l _ e1 e2 X hf hl h=>
  cases ru
  obtain⟨nm,qn,N,bs,bm,sn,sub,ab,col,dd,k0,k1,k2,k3,k5,hK,B,ho,hp⟩:=X.cls
  have XK:=hg.X.keeps S.keep
  obtain⟨t0,he⟩:=S.obj _ _ e1
  obtain⟨mA,Nm,w,r⟩:=S.obj _ _ e2
  refine yI ho (XK _ _ hK) (hp a) (looks_findIn XK hf) (looks_findIn XK X.sa) he (mA:=mA) (fun dx' z=>?_) w (by rw [g8,p7];exact Nat.le_of_lt (Nat.lt_trans hl (by decide))) fun h' tk' z=>?_
  ·cases z;exact⟨ac6 e1 e2,Nm⟩
  ·cases z with
   |old z1 z2 z3=>
   have t:=S.turn e2 z3 (yd hg S e2 w r rv z2 z3) tk'
   exact⟨_,t.1,t.2,h⟩
end
section
variable{τ:T}{g:G τ}{n:Nat}{env:Env}{m:Loc}{H:AH}{A:Around}{s:Shared}{Q:PV->AH->Prop}
theorem As.Ka{o:PySem.Expr}{x:Nat}{pos:Pos}{q:PV}{Q:Loc->AH->Prop}(hg:N6 g)(h:Ev g n env m H o (Hz g x q (Q m))):As g n env m H (.Attribute o (g.tab x) pos) q Q:=fun A s v R S F r=>by
 rw [assign_Attribute]
 refine c7 (z7 (h.then R S F fun u s₁ p H₁ ru aT7 aT8 aU1 k=>?_))
 refine c7 (I8 (c7 (z7 (j6 (VR hg aT7 ru (r.keeps aT8.M5) k) (fun O aU0 ⟨aT5,aT6,aT9,q⟩=>?_) fun O O x=>x))))
 exact wpAny_release ⟨m,_,aT6,aU1.goes aT9,(aT8.trans aT9).own,q⟩
noncomputable def Tg.Ka(o:X)(x:Nat):Tg where
 to tab e:=.Attribute (o.to tab (kid e 0)) (tab x) e.pos
 ok τ ns e:=o.ok τ ns (kid e 0)
 w g n q m H Q:=o.wE g n m H (Hz g x q (Q m))
 s hg O O O O O O O O h he w:=As.Ka hg (o.sE hg _ h he w)
 pl O O O O:=rfl
 nt:=true
 st O O O O O:=rfl
structure ac7(T:String)(x:Str)(id:String):Prop where
 ty:typeOf (.type T)=pure (.type "type")
 st:Manifest.isStub T=false
 cl:findCls [] (.type T) (.type "type") x=some (.val (.builtin id))
 hh:handedIn (.builtin id)=true
theorem ac8:ac7 Mx "__init__" gQ:=⟨by kernel_rfl,by decide +kernel,by kernel_rfl,by decide +kernel⟩
theorem ao2{tab:Nat->Str}{x:Nat}(h:decide (tab x = "__init__")=true):ac7 Mx (tab x) gQ:=by rw [u9 h];exact ac8
theorem Ev.ao3{o:PySem.Expr}{x:Nat}{es:List PySem.Expr}{apos pos:Pos}{T id:String}(hg:N6 g)(hb:qy o)(hline:(apos.endLine==pos.line)=true)(hlen:es.length<30)(hs:∀e∈es,au e)(O:ac7 T (g.tab x) id)
  (h:Ev g n env m H o fun p H₁=>p = .typ T/\mJ g n env m H₁ pos es fun l aT5=>Cl g n (.blt id) l aT5 Q):Ev g n env m H (.Call (.Attribute o (g.tab x) apos) es [] pos) Q:=fun A s R S F=>by
 rw [arm_eval_Call,hb]
 refine c7 (h.then R S F fun v s' p H' r S' c F' q=>aX.calm c (c7 (I8 ?_)))
 obtain⟨rfl,q⟩:=q
 cases r
 have few:methodCallForm (es.length+([]:List Keyword).length) (backTo pos (starEach es env)) (backToKw pos (keywordEach [] env))=true:=by
  have:(backTo pos (starEach es env)).all (fun y => !y.1)=true:=by
   have:=noStar (pos:=pos) (env:=env) hs
   rw [List.any_eq_false] at this
   rw [m9]
   intro y hy
   have:=this y hy
   simpa using this
  unfold methodCallForm
  rw [this]
  show(true&&true&&decide (es.length+0+0<30))=true
  simp [hlen]
 unfold methodCall
 rw [few]
 refine c7 (z7 ?_)
 obtain⟨mv,N,_⟩:=F'.ns
 have Fe:Fr (⟨#[],{}⟩:Heap) env.locals s'.heap mv:=⟨N,fun b o e=>(nomatch (show none=some o from e)),z8 _⟩
 show wpAny _ _ (getMethod (.type T) (g.tab x) _) _ _ _
 refine method_type (K:=[]) Fe (fun a o e=>nomatch e) O.ty O.st O.cl O.hh ?_
 refine c7 ?_
 unfold methodCallPos
 rw [hline]
 refine j4 ?_
 have aT6:=S'.tok (s'.toks+1)
 exact aX.calm (s:=s') (s₁:={s' with toks:=s'.toks+1}) (.refl ..) (aY (s:={s' with toks:=s'.toks+1}) hg R aT6 F' hs pD (⟨rfl,O.hh⟩:Rep g.tab s'.heap H' (.blt id) (.builtin id)) (fl:=[]) rfl q)
end
noncomputable def X.ao4(c x:Nat)(es:List X):X:=.of true (toM (.glob c) x es) (fun τ ns e=>decide (τ.tab x = "__init__")&&okM (.glob c) es τ ns e) (fun{τ} g n m H Q=>lk (τ.glob c) fun p=>p = .typ Mx/\Gq g n es m H (kCl g n (.blt gQ) Q))
 (fun hg O O O O O O O h he w=>(U8 w).elim fun O z=>by
  obtain⟨h0,h⟩:=n7 h
  exact Ev.ao3 hg (fun O O=>rfl) (n7 (n7 (n7 h).1).2).1 (Dn (n7 (n7 (n7 h).1).2).2) (W8 _ _ _) (ao2 h0) (Ev.glob hg z.1 (he.look _ _ (R7 (n7 (n7 h).2).1) nofun) ⟨z.2.1,rK hg es _ (n7 (n7 h).2).2 he z.2.2⟩))
 fun O O=>⟨⟨fun O O=>rfl,fun O O=>rfl,fun O=>rfl⟩,fun O O=>rfl,fun O O O=>rfl,fun O O O=>rfl,fun O O O O=>rfl⟩
noncomputable def excIn(τ:T)(x:Nat):Bool:=match τ.glob x with
 |some (.obj a)=>keepIn τ.K (.ref a)
 |_=>false
theorem QV{τ:T}{g:G τ}(hg:N6 g){x:Nat}{p:PV}(e:τ.glob x=some p)(h:excIn τ x=true):Plain g p:=by
 unfold excIn at h
 rw [e] at h
 cases p<;>first|exact nomatch (show false=true from h)|exact jG hg h
noncomputable def X.ao5(f:Nat)(es:List X):X:=.of (!es.isEmpty) (fun tab e=>.Call (.Name (tab f) (kid e 0).pos) (toL tab es (kids e).tail) [] e.pos)
 (fun τ ns e=>(qK .globalImplicit ns (τ.tab f)&&excIn τ f)&&Ad τ ns es (kids e).tail) (fun{τ} g n m H Q=>lk (τ.glob f) (kCa g n es m H Q))
 (fun hg O O O O O O O h he w=>(U8 w).elim fun O z=>Ev.call hg rfl (W8 _ _ _) (Ev.glob hg z.1 (he.look _ _ (R7 (n7 (n7 h).1).1) nofun) ⟨QV hg z.1 (n7 (n7 h).1).2,rK hg es _ (n7 h).2 he z.2⟩))
 fun O O=>⟨⟨fun O O=>rfl,fun O O=>rfl,fun O=>rfl⟩,fun O O=>rfl,fun h=>by cases es with|nil=>cases h|cons _ _=>exact fun O O=>rfl,fun O O O=>rfl,fun O O O O=>rfl⟩
noncomputable abbrev frs(l:List Env):List Addr:=l.filterMap (·.frame)
inductive ak{τ:T}(g:G τ)(C:Addr)(F:Addr->Prop)(l:List Env)(fly:Heap->Addr->Value->Heap->Prop)(s:Shared)(H:AH)(v:Value)(s':Shared):Prop
 |mk (e:Addr) (B:Heap) (a0:Value) (ev:v = .ref e) (fl:fly B e a0 s'.heap) (keep:∀b o,s.heap.get? b=some o->H b=none->¬F b->b∉frs l->B.get? b=some o)
  (fr:∀b o,b∈frs l->¬F b->s.heap.get? b=some o->∃sl,s'.heap.get? b=some {o with slots:=sl}) (gens:s'.gens = #[]) (os:s'.os=g.os)
noncomputable abbrev Flying(C:Addr)(l:List Env)(B:Heap)(e:Addr)(a0:Value)(h:Heap):Prop:=Heap.FlyingW B l e (.ref C) a0 h
noncomputable abbrev Held(C:Addr)(env:Env)(l:List Env)(B:Heap)(e:Addr)(a0:Value)(h:Heap):Prop:=Heap.HeldW B (env::l) e (.ref C) a0 env.locals h
inductive Made(C:Addr)(l:List Env)(B:Heap)(e:Addr)(a0:Value)(h:Heap):Prop
 |mk (oe:Obj) (vs:Array Value) (he:h.get? e=some oe) (hc:oe.cls = .ref C) (hd:oe.data = .fields vs) (h1:vs[1]? = some .none) (h0:vs[0]? = some a0) (st:B.StaysIn h) (en:B.get? e=none) (fr:h.FunFrames B l)
structure wK{τ:T}(g:G τ)(l:List Env)(h:Heap)(H:AH):Prop where
 all:∀env∈l,env.scope.kind = .function/\∃L o,env.frame=some L/\h.get? L=some o/\(∃es ep,o.data = .dict es ep)/\H L=none/\g.h₀.get? L=none
section
variable{τ:T}{g:G τ}{n:Nat}{env:Env}{m:Loc}{H:AH}{A:Around}{s:Shared}{C:Addr}{l:List Env}
theorem Av{o:Obj}(h:∃es ep,o.data = .dict es ep):∀vs,o.data≠.fields vs:=fun vs q=>by
 obtain⟨es,ep,e⟩:=h
 rw [e] at q;cases q
theorem wK.mem(Z:wK g l s.heap H){b:Addr}(h:b∈frs l):∃o,s.heap.get? b=some o/\(∃es ep,o.data = .dict es ep)/\H b=none/\g.h₀.get? b=none:=by
 obtain⟨env,he,hf⟩:=List.mem_filterMap.mp h
 obtain⟨_,L,o,h1,h2,h3,h4,h5⟩:=Z.all env he
 obtain rfl:L=b:=G6 (h1.symm.trans hf)
 exact⟨o,h2,h3,h4,h5⟩
theorem wK.goes{h h':Heap}{H':AH}{F:Addr->Prop}(Z:wK g l h H)(c:Goes F h H h' H')(d:∀b,b∈frs l->¬F b):wK g l h' H':=⟨fun env he=>by
 obtain⟨k,L,o,h1,h2,h3,h4,h5⟩:=Z.all env he
 exact⟨k,L,o,h1,c.keep L o h2 h4 (d L (List.mem_filterMap.mpr ⟨env,he,h1⟩)),h3,G4 (fun z=>by rw [c.new L h4 z] at h2;cases h2),h5⟩⟩
theorem wK.fun{B h:Heap}(Z:wK g l h H)(n:∀b∈frs l,B.get? b=none):h.FunFrames B l:=by
 induction l with
 |nil=>trivial
 |cons env l ih=>
  obtain⟨k,L,o,h1,h2,h3,_⟩:=Z.all env (.head _)
  exact⟨by rw [k];decide,⟨L,o,h1,n L (List.mem_filterMap.mpr ⟨env,.head _,h1⟩),h2,Av h3⟩,ih ⟨fun e he=>Z.all e (.tail _ he)⟩ fun b hb=>n b (by
   obtain⟨e,he,hf⟩:=List.mem_filterMap.mp hb
   exact List.mem_filterMap.mpr ⟨e,.tail _ he,hf⟩)⟩
theorem uH(hf:env.frame=some env.locals):frs (env::l)=env.locals::frs l:=by
 show List.filterMap _ (env::l)=_
 rw [List.filterMap_cons,hf]
theorem N8.zs(F:N8 g env m s.heap H)(hf:env.frame=some env.locals)(Z:wK g l s.heap H):wK g (env::l) s.heap H:=⟨fun e he=>by
 cases he with
 |head=>
  obtain⟨mv,⟨o,es,ep,e1,e2,_⟩,_⟩:=F.ns
  exact⟨F.kind,env.locals,o,hf,e1,⟨_,_,e2⟩,F.Cz,F.zM⟩
 |tail _ he=>exact Z.all e he⟩
variable{F:Addr->Prop}{fly ao6:Heap->Addr->Value->Heap->Prop}
theorem ak.step{s₁ s':Shared}{H₁:AH}{v:Value}(c:Goes F s.heap H s₁.heap H₁)(Z:wK g l s.heap H)(x:ak g C F l fly s₁ H₁ v s'):ak g C F l fly s H v s':=by
 obtain⟨e,B,a0,ev,fl,keep,fr,gens,os⟩:=x
 refine⟨e,B,a0,ev,fl,fun b o h1 h2 h3 h4=>keep b o (c.keep b o h1 h2 h3) (G4 (fun z=>by rw [c.new b h2 z] at h1;cases h1)) h3 h4,fun b o h1 hF h2=>fr b o h1 hF (c.keep b o h2 ?_ hF),gens,os⟩
 obtain⟨_,_,_,h,_⟩:=Z.mem h1
 exact h
theorem ak.on{s':Shared}{v:Value}{h':Heap}{l':List Env}(x:ak g C F l fly s H v s')(Z:wK g l s.heap H)(sub:∀b,b∈frs l'->b∈frs l)(sup:∀b,b∈frs l->b∈frs l'\/F b)(up:s'.heap.UpToSlots h')(k:∀B e a0,fly B e a0 s'.heap->ao6 B e a0 h'):
  ak g C F l' ao6 s H v {s' with heap:=h'}:=by
 obtain⟨e,B,a0,ev,fl,keep,fr,gens,os⟩:=x
 refine⟨e,B,a0,ev,k _ _ _ fl,fun b o h1 h2 h3 h4=>keep b o h1 h2 h3 fun z=>(sup b z).elim h4 h3,fun b o h1 hF h2=>?_,gens,os⟩
 obtain⟨sl,h3⟩:=fr b o (sub b h1) hF h2
 obtain⟨o',h4,h5,_⟩:=Z.mem (sub b h1)
 cases h2.symm.trans h4
 obtain⟨sl',h6⟩:=up b _ h3 (Av h5)
 exact⟨sl',h6⟩
theorem wk{b:Addr}(h:b∈frs l)(hf:env.frame=some env.locals):b∈frs (env::l):=by rw [uH hf];exact .tail _ h
theorem kw{b:Addr}(h:b∈frs (env::l))(hf:env.frame=some env.locals):b∈frs l\/Own env b:=by
 rw [uH hf] at h
 cases h with
 |head=>exact .inr (.inl rfl)
 |tail _ h=>exact .inl h
theorem MJ{M:Model}{E:Value->Shared->Prop}{v:Value}{s':Shared}(hfr:A.frames=some (env::l))(hf:env.frame=some env.locals)(Z:wK g (env::l) s.heap H)(x:ak g C (Own env) (env::l) (Flying C (env::l)) s H v s'):
  wpAny M A (leaving env v) (fun O s''=>ak g C (Own env) l (Flying C l) s H v s'') E s':=by
 obtain⟨e,B,a0,rfl,fl,keep,fr,gens,os⟩:=x
 exact wpAny_leaves_onW hfr hf fl fun h' k up=>ak.on (l:=env::l) (fly:=fun B' e' a' h=>B'=B/\e'=e/\a'=a0) ⟨e,B,a0,rfl,⟨rfl,rfl,rfl⟩,keep,fr,gens,os⟩ Z (fun b h=>wk h hf) (fun b h=>kw h hf) up fun B' e' a' z=>by
  obtain⟨rfl,rfl,rfl⟩:=z
  exact k
theorem leave_held{M:Model}{E:Value->Shared->Prop}{v:Value}{s':Shared}(hf:env.frame=some env.locals)(Z:wK g (env::l) s.heap H)(x:ak g C (Own env) (env::l) (Held C env l) s H v s'):
  wpAny M A (leaving env v) (fun O s''=>ak g C (Own env) l (Flying C l) s H v s'') E s':=by
 obtain⟨e,B,a0,rfl,fl,keep,fr,gens,os⟩:=x
 unfold leaving
 refine c7 (wpAny_noteFrame_againW hf fl.2.2.2 ?_)
 refine wpAny_landsW fl fun h' k up=>?_
 obtain⟨k1,k2,⟨_,_,k3⟩,k4⟩:=k
 exact ak.on (l:=env::l) (fly:=fun B' e' a' h=>B'=B/\e'=e/\a'=a0) ⟨e,B,a0,rfl,⟨rfl,rfl,rfl⟩,keep,fr,gens,os⟩ Z (fun b h=>wk h hf) (fun b h=>kw h hf) up fun B' e' a' z=>by
  obtain⟨rfl,rfl,rfl⟩:=z
  exact⟨k1,k2,k3,k4⟩
theorem HB{M:Model}{E:Value->Shared->Prop}{v:Value}{s':Shared}(hfr:A.frames=some (env::l))(hf:env.frame=some env.locals)(Z:wK g (env::l) s.heap H)(x:ak g C (Own env) (env::l) (Made C (env::l)) s H v s'):
  wpAny M A (leaving env v) (fun O s''=>ak g C (Own env) l (Flying C l) s H v s'') E s':=by
 obtain⟨e,B,a0,rfl,⟨oe,vs,he,hc,hd,h1,h0,st,en,fn⟩,keep,fr,gens,os⟩:=x
 refine wpAny_leaving_firstW hfr fn hf he st en hd h1 h0 fun h' k=>?_
 obtain⟨k1,⟨_,_,k3⟩,k4,up⟩:=k
 exact ak.on (l:=env::l) (fly:=fun B' e' a' h=>B'=B/\e'=e/\a'=a0) ⟨e,B,a0,rfl,⟨rfl,rfl,rfl⟩,keep,fr,gens,os⟩ Z (fun b h=>wk h hf) (fun b h=>kw h hf) up fun B' e' a' z=>by
  obtain⟨rfl,rfl,rfl⟩:=z
  exact⟨k1,en,k3,hc▸k4⟩
end
structure ZA{τ:T}(g:G τ)(n:Nat)(env:Env)(l:List Env)(m:Loc)(H:AH)(A:Around)(s:Shared):Prop where
 R:R8 n A
 fr:A.frames=some (env::l)
 hf:env.frame=some env.locals
 Z:wK g l s.heap H
 d:∀b,b∈frs l->¬Own env b
 S:M4 g s H
 F:N8 g env m s.heap H
noncomputable abbrev Zk:=Addr->Env->List Env->Heap->Addr->Value->Heap->Prop
noncomputable abbrev QW:Zk:=fun C env l=>Flying C (env::l)
noncomputable abbrev QX:Zk:=fun C env l=>Held C env l
noncomputable abbrev Kc:Zk:=fun C env l=>Made C (env::l)
noncomputable def Zs{τ:T}(g:G τ)(n:Nat)(C:Addr)(env:Env)(m:Loc)(H:AH)(k:Zk){α:Type}(t:Sem α):Prop:=
 ∀A s l,ZA g n env l m H A s->wpAny (model g.prog g.w) A t (fun O O=>False) (ak g C (Own env) (env::l) (k C env l) s H) s
noncomputable def Gs{τ:T}(g:G τ)(n:Nat)(C:Addr)(p:PV)(ps:List PV)(H:AH):Prop:=
 ∀A s v vs l,R8 n A->A.frames=some l->wK g l s.heap H->M4 g s H->Rep g.tab s.heap H p v->K4 g.tab s.heap H ps vs->codeAny (model g.prog g.w) A (.call v ⟨vs,[]⟩) (fun r s' => ∃e,r = .error e/\ak g C (fun O=>False) l (Flying C l) s H e s') s
section
variable{τ:T}{g:G τ}{n:Nat}{env:Env}{m:Loc}{H:AH}{A:Around}{s:Shared}{C:Addr}{l:List Env}{k:Zk}
theorem ZA.next{s':Shared}{m':Loc}{H':AH}(a:ZA g n env l m H A s)(S:M4 g s' H')(F:N8 g env m' s'.heap H')(c:Goes (Own env) s.heap H s'.heap H'):ZA g n env l m' H' A s':=
 ⟨a.R,a.fr,a.hf,a.Z.goes c a.d,a.d,S,F⟩
theorem ZA.zs(a:ZA g n env l m H A s):wK g (env::l) s.heap H:=a.F.zs a.hf a.Z
theorem Zs.go{α:Type}{t:Sem α}{s':Shared}{m':Loc}{H':AH}{Q:α->Shared->Prop}(h:Zs g n C env m' H' k t)(a:ZA g n env l m H A s)(S:M4 g s' H')(F:N8 g env m' s'.heap H')(c:Goes (Own env) s.heap H s'.heap H'):
  wpAny (model g.prog g.w) A t Q (ak g C (Own env) (env::l) (k C env l) s H) s':=
 j6 (h A s' l (a.next S F c)) (fun O O x=>x.elim) fun O O x=>x.step c a.zs
theorem Zs.cons{st:Stmt}{rest:List Stmt}(h:dF g n env m H st fun o m' H'=>o = .next/\Zs g n C env m' H' k (execs rest env)):Zs g n C env m H k (execs (st::rest) env):=fun A s l a=>by
 refine wpAny_execs_cons (j6 (h A s a.R a.S a.F) (fun f s' x=>?_) fun O O x=>x.elim)
 obtain⟨o,m',H',r,S',F',c,rfl,q⟩:=x
 cases r
 exact q.go a S' F' c
theorem Zs.head{st:Stmt}{rest:List Stmt}(h:Zs g n C env m H k (exec st env)):Zs g n C env m H k (execs (st::rest) env):=fun A s l a=>
 wpAny_execs_cons (j6 (h A s l a) (fun O O x=>x.elim) fun O O x=>x)
theorem Zs.expr{e:PySem.Expr}{pos:Pos}(hi:interactive env=false)(hs:swapsWith e none pos.line env=pure false)(h:Zs g n C env m H k (eval e env)):Zs g n C env m H k (exec (.Expr e pos) env):=fun A s l a=>
 wpAny_Expr_any (j6 (h A s l a) (fun O O x=>x.elim) fun O O x=>x) hi hs
theorem Zs.iff{t:PySem.Expr}{b c:List Stmt}{pos:Pos}(h:Ts g n env m H t fun x H'=>sel x (Zs g n C env m H' k (execs b env)) (Zs g n C env m H' k (execs c env))):Zs g n C env m H k (exec (.If t b c pos) env):=fun A s l a=>by
 refine wpAny_If (h.then a.R a.S a.F fun x s' H' S' z F' q=>?_)
 cases x with
 |true=>exact Zs.go (show Zs g n C env m H' k (execs _ env) from q) a S' F' z.own
 |false=>exact Zs.go (show Zs g n C env m H' k (execs _ env) from q) a S' F' z.own
theorem Zs.raise{f:Addr}{e:PySem.Expr}{pos:Pos}(hg:N6 g)(X:ExcAt τ C f)(h:Ev g n env m H e fun p H' => ∃a d,p = .obj a/\H a=none/\H' a=some (.exc C d)):Zs g n C env m H Kc (exec (.Raise (some e) none pos) env):=fun A s l a=>by
 obtain⟨nm,q,N,bs,bm,sn,sub,ab,col,dd,k0,k1,k2,k3,k5,hK,B,_,_⟩:=X.cls
 refine QT (C:=C) (nm:=nm) (q:=q) (N:=N) (bs:=bs) (bm:=bm) (hdct:=true) (sn:=sn) (sub:=sub) (ab:=ab) (col:=col) (dd:=dd) (k0:=k0) (k1:=k1) (k2:=k2) (k3:=k3) (k5:=k5) B a.R.handled (h.then a.R a.S a.F fun v s' p H' r S' c F' z=>?_)
 obtain⟨x,d,rfl,hn,hx⟩:=z
 cases r
 obtain⟨t0,he⟩:=S'.obj _ _ hx
 refine⟨x,d,t0,rfl,hg.X.keeps S'.keep _ _ hK,he,?_⟩
 have Z':wK g (env::l) s'.heap H':=(a.next S' F' c.own).zs
 have hide:∀b∈x::frs (env::l),(hideAll s'.heap (x::frs (env::l))).get? b=none:=fun b hb=>hideAll_none _ hb
 refine⟨x,hideAll s'.heap (x::frs (env::l)),.ref t0,rfl,⟨_,_,he,rfl,rfl,rfl,rfl,fun b o e=>of_hideAll _ e,hide _ (.head _),Z'.fun fun b hb=>hide b (.tail _ hb)⟩,fun b o h1 h2 h3 h4=>?_,fun b o h1 hF h2=>?_,S'.gens,S'.os⟩
 ·refine hideAll_get _ (c.keep b o h1 h2 id) fun hm=>?_
  cases hm with
  |head=>have:=c.new x h2 (by rw [hx];simp);rw [h1] at this;cases this
  |tail _ hm=>exact h4 hm
 ·obtain⟨o',e1,_,e2,_⟩:=a.zs.mem h1
  exact⟨o.slots,c.keep b o h2 e2 id⟩
theorem ak.weak{F F':Addr->Prop}{fly:Heap->Addr->Value->Heap->Prop}{v:Value}{s':Shared}(x:ak g C F l fly s H v s')(k:∀b,F b->F' b):ak g C F' l fly s H v s':=by
 obtain⟨e,B,a0,ev,fl,keep,fr,gens,os⟩:=x
 exact⟨e,B,a0,ev,fl,fun b o h1 h2 h3 h4=>keep b o h1 h2 (fun z=>h3 (k b z)) h4,fun b o h1 hF h2=>fr b o h1 (fun z=>hF (k b z)) h2,gens,os⟩
theorem uJ{bd2:Loc}{aV0:AH}{aV5:Shared}{pos:Pos}{p:PV}{fv:Value}{fl:List PV}{fs:List Value}{es:List PySem.Expr}{Q:Value->Shared->Prop}{E:Value->Shared->Prop}(hg:N6 g)(aX2:ZA g n env l bd2 aV0 A aV5)(S:M4 g s H)(F:N8 g env m s.heap H)(bb7:Goes (Own env) aV5.heap aV0 s.heap H)(hs:∀e∈es,au e)
  (hp:Plain g p) (rp:Rep g.tab s.heap H p fv) (rf:K4 g.tab s.heap H fl fs) (h:mJ g n env m H pos es fun l H'=>Gs g n C p (fl++l) H') (hE:∀s₁ H₁ v s',M4 g s₁ H₁->N8 g env m s₁.heap H₁->Goes (Own env) aV5.heap aV0 s₁.heap H₁->ak g C (fun O=>False) (env::l) (Flying C (env::l)) s₁ H₁ v s'->E v s'):
  wpAny (model g.prog g.w) A (callWith pos fv fs (backTo pos (starEach es env)) []) Q E s:=by
 refine callWith_of (P:=fun hh => ∃H':AH,(∀b o,g.h₀.get? b=some o->hh.get? b=some o)/\Rep g.tab hh H' p fv) (by rw [noStar hs];rfl) (fun hh ⟨H',k,r⟩=>hp _ hh H' fv k r) ?_
 have key:wpAny (model g.prog g.w) A (spliced (backTo pos (starEach es env))) (fun vs s₁=>(∃H':AH,(∀b o,g.h₀.get? b=some o->s₁.heap.get? b=some o)/\Rep g.tab s₁.heap H' p fv)/\
   wpAny (model g.prog g.w) A (call fv (fs++vs) []) Q E s₁) E s:=
  h.then aX2.R S F fun vs s' l' H' r S' c F' z q=>⟨⟨H',S'.keep,rp.keeps c.M5⟩,wpAny_call (codeAny_mono (q A s' fv (fs++vs) (env::l) aX2.R aX2.fr (aX2.next S' F' (bb7.trans c.own)).zs S' (rp.keeps c.M5) (K4.append (K4.keeps c.M5 rf) r)) fun r s'' w=>by
   obtain⟨e,rfl,x⟩:=w
   exact hE _ _ _ _ S' F' (bb7.trans c.own) x)⟩
 cases es with
 |nil=>exact bG key
 |cons e es=>
  have hx:backTo pos (starEach (e::es) env)=(false,eval e env)::backTo pos (starEach es env):=by rw [hs e (.head _) es env];rfl
  rw [hx] at key ⊢
  exact evalArgs_plain key
theorem ZA.fly(a:ZA g n env l m H A s):∀{m₁:Loc} (s₁:Shared) (H₁:AH) (v:Value) (s':Shared),M4 g s₁ H₁->N8 g env m₁ s₁.heap H₁->Goes (Own env) s.heap H s₁.heap H₁->ak g C (fun O=>False) (env::l) (Flying C (env::l)) s₁ H₁ v s'->ak g C (Own env) (env::l) (Flying C (env::l)) s H v s':=
 fun O O O O O O c x=>(x.weak fun O z=>z.elim).step c a.zs
theorem Zs.meth{o:PySem.Expr}{x:Nat}{es:List PySem.Expr}{apos pos:Pos}(hg:N6 g)(hb:qy o)(hline:(apos.endLine==pos.line)=true)(hlen:es.length<30)(hs:∀e∈es,au e)
  (h:Ev g n env m H o (MethP g x fun a f H₁=>mJ g n env m H₁ pos es fun l aT5=>Gs g n C (.obj f) (.obj a::l) aT5)):Zs g n C env m H QW (eval (.Call (.Attribute o (g.tab x) apos) es [] pos) env):=fun A s l aX2=>by
 rw [arm_eval_Call,hb]
 refine c7 (h.then aX2.R aX2.S aX2.F fun v s' p H' r S' c F' q=>(c7 (I8 ?_)))
 cases q with | @mk a C' dx l' f H' e1 e2 hm hl q=>?_
 cases r
 obtain⟨od,mA,I,_,hk,r⟩:=zO S' e1 e2 x
 rw [hl] at r
 obtain⟨f1,f2,f3,f4⟩:=hg.meth C' x f hm
 have few:methodCallForm (es.length+([]:List Keyword).length) (backTo pos (starEach es env)) (backToKw pos (keywordEach [] env))=true:=by
  have:(backTo pos (starEach es env)).all (fun y => !y.1)=true:=by
   have:=noStar (pos:=pos) (env:=env) hs
   rw [List.any_eq_false] at this
   rw [m9]
   intro y hy
   have:=this y hy
   simpa using this
  unfold methodCallForm
  rw [this]
  show(true&&true&&decide (es.length+0+0<30))=true
  simp [hlen]
 unfold methodCall
 rw [few]
 refine c7 (z7 ?_)
 show wpAny _ _ (getMethod (.ref a) (g.tab x) _) _ _ _
 refine method_fn (hg.X.keeps S'.keep) I (plainGet_of f1).1 (plainGet_of f1).2 f2 (beq_iff_eq.mp f3) (by
  have r':mA (g.tab x)=none:=r
  show Option.map _ (lookIn (g.tab x) od)=_
  rw [hk,r'];rfl) ?_
 refine c7 ?_
 unfold methodCallPos
 rw [hline]
 refine j4 ?_
 exact uJ hg aX2 S' F' c.own hs (jG hg f4) (rfl:Rep g.tab s'.heap H' (.obj f) (.ref f)) (fl:=[.obj a]) (K4.one (rfl:Rep g.tab s'.heap H' (.obj a) (.ref a))) q aX2.fly
end
section
variable{M:Model}{A:Around}{E:Value->Shared->Prop}{s:Shared}
theorem qL{base:Heap}{l:List Env}{e L:Addr}{cls a0:Value}{Q:Unit->Shared->Prop}(R:Heap.HeldW base l e cls a0 L s.heap)
  (h:∀h',Heap.HeldW base l e cls a0 L h'->s.heap.UpToSlots h'->Q () {s with heap:=h'}):wpAny M A (setFlight (.ref e) (some L)) Q E s:=by
 obtain⟨hkb,hen,hl,oe,vs,T,oT,ts,he,hcls,hd,h1,hnT,hTe,hT,hdT,h3⟩:=R
 have hsz3:3<ts.size:=(Array.getElem?_eq_some_iff.mp h3).1
 have other:∀b,b≠T->(s.heap.update T (Obj.mapFields (·.setIfInBounds 3 ((some L).elim Value.none fun f=>rawInt f)))).get? b=s.heap.get? b:=
  fun b hb=>Heap.get?_update_other _ _ (Ne.symm hb)
 have YM:∀b o,s.heap.get? b=some o->(∀vs,o.data≠.fields vs)->b≠T:=fun b o hb hnf q=>by
  rw [q,hT] at hb;injection hb with hb;subst hb;exact hnf ts hdT
 unfold setFlight
 refine c7 (wpAny_field he hd h1 ?_)
 rw [if_pos (show(Value.ref T != Value.none)=true from by simp)]
 refine wpAny_setField hT hdT hsz3 (h _ ⟨fun b o hbo=>(other b fun q=>by rw [q,hnT] at hbo;cases hbo).trans (hkb b o hbo),hen,hl.of_keeps fun b o hb hnf=>⟨o,(other b (YM b o hb hnf)).trans hb,rfl⟩,?_⟩ fun b o hb hnf=>⟨o.slots,(other b (YM b o hb hnf)).trans hb⟩)
 exact⟨oe,vs,T,_,_,(other e (Ne.symm hTe)).trans he,hcls,hd,h1,hnT,hTe,Heap.get?_update_self _ hT (Obj.isFreed_of_fields (Obj.data_mapFields hdT _)),Obj.data_mapFields hdT _,by simp [hsz3]⟩
theorem MK{env:Env}{base:Heap}{l:List Env}{e L:Addr}{cls a0:Value}(hf:env.frame=some L)(R:Heap.HeldW base l e cls a0 L s.heap)
  (h:∀h',Heap.HeldW base l e cls a0 L h'->s.heap.UpToSlots h'->E (.ref e) {s with heap:=h'}):cameBackBy M A env E (.ref e) s:=by
 obtain⟨_,_,_,oe,vs,T,oT,ts,he,hcls,hd,h1,_⟩:=id R
 unfold cameBackBy
 refine c7 (wpAny_field he hd h1 ?_)
 rw [if_neg (show ¬((Value.ref T==Value.none)=true) from by simp),hf]
 first|exact c7 (j4 (qL R h))|exact qL R h
end
section
variable{τ:T}{g:G τ}{n:Nat}{env:Env}{m:Loc}{H:AH}{A:Around}{s:Shared}{C:Addr}{l:List Env}{k:Zk}
theorem QZ{s':Shared}{v:Value}(hfr:A.frames=some (env::l))(hf:env.frame=some env.locals)(Z:wK g (env::l) s.heap H)(x:ak g C (Own env) (env::l) (Flying C (env::l)) s H v s'):
  notedBy (model g.prog g.w) A env (fun e s''=>cameBackBy (model g.prog g.w) A env (ak g C (Own env) (env::l) (Held C env l) s H) e s'') v s':=by
 obtain⟨e,B,a0,rfl,fl,keep,fr,gens,os⟩:=x
 refine wpAny_looks_onW hfr hf fl fun h' k up=>MK hf k fun h'' k' up'=>?_
 exact ak.on (s':=s') (l:=env::l) (fly:=fun B' e' a' h=>B'=B/\e'=e/\a'=a0) ⟨e,B,a0,rfl,⟨rfl,rfl,rfl⟩,keep,fr,gens,os⟩ Z (fun b h=>h) (fun b h=>.inl h) (up.trans up') fun B' e' a' z=>by
  obtain⟨rfl,rfl,rfl⟩:=z
  exact k'
theorem Zs.for{tg iter:PySem.Expr}{body:List Stmt}{pos:Pos}(hf:∀x,foldedSetIterable iter env x=pure x)
  (h:Ev g n env m H iter fun p H₁=>Dg p/\∃q r,itemsOf H₁ p=some (q::r)/\As g n env m H₁ tg q fun m₁ aT5=>Zs g n C env m₁ aT5 QW (execs body env)):Zs g n C env m H QX (exec (.For tg iter body [] pos) env):=fun A s l a=>by
 refine wpAny_For (h.then a.R a.S a.F fun v s₁ p H₁ rv aT7 aT8 aU1 z=>?_) hf
 obtain⟨ok,q,r,el,z⟩:=z
 refine cN aT7 rv el ok fun I aU0 aT6 aT9 aW3 f1 f2 f3=>?_
 have ap:=aU1.apart f1
 have sI:s.heap.get? I=none:=by
  cases e:s.heap.get? I with
  |none=>rfl
  |some o=>obtain⟨o',e'⟩:=aT8.ex I o e;rw [f1] at e';cases e'
 refine codeAny_forLoop_any (fun j s'=>s'=aU0) (fun j s' hj=>?_) 0 rfl
 subst hj
 refine pJ aT6 aW3 f2 f3 el (show(q::r)[0]? = some q from rfl) fun aX4 aU2 aX6 aU3 aU7 aX0=>?_
 obtain⟨o,eo,ck⟩:=aX0.kind
 refine qI eo ck ?_
 have aV9:Goes (fun b=>Own env b\/b=I) s.heap H aU2.heap H₁:=((aT8.trans aT9).weak fun O z=>z.elim).trans (aU7.weak fun b z=>.inr z)
 have bd3:Goes (Own env) s.heap H aU2.heap H₁:=aV9.drop fun b z=>z.elim .inr fun w=>.inl (w▸sI)
 refine j6 (z A aU2 aX4 a.R aU3 ((aU1.goes aT9).CG aU7 ap) aX6) (fun O aU5 y=>?_) fun O O x=>x.elim
 obtain⟨bc3,bc4,aV2,aW2,aV3,aX7⟩:=y
 refine j6 (aX7.go (Q:=fun O O=>False) a aV2 aW2 (bd3.trans aV3)) (fun O O x=>x.elim) fun v aV7 x=>?_
 exact QZ a.fr a.hf a.zs x
end
noncomputable def yJ(k:Zk):Prop := ∀{τ:T} {g:G τ} {M:Model} {A:Around} {E:Value->Shared->Prop} {C:Addr} {env:Env} {l:List Env} {s s':Shared} {H:AH} {v:Value},A.frames=some (env::l)->env.frame=some env.locals->wK g (env::l) s.heap H->ak g C (Own env) (env::l) (k C env l) s H v s'->
 wpAny M A (leaving env v) (fun O s''=>ak g C (Own env) l (Flying C l) s H v s'') E s'
theorem Aw:yJ QW:=fun a b c d=>MJ a b c d
theorem DG:yJ QX:=fun O b c d=>leave_held b c d
theorem Ra:yJ Kc:=fun a b c d=>HB a b c d
section
variable{τ:T}{g:G τ}{n:Nat}{env:Env}{m:Loc}{H:AH}{A:Around}{s:Shared}{C:Addr}{l:List Env}{k:Zk}
theorem Gs.body{f:Addr}{fd:FuncData}{ps:List Nat}{body:List Stmt}{l l':List PV}(hg:N6 g)(hk':yJ k)(hf:g.fn f=some ⟨fd,ps⟩)(hb:fd.body = .stmts body)(hcl:fd.closure=[])
  (hco:fd.scope.isCoroutine=false) (hgen:fd.scope.isGenerator=false) (hk:fd.scope.kind = .function) (hgl:fd.globals=mainGlobals) (Zq:fd.builtins=builtinsNs) (nd:ps.Nodup)
  (hkind:∀x∈ps,fd.scope.names.lookup (g.tab x)=some .local\/fd.scope.names.lookup (g.tab x)=some .cell)
  (hlen:l'.length<=ps.length)
  (hbind:∀s vs,M4 g s H->K4 g.tab s.heap H l vs->∃vs',K4 g.tab s.heap H l' vs'/\BindsTo s fd ⟨vs,[]⟩ ((ps.map g.tab).zip vs'))
  (h:∀env,env.scope=fd.scope->env.code=fd.code->env.qual=fd.qualname ++ ".<locals>."->Zs g n C env (ps.zip l') H k (execs body env)):Gs g (n+1) C (.obj f) l H:=fun A s v vs fl R hfr Z S rv rl=>by
 cases rv
 refine yg.enter hg hf hb hcl hco hgen hk hgl Zq nd hkind hlen hbind R S rl fun env s₁ e1 e2 e3 e4 aT7 aU1 fresh C0 aW8=>?_
 have d:∀b,b∈frs fl->¬Own env b:=fun b hb ow=>by
  obtain⟨o,e,_⟩:=Z.mem hb
  rw [fresh b ow] at e;cases e
 have a:ZA g n env fl (ps.zip l') H (A.deeper env) s₁:=⟨aW8,Around.frames_deeper hfr,e4,Z.goes C0 fun O O=>id,d,aT7,aU1⟩
 refine j6 (h env e1 e2 e3 _ s₁ fl a) (fun O O x=>x.elim) fun e s' x=>?_
 refine j6 (hk' (E:=fun e' s'' => ∃e,(.error e':Result) = .error e/\ak g C (fun O=>False) fl (Flying C fl) s H e s'') a.fr a.hf a.zs x) (fun O s'' y=>⟨e,rfl,?_⟩) fun O O x=>x
 obtain⟨e,B,a0,ev,fly,keep,fr,gens,os⟩:=y
 have un:∀b o,s.heap.get? b=some o->¬Own env b:=fun b o q ow=>by rw [fresh b ow] at q;cases q
 exact⟨e,B,a0,ev,fly,fun b o h1 h2 h3 h4=>keep b o (C0.keep b o h1 h2 id) h2 (un b o h1) h4,fun b o h1 hF h2=>fr b o h1 (un b o h2) (by
  obtain⟨_,_,_,q,_⟩:=Z.mem h1
  exact C0.keep b o h2 q id),gens,os⟩
end
noncomputable def SZ{τ:T}(g:G τ)(n:Nat)(C:Addr)(k:Zk)(ss:List S)(m:Loc)(H:AH):Prop:=
 ∀(ns:Ns) (env:Env) (xs:List Stmt),ni τ ns ss xs=true->iM τ ns env->Zs g n C env m H k (execs (jU τ.tab ss xs) env)
section
variable{τ:T}{g:G τ}{n:Nat}{m:Loc}{H:AH}{C:Addr}{k:Zk}{s:S}{ss:List S}
noncomputable abbrev onZ(K:Loc->AH->Prop)(o:Out)(m:Loc)(H:AH):Prop:=@Out.rec (fun O=>Prop) (K m H) False False (fun O=>False) o
theorem SZ.cons(hg:N6 g)(h:s.w g n m H (onZ (SZ g n C k ss))):SZ g n C k (s::ss) m H:=fun ns env xs ok he=>
 Zs.cons ((s.s hg _ (n7 ok).1 he h).mono fun o m' H' w=>by
  cases o with
  |next=>exact⟨rfl,w ns env _ (n7 ok).2 he⟩
  |brk=>exact w.elim
  |cont=>exact w.elim
  |ret _=>exact w.elim)
theorem SZ.iff{t:X}{a b:List S}(hg:N6 g)(h:t.wT g n m H fun c H'=>sel c (SZ g n C k a m H') (SZ g n C k b m H')):SZ g n C k (S.iff t a b::ss) m H:=fun ns env xs ok he=>
 Zs.head (Zs.iff ((t.sT hg _ (n7 (n7 ok).1).1 he.ok h).mono fun c H' w=>by
  have o:=n7 (n7 (n7 ok).1).2
  cases c with
  |true=>exact w ns env _ o.1 he
  |false=>exact w ns env _ o.2 he))
theorem SZ.meth{o:X}{x:Nat}{es:List X}(hg:N6 g)(h:o.wE g n m H (MethP g x fun a f H₁=>Gq g n es m H₁ fun l aT5=>Gs g n C (.obj f) (.obj a::l) aT5)):SZ g n C QW (S.expr (X.meth o x es)::ss) m H:=fun ns env xs ok he=>by
 have h':okM o es τ ns (O7 (hdS xs) 0)=true:=(n7 (show(true&&okM o es τ ns (O7 (hdS xs) 0))=true from(n7 ok).1)).2
 exact Zs.head (Zs.expr (by unfold interactive;rw [he.kind];rfl) (((X.meth o x es).sn rfl _ _ _ _ _)) (Zs.meth hg (o.sb (n7 (n7 h').1).1 _ _) (n7 (n7 (n7 h').1).2).1 (Dn (n7 (n7 (n7 h').1).2).2) (W8 _ _ _) ((o.sE hg _ (n7 (n7 h').2).1 he.ok h).mono fun O O w=>w.mono fun O O O w=>rK hg es _ (n7 (n7 h').2).2 he.ok w)))
theorem SZ.for{t:Tg}{it:X}{body:List S}(hg:N6 g)(h:it.wE g n m H fun p H₁=>Yy p (∃q r,itemsOf H₁ p=some (q::r)/\t.w g n q m H₁ fun m₁ aT5=>SZ g n C QW body m₁ aT5)):SZ g n C QX (S.for t it body::ss) m H:=fun ns env xs ok he=>by
 have h':=(n7 ok).1
 exact Zs.head (Zs.for ((it.sh _ _).fold _) ((it.sE hg _ (n7 (n7 h').2).1 he.ok h).mono fun p H₁ w=>⟨w.src.1,w.src.2.elim fun q z=>z.elim fun r z=>⟨q,r,z.1,(t.s hg _ (n7 h').1 he.ok z.2).mono fun m₁ aT5 w=>w _ _ _ (n7 (n7 h').2).2 he⟩⟩))
noncomputable def S.Wa(e:X):S:=⟨fun tab x=>.Raise (some (e.to tab (O7 x 0))) none x.pos,fun τ ns x=>e.ok τ ns (O7 x 0),fun O O O O O=>False,fun O O O O O O O O O O w=>w.elim⟩
theorem SZ.Wa{f:Addr}{e:X}(hg:N6 g)(X:ExcAt τ C f)(h:e.wE g n m H fun p H' => ∃a d,p = .obj a/\H a=none/\H' a=some (.exc C d)):SZ g n C Kc (S.Wa e::ss) m H:=fun ns env xs ok he=>
 Zs.head (Zs.raise hg X (e.sE hg _ (n7 ok).1 he.ok h))
end
section
variable{τ:T}{g:G τ}{n:Nat}{env:Env}{m:Loc}{H:AH}{A:Around}{s:Shared}{C:Addr}{l:List Env}{k:Zk}
theorem O2.ao7{f:Addr}{ps:List Nat}{body:List S}{l:List PV}(o:O2 τ f ps body)(hg:N6 g)(hk':yJ k)(hl:l.length=ps.length)(h:SZ g n C k body (ps.zip l) H):Gs g (n+1) C (.obj f) l H:=by
 have nd':=o.nd
 cases o.ok with
 |mk fd x e hb hc h1 h2 h3 h4 h5 nd hk ok p1 p2 p3 p4 p5 lm=>
  have z:fd.params=⟨[],fd.params.args,none,[],fd.params.kw_defaults,none,fd.params.defaults⟩:=JW p1 p2 p3 p4
  exact Gs.body (ps:=ps) (l':=l) hg hk' e hb hc h1 h2 h3 h4 h5 nd (fun x hx=>mY (hk x hx)) (Nat.le_of_eq hl) (fun s vs S r=>⟨vs,r,by
   have k:=cT (vs:=vs) z (nd' fd ps e) (by rw [p5];exact pQ hg.inj nd) (by have:=congrArg List.length p5;rw [g8,g8] at this;rw [r.length,hl,this])
   rw [p5] at k
   exact BindsTo.of_eq k⟩) fun env he hc hq=>h _ env x ok ⟨by rw [he];exact h3,by rw [he],fun c e=>⟨hc.trans (lm c e).1,by rw [hq];exact(lm c e).2⟩⟩
structure lJ{τ:T}(g:G τ)(env:Env)(l:List Env)(s:Shared)(H:AH)(s':Shared):Prop where
 S:M4 g s' fun O=>none
 F:N8 g env [] s'.heap fun O=>none
 keep:∀b o,s.heap.get? b=some o->H b=none->¬Own env b->b∉frs l->s'.heap.get? b=some o
 fr:∀b o,b∈frs l->s.heap.get? b=some o->∃sl,s'.heap.get? b=some {o with slots:=sl}
theorem HD{E:Value->Shared->Prop}{x:Nat}{pos:Pos}{p:PV}{Q:Value->Shared->Prop}(hg:N6 g)(e:g.glob x=some p)(k:env.kindOf (g.tab x)=some .globalImplicit)(S:M4 g s H)(F:N8 g env m s.heap H)
  (q:∀v t,Rep g.tab s.heap H p v->Q v {s with toks:=t}):wpAny (model g.prog g.w) A (eval (.Name (g.tab x) pos) env) Q E s:=by
 obtain⟨mg,mb,hG,hB,r⟩:=hg.names
 obtain⟨v,hv,hr⟩:=r x p e
 refine Name_function_global F.kind k ?_ (hg.dbg x)
 have hG':s.heap.Ns env.globals mg:=by rw [F.globs];exact hG.keeps S.keep
 have hB':s.heap.Ns env.builtins mb:=by rw [F.zL];exact hB.keeps S.keep
 have z:Q v s:=q v s.toks (hr.keeps S.static)
 rcases hv with hv|⟨h1,h2⟩
 ·exact loadGlobal_global hG' hv z
 ·exact loadGlobal_builtin hG' h1 hB' h2 z
theorem MN{s₁ s':Shared}{m₁:Loc}{H₁:AH}{v:Value}{e:Addr}{B h':Heap}{a0:Value}(a:ZA g n env l m H A s)(S:M4 g s₁ H₁)(F:N8 g env m₁ s₁.heap H₁)(c:Goes (Own env) s.heap H s₁.heap H₁)
  (keep:∀b o,s₁.heap.get? b=some o->H₁ b=none->b∉frs (env::l)->B.get? b=some o) (fr:∀b o,b∈frs (env::l)->s₁.heap.get? b=some o->∃sl,s'.heap.get? b=some {o with slots:=sl}) (gens:s'.gens = #[]) (os:s'.os=g.os)
  (st:B.StaysIn h') (up:s'.heap.UpToSlots h') (t:Nat):lJ g env l s H {s' with heap:=h',toks:=t}:=by
 have ba2:=a.next S F c
 have fr':∀b o,b∈frs (env::l)->s₁.heap.get? b=some o->∃sl,h'.get? b=some {o with slots:=sl}:=fun b o hb h1=>by
  obtain⟨sl,h2⟩:=fr b o hb h1
  obtain⟨o',h3,h4,_⟩:=ba2.zs.mem hb
  cases h1.symm.trans h3
  obtain⟨sl',h5⟩:=up b _ h2 (Av h4)
  exact⟨sl',h5⟩
 have ke:∀b o,s₁.heap.get? b=some o->H₁ b=none->b∉frs (env::l)->h'.get? b=some o:=fun b o h1 h2 h3=>st b o (keep b o h1 h2 h3)
 have base:∀b o,g.h₀.get? b=some o->h'.get? b=some o:=fun b o h=>by
  refine ke b o (S.keep b o h) (G4 fun z=>by rw [S.fresh b z] at h;cases h) fun z=>?_
  obtain⟨_,_,_,_,w⟩:=ba2.zs.mem z
  rw [w] at h;cases h
 refine⟨⟨base,fun O h=>absurd rfl h,(fun O O h=>nomatch h),gens,os⟩,⟨F.kind,F.globs,F.zL,?_,(fun x p q=>nomatch q),(fun x p q=>nomatch q),rfl,F.zM,fun x c' q=>?_,F.inj,F.has⟩,fun b o h1 h2 h3 h4=>?_,fun b o hb h1=>?_⟩
 ·obtain⟨mv,⟨o,es,ep,e1,e2,e3⟩,_⟩:=F.ns
  obtain⟨sl,h5⟩:=fr' _ _ (by rw [uH a.hf];exact .head _) e1
  exact⟨mv,⟨_,es,ep,h5,e2,e3⟩,fun x p q=>nomatch q⟩
 ·obtain⟨y1,y2,v,o,y3,y4⟩:=F.cells x c' q
  refine⟨rfl,y2,v,o,ke c' o y3 y1 fun z=>?_,y4⟩
  obtain⟨o',e1,⟨es,ep,e2⟩,_⟩:=ba2.zs.mem z
  cases y3.symm.trans e1
  rw [e2] at y4
  cases y4
 ·have h5:=c.keep b o h1 h2 h3
  exact ke b o h5 (G4 fun z=>by rw [c.new b h2 z] at h1;cases h1) fun z=>(kw z a.hf).elim h4 h3
 ·obtain⟨o',e1,_,e2,_⟩:=a.Z.mem hb
  exact fr' b o (wk hb a.hf) (c.keep b o h1 e2 (a.d b hb))
theorem Rb{f c:Nat}{fI:Addr}{es:List PySem.Expr}{fp cpos p2 np hpos tpos:Pos}{bb8:Stmt}{suite:List Stmt}{p:PV}{Q:Flow->Shared->Prop}(hg:N6 g)(X:ExcAt τ C fI)(a:ZA g n env l m H A s)(hi:interactive env=false)
  (hc:g.glob c=some (.obj C)) (kc:env.kindOf (g.tab c)=some .globalImplicit) (hf:g.glob f=some p) (kf:env.kindOf (g.tab f)=some .globalImplicit) (hp:Plain g p) (hs:∀e∈es,au e)
  (hsw:swapsWith (.Call (.Name (g.tab f) fp) es [] cpos) none p2.line env=pure false)
  (h:mJ g n env m H cpos es fun l aT5=>Gs g n C p l aT5)
  (K:∀e s',lJ g env l s H s'->wpAny (model g.prog g.w) (A.mark (some (.ref e))) (execs (bb8::suite) env) Q (fun O O=>False) s'):
  wpAny (model g.prog g.w) A (exec (.Try [.Expr (.Call (.Name (g.tab f) fp) es [] cpos) p2] [.ExceptHandler (some (.Name (g.tab c) np)) none (bb8::suite) hpos] [] [] tpos) env) Q (fun O O=>False) s:=by
 obtain⟨nm,q,N,bs,bm,sn,sub,ab,col,dd,k0,k1,k2,k3,k5,hK,Bm,_,_⟩:=X.cls
 refine wpAny_Try_except (wpAny_execs_cons (wpAny_Expr_any ?_ hi hsw))
 rw [show eval (.Call (.Name (g.tab f) fp) es [] cpos) env=(eval (.Name (g.tab f) fp) env >>= fun v=>callWith cpos v [] (backTo cpos (starEach es env)) []) from rfl]
 refine c7 (HD hg hf kf a.S a.F fun fv t r=>?_)
 refine j6 (uJ (Q:=fun O O=>False) (s:={s with toks:=t}) hg a (a.S.tok t) a.F (.refl ..) hs hp r (fl:=[]) rfl h fun s₁ H₁ v s' aT7 aU1 aT8 x=>?_) (fun O O x=>x.elim) fun O O x=>x
 obtain⟨e,B,a0,rfl,fl,keep,fr,gens,os⟩:=x
 have ct:∀h' t,B.StaysIn h'->s'.heap.UpToSlots h'->lJ g env l s H {s' with heap:=h',toks:=t}:=fun h' t st up=>
  MN (v:=.ref e) (e:=e) (a0:=a0) a aT7 aU1 aT8 (fun b o h1 h2 h3=>keep b o h1 h2 id h3) (fun b o hb h1=>fr b o hb id h1) gens os st up t
 refine wpAny_looks_onW a.fr a.hf fl fun aX3 bd4 bd5=>?_
 refine wpAny_landsW bd4 fun aW4 hheld bd6=>?_
 have bb9:=bd5.trans bd6
 have aV4:=ct aW4 s'.toks hheld.1 bb9
 obtain⟨ob,hob,hobc⟩:=hheld.there
 have bd7:=hg.X.keeps aV4.S.keep _ _ hK
 refine wpAny_handleBy_cons (codeAny_handlers_test (HD hg hc kc aV4.S aV4.F fun cv t r=>?_)) (by intro q;cases q)
 cases r
 refine wpAny_excMatches_sub_self bd7 hob hobc Bm.b (codeAny_handlers_suite ?_)
 refine lands_againW (s:={s' with heap:=aW4,toks:=t}) hheld fun aY2 bd8 bd9=>?_
 exact j6 (K e _ (ct aY2 t bd8.1 (bb9.trans bd9))) (fun O O x=>x) fun O O x=>x.elim
end
noncomputable def hands:Stmt->List ExceptHandler
 |.Try _ hs _ _ _=>hs
 |_=>[]
noncomputable def hndT:List ExceptHandler->PE
 |.ExceptHandler t _ _ _::_=>t.getD default
 | []=>default
noncomputable def ay9:List ExceptHandler->List Stmt
 |.ExceptHandler _ _ b _::_=>b
 | []=>[]
noncomputable def az0:List ExceptHandler->Pos
 |.ExceptHandler _ _ _ p::_=>p
 | []=>default
noncomputable def S.Wb(f:Nat)(es:List X)(c:Nat):S:=⟨fun tab x=>.Try (jU tab [S.expr (X.call f es)] (blk x)) [.ExceptHandler (some (.Name (tab c) (hndT (hands x)).pos)) none (jU tab [S.ret (X.gK true)] (ay9 (hands x))) (az0 (hands x))] [] [] x.pos,fun τ ns x=>ni τ ns [S.expr (X.call f es)] (blk x)&&qK .globalImplicit ns (τ.tab c),fun O O O O O=>False,fun O O O O O O O O O O w=>w.elim⟩
section
variable{τ:T}{g:G τ}{n:Nat}{env:Env}{m:Loc}{H:AH}{A:Around}{s:Shared}{C:Addr}{l:List Env}
theorem lJ.step{s₁ s':Shared}{H₁:AH}(a:ZA g n env l m H A s)(c:Goes (Own env) s.heap H s₁.heap H₁)(x:lJ g env l s₁ H₁ s'):lJ g env l s H s':=
 ⟨x.S,x.F,fun b o h1 h2 h3 h4=>x.keep b o (c.keep b o h1 h2 h3) (G4 fun z=>by rw [c.new b h2 z] at h1;cases h1) h3 h4,fun b o hb h1=>x.fr b o hb (c.keep b o h1 (by
  obtain⟨_,_,_,q,_⟩:=a.Z.mem hb
  exact q) (a.d b hb))⟩
noncomputable def SK{τ:T}(g:G τ)(n:Nat)(ss:List S)(m:Loc)(H:AH):Prop:=
 ∀(ns:Ns) (env:Env) (xs:List Stmt),ni τ ns ss xs=true->iM τ ns env->∀A s l,ZA g n env l m H A s->wpAny (model g.prog g.w) A (execs (jU τ.tab ss xs) env) (fun f s'=>f = .ret (.bool true)/\lJ g env l s H s') (fun O O=>False) s
variable{st:S}{ss:List S}
theorem SK.cons(hg:N6 g)(h:st.w g n m H (onZ (SK g n ss))):SK g n (st::ss) m H:=fun ns env xs ok he A s l a=>by
 refine wpAny_execs_cons (j6 (st.s hg _ (n7 ok).1 he h A s a.R a.S a.F) (fun f s' x=>?_) fun O O x=>x.elim)
 obtain⟨o,m',H',r,S',F',c,w⟩:=x
 cases o with
 |next=>
  cases r
  exact j6 (w ns env _ (n7 ok).2 he A s' l (a.next S' F' c)) (fun f s'' x=>⟨x.1,x.2.step a c⟩) fun O O x=>x
 |brk=>exact w.elim
 |cont=>exact w.elim
 |ret _=>exact w.elim
theorem SK.Wb{f c:Nat}{fI:Addr}{es:List X}(hg:N6 g)(X:ExcAt τ C fI)(hc:τ.glob c=some (.obj C))(h:lk (τ.glob f) fun p=>Gq g n es m H fun l aT5=>Gs g n C p l aT5):SK g n (S.Wb f es c::ss) m H:=fun ns env xs ok he A s l a=>by
 obtain⟨p,e,z⟩:=U8 h
 have h1:=(n7 (show((ni τ ns [S.expr (Mine.Internal.X.call f es)] (blk (hdS xs))&&qK .globalImplicit ns (τ.tab c))&&ni τ ns ss xs.tail)=true from ok)).1
 have h':((qK .globalImplicit ns (τ.tab f)&&Vv τ f)&&Ad τ ns es (kids (O7 (hdS (blk (hdS xs))) 0)).tail)=true:=(n7 (show(true&&((qK .globalImplicit ns (τ.tab f)&&Vv τ f)&&Ad τ ns es (kids (O7 (hdS (blk (hdS xs))) 0)).tail))=true from(n7 (n7 h1).1).1)).2
 refine wpAny_execs_cons ?_
 refine Rb hg X a (by unfold interactive;rw [he.kind];rfl) hc (he.ok.look _ _ (R7 (n7 h1).2) nofun) e (he.ok.look _ _ (R7 (n7 (n7 h').1).1) nofun) (JK hg e (n7 (n7 h').1).2) (W8 _ _ _) ((Mine.Internal.X.call f es).sn rfl _ _ _ _ _) (rK hg es _ (n7 h').2 he.ok z) fun e' s' x=>?_
 refine wpAny_execs_cons (wpAny_Return_some ?_)
 show wpAny _ _ (Sem.pure (Value.bool true)) _ _ _
 exact j4 ⟨rfl,x⟩
theorem O2.ao8{f:Addr}{body:List S}(o:O2 τ f [] body)(hg:N6 g)(h:SK g n body [] H)(R:R8 (n+1) A)(hfr:A.frames=some l)(Z:wK g l s.heap H)(S:M4 g s H):
  codeAny (model g.prog g.w) A (.call (.ref f) ⟨[],[]⟩) (fun r s'=>r = .ok (.ret (.bool true))/\M4 g s' (fun O=>none)/\(∀b o,s.heap.get? b=some o->H b=none->b∉frs l->s'.heap.get? b=some o)/\∀b o,b∈frs l->s.heap.get? b=some o->∃sl,s'.heap.get? b=some {o with slots:=sl}) s:=by
 have nd':=o.nd
 cases o.ok with
 |mk fd x e hb hc h1 h2 h3 h4 h5 nd hk ok p1 p2 p3 p4 p5 lm=>
  have z:fd.params=⟨[],fd.params.args,none,[],fd.params.kw_defaults,none,fd.params.defaults⟩:=JW p1 p2 p3 p4
  refine yg.enter (ps:=[]) (l:=[]) (l':=[]) (vs:=[]) hg e hb hc h1 h2 h3 h4 h5 nd (fun x hx=>mY (hk x hx)) (o9 _) (fun s vs S r=>⟨vs,r,by
   have k:=cT (vs:=vs) z (nd' fd [] e) (by rw [p5];exact .nil) (by rw [r.length];have:=congrArg List.length p5;rw [g8] at this;exact this.symm)
   rw [p5] at k
   exact BindsTo.of_eq k⟩) R S rfl fun env s₁ e1 e2 e3 e4 aT7 aU1 fresh C0 aW8=>?_
  have d:∀b,b∈frs l->¬Own env b:=fun b hb ow=>by
   obtain⟨o,e,_⟩:=Z.mem hb
   rw [fresh b ow] at e;cases e
  have a:ZA g n env l [] H (A.deeper env) s₁:=⟨aW8,Around.frames_deeper hfr,e4,Z.goes C0 fun O O=>id,d,aT7,aU1⟩
  refine j6 (h _ env x ok ⟨by rw [e1];exact h3,by rw [e1],fun c e=>⟨e2.trans (lm c e).1,by rw [e3];exact(lm c e).2⟩⟩ _ s₁ l a) (fun f s' x=>?_) fun O O x=>x.elim
  obtain⟨rfl,x⟩:=x
  have un:∀b o,s.heap.get? b=some o->¬Own env b:=fun b o q ow=>by rw [fresh b ow] at q;cases q
  exact⟨rfl,x.S,fun b o h1 h2 h3=>x.keep b o (C0.keep b o h1 h2 id) h2 (un b o h1) h3,fun b o hb h1=>x.fr b o hb (C0.keep b o h1 (by
   obtain⟨_,_,_,q,_⟩:=Z.mem hb
   exact q) id)⟩
end
section
variable{prog:Program}{w:World}{A:Around}{E:Value->Shared->Prop}{s:Shared}
theorem MP{e it:Addr}{i:Nat}{x old:Value}{P:Heap->Prop}{Q:Option Value->Shared->Prop}(he:IsEnum s.heap e it i old)(hne:e≠it)
  (hn:∀{A:Around} {E:Value->Shared->Prop} {Q:Value->Shared->Prop},(∀aU6,P aU6->Heap.SameBut it s.heap aU6->Q x {s with heap:=aU6})->wpAny (model prog w) A (Builtin.SmallTypes.nextOf (.ref it)) Q E s)
  (hP:∀h h',P h->(∀b o,b≠e->h.get? b=some o->h'.get? b=some o)->P h')
  (hQ:∀h',IsEnumOut h' e it ((i:Int)+1) x s.heap.objs.size->P h'->h'.get? s.heap.objs.size=some (zH [.int i s.toks,x] 0)->
   (∀b o,b≠e->b≠it->s.heap.get? b=some o->h'.get? b=some o)->Q (some (.ref s.heap.objs.size)) {s with heap:=h',toks:=s.toks+1}):
  wpAny (model prog w) A (pyNext (.ref e)) Q E s:=by
 have hT:s.TypeIs (.ref e) "enumerate" := ⟨_,he,rfl⟩
 unfold pyNext
 refine c7 (wpAny_attempt (wpAny_callSpecial?_slot (name:=Str.ofString "__next__") hT PySem.F.slot_enumerate_next (wpAny_call_entry PySem.F.slot_enumerate_next hT PySem.F.entry_enumerate_next ?_ (PySem.F.args_enumerate_next_1 _))))
 obtain⟨hp,g,d,tk,os⟩:=s
 have hel:e<hp.objs.size:=G8 he
 show wpAny _ _ (field (.ref e) 2 >>= _) _ _ _
 refine c7 (wpAny_field he rfl (x:=.ref it) rfl ?_)
 refine c7 (hn fun aU6 be0 aW7=>?_)
 replace aW7:Heap.SameBut it hp aU6:=aW7
 have aY1:IsEnum aU6 e it i old:=(aW7.2 e hne).trans he
 show wpAny _ _ (field (.ref e) 3 >>= _) _ _ ⟨aU6,g,d,tk,os⟩
 refine c7 (wpAny_field aY1 rfl (x:=rawInt i) rfl ?_)
 show wpAny _ _ (field (.ref e) 4 >>= _) _ _ ⟨aU6,g,d,tk,os⟩
 refine c7 (wpAny_field aY1 rfl (x:=.none) rfl ?_)
 show wpAny _ _ (mkInt i >>= _) _ _ ⟨aU6,g,d,tk,os⟩
 refine c7 (wpAny_mkInt ?_)
 show wpAny _ _ (setField (.ref e) 3 (rawInt ((i:Int)+1)) >>= _) _ _ ⟨aU6,g,d,tk+1,os⟩
 refine c7 (wpAny_setField_rec aY1 (by simp) fun aX5 ba3 aZ0=>?_)
 replace aZ0:Heap.SameBut e aU6 aX5:=aZ0
 replace ba3:IsEnum aX5 e it ((i:Int)+1) old:=ba3
 show wpAny _ _ (setField (.ref e) 4 .none >>= _) _ _ ⟨aX5,g,d,tk+1,os⟩
 refine c7 (wpAny_setField_rec ba3 (by simp) fun aV8 ba4 aZ1=>?_)
 replace aZ1:Heap.SameBut e aX5 aV8:=aZ1
 replace ba4:IsEnum aV8 e it ((i:Int)+1) old:=ba4
 show wpAny _ _ (newTuple [.int i tk,x] >>= _) _ _ ⟨aV8,g,d,tk+1,os⟩
 refine c7 (wpAny_newTuple ?_)
 have bc0:aV8.objs.size=hp.objs.size:=by rw [aZ1.1,aZ0.1,aW7.1]
 have aZ2:IsEnum (aV8.push {cls:=.type "tuple",data:=.seq #[.int i tk,x]}) e it ((i:Int)+1) old:=j5 _ ba4
 have aX7:∀b o,b≠e->aU6.get? b=some o->(aV8.push {cls:=.type "tuple",data:=.seq #[.int i tk,x]}).get? b=some o:=fun b o hb e=>j5 _ ((aZ1.2 b hb).trans ((aZ0.2 b hb).trans e))
 have bc1:(aV8.push {cls:=.type "tuple",data:=.seq #[.int i tk,x]}).get? hp.objs.size=some (zH [.int i tk,x] 0):=by rw [<- bc0];exact s6 _ rfl
 show wpAny _ _ (Builtin.SmallTypes.ownedTupleIsFree (.ref e) >>= _) _ _ ⟨_,g,d,tk+1,os⟩
 rw [bc0]
 generalize aV8.push {cls:=.type "tuple",data:=.seq #[.int i tk,x]}=aX3 at aZ2 aX7 bc1
 unfold Builtin.SmallTypes.ownedTupleIsFree
 refine c7 (c7 (wpAny_field aZ2 rfl (x:=.none) rfl (j4 ?_)))
 simp only [if_true]
 refine c7 (wpAny_rule ?_)
 refine c7 (wpAny_field aZ2 rfl (x:=old) rfl ?_)
 refine c7 (wpAny_setField_rec aZ2 (by simp) fun aW4 ba5 ba6=>?_)
 replace ba6:Heap.SameBut e aX3 aW4:=ba6
 replace ba5:IsEnum aW4 e it ((i:Int)+1) x:=ba5
 show wpAny _ _ (Builtin.SmallTypes.ownedTupleHandOut (.ref e) (.ref hp.objs.size) >>= _) _ _ ⟨aW4,g,d,tk+1,os⟩
 unfold Builtin.SmallTypes.ownedTupleHandOut
 refine c7 (c7 (wpAny_setField_rec ba5 (by simp) fun aY2 ba7 ba8=>?_))
 replace ba8:Heap.SameBut e aW4 aY2:=ba8
 replace ba7:IsEnumOut aY2 e it ((i:Int)+1) x hp.objs.size:=ba7
 refine wpAny_setField_rec ba7 (by simp) fun aZ3 ba9 bb0=>?_
 replace bb0:Heap.SameBut e aY2 aZ3:=bb0
 replace ba9:IsEnumOut aZ3 e it ((i:Int)+1) x hp.objs.size:=ba9
 have bb1:∀b o,b≠e->aX3.get? b=some o->aZ3.get? b=some o:=fun b o hb e=>(bb0.2 b hb).trans ((ba8.2 b hb).trans ((ba6.2 b hb).trans e))
 refine c7 (wpAny_letGo (j4 ⟨_,rfl,j4 (hQ aZ3 ba9 (hP _ _ be0 fun b o hb e=>bb1 b o hb (aX7 b o hb e)) (bb1 _ _ (Nat.ne_of_gt hel) bc1) fun b o hb hi e=>bb1 b o hb (aX7 b o hb ((aW7.2 b hi).trans e)))⟩))
theorem rO{it t:Addr}{items:Array Value}{i:Nat}{x:Value}{Q:Value->Shared->Prop}(hit:s.heap.IsTupleIter it t i)(ht:s.heap.IsTuple t items)(hx:items[i]? = some x)
  (hQ:∀h',h'.IsTupleIter it t (i+1)->Heap.SameBut it s.heap h'->Q x {s with heap:=h'}):wpAny (model prog w) A (Builtin.SmallTypes.nextOf (.ref it)) Q E s:=by
 obtain⟨o,ho,hc,hd⟩:=id hit
 obtain⟨ol,hol,_,nl,hdl⟩:=ht
 unfold Builtin.SmallTypes.nextOf
 refine c7 (wpAny_callSpecial?_slot (name:=Str.ofString "__next__") hit.typeIs PySem.F.slot_tuple_iterator_next (wpAny_call_entry PySem.F.slot_tuple_iterator_next hit.typeIs PySem.F.entry_tuple_iterator_next ?_ (PySem.F.args_tuple_iterator_next_1 _)))
 show wpAny _ _ (field (.ref it) 0 >>= _) _ _ s
 refine c7 (wpAny_field ho hd (x:=.ref t) rfl ?_)
 show wpAny _ _ (if(Value.ref t==Value.none)=true then _ else _) _ _ s
 rw [if_neg (show ¬((Value.ref t==Value.none)=true) from Bool.false_ne_true)]
 show wpAny _ _ (field (.ref it) 1 >>= _) _ _ s
 refine c7 (wpAny_field ho hd (x:=.int i 0) rfl ?_)
 show wpAny _ _ (seqItems? (.ref t) >>= _) _ _ s
 refine c7 (wpAny_seqItems hol hdl ?_)
 simp only [Int.toNat_natCast,hx]
 refine c7 (wpAny_setField ho hd (by simp) (j4 ⟨x,rfl,j4 (hQ _ ?_ (I6 ..))⟩))
 exact⟨_,Heap.get?_update_self _ ho (Obj.isFreed_of_fields (Obj.data_mapFields hd _)),(Obj.cls_mapFields ..).trans hc,by
  rw [Obj.data_mapFields hd];simp [rawInt]⟩
theorem Rd{e it:Addr}{i:Nat}{old:Value}{Q:Option Value->Shared->Prop}(he:IsEnum s.heap e it i old)(hh:A.handled=none)
  (hn:∀{A:Around} {E:Value->Shared->Prop} {Q:Value->Shared->Prop},A.handled=none->(∀h' x,Heap.ExtBut it s.heap h'->(∃o,h'.get? x=some o/\o.cls = .type "StopIteration")->E (.ref x) {s with heap:=h'})->wpAny (model prog w) A (Builtin.SmallTypes.nextOf (.ref it)) Q E s)
  (hQ:∀h',Heap.ExtBut it s.heap h'->Q none {s with heap:=h'}):wpAny (model prog w) A (pyNext (.ref e)) Q E s:=by
 have hT:s.TypeIs (.ref e) "enumerate" := ⟨_,he,rfl⟩
 unfold pyNext
 refine c7 (wpAny_attempt (wpAny_callSpecial?_slot (name:=Str.ofString "__next__") hT PySem.F.slot_enumerate_next (wpAny_call_entry PySem.F.slot_enumerate_next hT PySem.F.entry_enumerate_next ?_ (PySem.F.args_enumerate_next_1 _))))
 show wpAny _ _ (field (.ref e) 2 >>= _) _ _ _
 refine c7 (wpAny_field he rfl (x:=.ref it) rfl ?_)
 refine c7 (hn hh fun h' x he' hx'=>?_)
 obtain⟨o,ho,hc⟩:=hx'
 refine c7 (wpAny_isInstance (T := "StopIteration") (b:=true) ⟨o,ho,hc⟩ isSubtype_stop ?_)
 exact j4 (hQ _ he')
end
noncomputable def S9:Nat->List PV->List PV
 |_,[]=>[]
 |k,x::r=>.tup [.int k,x]::S9 (k+1) r
theorem yK:∀(l:List PV) (k j:Nat) (q:PV),(S9 k l)[j]? = some q->∃x,l[j]? = some x/\q = .tup [.int ((k+j:Nat):Int),x]
 | [],_,_,_,h=>by simp [S9] at h
 |x::r,k,0,q,h=>by
  rw [S9,List.getElem?_cons_zero] at h
  cases h
  exact⟨x,rfl,rfl⟩
 |x::r,k,j+1,q,h=>by
  rw [S9,I3] at h
  obtain⟨y,e1,e2⟩:=yK r (k+1) j q h
  exact⟨y,by rw [I3];exact e1,by rw [e2,Nat.add_assoc,Nat.add_comm 1 j]⟩
theorem yL:∀(l:List PV) (k:Nat),(S9 k l).length=l.length
 | [],_=>rfl
 |_::r,k=>congrArg (·+ 1) (yL r (k+1))
noncomputable def itN(tu:Bool):String:=match tu with
 |true => "tuple_iterator"
 |false => "list_iterator"
noncomputable def sqO(tu:Bool)(vs:List Value)(n:Nat):Obj:=match tu with
 |true=>zH vs n
 |false=>zJ vs n
noncomputable def ItJ(tu:Bool)(h:Heap)(J t:Addr)(k:Nat):Prop := ∃o,h.get? J=some o/\o.cls = .type (itN tu)/\o.data = .fields #[.ref t,.int k 0]
section
variable{τ:T}{g:G τ}{n:Nat}{env:Env}{m:Loc}{H:AH}{A:Around}{s:Shared}
inductive EnS{τ:T}(g:G τ)(tu:Bool)(l:List PV)(I:Addr)(k:Nat)(h:Heap)(H:AH):Prop
 |mk (J t:Addr) (old:Value) (vs:List Value) (j:Nat) (e:I=J+1) (he:IsEnum h I J k old) (it:ItJ tu h J t k) (o:h.get? t=some (sqO tu vs j)) (q:tu=false->H t=none) (r:K4 g.tab h H l vs)
noncomputable def enP(I b:Addr):Prop:=b=I\/b+1=I
noncomputable def ad0{τ:T}(g:G τ)(tu:Bool)(l:List PV):Mi g:=⟨fun I k h H=>EnS g tu l I k h H,enP,fun O=>some (S9 0 l)⟩
theorem Kd{P:Addr->Prop}{h':Heap}(S:M4 g s H)(nd:∀b o,P b->s.heap.get? b=some o->∃xs,o.data = .fields xs/\¬Gx o.cls)(hH:∀b,P b->H b=none)(hb:∀b,P b->g.h₀.get? b=none)(B:∀b o,¬P b->s.heap.get? b=some o->h'.get? b=some o)(t:Nat):
  M4 g {s with heap:=h',toks:=t} H/\T7 s.heap H h' H:=by
 have P':T7 s.heap H h' H:=by
  refine⟨fun b o ys k q d cc=>B b o (fun z=>?_) q,fun b o ys k q d cc z=>⟨B b o (fun z=>?_) q,z⟩,fun b o ys q d cc=>B b o (fun z=>?_) q⟩
  all_goals obtain⟨xs,e1,e2⟩:=nd b o z q
  ·rw [e1] at d;cases d
  ·rw [e1] at d;cases d
  ·exact e2 cc
 exact⟨⟨fun b o q=>B b o (fun z=>by rw [hb b z] at q;cases q) (S.keep b o q),S.fresh,fun a o q=>(S.obj a o q).keeps P' fun y z=>B a y (fun w=>by rw [hH a w] at q;cases q) z,S.gens,S.os⟩,P'⟩
theorem EnS.sq{tu:Bool}{l:List PV}{I:Addr}{k:Nat}{h:Heap}(x:EnS g tu l I k h H):∀b o,enP I b->h.get? b=some o->∃xs,o.data = .fields xs/\¬Gx o.cls:=by
 obtain⟨J,t,old,vs,j,e,he,⟨o',e1,e2,e3⟩,_⟩:=x
 intro b o hb hq
 rcases hb with rfl|hb
 ·cases hq.symm.trans he;exact⟨_,rfl,by simp⟩
 ·obtain rfl:b=J:=Nat.succ.inj (hb.trans e)
  cases hq.symm.trans e1
  exact⟨_,e3,by rw [e2];cases tu<;>simp [itN]⟩
theorem Wc{tu:Bool}{l:List PV}{elts:List PySem.Expr}{x1:Nat}{pos:Pos}:tW (ad0 g tu l) (.Tuple elts x1 pos) where
 self I:=.inl rfl
 has x hb:=by
  obtain⟨J,t,old,vs,j,e,he,⟨o',e1,e2,e3⟩,_⟩:=x
  rcases hb with rfl|hb
  ·exact⟨_,he⟩
  ·obtain rfl:=Nat.succ.inj (hb.trans e)
   exact⟨_,e1⟩
 keeps x k P _:=by
  obtain⟨J,t,old,vs,j,e,he,⟨o',e1,e2,e3⟩,o,q,r⟩:=x
  refine⟨J,t,old,vs,j,e,k _ _ (.inl rfl) he,⟨o',k _ _ (.inr e.symm) e1,e2,e3⟩,?_,?_,r.keeps P⟩
  ·cases tu
   ·exact(P.lst _ _ _ _ o rfl rfl (q rfl)).1
   ·exact P.tup _ _ _ _ o rfl rfl
  ·intro z
   subst z
   exact(P.lst _ _ _ _ o rfl rfl (q rfl)).2
 next {A s H I k l' q' P} S x hH hb el hq K:=by
  have nd:=EnS.sq x
  obtain⟨J,t,old,vs,j,e,he,it,o,q,r⟩:=x
  cases el
  obtain⟨y,hy,rfl⟩:=yK l 0 k q' hq
  obtain⟨v,hv,rv⟩:=r.get hy
  have ne:I≠J:=fun z=>by rw [z] at e;exact absurd e (Nat.ne_of_lt (H9 _))
  have tI:¬enP I t:=fun z=>by
   obtain⟨xs,z,_⟩:=nd t _ z o
   cases tu<;>cases z
  refine MP (x:=v) (P:=fun h=>ItJ tu h J t (k+1)) he ne (fun{O O O} hQ=>?_) (fun h h' z w=>?_) fun h' z1 z2 z3 z4=>?_
  ·cases tu with
   |false=>exact wpAny_nextOf_list_item (l:=t) (items:=vs.toArray) it ⟨_,o,rfl,_,rfl⟩ (by simpa using hv) hQ
   |true=>exact rO (t:=t) (items:=vs.toArray) it ⟨_,o,rfl,_,rfl⟩ (by simpa using hv) hQ
  ·obtain⟨o',a,b⟩:=z
   exact⟨o',w J o' ne.symm a,b⟩
  ·show wpAny _ A (letOwnedTupleGo _ _ _) _ _ _
   refine wpAny_letOwnedTupleGo_enum z1 fun h'' ap0 B=>?_
   have B2:∀b o,¬enP I b->s.heap.get? b=some o->h''.get? b=some o:=fun b o hb e'=>(B.2 b fun z=>hb (.inl z)).trans (z4 b o (fun z=>hb (.inl z)) (fun z=>hb (.inr (by rw [z,e]))) e')
   obtain⟨S',P'⟩:=Kd S nd hH hb B2 (s.toks+1)
   have sI:s.heap.objs.size≠I:=Nat.ne_of_gt (G8 he)
   obtain⟨oJ,a,b,c⟩:=z2
   refine K _ _ ⟨s.heap.objs.size,[.int k s.toks,v],0,rfl,(B.2 _ sI).trans z3,⟨_,_,rfl,⟨s.toks,by rw [z6]⟩,⟨_,_,rfl,rv.keeps P',rfl⟩⟩⟩ S' ⟨fun b o e' O f=>B2 b o f e',fun b a c=>absurd a c,fun b o' e'=>?_,P'⟩ ⟨J,t,_,vs,j,e,ap0,⟨oJ,(B.2 J ne.symm).trans a,b,c⟩,B2 _ _ tI o,q,r.keeps P'⟩
   by_cases z:enP I b
   ·rcases z with z|z
    ·rw [z];exact⟨_,ap0⟩
    ·obtain rfl:=Nat.succ.inj (z.trans e)
     exact⟨_,(B.2 b ne.symm).trans a⟩
   ·exact⟨_,B2 b o' z e'⟩
 fin {A s H I l' P} hh S x hH hb el K:=by
  have nd:=EnS.sq x
  obtain⟨J,t,old,vs,j,e,he,it,o,q,r⟩:=x
  cases el
  rw [yL] at it he
  refine Rd he hh (fun{O O O} hh hE=>?_) fun h' B=>?_
  ·cases tu with
   |false=>exact wpAny_nextOf_list_end (l:=t) (items:=vs.toArray) hh it ⟨_,o,rfl,_,rfl⟩ (by rw [<- r.length];simp) hE
   |true=>exact uw (t:=t) (items:=vs.toArray) hh it ⟨_,o,rfl,_,rfl⟩ (by rw [<- r.length];simp) hE
  ·have B2:∀b o,¬enP I b->s.heap.get? b=some o->h'.get? b=some o:=fun b o hb e'=>B b o (fun z=>hb (.inr (by rw [z,e]))) e'
   obtain⟨S',P'⟩:=Kd S nd hH hb B2 s.toks
   exact K h' S' B2 P'
theorem Ac.enum{tu:Bool}{l:List PV}:Ac (ad0 g tu l):=fun{A s H I k P E} O O x h=>by
 obtain⟨J,t,old,vs,j,e,he,_⟩:=x
 exact wpAny_pyIter_enum he h
theorem Hl.enum{x:Nat}{e:PE}{elts:List PE}{x1:Nat}{pos fp cp:Pos}{Q:(AH->Option (List PV))->List PV->AH->Prop} (hg:N6 g) (hx:τ.glob x=some (.typ "enumerate")) (hk:env.kindOf (τ.tab x)=some .globalImplicit) (hp:au e)
  (h:Ev g n env m H e fun p H₁=>lk p.pL fun l=>Q (fun O=>some (S9 0 l)) (S9 0 l) H₁):Hl g n env m H (.Call (.Name (τ.tab x) fp) [e] [] cp) (.Tuple elts x1 pos) Q:=fun A s R S F P E K=>by
 rw [show eval (.Call (.Name (τ.tab x) fp) [e] [] cp) env=(eval (.Name (τ.tab x) fp) env >>= fun v=>callWith cp v [] (backTo cp (starEach [e] env)) []) from rfl]
 refine c7 ((Ev.glob (Q:=fun p H₁=>p = .typ "enumerate"/\H₁=H) hg hx hk ⟨rfl,rfl⟩).then R S F fun v s' p H' r S' c F' q=>?_)
 obtain⟨rfl,rfl⟩:=q
 have r':=r
 cases r'
 have noS:((backTo cp (starEach [e] env)).any (·.1))=false:=noStar fun y hy=>j8.mp hy▸hp
 refine callWith_of (P:=fun O=>True) (by rw [noS];rfl) (fun hh O=>⟨.machine,.inr (.inl rfl),.now⟩) ?_
 have ev:mJ g n env m H' cp [e] fun l aT5 => ∃p,l=[p]/\lk p.pL fun l=>Q (fun O=>some (S9 0 l)) (S9 0 l) aT5:=mJ.cons hp (h.mono fun p H₁ w=>mJ.nil ⟨p,rfl,w⟩)
 have key:wpAny (model g.prog g.w) A (spliced (backTo cp (starEach [e] env))) (fun vs s₁=>True/\wpAny (model g.prog g.w) A (call (.type "enumerate") ([]++vs) []) (fun v s'=>wpAny (model g.prog g.w) A (pyIter v) P E s') (fun O O=>False) s₁) (fun O O=>False) s':=by
  refine ev.then R S' F' fun vs s₁ l H₁ be1 aT7 aT8 aU1 z q=>⟨trivial,?_⟩
  obtain⟨p,rfl,q⟩:=q
  obtain⟨l,el,q⟩:=U8 q
  obtain⟨v1,r2,rfl,rp,rfl⟩:=be1
  obtain⟨f1,f2,f3⟩:=dN aT7
  have g1:s₁.heap.get? (s₁.heap.objs.size+1)=none:=Heap.get?_none_of_le (Nat.le_succ _)
  have g2:H₁ (s₁.heap.objs.size+1)=none:=aT7.off (Nat.le_succ _)
  have g3:g.h₀.get? (s₁.heap.objs.size+1)=none:=by
   cases q:g.h₀.get? (s₁.heap.objs.size+1) with
   |none=>rfl
   |some o=>have:=aT7.keep _ _ q;rw [g1] at this;cases this
  have go:∀(tu:Bool) (t:Addr) (ws:List Value) (j:Nat) (h':Heap),s₁.heap.get? t=some (sqO tu ws j)->(tu=false->H₁ t=none)->K4 g.tab s₁.heap H₁ l ws->IsEnum h' (s₁.heap.objs.size+1) s₁.heap.objs.size 0 .none->ItJ tu h' s₁.heap.objs.size t 0->(∀b o,s₁.heap.get? b=some o->h'.get? b=some o)->
    P (.ref (s₁.heap.objs.size+1)) {s₁ with heap:=h'}:=fun tu t ws j h' o qn rl he it hk'=>by
   have c2:=aT7.kept hk' s₁.toks
   have pl:∀{R:Addr->Prop},R (s₁.heap.objs.size+1)->R s₁.heap.objs.size->∀b,enP (s₁.heap.objs.size+1) b->R b:=fun a b c z=>by
    rcases z with rfl|z
    ·exact a
    ·rw [Nat.succ.inj z];exact b
   exact K (ad0 g tu l) _ (S9 0 l) s₁ {s₁ with heap:=h'} H₁ ⟨Wc,Ac.enum,c2.1,c2.2,⟨_,t,_,ws,j,rfl,he,it,hk' _ _ o,qn,rl.keeps c2.2.M5⟩,pl (R:=fun b=>s₁.heap.get? b=none) g1 f1,pl (R:=fun b=>H₁ b=none) g2 f2,pl (R:=fun b=>g.h₀.get? b=none) g3 f3,rfl,fun O O O O e=>e⟩ aT7 (c.trans aT8) aU1 q
  rcases Ho el with rfl|rfl
  ·obtain⟨t,ws,j,rfl,o,rl⟩:=rp
   exact wH o fun h' he hit hk'=>wpAny_pyIter_enum he (go true t ws j h' o (fun z=>nomatch z) rl he hit hk')
  ·obtain⟨t,ws,j,rfl,o,qn,rl⟩:=rp
   exact call_enumerate_list (l:=t) (items:=ws.toArray) ⟨_,o,rfl,_,rfl⟩ fun h' he hit O hk'=>wpAny_pyIter_enum he (go false t ws j h' o (fun O=>qn) rl he hit hk')
 have hx':backTo cp (starEach [e] env)=(false,eval e env)::backTo cp (starEach [] env):=by rw [hp [] env];rfl
 rw [hx'] at key ⊢
 exact evalArgs_plain key
end
noncomputable def Ke(τ:T)(x:Nat):Bool:=match τ.glob x with
 |some (.typ t)=>t == "enumerate"
 |_=>false
theorem DK{τ:T}{x:Nat}(h:Ke τ x=true):τ.glob x=some (.typ "enumerate"):=by
 unfold Ke at h
 cases e1:τ.glob x with
 |none=>rw [e1] at h;cases h
 |some p=>
  rw [e1] at h
  cases p<;>first|(cases h;done)|exact congrArg (fun t=>some (PV.typ t)) (eq_of_beq h)
noncomputable def kCE{τ:T}(g:G τ)(n:Nat)(caps xs:List Nat)(elt:X)(ifs:List X)(m:Loc)(Q:PV->AH->Prop)(p:PV)(H:AH):Prop:=
 lk p.pL fun l=>CompI m caps (.many xs) (Ag g n ifs) (elt.wE g n) (kLi Q) (fun O=>some (S9 0 l)) (S9 0 l) H
noncomputable def X.YQ(x:Nat)(caps xs:List Nat)(elt e:X)(ifs:List X)(sc:List (Nat×NameKind)):X where
 to:=toK (.many xs) elt (X.call x [e]) ifs sc
 ok τ ns c:=Ke τ x&&okK caps (.many xs) elt (X.call x [e]) ifs sc τ ns c
 wE g n m H Q:=sel (gO m caps) (e.wE g n m H (kCE g n caps xs elt ifs m Q)) False
 wT O O O O O:=False
 sE hg O O O O O O O h he w:=by
  obtain⟨⟨s1,s2⟩,h2,h3,h4,h5⟩:=Ah hg (n7 h).2 he
  have h6:=n7 h5
  exact Ev.comp hg s1 s2 (Y4 w).1 (uh _ _ (.many xs)) h2 (fun O=>rfl) h3 h4 (Hl.enum hg (DK (n7 h).1) (he.look _ _ (R7 (n7 h6.1).1) nofun) (e.sh _ _).plain (e.sE hg _ (n7 h6.2).1 he (Y4 w).2))
 sT O O O O O O O O O O w:=w.elim
 sh O O:=⟨fun O O=>rfl,fun O O=>rfl,fun O=>rfl⟩
 bs:=true
 sb O O O O O:=rfl
 nc:=false
 sn h:=nomatch h
 nt:=true
 st O O O O O O O:=rfl
section
variable{τ:T}{g:G τ}{n:Nat}{env:Env}{m:Loc}{H:AH}
theorem dF.ap1{tg iter:PE}{body:List Stmt}{pos:Pos}{Q:Out->Loc->AH->Prop}(hf:∀x,foldedSetIterable iter env x=pure x)(h:Hl g n env m H iter tg fun it l H₁=>Dj g n env tg body it l Q l m H₁):dF g n env m H (.For tg iter body [] pos) Q:=fun A s R S F=>by
 refine wpAny_For (h A s R S F _ _ fun x I l s₁ aU0 H₁ aU4 aT7 aT8 aU1 k=>?_) hf
 have sI:∀b,x.pl I b->s.heap.get? b=none:=fun b hb=>by
  cases e:s.heap.get? b with
  |none=>rfl
  |some o=>obtain⟨o',e'⟩:=aT8.ex b o e;rw [aU4.f1 b hb] at e';cases e'
 exact yp aU4.ok R sI aU4.f3 (fun c w z=>aU1.apart (aU4.f1 c z) c w rfl) ⟨aU4.S,aU1.goes aU4.c,(aT8.trans aU4.c).weak fun O z=>z.elim,aU4.st,aU4.el,aU4.f2,k⟩
end
noncomputable def kNn(Q:Out->Loc->AH->Prop)(w:Loc->AH->Prop)(o:Out)(m:Loc)(H:AH):Prop:=@Out.rec (fun O=>Prop) (w m H) (Q .next m H) (w m H) (fun x=>Q (.ret x) m H) o
noncomputable def wpN(asg:PV->Loc->AH->(Loc->AH->Prop)->Prop)(body:Loc->AH->(Out->Loc->AH->Prop)->Prop)(Q:Out->Loc->AH->Prop):List PV->Loc->AH->Prop
 | [],m,H=>Q .next m H
 |q::r,m,H=>asg q m H (Va body (kNn Q (wpN asg body Q r)))
noncomputable def kFN{τ:T}(g:G τ)(n:Nat)(m:Loc)(Q:Out->Loc->AH->Prop)(t:Tg)(body:List S)(p:PV)(H:AH):Prop:=lk p.pL fun l=>wpN (t.w g n) (O5 g n body) Q (S9 0 l) m H
noncomputable def S.ap2(ts:List Tg)(x:Nat)(e:X)(body:List S):S:=⟨fun tab s=>.For ((Tg.tup ts).to tab (O7 s 0)) ((X.call x [e]).to tab (O7 s 1)) (jU tab body (blk s)) [] s.pos,fun τ ns s=>Ke τ x&&((Tg.tup ts).ok τ ns (O7 s 0)&&((X.call x [e]).ok τ ns (O7 s 1)&&ni τ ns body (blk s))),fun g n m H Q=>e.wE g n m H (kFN g n m Q (Tg.tup ts) body),fun{τ g} hg ns env n m O Q s h he w=>by
  obtain⟨h1,h⟩:=n7 h
  obtain⟨h2,h⟩:=n7 h
  obtain⟨h3,h4⟩:=n7 h
  have h6:=n7 (show((qK .globalImplicit ns (τ.tab x)&&Vv τ x)&&Ad τ ns [e] (kids (O7 s 1)).tail)=true from h3)
  refine dF.ap1 (fun O=>rfl) (Hl.enum hg (DK h1) (he.ok.look _ _ (R7 (n7 h6.1).1) nofun) (e.sh _ _).plain ((e.sE hg _ (n7 h6.2).1 he.ok w).mono fun p H₁ w=>?_))
  obtain⟨l,e1,w⟩:=U8 w
  refine j9 e1 ?_
  have key:∀(r:List PV) (m:Loc) (H:AH),wpN ((Tg.tup ts).w g n) (O5 g n body) Q r m H->Dj g n env ((Tg.tup ts).to τ.tab (O7 s 0)) (jU τ.tab body (blk s)) (fun O=>some (S9 0 l)) (S9 0 l) Q r m H:=by
   intro r
   induction r with
   |nil=>exact fun O O w=>w
   |cons q r ih=>exact fun m H w=>((Tg.tup ts).s hg _ h2 he.ok w).mono fun m₁ H₁ w=>(uq hg he body _ h4 w).mono (fun o aV1 aT5 w=>by
     cases o with
     |next=>exact⟨rfl,ih _ _ w⟩
     |cont=>exact⟨rfl,ih _ _ w⟩
     |brk=>exact w
     |ret x=>exact w)
  exact key _ m H₁ w⟩
inductive Wd(p:PV)(i j:Int)(H:AH)(Q:PV->AH->Prop):Prop
 |mk {l:List PV} (e:Q6 H p=some l) (h1:0<=i) (h2:i<=j) (h3:j<=l.length) (h4:l.length<=sizeLine) (q:Q (.lst ((l.drop i.toNat).take (j.toNat-i.toNat))) H)
section
variable{τ:T}{g:G τ}{n:Nat}{env:Env}{m:Loc}{H:AH}
theorem Ev.Nb{a b c:PySem.Expr}{p pos:Pos}{Q:PV->AH->Prop}(hg:N6 g)(h:Ev g n env m H a fun p H₁=>Ev g n env m H₁ b fun q aT5=>Ev g n env m aT5 c fun r aU9 => ∃i j,q = .int i/\r = .int j/\Wd p i j aU9 Q):Ev g n env m H (.Subscript a (.Slice (some b) (some c) none p) pos) Q:=fun A s R S F=>by
 refine Subscript_ (h.then R S F fun u s₁ p H₁ ru aT7 aT8 aU1 k=>wpAny_Slice ?_)
 refine Ev.then k R aT7 aU1 fun v aU0 q aT5 rv aT6 aT9 aU8 k=>?_
 refine Ev.then k R aT6 aU8 fun w aU2 r aU9 tR aU3 aU7 bb3 k=>?_
 refine j4 ?_
 refine j6 (Q:=aX g aU2 aU9 Q) (E:=fun O O=>False) ?_ (fun O O x=>x.step ((aT8.trans aT9).trans aU7)) fun O O x=>x
 obtain⟨i,j,rfl,rfl,⟨e,h1,h2,h3,h4,q⟩⟩:=k
 obtain⟨t,rfl⟩:=rv
 obtain⟨t',rfl⟩:=tR
 refine fK aU3 ((ru.keeps aT9.M5).keeps aU7.M5) e h4 (.int i t) (.int j t') .none (by simp) (fun{vs h} r=>⟨(vs.drop i.toNat).take (j.toNat-i.toNat),?_,(r.drop _).take _⟩) q
 have ei:(i.toNat:Int)=i:=by lia
 have ej:(j.toNat:Int)=j:=by lia
 have:=slicePick_run vs.toArray i.toNat j.toNat (by rw [n6,r.length];lia) (by lia)
 rw [ei,ej] at this
 rw [this]
end
noncomputable def az2(Q:PV->AH->Prop)(p q r:PV)(H:AH):Prop:=lk q.int? fun i=>lk r.int? fun j=>Wd p i j H Q
noncomputable def X.Nb(a i j:X):X:=.of true (fun tab e=>.Subscript (a.to tab (kid e 0)) (.Slice (some (i.to tab (kid (kid e 1) 0))) (some (j.to tab (kid (kid e 1) 1))) Option.none (kid e 1).pos) e.pos) (fun τ ns e=>a.ok τ ns (kid e 0)&&(i.ok τ ns (kid (kid e 1) 0)&&j.ok τ ns (kid (kid e 1) 1)))
 (fun g n m H Q=>a.wE g n m H fun p H₁=>i.wE g n m H₁ fun q aT5=>j.wE g n m aT5 (az2 Q p q))
 (fun hg O O O O O O O h he w=>Ev.Nb hg ((a.sE hg _ (n7 h).1 he w).mono fun O O w=>(i.sE hg _ (n7 (n7 h).2).1 he w).mono fun O O w=>(j.sE hg _ (n7 (n7 h).2).2 he w).mono fun O O w=>(U8 w).elim fun i z=>(U8 z.2).elim fun j y=>⟨i,j,pN z.1,pN y.1,y.2⟩))
 fun O O=>⟨⟨fun O O=>rfl,fun O O=>rfl,fun O=>rfl⟩,fun O O=>rfl,fun O O O=>rfl,fun O O O=>rfl,fun O O O O=>rfl⟩
end Mine.Internal
namespace Mine.Internal
open PySem PySem.W PySem.Calls PyProof.Rows PySem.SeqAt PySem.MeetsSeq
theorem DN(l:Addr)(items:Array Value)(n:Nat)(x:Value)(e:Value->Bool)(i j:Nat)(t:Tok)(hi:i<=j)(hj:j<items.size)(hsmall:(j:Int)<2 ^ 63-1)
  (hit:e items[j]=true) (hno:∀m (hm:m<items.size),i<=m->m<j->e items[m]=false):
  Meets (Builtin.«list.index» ⟨[.ref l,x,.int i t],[]⟩)
   (fun A R s=>s.heap.get? l=some {cls:=.type "list",dict:=none,data:=.seq items n,slots := #[]}/\(∀y,y∈items->EqAt A.in1 s y x (e y))/\R (.ok (.ret (.int j s.toks))) {s with toks:=s.toks+1}):=by
 intro prog w A R s h
 obtain⟨hp,g,d,tk,os⟩:=s;obtain⟨hl,he,h⟩:=h
 wp_walk using wpAny_loadPart' hl
 have a1:((fun k:Int=>if k<0 then max 0 (k+(items.size:Int)) else k) ((some (i:Int)).getD 0))=((i:Nat):Int):=by
  show(if(i:Int)<0 then _ else(i:Int))=_
  rw [if_neg (Int.not_lt.mpr (Int.natCast_nonneg i))]
 have a2:((fun k:Int=>if k<0 then max 0 (k+(items.size:Int)) else k) ((none:Option Int).getD (2 ^ 63-1)))=2 ^ 63-1:=by simp
 rw [a1,a2]
 exact⟨plainId_quiet plain_index_loop _,codeAny_builtin entry_index_loop (by
  rw [Around.under_plainId plain_index_loop _]
  exact index_loopAt l items n none #[] x e (2 ^ 63-1) j hj hsmall hit _ i rfl hi (fun m hm h1 h2=>hno m hm h1 h2) prog w A R _ ⟨hl,he,h⟩)⟩
theorem DP{tab:Nat->Str}:∀(l:List PV) (k:Nat) (hk:k<l.length),(PV.jT tab l)[k]? = some ((l[k]'hk).toD tab)
 |x::l,0,_=>rfl
 |x::l,k+1,hk=>(I3 (a:=x.toD tab) (l:=PV.jT tab l)).trans (DP l k (Nat.lt_of_succ_lt_succ hk))
theorem DQ:∀(l:List PV) (k:Nat) (hk:k<l.length),PV.V0 l=true->(l[k]'hk).isD=true
 |x::l,0,_,h=>(q9.mp h).1
 |x::l,k+1,hk,h=>DQ l k (Nat.lt_of_succ_lt_succ hk) (q9.mp h).2
section
variable{τ:T}{g:G τ}{n:Nat}{env:Env}{m:Loc}{H:AH}
theorem Rf{l:List PV}{p:PV}{i j:Nat}{Q:PV->AH->Prop}(hg:N6 g)(ok:LQ p l)(hz:l.length<=sizeLine)(hi:i<=j)(hj:j<l.length)(hit:(l[j]'hj).eqv p=true)(hno:∀k (hk:k<l.length),i<=k->k<j->(l[k]'hk).eqv p=false)(q:Q (.int j) H):Cl g n (.blt "list.index") [.lst l,p,.int i] H Q:=.b3 fun A s v u w R S rv ru tR=>by
 obtain⟨a,vs,k,rfl,o,qn,rl⟩:=rv
 obtain⟨t,rfl⟩:=tR
 obtain⟨as,ra⟩:=X8 p u ok.1 ru
 obtain⟨bs,rb⟩:=qF l vs ok.2.1 rl
 have el:=rl.length
 have rm:=room_in R ok.2.2 g.tab
 have lay:=jd hg.ao l
 have mp:vs.map (readOf s.heap)=PV.jT g.tab l:=readsAll_map _ _ _ lay rb
 have at':∀(k:Nat) (hk:k<l.length),PyData.eqv (readOf s.heap (vs[k]'(by rw [el];exact hk))) (p.toD g.tab)=(l[k]'hk).eqv p:=fun k hk=>by
  have h1:(vs.map (readOf s.heap))[k]? = some ((l[k]'hk).toD g.tab):=by rw [mp];exact DP l k hk
  rw [G7,o7 (by rw [el];exact hk)] at h1
  rw [G6 h1]
  exact mR hg.inj _ _ (DQ l k hk ok.2.1) ok.1
 have hjv:j<vs.toArray.size:=by rw [n6,el];exact hj
 refine call_meets (self:=.ref a) (rest:=[u,.int i t]) PySem.F.slot_list_index (⟨_,o,rfl⟩:s.TypeIs (.ref a) "list") PySem.F.entry_list_index (PySem.F.args_list_index_3 _ _ _) (DN a vs.toArray k u (fun y=>PyData.eqv (readOf s.heap y) (p.toD g.tab)) i j t hi hjv (by rw [p7] at hz;lia) ?_ fun k hk h1 h2=>?_) ⟨o,?_,?_⟩
 ·show PyData.eqv (readOf s.heap vs[j]) _=true
  rw [at' j hj];exact hit
 ·have hk':k<l.length:=by rw [<- el];simpa using hk
  show PyData.eqv (readOf s.heap vs[k]) _=false
  rw [at' k hk'];exact hno k hk' h1 h2
 ·exact items_eqAt (vs:=vs.toArray) rb ra lay (Z0 hg.ao p) rm
 ·exact M8 (p:=.int j) S ⟨_,rfl⟩ q _
end
section
variable{prog:Program}{w:World}{A:Around}{R:Result->Shared->Prop}{s:Shared}
theorem HF{elt target iter:PE}{aZ4:Comprehension}{ifs:List PE}{scope:Scope}{pos:Pos}{it acc:Value}{env:Env}
  (h0:codeAny (model prog w) A (.compLoop (.ListComp elt [aZ4,⟨target,iter,ifs,0⟩] scope pos) 1 it acc env) R s)
  (h:wpAny (model prog w) A (pyIter it) (fun it' s'=>codeAny (model prog w) A (.compLoop (.ListComp elt [aZ4,⟨target,iter,ifs,0⟩] scope pos) 1 it' acc env) R s') (fun O O=>False) s):
  codeAny (model prog w) A (.compStart (.ListComp elt [aZ4,⟨target,iter,ifs,0⟩] scope pos) 1 it acc env) R s:=by
 refine codeAny_of_tree ?_
 show wpAny _ _ ((compStart (.ListComp elt [aZ4,⟨target,iter,ifs,0⟩] scope pos) 1 it acc env).onRaise (fun x=>do noteFrame x env;standAt theWindowsPlace)) _ _ s
 refine wpAny_notedAt ?_
 unfold compStart
 show wpAny _ _ (ask >>= _) _ _ s
 refine c7 (wpAny_askSetting (wpAny_ite ?_))
 split
 ·first
   |exact c7 (j4 (j4 (And.intro rfl h0)))
   |exact j4 (And.intro rfl h0)
 ·refine c7 (wpAny_rule ?_)
  show wpAny _ _ (standAt iter.pos >>= _) _ _ s
  exact c7 (I8 (c7 (j6 h (fun it' s' h'=>j4 (And.intro rfl h')) fun O O x=>x.elim)))
theorem Nf{elt t0 i0 t1 i1:PE}{ifs:List PE}{scope:Scope}{pos:Pos}{it acc:Value}{env:Env}(hf:∀x,foldedSetIterable i1 env x=pure x)(I:Nat->Shared->Prop)
  (turn:∀n s,I n s->wpAny (model prog w) A (pyNext it) (fun r s₁=>match r with
   |none=>R (.ok .next) s₁
   |some v=>wpAny (model prog w) A (letOwnedTupleGo t0 it v) (fun O aX8=>wpAny (model prog w) A (PySem.assign t0 env v) (fun O aU0=>wpAny (model prog w) A (eval i1 env) (fun x aU2=>wpAny (model prog w) A (pyIter x) (fun it1 aU5=>
     codeAny (model prog w) A (.compStart (.ListComp elt [⟨t0,i0,[],0⟩,⟨t1,i1,ifs,0⟩] scope pos) 1 it1 acc env) (fun r aV7=>match r with | .ok _ => ∃m,m<n/\I m aV7 | .error _=>False) aU5) (fun O O=>False) aU2) (fun O O=>False) aU0) (fun O O=>False) aX8) (fun O O=>False) s₁) (fun O O=>False) s)
  (n:Nat) (h:I n s):codeAny (model prog w) A (.compLoop (.ListComp elt [⟨t0,i0,[],0⟩,⟨t1,i1,ifs,0⟩] scope pos) 0 it acc env) R s:=by
 refine codeAny_loop rfl I (fun n s hI=>?_) n h
 show wpAny _ A ((compTurn (.ListComp elt [⟨t0,i0,[],0⟩,⟨t1,i1,ifs,0⟩] scope pos) 0 it acc env).onRaise (fun x=>do noteFrame x env;theTreesLotGoes x)) _ _ s
 refine wpAny_noted ?_
 show wpAny _ A (standAt i0.pos >>= fun O=>pyNext it >>= _) _ _ s
 refine c7 (I8 (c7 (j6 (turn n s hI) (fun r s₁ aU6=>?_) fun O O h'=>h'.elim)))
 cases r with
 |none=>exact j4 aU6
 |some v=>
  refine c7 (j6 aU6 (fun O aX8 aZ6=>?_) fun O O h'=>h'.elim)
  refine c7 (j6 aZ6 (fun O aU0 aX5=>?_) fun O O h'=>h'.elim)
  show wpAny _ A (eval i1 env >>= _) _ _ aU0
  refine c7 (j6 aX5 (fun x aU2 aV8=>?_) fun O O h'=>h'.elim)
  refine c7 (I8 (c7 (wpAny_of_eq (hf x) ?_)))
  refine c7 (z7 (j6 aV8 (fun it1 aU5 aX3=>?_) fun O O h'=>h'.elim))
  refine c7 (wpAny_runOwn (codeAny_mono aX3 fun r aV7 aW4=>?_))
  cases r with
  |ok f=>exact j4 ⟨rfl,aW4⟩
  |error e=>exact aW4.elim
end
section
variable{τ:T}{g:G τ}{n:Nat}{env:Env}{m m':Loc}{H:AH}{A:Around}{s:Shared}
theorem N8.ap3{P:Addr->Prop}{h aU6:Heap}{H₁:AH}(F:N8 g env m aU6 H₁)(F':N8 g env m' h H)(C:Goes (fun b=>P b\/b=env.locals) aU6 H₁ h H)(np:∀y c,env.cells.lookup y=some c->¬P c)(hm:∀x p,m.lookup x=some p->env.kindOf (g.tab x)=some .cell\/env.kindOf (g.tab x)=some .free):N8 g env m h H:=by
 obtain⟨mv,N,_⟩:=F'.ns
 refine⟨F.kind,F.globs,F.zL,⟨mv,N,fun x p e k=>?_⟩,fun x p e k=>?_,F.kinds,F'.Cz,F.zM,F'.cells,F.inj,F.has⟩
 ·rcases hm x p e with z|z<;>rw [z] at k<;>cases k
 ·obtain⟨c,v,e1,⟨o,e3,e4⟩,r⟩:=F.cell x p e k
  refine⟨c,v,e1,⟨o,C.keep c o e3 (F.cells _ _ e1).1 fun z=>z.elim (np _ c e1) fun z=>?_,e4⟩,r.keeps C.M5⟩
  obtain⟨mv,⟨oL,es,ep,eL,dL,_⟩,_⟩:=F.ns
  rw [z,eL] at e3
  cases e3
  rw [dL] at e4
  cases e4
noncomputable def YS(jh:CT)(w1:Loc->AH->(PV->AH->Prop)->Prop)(ji:CT)(wi:Loc->AH->(Bool->AH->Prop)->Prop)(we:Loc->AH->(PV->AH->Prop)->Prop)(it0:AH->Option (List PV))(l0:List PV)(D:Addr)(m:Loc)(fin:List PV->AH->Prop):List PV->List PV->AH->Prop
 | [],acc,H=>fin acc H
 |q::r,acc,H=>lk (bindC H jh q m) fun m₁=>w1 m₁ H fun p H₁=>(H₁ D=some (.list acc)/\p≠.obj D)/\Yy p (lk (itemsOf H₁ p) fun l1=>WC ji wi we (fun H=>itemsOf H p) l1 D (fun acc' H'=>it0 H'=some l0/\YS jh w1 ji wi we it0 l0 D m fin r acc' H') l1 acc m₁ H₁)
theorem qM{scope:Scope}{pos:Pos}{Fp:Addr->Prop}{acc₀:List PV}{jh ji:CT}{HJ Rg elt i0 i1:PE}{ifs:List PE}{x:Mi g}{l:List PV}{I D:Addr}{R':Result->Shared->Prop}{fin:List PV->AH->Prop}{s₁:Shared}{H₁:AH}{w1:Loc->AH->(PV->AH->Prop)->Prop}{wi:Loc->AH->(Bool->AH->Prop)->Prop}{we:Loc->AH->(PV->AH->Prop)->Prop}(hg:N6 g)(R:R8 n A)
  (ht0:rJ g.tab jh HJ) (hk0:∀x∈jh.xs,env.kindOf (g.tab x)=some .local) (ht1:rJ g.tab ji Rg) (hk1:∀x∈ji.xs,env.kindOf (g.tab x)=some .local) (h1:∀m H Q,w1 m H Q->Ev g n env m H i1 Q) (hf:∀x,foldedSetIterable i1 env x=pure x)
  (he:∀m H Q,we m H Q->Ev g n env m H elt Q) (hi:cQ g n env ifs wi) (ok:tW x HJ) (a1:∀b,x.pl I b->s₁.heap.get? b=none) (a3:s₁.heap.get? env.locals=none\/Fp env.locals) (bI:∀b,x.pl I b->g.h₀.get? b=none)
  (ap:∀b,(b=env.locals\/∃x,env.cells.lookup x=some b)->¬x.pl I b) (hm:∀x p,m.lookup x=some p->env.kindOf (g.tab x)=some .cell\/env.kindOf (g.tab x)=some .free)
  (K:∀s' H' acc,M4 g s' H'->H' D=some (.list acc)->fin acc H'->Goes Fp s₁.heap H₁ s'.heap H'->N8 g env m s'.heap H'->R' (.ok .next) s')
  (h:CI g env Fp x l I D (fun r acc O H=>YS jh w1 ji wi we x.items l D m fin r acc H) s₁ H₁ 0 m acc₀ H s):
  codeAny (model g.prog g.w) A (.compLoop (.ListComp elt [⟨HJ,i0,[],0⟩,⟨Rg,i1,ifs,0⟩] scope pos) 0 (.ref I) (.ref D) env) R' s:=by
 refine Nf hf (fun j s' => ∃i H' acc,i+j=l.length/\CI g env Fp x l I D (fun r acc O H=>YS jh w1 ji wi we x.items l D m fin r acc H) s₁ H₁ i m acc H' s') (fun j s' hj=>?_) l.length ⟨0,H,acc₀,z6 _,h⟩
 obtain⟨i,H',acc,hij,ci⟩:=hj
 cases j with
 |succ j=>
  have hlt:i<l.length:=by exact Mine.Internal.eqs ‹_›
  have hd:l.drop i=l[i]::l.drop (i+1):=List.drop_eq_getElem_cons hlt
  have w:=ci.w
  rw [hd] at w
  obtain⟨m₁,aZ7,w⟩:=U8 w
  refine j6 (ok.next (P:=fun v aU2=>Rep g.tab aU2.heap H' l[i] v/\M4 g aU2 H'/\Goes (x.pl I) s'.heap H' aU2.heap H'/\x.st I (i+1) aU2.heap H') ci.S ci.xi ci.hI bI ci.el (o7 hlt) fun v aU2 a b c d=>⟨a,b,c,d⟩) (fun r sn z=>?_) fun O O x=>x.elim
  cases r with
  |none=>exact z.elim
  |some aX4=>
  refine j6 (show wpAny _ A (letOwnedTupleGo HJ (.ref I) aX4) _ _ sn from z) (fun O aU2 z=>?_) fun O O x=>x.elim
  obtain⟨aX6,aU3,aU7,aX0⟩:=z
  refine j6 (Dk hg ht0 hk0 R aU3 (ci.F.CG aU7 ap) aX6 aZ7) (fun O aU5 z=>?_) fun O O x=>x.elim
  obtain⟨aV2,aW2,aV3⟩:=z
  refine(h1 _ _ _ w).then R aV2 aW2 fun u aV7 p aW5 rp aW0 aW6 aX1 k=>?_
  obtain⟨⟨hD,npD⟩,k⟩:=k
  obtain⟨okp,k⟩:=k.src
  obtain⟨l1,el1,k⟩:=U8 k
  have nL:∀b,x.pl I b->b≠env.locals:=fun b hb z=>ap env.locals (.inl rfl) (z▸hb)
  have h5:∀b,x.pl I b->aW5 b=none:=fun b hb=>G4 fun z=>by
   obtain⟨o,eo⟩:=ok.has aX0 hb
   exact nomatch (aW6.new b (ci.hI b hb) z).symm.trans (aV3.keep b o eo (ci.hI b hb) (nL b hb))
  refine cN aW0 rp el1 okp fun I1 bb5 aY7 aY8 bc2 f1 f2 f3=>?_
  have loop:=ud (Fp:=fun b=>b=env.locals) (gens:=[⟨HJ,i0,[],0⟩,⟨Rg,i1,ifs,0⟩]) (dp:=1) (scope:=scope) (pos:=pos) (iter:=i1) (acc₀:=acc) (s₁:=aV7) (H₁:=aW5) (x:=Vo g p) (R':=fun r aV7=>match r with | .ok _ => ∃k,k<j+1/\∃i H' acc,i+k=l.length/\CI g env Fp x l I D (fun r acc O H=>YS jh w1 ji wi we x.items l D m fin r acc H) s₁ H₁ i m acc H' aV7 | .error _=>False)
   (fin:=fun acc' H'=>x.items H'=some l/\YS jh w1 ji wi we x.items l D m fin (l.drop (i+1)) acc' H') (fun O O O=>rfl) hg R ht1 hk1 he hi (zZ p) (fun b z=>z▸f1) (.inr rfl) (fun b z=>z▸f3) (fun c w z=>aX1.apart f1 c w z) (fun H o e=>yu npD e)
   (fun aZ8 aY9 be6 be2 aZ9 be3 bb2 be4 be5=>by
    have G':Goes (fun b=>b=env.locals) aU2.heap H' aZ8.heap aY9:=aV3.trans ((aW6.weak fun O z=>z.elim).trans be4)
    have G:Goes (fun b=>x.pl I b\/b=env.locals) s'.heap H' aZ8.heap aY9:=(aU7.weak fun b z=>.inl z).trans (G'.weak fun b z=>.inr z)
    refine⟨j,H9 j,i+1,aY9,be2,by exact Mine.Internal.eqt ‹_›,aZ9,ci.F.ap3 be5 G (fun y c e=>ap c (.inr ⟨y,e⟩)) hm,?_,ok.keeps aX0 (fun b o hb e=>G'.keep b o e (ci.hI b hb) (nL b hb)) G'.M5 (bb2.1.trans ci.el.symm),bb2.1,fun b hb=>G4 fun z=>?_,be3,bb2.2⟩
    ·exact((ci.C.weak (F':=fun b=>Fp b\/x.pl I b\/b=env.locals) fun O z=>.inl z).trans (G.weak fun b z=>.inr z)).drop fun b z=>z.elim .inr fun z=>z.elim (fun w=>.inl (a1 b w)) fun w=>w▸a3
    ·obtain⟨o,eo⟩:=ok.has aX0 hb
     exact nomatch eo.symm.trans (G'.new b (ci.hI b hb) z)) ⟨aY7,aX1.goes aY8,aY8.weak fun O z=>z.elim,bc2,el1,fun b z=>z▸f2,hD,k⟩
  exact HF loop (yt R.handled aY7 bc2 loop)
 |zero=>
  obtain rfl:i=l.length:=by exact ‹_›
  have w:=ci.w
  rw [List.drop_length] at w
  refine j6 (ok.fin (P:=fun aU2 => ∃h',aU2={s' with heap:=h'}/\M4 g {s' with heap:=h'} H'/\(∀b o,¬x.pl I b->s'.heap.get? b=some o->h'.get? b=some o)/\T7 s'.heap H' h' H') R.handled ci.S ci.xi ci.hI bI ci.el fun h' a b c=>⟨h',rfl,a,b,c⟩) (fun r sn z=>?_) fun O O x=>x.elim
  cases r with
  |some _=>exact z.elim
  |none=>
  obtain⟨h',rfl,aU3,B,aW1⟩:=z
  exact K _ H' acc aU3 ci.hD w (ci.C.ZR B a1 aW1) (ci.F.yc (fun b o e O w=>B b o (ap b w) e) (fun x O z O=>z) aW1)
end
section
variable{τ:T}{g:G τ}{n:Nat}{env:Env}{m:Loc}{H:AH}{A:Around}{s:Shared}
noncomputable def Kf(m:Loc)(caps:List Nat)(jh:CT)(w1:Loc->AH->(PV->AH->Prop)->Prop)(ji:CT)(wi:Loc->AH->(Bool->AH->Prop)->Prop)(we:Loc->AH->(PV->AH->Prop)->Prop)(fin:List PV->AH->Prop)(it:AH->Option (List PV))(l:List PV)(H:AH):Prop:=
 ∀D,H D=none->YS jh w1 ji wi we it l D (R9 caps m) (fun acc H'=>fin acc (del H' D)) l [] (upd H D (.list []))
theorem yM{scope:Scope}{caps:List Nat}{C:Addr}(sc:eU g scope caps):∀y p,(R9 caps m).lookup y=some p->(compEnvC scope (R5 env scope.names []) C env).kindOf (g.tab y)=some .cell\/(compEnvC scope (R5 env scope.names []) C env).kindOf (g.tab y)=some .free:=fun y p e=>by
 have z:(compEnvC scope (R5 env scope.names []) C env).kindOf (g.tab y)=some (if(NameKind.free==NameKind.free&&env.scope.kind == .function&&env.kindOf (g.tab y)==some .cell)=true then NameKind.cell else NameKind.free):=T4 (sc.ZV y (W7 e).2)
 rw [z]
 cases(NameKind.free==NameKind.free&&env.scope.kind == .function&&env.kindOf (g.tab y)==some .cell) with
 |true=>exact .inl rfl
 |false=>exact .inr rfl
theorem Ev.Kg{scope:Scope}{caps:List Nat}{jh ji:CT}{HJ Rg elt i0 i1:PE}{ifs:List PE}{pos:Pos}{w1:Loc->AH->(PV->AH->Prop)->Prop}{wi:Loc->AH->(Bool->AH->Prop)->Prop}{we:Loc->AH->(PV->AH->Prop)->Prop}{Q:PV->AH->Prop}(hg:N6 g)(sc:eU g scope caps)(hcap:∀x∈caps,env.kindOf (g.tab x)=some .cell\/env.kindOf (g.tab x)=some .free)(hb:∀x∈caps,∃q,m.lookup x=some q)
  (ht0:rJ g.tab jh HJ) (hk0:∀x∈jh.xs,scope.names.lookup (g.tab x)=some .local) (ht1:rJ g.tab ji Rg) (hk1:∀x∈ji.xs,scope.names.lookup (g.tab x)=some .local) (hf:∀x,foldedSetIterable i0 env x=pure x) (hf1:∀env' x,foldedSetIterable i1 env' x=pure x)
  (h1:∀env',env'.scope=relabel scope env->∀m H Q,w1 m H Q->Ev g n env' m H i1 Q) (he:∀env',env'.scope=relabel scope env->∀m H Q,we m H Q->Ev g n env' m H elt Q) (hi:∀env',env'.scope=relabel scope env->cQ g n env' ifs wi)
  (h:Hl g n env m H i0 HJ (Kf m caps jh w1 ji wi we fun acc H'=>Q (.lst acc) H')):Ev g n env m H (.ListComp elt [⟨HJ,i0,[],0⟩,⟨Rg,i1,ifs,0⟩] scope pos) Q:=fun A s R S F=>by
 have hcl:∀x∈scope.names,x.2 = .free->∃c,env.cells.lookup x.1=some c:=fun x hx hfree=>by
  obtain⟨y,hy,e⟩:=sc.free x hx hfree
  obtain⟨p,hp⟩:=hb y hy
  obtain⟨c,_,e1,_⟩:=F.cell y p hp (hcap y hy)
  exact⟨c,by rw [<- e];exact e1⟩
 rw [eval_ListComp]
 refine wpAny_comprehension_free (use:=none) rfl hf (aR hcl) sc.kind sc.names (h A s R S F _ _ fun x I l s₁ aU0 H₁ aU4 aT7 aT8 aU1 k=>?_)
 have loc:∀ct:CT,(∀x∈ct.xs,scope.names.lookup (g.tab x)=some .local)->∀C,∀x∈ct.xs,(compEnvC scope (R5 env scope.names []) C env).kindOf (g.tab x)=some .local:=fun ct hk C x hx=>by
  show(relabel scope env).names.lookup _=_
  rw [T4 (hk x hx)]
  rfl
 refine pK (RR:=fun acc C=>compPost (model g.prog g.w) A (fun O O=>False) none (aX g s H Q) acc C) (fin:=fun D acc H'=>Q (.lst acc) (del H' D)) hg R sc hcap hb aT7 aU1 aU4 (fun D C aU5 aV2 Fc aV4 xI Ov uI sC d2 ap np K'=>qM (Fp:=fun O=>False) (s₁:=s₁) (H₁:=H₁) (fin:=fun acc H'=>Q (.lst acc) (del H' D)) hg R ht0 (loc jh hk0 C) ht1 (loc ji hk1 C) (h1 _ rfl) (hf1 _) (he _ rfl) (hi _ rfl) aU4.ok aU4.f1 (.inl sC) aU4.f3 ap (fun y p e=>?_)
   (fun s' H' acc S' hD' hf C' F'=>K' s' H' _ acc S' hD' hf C' F') ⟨aV2,Fc,aV4,xI,Ov,uI,p8 ..,k _ d2⟩) fun D C s' H' acc S' hD' hf C' sD hD sC hC ZX ⟨mc,o,hns,eo,nd⟩=>⟨mc,hns,fun h' B=>?_⟩
 ·exact yM sc y p e
 ·obtain⟨aT6,aX9⟩:=sS S' eo nd hC ZX B.extBut s'.toks
  have aW9:Calm s.heap H h' H':=(aT8.trans C').ext B.extBut (by
   cases e:s.heap.get? C with
   |none=>rfl
   |some o=>obtain⟨o',e'⟩:=aT8.ex C o e;rw [sC] at e';cases e') aX9
  have sD':s.heap.get? D=none:=by
   cases e:s.heap.get? D with
   |none=>rfl
   |some o=>obtain⟨o',e'⟩:=aT8.ex D o e;rw [sD] at e';cases e'
  obtain⟨aU3,aV9,r⟩:=sU aT6 hD' aW9 sD'
  exact⟨.lst acc,_,r,aU3,aV9,hf⟩
theorem dF.Rh{scope:Scope}{caps:List Nat}{jh ji:CT}{HJ Rg elt i0 i1:PE}{ifs:List PE}{pos pos' spos:Pos}{x:Nat}{w1:Loc->AH->(PV->AH->Prop)->Prop}{wi:Loc->AH->(Bool->AH->Prop)->Prop}{we:Loc->AH->(PV->AH->Prop)->Prop}{Q:Out->Loc->AH->Prop}(hg:N6 g)(sc:eU g scope caps)(hcap:∀x∈caps,env.kindOf (g.tab x)=some .cell\/env.kindOf (g.tab x)=some .free)(hb:∀x∈caps,∃q,m.lookup x=some q)
  (ht0:rJ g.tab jh HJ) (hk0:∀x∈jh.xs,scope.names.lookup (g.tab x)=some .local) (ht1:rJ g.tab ji Rg) (hk1:∀x∈ji.xs,scope.names.lookup (g.tab x)=some .local) (hf:∀x,foldedSetIterable i0 env x=pure x) (hf1:∀env' x,foldedSetIterable i1 env' x=pure x)
  (h1:∀env',env'.scope=relabel scope env->∀m H Q,w1 m H Q->Ev g n env' m H i1 Q) (hx:env.kindOf (g.tab x)=some .local)
  (hs:swapsWith (.ListComp elt [⟨HJ,i0,[],0⟩,⟨Rg,i1,ifs,0⟩] scope pos) (some (.Name (g.tab x) pos')) spos.line env=pure true)
  (he:∀env',env'.scope=relabel scope env->∀m H Q,we m H Q->Ev g n env' m H elt Q) (hi:∀env',env'.scope=relabel scope env->cQ g n env' ifs wi) (h:Hl g n env m H i0 HJ (Kf m caps jh w1 ji wi we fun acc H'=>Q .next (w7 x (.lst acc) m) H')):dF g n env m H (.Assign [.Name (g.tab x) pos'] (.ListComp elt [⟨HJ,i0,[],0⟩,⟨Rg,i1,ifs,0⟩] scope pos) spos) Q:=fun A s R S F=>by
 have hcl:∀x∈scope.names,x.2 = .free->∃c,env.cells.lookup x.1=some c:=fun x hx hfree=>by
  obtain⟨y,hy,e⟩:=sc.free x hx hfree
  obtain⟨p,hp⟩:=hb y hy
  obtain⟨c,_,e1,_⟩:=F.cell y p hp (hcap y hy)
  exact⟨c,by rw [<- e];exact e1⟩
 rw [exec_Assign_Name_used _ _ _ _ hs]
 refine c7 (I8 (c7 ?_))
 show wpAny _ A (do let _ <- comprehension (.ListComp elt [⟨HJ,i0,[],0⟩,⟨Rg,i1,ifs,0⟩] scope pos) scope env _ (newList []) false (eval i0 env) (some (PySem.assign (.Name (g.tab x) pos') env))) _ _ s
 refine c7 (j6 (wpAny_comprehension_free (use:=some (PySem.assign (.Name (g.tab x) pos') env)) (Q:=fun O s'=>GD g env s H Q .next s') (E:=fun O O=>False) rfl hf (aR hcl) sc.kind sc.names (h A s R S F _ _ fun xx I l s₁ aU0 H₁ aU4 aT7 aT8 aU1 k=>?_)) (fun O s' hq=>j4 (j4 hq)) fun O O e=>e)
 have loc:∀ct:CT,(∀x∈ct.xs,scope.names.lookup (g.tab x)=some .local)->∀C,∀x∈ct.xs,(compEnvC scope (R5 env scope.names []) C env).kindOf (g.tab x)=some .local:=fun ct hk C x hx=>by
  show(relabel scope env).names.lookup _=_
  rw [T4 (hk x hx)]
  rfl
 refine pK (RR:=fun acc C=>compPost (model g.prog g.w) A (fun O O=>False) (some (PySem.assign (.Name (g.tab x) pos') env)) (fun O s'=>GD g env s H Q .next s') acc C) (fin:=fun D acc H'=>Q .next (w7 x (.lst acc) m) (del H' D)) hg R sc hcap hb aT7 aU1 aU4 (fun D C aU5 aV2 Fc aV4 xI Ov uI sC d2 ap np K'=>qM (Fp:=fun O=>False) (s₁:=s₁) (H₁:=H₁) (fin:=fun acc H'=>Q .next (w7 x (.lst acc) m) (del H' D)) hg R ht0 (loc jh hk0 C) ht1 (loc ji hk1 C) (h1 _ rfl) (hf1 _) (he _ rfl) (hi _ rfl) aU4.ok aU4.f1 (.inl sC) aU4.f3 ap (yM sc)
   (fun s' H' acc S' hD' hf C' F'=>K' s' H' _ acc S' hD' hf C' F') ⟨aV2,Fc,aV4,xI,Ov,uI,p8 ..,k _ d2⟩) fun D C s' H' acc S' hD' hf C' sD hD sC hC ZX ⟨mc,o,hns,eo,nd⟩=>?_
 have sC':s.heap.get? C=none:=by
  cases e:s.heap.get? C with
  |none=>rfl
  |some o=>obtain⟨o',e'⟩:=aT8.ex C o e;rw [sC] at e';cases e'
 have sD':s.heap.get? D=none:=by
  cases e:s.heap.get? D with
  |none=>rfl
  |some o=>obtain⟨o',e'⟩:=aT8.ex D o e;rw [sD] at e';cases e'
 have ba0:=aT8.trans C'
 have nCL:C≠env.locals:=fun z=>by
  obtain⟨mv,⟨oL,es,ep,eL,_⟩,_⟩:=F.ns
  rw [<- z,sC'] at eL;cases eL
 -- the value,as it is called behind the store
 have fin:∀q aU9,M4 g s' aU9->Calm s.heap H s'.heap aU9->aU9 C=none->Rep g.tab s'.heap aU9 q (.ref D)->Q .next (w7 x q m) aU9->
   wpAny (model g.prog g.w) A (PySem.assign (.Name (g.tab x) pos') env (.ref D)) (fun O s'' => ∃m,s''.heap.Ns C m/\∀h',Heap.SameBut C s''.heap h'->GD g env s H Q .next {s'' with heap:=h'}) (fun O O=>False) s':=by
  intro q aU9 aU3 aV9 hC3 r3 q3
  refine assign_Name (j6 (fD hg aU3 (F.goes aV9) hx r3) (fun O aU5 ⟨aV2,aW2,aV3⟩=>?_) fun O O x=>x)
  have eo4:=aV3.keep C o eo hC3 nCL
  obtain⟨o',es',ep',n1,n2⟩:=hns
  rw [eo] at n1;cases n1
  refine⟨mc,⟨o,es',ep',eo4,n2⟩,fun h' B=>?_⟩
  obtain⟨aW0,aY0⟩:=sS aV2 eo4 nd hC3 ZX B.extBut aU5.toks
  have aX1:N8 g env (w7 x q m) h' aU9:=aW2.yc (fun b o e O w=>B.extBut b o (fun z=>by
   subst z
   rcases w with w|⟨y,w⟩
   ·exact nCL w
   ·obtain⟨_,_,v,⟨oc,ec,_⟩⟩:=F.cells y _ w
    rw [sC'] at ec;cases ec) e) (fun x O z O=>z) aY0
  exact⟨.next,_,aU9,rfl,aW0,aX1,(aV9.own.trans (aV3.weak fun b z=>.inl z)).ext B.extBut sC' aY0,q3⟩
 show wpAny _ A (PySem.assign (.Name (g.tab x) pos') env (.ref D)) _ _ _
 obtain⟨aU3,aV9,r⟩:=sU S' hD' ba0 sD'
 exact fin (.lst acc) _ aU3 aV9 (by unfold del;split;rfl;exact hC) r hf
end
noncomputable def gens:PE->List Comprehension
 |.ListComp _ gs _ _=>gs
 |_=>[]
noncomputable def gAt{α:Type}(e:PE)(i:Nat)(f:Comprehension->α)(d:α):α:=match(gens e)[i]? with
 |some c=>f c
 |none=>d
noncomputable abbrev gT(e:PE)(i:Nat):PE:=gAt e i (·.target) default
noncomputable abbrev gI(e:PE)(i:Nat):PE:=gAt e i (·.iter) default
noncomputable abbrev gF(e:PE)(i:Nat):List PE:=gAt e i (·.ifs) []
noncomputable def ap4(caps:List Nat)(jh ji:CT)(elt i0 i1:X)(ifs:List X)(sc:List (Nat×NameKind))(τ:T)(ns:Ns)(e:PE):Bool:=
 (Hp τ.tab caps ns (cU τ.tab sc)&&(jh.xs.all (fun x=>qK .local (cU τ.tab sc).names (τ.tab x))&&(ji.xs.all (fun x=>qK .local (cU τ.tab sc).names (τ.tab x))&&Nat.ble ifs.length 1))) &&
  ((elt.ok τ (cU τ.tab sc).names (kid e 0)&&i0.ok τ ns (gI e 0))&&(i1.ok τ (cU τ.tab sc).names (gI e 1)&&Ad τ (cU τ.tab sc).names ifs (gF e 1)))
noncomputable def kC2{τ:T}(g:G τ)(n:Nat)(caps:List Nat)(jh ji:CT)(elt i1:X)(ifs:List X)(m:Loc)(Q:PV->AH->Prop)(p:PV)(H:AH):Prop:=
 Yy p (lk (itemsOf H p) fun l=>Kf m caps jh (i1.wE g n) ji (Ag g n ifs) (elt.wE g n) (kLi Q) (fun H=>itemsOf H p) l H)
noncomputable def X.Kg(caps:List Nat)(jh ji:CT)(elt i0 i1:X)(ifs:List X)(sc:List (Nat×NameKind)):X where
 to tab e:=.ListComp (elt.to tab (kid e 0)) [⟨Vx tab (gT e 0) jh,i0.to tab (gI e 0),[],0⟩,⟨Vx tab (gT e 1) ji,i1.to tab (gI e 1),toL tab ifs (gF e 1),0⟩] (cU tab sc) e.pos
 ok:=ap4 caps jh ji elt i0 i1 ifs sc
 wE g n m H Q:=sel (gO m caps) (i0.wE g n m H (kC2 g n caps jh ji elt i1 ifs m Q)) False
 wT O O O O O:=False
 sE hg O O O O O O O h he w:=by
  obtain⟨h1,h2⟩:=n7 h
  obtain⟨h1,h3⟩:=n7 h1
  obtain⟨h3,h4⟩:=n7 h3
  obtain⟨h4,h5⟩:=n7 h4
  obtain⟨h6,h7⟩:=n7 h2
  obtain⟨h6,h8⟩:=n7 h6
  obtain⟨h7,h9⟩:=n7 h7
  obtain⟨s1,s2⟩:=uo (sc:=cU _ sc) rfl he h1
  exact Ev.Kg hg s1 s2 (Y4 w).1 (uh _ _ jh) (fun x hx=>R7 (m9.mp h3 x hx)) (uh _ _ ji) (fun x hx=>R7 (m9.mp h4 x hx)) ((i0.sh _ _).fold _) (fun env'=>(i1.sh _ _).fold env')
   (fun env' hs m H Q w=>i1.sE hg _ h7 (V7.comp hs rfl) w) (fun env' hs m H Q w=>elt.sE hg _ h6 (V7.comp hs rfl) w) (fun env' hs=>ab4 hg h9 h5 (V7.comp hs rfl)) (Hl.of (i0.sE hg _ h8 he (Y4 w).2))
 sT O O O O O O O O O O w:=w.elim
 sh O O:=⟨fun O O=>rfl,fun O O=>rfl,fun O=>rfl⟩
 bs:=true
 sb O O O O O:=rfl
 nc:=false
 sn h:=nomatch h
 nt:=true
 st O O O O O O O:=rfl
noncomputable def S.Ri(x:Nat)(caps:List Nat)(jh ji:CT)(elt i0 i1:X)(ifs:List X)(sc:List (Nat×NameKind)):S:=⟨fun tab s=>.Assign [.Name (tab x) (O7 s 0).pos] ((X.Kg caps jh ji elt i0 i1 ifs sc).to tab (O7 s 1)) s.pos,fun τ ns s=>(qK .local ns (τ.tab x)&&(((O7 s 0).pos.line==(O7 s 1).pos.line)&&Dq (τ.tab x) (cU τ.tab sc)))&&ap4 caps jh ji elt i0 i1 ifs sc τ ns (O7 s 1),fun g n m H Q=>sel (gO m caps) (i0.wE g n m H (kC2 g n caps jh ji elt i1 ifs m (kAc m Q x))) False,fun{τ O} hg O env O O O O s h he w=>by
  obtain⟨h0,h⟩:=n7 h
  obtain⟨h1,h2⟩:=n7 h
  obtain⟨h1,h3⟩:=n7 h1
  obtain⟨h3,h4⟩:=n7 h3
  obtain⟨h4,h5⟩:=n7 h4
  obtain⟨h6,h7⟩:=n7 h2
  obtain⟨h6,h8⟩:=n7 h6
  obtain⟨h7,h9⟩:=n7 h7
  obtain⟨s1,s2⟩:=uo (sc:=cU τ.tab sc) rfl he.ok h1
  have loc:=he.ok.look _ _ (R7 (n7 h0).1) nofun
  refine dF.Rh hg s1 s2 (Y4 w).1 (uh _ _ jh) (fun x hx=>R7 (m9.mp h3 x hx)) (uh _ _ ji) (fun x hx=>R7 (m9.mp h4 x hx)) ((i0.sh _ _).fold _) (fun env'=>(i1.sh _ _).fold env')
   (fun env' hs m H Q w=>i1.sE hg _ h7 (V7.comp hs rfl) w) loc ?_ (fun env' hs m H Q w=>elt.sE hg _ h6 (V7.comp hs rfl) w) (fun env' hs=>ab4 hg h9 h5 (V7.comp hs rfl)) (Hl.of (i0.sE hg _ h8 he.ok (Y4 w).2))
  show(pure (env.blockKind == .function&&env.kindOf (τ.tab x)==some .local&&(O7 s 0).pos.line==(O7 s 1).pos.line&&Dq (τ.tab x) (cU τ.tab sc)):Sem Bool)=pure true
  rw [he.bk,loc,(n7 (n7 h0).2).1,(n7 (n7 h0).2).2]
  rfl⟩
noncomputable def S.yN(x:Nat)(caps:List Nat)(ct:CT)(elt iter:X)(ifs:List X)(sc:List (Nat×NameKind)):S:=⟨fun tab s=>.Assign [.Name (tab x) (O7 s 0).pos] (toK ct elt iter ifs sc tab (O7 s 1)) s.pos,fun τ ns s=>qK .cell ns (τ.tab x)&&okK caps ct elt iter ifs sc τ ns (O7 s 1),fun g n m H Q=>wpK g n caps ct elt iter ifs m H (kAc m Q x),fun{τ O} hg O env O O O O s h he w=>by
  have loc:=he.ok.look _ _ (R7 (n7 h).1) nofun
  refine dF.asg (sole ?_) rfl rfl (((X.comp caps ct elt iter ifs sc).sE hg _ (n7 h).2 he.ok w).mono fun p H₁ w=>As.name hg (.inr loc) w)
  show(pure (env.blockKind == .function&&env.kindOf (τ.tab x)==some .local&&(O7 s 0).pos.line==(O7 s 1).pos.line&&Dq (τ.tab x) (cU τ.tab sc)):Sem Bool)=pure false
  rw [he.bk,loc]
  rfl⟩
theorem Rj{K J:Type}{f:K->J}{tab:Nat->Str}{h:Heap}{H:AH}{l:List (K×PV)}{kvs:List (J×Value)}(r:gD f tab h H l kvs):kvs.length=l.length:=by
 induction r with
 |nil=>rfl
 |cons _ _ ih=>exact congrArg (·+ 1) ih
section
variable{τ:T}{g:G τ}{n:Nat}{H:AH}{Q:PV->AH->Prop}
theorem Ng{o:Addr}{l:List (Int×PV)}(hg:N6 g)(e:H o=some (.N5 l))(hz:l.length<=sizeLine)(q:∀a,H a=none->Q (.obj a) (upd H a (.N5 l))):Cl g n (.typ "dict") [.obj o] H Q:=.t1 fun A s v R S r=>by
 cases r
 obtain⟨kvs,hd,kr⟩:=S.obj _ _ e
 have ne:(o==sysModules)=false:=s8.mpr fun z=>hg.mods (z▸S.fresh o (by rw [e];simp))
 have len:kvs.length=l.length:=Rj kr
 obtain⟨f1,f2,f3⟩:=dN S
 refine kt_call_dict ne hd (by rw [len];exact hz) fun h' d B=>?_
 obtain⟨aT7,aT8⟩:=S.track (o:=.N5 []) (x:={cls:=.type "dict",data:=.dict #[]}) rfl ⟨[],Heap.DictOf.new ..,.nil⟩
 have aX9:T7 _ _ h' (upd (upd H s.heap.objs.size (.N5 [])) s.heap.objs.size (.N5 l)):=aL aT7 (p8 ..) B
 obtain⟨aT6,aT9⟩:=aT7.turn (o':=.N5 l) (p8 ..) B ⟨kvs,d,(kr.keeps aT8.M5).keeps aX9⟩ s.toks
 rw [V2] at aT6 aT9
 exact⟨.obj _,_,rfl,aT6,aT8.trans aT9,q _ f2⟩
noncomputable def PV.ad1 : PV->Option Bool
 |.tup _=>some true
 |.none=>some false
 |.bool _=>some false
 |.int _=>some false
 |.str _=>some false
 |_=>Option.none
theorem aN{p:PV}{b:Bool}(e:p.ad1 = some b)(q:Q (.bool b) H):Cl g n (.blt "isinstance") [p,.typ "tuple"] H Q:=.b2 fun A s v u R S rp ru=>by
 cases ru
 cases p with
 |none=>cases e;cases rp;exact PySem.IsiPair.NoneType_tuple (M8 (p:=.bool false) S rfl q _)
 |bool c=>cases e;cases rp;exact PySem.IsiPair.bool_tuple (M8 (p:=.bool false) S rfl q _)
 |int i=>cases e;obtain⟨t,rfl⟩:=rp;exact PySem.IsiPair.int_tuple (M8 (p:=.bool false) S rfl q _)
 |str x=>cases e;obtain⟨t,rfl⟩:=rp;exact PySem.IsiPair.str_tuple (M8 (p:=.bool false) S rfl q _)
 |tup l=>cases e;obtain⟨a,vs,k,rfl,o,_⟩:=rp;exact PySem.IsiPair.tuple_tuple o rfl (M8 (p:=.bool true) S rfl q s.toks)
 |_=>exact nomatch (show(Option.none:Option Bool)=some b from e)
end
noncomputable def jj{α:Type}(lt:Nat->Nat->Bool):KasT α->α
 |.ret a=>a
 |.ask i j k=>jj lt (k (lt i j))
noncomputable def yO{α:Type}(n:Nat):KasT α->Bool
 |.ret _=>true
 |.ask i j k=>(Nat.blt i n&&Nat.blt j n)&&(yO n (k true)&&yO n (k false))
theorem Rk{n:Nat}(h2:2<=n)(h4:n<=4):yO n (kas_sort n)=true:=by
 have e:n=2\/n=3\/n=4:=by lia
 rcases e with rfl|rfl|rfl<;>kernel_rfl
theorem uK{α:Type}{lt:Nat->Nat->Bool}{cmp:Nat->Nat->(Bool->Shared->Prop)->Shared->Prop}{s:Shared}{n:Nat}(hc:∀i j,i<n->j<n->∀(C:Bool->Shared->Prop),C (lt i j) s->cmp i j C s){Q:α->Shared->Prop}:∀t:KasT α,yO n t=true->Q (jj lt t) s->t.kasWp cmp Q s
 |.ret _,_,h=>h
 |.ask i j k,hi,h=>by
  have z:=q9.mp (show((Nat.blt i n&&Nat.blt j n)&&(yO n (k true)&&yO n (k false)))=true from hi)
  have y:=q9.mp z.1
  have x:=q9.mp z.2
  refine hc i j (d9 y.1) (d9 y.2) _ (uK hc (k (lt i j)) ?_ h)
  cases lt i j with
  |true=>exact x.1
  |false=>exact x.2
section
variable{prog:Program}{w:World}{A:Around}{E:Value->Shared->Prop}{s:Shared}
noncomputable def dR(lt:Nat->Nat->Bool)(vs:List Value):Array Value:=@Bool.rec (fun O=>Array Value) ((jj lt (kas_sort vs.length)).map fun i=>vs.getD i Value.none) vs.toArray (Nat.blt vs.length 2)
theorem Ax{a:Addr}{vs:List Value}{n:Nat}{κ:SortKind}{lt:Nat->Nat->Bool}{P:PySem.Fin->Shared->Prop}(ho:s.heap.get? a=some (seqObj "list" vs.toArray n))(h64:vs.length<=4)
  (hk:2<=vs.length->∀h,(∀b o,b≠a->s.heap.get? b=some o->h.get? b=some o)->∀Q:SortKind->Shared->Prop,Q κ {s with heap:=h}->wpAny (model prog w) A (keyKind' vs.toArray) Q (fun O O=>False) {s with heap:=h})
  (hc:∀h,(∀b o,b≠a->s.heap.get? b=some o->h.get? b=some o)->∀i j,i<vs.length->j<vs.length->∀(C:Bool->Shared->Prop),C (lt i j) {s with heap:=h}->kas_ask prog w A κ vs i j C {s with heap:=h})
  (h:P (.done (.ret .none)) {s with heap:=sortedHeap s.heap a vs (dR lt vs)}):wpAny (model prog w) A (Builtin.«list.sort» ⟨[.ref a],[]⟩) P E s:=by
 rw [list_sort_plain]
 have ha:a<s.heap.objs.size:=G8 ho
 refine c7 (listItems_at ho rfl ?_)
 refine c7 (listUpdate_at ho rfl ?_ (by rw [n6,p7];lia) (z8 _))
 obtain⟨e1,ho1⟩:∃e1,(s.heap.update a (Obj.mapSeq fun O => #[])).get? a=some (seqObj "list" #[] e1):=⟨_,get?_update_seq ho (fun O => #[])⟩
 refine c7 (seqEpoch_at ho1 rfl ?_)
 refine c7 (wpAny_newTuple ?_ (by show vs.length<=sizeLine;rw [p7];lia))
 refine c7 (wpAny_newList ?_ (by rw [p7];exact z8 _))
 refine z7 ?_
 let h6:=((s.heap.update a (Obj.mapSeq fun O => #[])).push (seqObj "tuple" vs.toArray 0)).push (seqObj "list" #[] 0)
 have ho6:h6.get? a=some (seqObj "list" #[] e1):=j5 _ (j5 _ ho1)
 have old:∀b o,b≠a->s.heap.get? b=some o->h6.get? b=some o:=fun b o ne e=>j5 _ (j5 _ (((I6 s.heap a (Obj.mapSeq fun O=>(#[]:Array Value))).2 b ne).trans e))
 show wpAny (model prog w) A _ P E {s with heap:=h6}
 dsimp only
 by_cases h1:vs.length<2
 ·have n2:vs.toArray.size<2:=by rw [n6];exact h1
  have ob:dR lt vs=vs.toArray:=by unfold dR;rw [show Nat.blt vs.length 2=true from J5 h1]
  rw [ob] at h
  rw [if_pos n2,if_pos n2]
  refine c7 (j4 ?_)
  rw [StateT.run_pure]
  refine c7 (j4 ?_)
  dsimp only
  refine c7 (seqEpoch_at ho6 rfl ?_)
  have e0:(arrOf (SortSt.mk' general' (vs.toArray.zip vs.toArray) #[] 7 none)).map (·.2)=vs.toArray:=by
   show(vs.toArray.zip vs.toArray).map (·.2)=_
   refine Array.toList_inj.mp ?_
   rw [Array.toList_map,Array.toList_zip,List.map_snd_zip (o9 _)]
  rw [e0]
  refine c7 (listUpdate_at ho6 rfl ?_ (z8 _) (by rw [n6,p7];lia))
  simp only [bne_self_eq_false,K6,if_false]
  exact j4 h
 have h2:2<=vs.length:=Nat.le_of_not_lt h1
 have ob:dR lt vs=(jj lt (kas_sort vs.length)).map fun i=>vs.getD i Value.none:=by
  unfold dR
  cases e:Nat.blt vs.length 2 with
  |true=>exact absurd (d9 e) h1
  |false=>rfl
 have n2:¬vs.toArray.size<2:=by rw [n6];exact h1
 rw [if_neg n2,if_neg n2]
 refine c7 (j6 (hk h2 h6 old (fun k s'=>k=κ/\s'={s with heap:=h6}) ⟨rfl,rfl⟩) (fun k s' z=>?_) fun O O x=>x.elim)
 obtain⟨rfl,rfl⟩:=z
 have st0:SortSt.mk' k (vs.toArray.zip vs.toArray) #[] 7 none=kas_st k (pairsOf vs) (List.toArray (List.range vs.length)):=by
  unfold kas_st
  have z:=kas_range (pairsOf vs)
  rw [pairsOf_size] at z
  rw [z];rfl
 rw [st0]
 have runs:=kas_runs (prog:=prog) (w:=w) (A:=A) (E:=fun O O=>False) (κ:=k) (it:=pairsOf vs) (n:=vs.length) (Q:=fun O st' s'=>((arrOf st').map (·.2)=dR lt vs/\(dR lt vs).size=vs.length)/\failedOf st'=none/\s'={s with heap:=h6}) (G:=fun p s'=>p=jj lt (kas_sort vs.length)/\s'={s with heap:=h6}) (s:={s with heap:=h6}) h2 (G3 h64 (by decide)) (fun p' st' s' hp e1 e2 z=>by
  refine⟨⟨?_,by rw [ob,Array.size_map,<- z.1];exact hp⟩,e2,z.2⟩
  rw [e1,z.1,Array.map_map,ob]
  refine congrArg (fun f=>Array.map f _) (funext fun i=>?_)
  show(kas_item (pairsOf vs) i).2=_
  rw [kas_item_eq]) (by
  rw [<- kas_ask_eq]
  exact uK (fun i j hi hj C q=>hc h6 old i j hi hj C q) _ (Rk h2 h64) ⟨rfl,rfl⟩)
 refine c7 (j6 (show wpAny (model prog w) A _ _ _ _ from runs) ?_ fun O O e=>e.elim)
 rintro⟨⟨⟩,st'⟩ s' ⟨⟨hp,hsz⟩,hf,rfl⟩
 dsimp only at hp hf ⊢
 refine c7 (seqEpoch_at ho6 rfl ?_)
 refine c7 (listUpdate_at ho6 rfl ?_ (z8 _) (by rw [hp,hsz,p7];lia))
 rw [hf,hp]
 simp only [bne_self_eq_false,K6,if_false]
 exact j4 h
theorem Nh{l:Addr}{vs:List Value}{κ:SortKind}{lt:Nat->Nat->Bool}{Q:Value->Shared->Prop}(hl:s.heap.IsList l vs.toArray)(h64:vs.length<=4)
  (hk:2<=vs.length->∀h,(∀b o,s.heap.get? b=some o->h.get? b=some o)->∀Q:SortKind->Shared->Prop,Q κ {s with heap:=h}->wpAny (model prog w) A.in1.in1 (keyKind' vs.toArray) Q (fun O O=>False) {s with heap:=h})
  (hc:∀h,(∀b o,s.heap.get? b=some o->h.get? b=some o)->∀i j,i<vs.length->j<vs.length->∀(C:Bool->Shared->Prop),C (lt i j) {s with heap:=h}->kas_ask prog w A.in1.in1 κ vs i j C {s with heap:=h})
  (h:Q (.ref (s.heap.objs.size+1)) {s with heap:=sortedAll s.heap vs (dR lt vs)}):wpAny (model prog w) A (call (.builtin "sorted") [.ref l]) Q E s:=by
 refine Calls.call_function_entry kind_sorted plain_sorted entry_sorted (args_sorted1 _) ?_
 unfold Builtin.«sorted»
 refine c7 (m:=checkCount "sorted" 1 1 _) (j4 ?_)
 refine c7 (collect_list hl ?_ (by rw [p7];lia))
 refine c7 (wpAny_newList ?_ (by rw [p7];lia))
 let h1:=(s.heap.push (seqObj "list" #[] 0)).update s.heap.objs.size (Obj.mapSeq (·++ vs.toArray))
 have hs1:h1.objs.size=s.heap.objs.size+1:=by show Array.size _=_;rw [Heap.size_update,size_push']
 have hoL:(h1.push (seqObj "list" vs.toArray 0)).get? (s.heap.objs.size+1)=some (seqObj "list" vs.toArray 0):=by
  rw [<- hs1];exact s6 _ rfl
 have old:∀b o,s.heap.get? b=some o->(h1.push (seqObj "list" vs.toArray 0)).get? b=some o:=fun b o e=>j5 _ (((I6 (s.heap.push (seqObj "list" #[] 0)) s.heap.objs.size (Obj.mapSeq (·++ vs.toArray))).2 b (Nat.ne_of_lt (G8 e))).trans (j5 _ e))
 have ne:∀b o,s.heap.get? b=some o->b≠s.heap.objs.size+1:=fun b o e=>Nat.ne_of_lt (Nat.lt_succ_of_lt (G8 e))
 show wpAny _ _ _ _ _ {s with heap:=h1.push (seqObj "list" vs.toArray 0)}
 rw [hs1]
 refine c7 (z7 (wpAny_call_entry slot_list_sort ⟨_,hoL,rfl⟩ entry_list_sort (Ax (κ:=κ) (lt:=lt) hoL h64 (fun h2 h k Q q=>hk h2 h (fun b o e=>k b o (ne b o e) (old b o e)) Q q) (fun h k i j hi hj C q=>hc h (fun b o e=>k b o (ne b o e) (old b o e)) i j hi hj C q) ⟨_,rfl,?_⟩) (args_list_sort _)))
 exact j4 ⟨_,rfl,h⟩
end
section
variable{prog:Program}{w:World}{A:Around}{E:Value->Shared->Prop}{s:Shared}
theorem wL{a b:Addr}{xs ys:List Value}{n k:Nat}{P:PySem.Fin->Shared->Prop}(ho:s.heap.get? a=some (zH xs n))(hy:s.heap.get? b=some (zH ys k))
  (heq:∀p∈xs.zip ys,∀Q:Bool->Shared->Prop,Q true s->wpAny (model prog w) A (eqBool p.1 p.2) Q (fun O O=>False) s) (h:P (.done (.ret (.bool (decide (xs.length<ys.length))))) s):
  wpAny (model prog w) A (Builtin.«tuple.__lt__» ⟨[.ref a,.ref b],[]⟩) P E s:=by
 show wpAny _ _ (isInstance (.ref b) (.type "tuple") >>= _) _ _ s
 refine c7 (wpAny_isInstance (T := "tuple") ⟨_,hy,rfl⟩ isSubtype_tuple_tuple ?_)
 simp only [Bool.not_true,K6,if_false]
 refine c7 (wpAny_tupleItemsOf ho rfl ?_)
 refine c7 (wpAny_tupleItemsOf hy rfl ?_)
 refine c7 ?_
 refine wpAny_forIn_list _ (fun rest r s'=>r.1=none/\s'=s/\∀p∈rest,p∈xs.zip ys) _ ?_ ?_ _ _ ⟨rfl,rfl,fun p hp=>hp⟩
 ·rintro⟨u,v⟩ rest r s' ⟨hr,rfl,hm⟩
  refine c7 (j6 (heq (u,v) (hm _ (.head _)) (fun c s''=>c=true/\s''=s') ⟨rfl,rfl⟩) (fun c s'' z=>?_) fun O O x=>x.elim)
  obtain⟨rfl,rfl⟩:=z
  simp only [Bool.not_true,K6,if_false]
  exact j4 ⟨rfl,rfl,fun p hp=>hm p (.tail _ hp)⟩
 ·rintro⟨r1,r2⟩ s' ⟨hr,rfl,_⟩
  simp only at hr
  subst hr
  refine j4 ?_
  have e:(Builtin.Tuple.tupleCompareSizes .Lt xs.toArray.size ys.toArray.size) = .bool (decide (xs.length<ys.length)):=by rw [n6,n6];rfl
  show P (.done (.ret (Builtin.Tuple.tupleCompareSizes .Lt xs.toArray.size ys.toArray.size))) s'
  rw [e]
  exact h
theorem Rm{a b:Addr}{xs ys:List Value}{n k:Nat}{Q:Value->Shared->Prop}(hu:A.units<cLine)(ho:s.heap.get? a=some (zH xs n))(hy:s.heap.get? b=some (zH ys k))
  (heq:∀p∈xs.zip ys,∀Q:Bool->Shared->Prop,Q true s->wpAny (model prog w) A.in1 (eqBool p.1 p.2) Q (fun O O=>False) s) (h:Q (.bool (decide (xs.length<ys.length))) s):
  wpAny (model prog w) A (richCompare .Lt (.ref a) (.ref b)) Q E s:=
 wpAny_richCompare_same_room (op:=.Lt) (T := "tuple") ⟨_,ho,rfl⟩ ⟨_,hy,rfl⟩ F.slot_tuple_lt
  (wpAny_call_entry F.slot_tuple_lt ⟨_,ho,rfl⟩ F.entry_tuple_lt (wL ho hy heq ⟨_,rfl,(fun e=>nomatch e),h⟩) (F.args_tuple_lt_2 _ _)) hu
end
noncomputable abbrev tI(q:List PV):PV:=.tup [.int 1,.tup q]
noncomputable def ltQ(qs:List (List PV))(i j:Nat):Bool:=decide ((qs.getD i []).length<(qs.getD j []).length)
noncomputable def dU(qs:List (List PV)):List PV:=@Bool.rec (fun O=>List PV) ((jj (ltQ qs) (kas_sort qs.length)).toList.map fun i=>(qs.map tI).getD i .none) (qs.map tI) (Nat.blt qs.length 2)
theorem DR:∀(l k:List PV),PV.eqvs l k=true->l.length=k.length
 | [],k,h=>by cases k with|nil=>rfl|cons _ _=>cases h
 |_::l,k,h=>by
  cases k with
  |nil=>cases h
  |cons y k=>exact congrArg (·+ 1) (DR l k (q9.mp h).2)
section
variable{tab:Nat->Str}{h:Heap}{H:AH}
theorem K4.getD{l:List PV}{vs:List Value}(r:K4 tab h H l vs)(i:Nat):Rep tab h H (l.getD i .none) (vs.getD i .none):=by
 by_cases hi:i<l.length
 ·obtain⟨v,e,q⟩:=K4.get (k:=i) r (o7 hi)
  rw [I9,I9,o7 hi,e]
  exact q
 ·rw [I9,I9,J4 (Nat.le_of_not_lt hi),J4 (by rw [r.length];exact Nat.le_of_not_lt hi)]
  exact rfl
theorem K4.pick{l:List PV}{vs:List Value}(r:K4 tab h H l vs):∀is:List Nat,K4 tab h H (is.map fun i=>l.getD i .none) (is.map fun i=>vs.getD i .none)
 | []=>rfl
 |i::is=>⟨_,_,rfl,r.getD i,K4.pick r is⟩
theorem Kh{R:PV×PV->Prop}:∀{l k:List PV} {vs ws:List Value},K4 tab h H l vs->K4 tab h H k ws->(∀x∈l.zip k,R x)->∀p∈vs.zip ws,∃x,R x/\Rep tab h H x.1 p.1/\Rep tab h H x.2 p.2
 | [],_,_,_,r,_,_,p,hp=>by cases r;cases hp
 |_::_,[],_,_,_,r,_,p,hp=>by cases r;rw [List.zip_nil_right] at hp;cases hp
 |x::l,y::k,_,_,⟨v,vs,e,q,z⟩,⟨u,us,e',q',z'⟩,hR,p,hp=>by
  subst e
  subst e'
  rcases q7.mp hp with rfl|hp
  ·exact⟨(x,y),hR _ (.head _),q,q'⟩
  ·exact Kh z z' (fun x hx=>hR x (.tail _ hx)) p hp
theorem eqB{τ:T}{g:G τ}(hg:N6 g){A:Around}{E:Value->Shared->Prop}{s:Shared}{p q:PV}{u v:Value}{Q:Bool->Shared->Prop}(hu:A.units+60<cLine)(dp:p.isD=true)(dq:q.isD=true)(hd:p.depth<=60)(ru:Rep g.tab s.heap H p u)(rv:Rep g.tab s.heap H q v)(k:Q (p.eqv q) s):
  wpAny (model g.prog g.w) A (eqBool u v) Q E s:=by
 obtain⟨as,a⟩:=X8 p u dp ru
 obtain⟨bs,b⟩:=X8 q v dq rv
 refine PySem.SeqAt.eqBoolOverData g.prog g.w A E s u v _ _ as bs Q a b (Z0 hg.ao _) (Z0 hg.ao _) ?_ (by rw [mR hg.inj _ _ dp dq];exact k)
 rw [fG]
 have:=Nat.min_le_left p.depth (q.toD g.tab).depth
 lia
end
section
variable{τ:T}{g:G τ}{n:Nat}{H:AH}{Q:PV->AH->Prop}
theorem firsts{h:Heap}:∀{qs:List (List PV)} {vs:List Value},K4 g.tab h H (qs.map tI) vs->∃fs,KatTups h vs fs/\fs.length=vs.length/\∀v∈fs,∃t,v = .int 1 t
 | [],_,r=>by cases r;exact⟨[],.nil,rfl,fun O h=>nomatch h⟩
 |q::qs,_,⟨v,vs,e,⟨a,ws,k,e2,o,u,us,e3,⟨t,e4⟩,z⟩,r⟩=>by
  subst e e2 e3 e4
  obtain⟨fs,h1,h2,h3⟩:=firsts r
  exact⟨.int 1 t::fs,.cons o rfl rfl rfl h1,congrArg (·+ 1) h2,fun v hv=>(q7.mp hv).elim (fun e=>⟨t,e⟩) (h3 v)⟩
theorem Wf{h:Heap}{qs:List (List PV)}{vs:List Value}(vl:vs.length=qs.length)(r:K4 g.tab h H (qs.map tI) vs):K4 g.tab h H (dU qs) (dR (ltQ qs) vs).toList:=by
 have z:∀b:Bool,K4 g.tab h H (@Bool.rec (fun O=>List PV) ((jj (ltQ qs) (kas_sort qs.length)).toList.map fun i=>(qs.map tI).getD i .none) (qs.map tI) b) (@Bool.rec (fun O=>Array Value) ((jj (ltQ qs) (kas_sort qs.length)).map fun i=>vs.getD i Value.none) vs.toArray b).toList:=fun b=>by
  cases b with
  |true=>exact r
  |false=>
   show K4 _ _ _ _ (Array.map _ _).toList
   rw [Array.toList_map]
   exact r.pick _
 have z:=z (Nat.blt qs.length 2)
 unfold dU dR
 rw [vl]
 exact z
theorem ad2(hg:N6 g){A:Around}{s:Shared}{p q:List PV}{u v:Value}{C:Bool->Shared->Prop}(hu:A.units+62<cLine)(dp:PV.V0 p=true)(dq:PV.V0 q=true)(hd:PV.depths p<=50)(hz:∀x∈p.zip q,(x.1.isD=true/\x.2.isD=true/\x.1.depth<=60)/\x.1.eqv x.2=true)
  (ru:Rep g.tab s.heap H (tI p) u) (rv:Rep g.tab s.heap H (tI q) v) (k:C (decide (p.length<q.length)) s):wpAny (model g.prog g.w) A (keyLt' (tuples' true) u v) C (fun O O=>False) s:=by
 obtain⟨a,ws,n1,e2,o,u1,us,e3,⟨t,e4⟩,u2,us2,e5,r2,e6⟩:=ru
 obtain⟨b,ws',n2,e2',o',v1,vs,e3',⟨t',e4'⟩,v2,vs2,e5',r2',e6'⟩:=rv
 subst e6 e6' e5 e5' e4 e4' e3 e3' e2 e2'
 refine kat_lt o rfl o' rfl ?_
 show KatLex g.prog g.w A true _ C [(.int 1 t,.int 1 t'),(u2,v2)] 0 s
 refine kat_cons (wpAny_eqBool_int (kat_yes (kat_cons ?_)))
 refine eqB hg (by lia) (show(PV.tup p).isD=true from dp) (show(PV.tup q).isD=true from dq) (show PV.depths p+1<=60 by lia) r2 r2' ?_
 cases e:(PV.tup p).eqv (.tup q) with
 |true=>
  refine kat_yes (kat_nil ?_)
  have z:decide (p.length<q.length)=false:=decide_eq_false (by rw [DR p q e];exact Nat.lt_irrefl _)
  rw [z] at k
  exact k
 |false=>
  refine kat_no ?_
  obtain⟨a2,xs,m1,e7,o2,w2⟩:=r2
  obtain⟨b2,ys,m2,e7',o2',w2'⟩:=r2'
  subst e7 e7'
  refine kat_one _ _ (show wpAny (model g.prog g.w) A (richCompare .Lt (.ref a2) (.ref b2)) _ _ s from Rm (by lia) o2 o2' (fun pr hpr Q' q'=>?_) ?_)
  ·obtain⟨x,⟨⟨x1,x2,x3⟩,x4⟩,y1,y2⟩:=Kh w2 w2' hz pr hpr
   exact eqB hg (show A.units+1+60<cLine by lia) x1 x2 x3 y1 y2 (by rw [x4];exact q')
  ·rw [w2.length,w2'.length]
   exact k
theorem DW(hg:N6 g){qs:List (List PV)}(hl:qs.length<=4)(hd:∀q∈qs,PV.V0 q=true/\PV.depths q<=50)(hz:∀p∈qs,∀q∈qs,∀x∈p.zip q,(x.1.isD=true/\x.2.isD=true/\x.1.depth<=60)/\x.1.eqv x.2=true)(q:Q (.lst (dU qs)) H):Cl g n (.blt "sorted") [.lst (qs.map tI)] H Q:=.b1 fun A s v1 R S h1=>by
 obtain⟨l,vs,k,e,o,qn,r⟩:=h1
 subst e
 have vl:vs.length=qs.length:=r.length.trans (g8 _)
 have hu:=R.units
 have keep:∀{h:Heap},(∀b o,s.heap.get? b=some o->h.get? b=some o)->K4 g.tab h H (qs.map tI) vs:=fun k=>r.keeps (S.kept k s.toks).2.M5
 refine Nh (κ:=tuples' true) (lt:=ltQ qs) ⟨_,o,rfl,_,rfl⟩ (by rw [vl];exact hl) (fun h2 h k Q' q'=>?_) (fun h k i j hi hj C c=>?_) ?_
 ·obtain⟨fs,f1,f2,f3⟩:=firsts (keep k)
  refine kat_kind (T:=.type "int") f1 (by rw [f2];lia) (fun v hv=>?_) rfl q'
  obtain⟨t,rfl⟩:=f3 v hv
  exact .now
 ·have ri:=(keep k).getD i
  have rj:=(keep k).getD j
  rw [vl] at hi hj
  have gi:qs.getD i []=qs[i]:=by rw [I9,o7 hi];rfl
  have gj:qs.getD j []=qs[j]:=by rw [I9,o7 hj];rfl
  have ei:(qs.map tI).getD i .none=tI qs[i]:=by rw [I9,G7,o7 hi];rfl
  have ej:(qs.map tI).getD j .none=tI qs[j]:=by rw [I9,G7,o7 hj];rfl
  rw [ei] at ri
  rw [ej] at rj
  unfold ltQ at c
  rw [gi,gj] at c
  exact ad2 hg (A:=A.in1.in1) (show A.units+1+1+62<cLine by lia) (hd _ (List.getElem_mem hi)).1 (hd _ (List.getElem_mem hj)).1 (hd _ (List.getElem_mem hi)).2 (hz _ (List.getElem_mem hi) _ (List.getElem_mem hj)) ri rj c
 ·obtain⟨c,hc⟩:=sortedAll_at s.heap vs (dR (ltQ qs) vs)
  obtain⟨S',C'⟩:=S.kept (h':=sortedAll s.heap vs (dR (ltQ qs) vs)) (fun b o=>sortedAll_old) s.toks
  have hn:=untracked (S.push (s:=s) {cls:=.type "list",data:=.seq #[] 0} s.toks)
  have rl:=Wf vl (keep (h:=sortedAll s.heap vs (dR (ltQ qs) vs)) fun b o=>sortedAll_old)
  exact⟨.lst (dU qs),H,⟨_,(dR (ltQ qs) vs).toList,c,rfl,hc,(size_push' s.heap _)▸hn,rl⟩,S',C',q⟩
end
noncomputable abbrev pw:Program:=PySem.Challenge.pw_ot0049_01
noncomputable abbrev fnAt:=fnD pw
noncomputable abbrev R3:Addr:=219
noncomputable def cV:Str:=Str.ofString "with_blocks.<locals>.<lambda>"
noncomputable abbrev zS(x:String):Str:=Str.ofString x
noncomputable abbrev zT(x:String)(t:Nat):Value:=.str (Str.ofString x) t
noncomputable abbrev zK(P:Params)(x:String)(t:Nat)(v:Value):DictEntry:=⟨PyData.keyHash P (Str.ofString x),.str (Str.ofString x) t,v⟩
noncomputable abbrev zC(x y:String)(a b c:Nat)(i j k:Int)(d e:Addr)(u v w:Value)(f:Addr)(n:Int)(m:Nat):Obj:=⟨.type "code",none,.fields #[.str (Str.ofString x) a,.str (Str.ofString y) b,.str (Str.ofString "/claim/cut.py") c,.int i 0,.int j 0,.int 0 0,.int 0 0,.int k 0,.ref d,.bool true,.int 181 0,.ref e,u,v,w,.ref f,.int n 0,.int i 0,.str (Str.ofString "/claim/cut.py") m],#[]⟩
noncomputable abbrev zF(l:List Nat)(a b m:String)(t:Nat)(c:Addr):Obj:=⟨.type "function",none,.func (fnAt l (zS a) (zS b) 3 .none .none (zT m t) (.ref c) 0),#[]⟩
section
variable(P:Params)
noncomputable def K:Frag:=[
 (1,⟨.type "dict",none,.dict #[zK P "builtins" 162 (.ref 4),zK P "__main__" 163 (.ref 5)] 2,#[]⟩),(2,⟨.none,none,.dict #[zK P "type.__subclasses__.Exception.0" 224 (.int 39 0),zK P "type.__subclasses__.Exception.n" 225 (.int 1 0)] 2,#[]⟩),(3,⟨.type "dict",none,.dict #[zK P "__name__" 165 (zT "law_ot0049_01" 1482),zK P "__doc__" 166 (.none),zK P "__package__" 167 (.none),zK P "__loader__" 168 (.builtin "__main__.__loader__#opaque"),zK P "__spec__" 169 (.none),zK P "__annotations__" 170 (.ref 6),zK P "__builtins__" 171 (.ref 4),zK P "__file__" 173 (zT "/claim/cut.py" 172),zK P "__cached__" 174 (.none),zK P "_wall" 193 (.ref 21),zK P "LendError" 227 (.ref 39),zK P "PatternFault" 243 (.ref 52),zK P "COPY" 247 (zT "Copy" 246),zK P "DROP" 249 (zT "Drop" 248),zK P "parts_of" 257 (.ref 61),zK P "rebuilt" 266 (.ref 68),zK P "substituted" 272 (.ref 73),zK P "with_regions" 278 (.ref 78),zK P "no_region" 285 (.ref 85),zK P "erased" 292 (.ref 92),zK P "matched" 305 (.ref 99),zK P "impl_bounds" 317 (.ref 106),zK P "is_copy" 323 (.ref 111),zK P "field_rows" 332 (.ref 118),zK P "fields_of" 338 (.ref 123),zK P "has_drop" 347 (.ref 130),zK P "needs_drop" 353 (.ref 135),zK P "Body" 441 (.ref 196),zK P "successors" 447 (.ref 205),zK P "retargeted" 453 (.ref 210),zK P "reachable" 463 (.ref 217),zK P "with_blocks" 478 (.ref 224),zK P "field_type" 488 (.ref 231),zK P "projected" 499 (.ref 238),zK P "place_type" 511 (.ref 245),zK P "RESULT" 515 (.int 0 514),zK P "Scopes" 680 (.ref 373),zK P "BOOL_build_places" 684 (.ref 378),zK P "USIZE" 687 (.ref 379),zK P "OUT_OF_BOUNDS" 689 (zT "index out of bounds" 688),zK P "longer" 697 (.ref 386),zK P "PlaceBuilder" 784 (.ref 445),zK P "Binding" 826 (.ref 471),zK P "rows_of" 832 (.ref 480),zK P "alternatives" 838 (.ref 485),zK P "parts_at" 844 (.ref 490),zK P "bindings_at" 855 (.ref 497),zK P "mentions" 865 (.ref 504),zK P "is_plain_name" 872 (.ref 511),zK P "is_kept_on" 878 (.ref 516),zK P "MatchBuilder" 1043 (.ref 618),zK P "BOOL_build_exprs" 1047 (.ref 621),zK P "UNIT" 1049 (.ref 623),zK P "NEVER" 1051 (.ref 624),zK P "PLACES" 1056 (.ref 625),zK P "CHECKED" 1064 (.ref 626),zK P "VERBS" 1086 (.ref 627),zK P "is_quiet" 1093 (.ref 634),zK P "Loop" 1128 (.ref 651),zK P "ExprBuilder" 1383 (.ref 827),zK P "lower" 1393 (.ref 836),zK P "TypedFn" 1432 (.ref 853),zK P "World" 1481 (.ref 882),zK P "_law_pool" 1494 (.ref 893),zK P "_law_take" 1503 (.ref 900),zK P "_law_one" 1511 (.ref 907),zK P "_law_U8" 1514 (.ref 908),zK P "_law_BOOL" 1516 (.ref 909),zK P "_law_scrutinee" 1530 (.ref 916),zK P "_law_pattern" 1538 (.ref 923),zK P "_law_arms" 1553 (.ref 930),zK P "_law_event" 1562 (.ref 937),zK P "_law_ways" 1568 (.ref 942),zK P "_law_way_right" 1574 (.ref 947),zK P "_law_is_refused" 1584 (.ref 954),zK P "_law_right" 1590 (.ref 959),zK P "law" 1605 (.ref 966)] 77,#[]⟩),(29,⟨.type "tuple",none,.seq #[.int 0 208] 0,#[]⟩),(35,zC "__init__" "LendError.__init__" 209 210 211 7 3 3 30 31 .none (.ref 32) (.ref 33) 34 215 216),(36,⟨.type "function",none,.func (fnAt [2,0] (zS "__init__") (zS "LendError.__init__") 3 (.ref 29) (.none) (zT "lendcore.errors" 194) (.ref 35) 0),#[]⟩),(38,⟨.type "dict",none,.dict #[zK P "__module__" 203 (zT "lendcore.errors" 194),zK P "__firstlineno__" 207 (.int 5 206),zK P "__init__" 217 (.ref 36),zK P "__static_attributes__" 220 (.ref 37),zK P "__weakref__" 222 (.ref 40),zK P "__doc__" 223 (.none)] 3,#[]⟩),(39,⟨.type "type",none,.cls {name:=(zS "LendError"),bases:=[.type "Exception"],mro:=[.ref 39,.type "Exception",.type "BaseException",.type "object"],ns:=38,qualname:=(zS "LendError"),hasDict:=true,slotNames:=[],subclasses:=[.ref 52],abstract:=false,collection:=none,hasDel:=false},#[some (.ref 22),none,some (zT "LendError" 196),some (zT "LendError" 204),some (.builtin "Exception.__new__"),some (.bool true)]⟩),(51,⟨.type "dict",none,.dict #[zK P "__module__" 235 (zT "lendcore.errors" 194),zK P "__firstlineno__" 239 (.int 11 238),zK P "__static_attributes__" 240 (.ref 50),zK P "__doc__" 241 (.none)] 2,#[]⟩),(52,⟨.type "type",none,.cls {name:=(zS "PatternFault"),bases:=[.ref 39],mro:=[.ref 52,.ref 39,.type "Exception",.type "BaseException",.type "object"],ns:=51,qualname:=(zS "PatternFault"),hasDict:=true,slotNames:=[],subclasses:=[],abstract:=false,collection:=none,hasDel:=false},#[some (.ref 43),none,some (zT "PatternFault" 228),some (zT "PatternFault" 236),some (.builtin "Exception.__new__"),some (.bool true)]⟩),(60,zC "parts_of" "parts_of" 250 251 252 16 1 3 55 56 .none (.ref 57) (.ref 58) 59 255 256),(61,zF [7] "parts_of" "parts_of" "lendcore.types" 244 60),(67,zC "rebuilt" "rebuilt" 258 259 260 25 2 3 62 63 .none (.ref 64) (.ref 65) 66 264 265),(68,zF [8] "rebuilt" "rebuilt" "lendcore.types" 244 67),(110,zC "is_copy" "is_copy" 318 319 320 74 3 3 107 108 .none .none .none 109 321 322),(111,zF [15] "is_copy" "is_copy" "lendcore.types" 244 110),(134,zC "needs_drop" "needs_drop" 348 349 350 111 2 3 131 132 .none .none .none 133 351 352),(135,zF [19] "needs_drop" "needs_drop" "lendcore.types" 244 134),(143,⟨.type "tuple",none,.seq #[.none,.none] 0,#[]⟩),(149,zC "__init__" "Body.__init__" 368 369 370 130 6 3 144 145 .none (.ref 146) (.ref 147) 148 377 378),(150,⟨.type "function",none,.func (fnAt [21,0] (zS "__init__") (zS "Body.__init__") 3 (.ref 143) (.none) (zT "lendcore.mir" 354) (.ref 149) 0),#[]⟩),(156,zC "type_of" "Body.type_of" 380 381 382 137 2 3 151 152 .none (.ref 153) (.ref 154) 155 385 386),(157,zF [21,1] "type_of" "Body.type_of" "lendcore.mir" 354 156),(170,zC "statements" "Body.statements" 395 396 397 143 2 3 165 166 .none (.ref 167) (.ref 168) 169 400 401),(171,zF [21,3] "statements" "Body.statements" "lendcore.mir" 354 170),(177,zC "terminator" "Body.terminator" 403 404 405 146 2 3 172 173 .none (.ref 174) (.ref 175) 176 408 409),(178,zF [21,4] "terminator" "Body.terminator" "lendcore.mir" 354 177),(186,⟨.type "tuple",none,.seq #[.bool true,.none] 0,#[]⟩),(192,zC "new_local" "Body.new_local" 419 420 421 152 4 3 187 188 .none (.ref 189) (.ref 190) 191 426 427),(193,⟨.type "function",none,.func (fnAt [21,6] (zS "new_local") (zS "Body.new_local") 3 (.ref 186) (.none) (zT "lendcore.mir" 354) (.ref 192) 0),#[]⟩),(195,⟨.type "dict",none,.dict #[zK P "__module__" 363 (zT "lendcore.mir" 354),zK P "__firstlineno__" 367 (.int 128 366),zK P "__init__" 379 (.ref 150),zK P "type_of" 387 (.ref 157),zK P "args" 394 (.ref 164),zK P "statements" 402 (.ref 171),zK P "terminator" 410 (.ref 178),zK P "spot" 418 (.ref 185),zK P "new_local" 428 (.ref 193),zK P "__static_attributes__" 434 (.ref 194),zK P "__dict__" 436 (.ref 197),zK P "__weakref__" 438 (.ref 198),zK P "__doc__" 439 (.none)] 4,#[]⟩),(196,⟨.type "type",none,.cls {name:=(zS "Body"),bases:=[.type "object"],mro:=[.ref 196,.type "object"],ns:=195,qualname:=(zS "Body"),hasDict:=true,slotNames:=[],subclasses:=[],abstract:=false,collection:=none,hasDel:=false},#[none,none,some (zT "Body" 356),some (zT "Body" 364),some (.builtin "object.__new__"),some (.bool true)]⟩),(204,zC "successors" "successors" 442 443 444 155 1 3 201 202 .none .none .none 203 445 446),(205,zF [22] "successors" "successors" "lendcore.mir" 354 204),(209,zC "retargeted" "retargeted" 448 449 450 174 2 3 206 207 .none .none .none 208 451 452),(210,zF [23] "retargeted" "retargeted" "lendcore.mir" 354 209),(216,zC "reachable" "reachable" 454 455 456 188 1 3 211 212 .none (.ref 213) (.ref 214) 215 461 462),(217,zF [24] "reachable" "reachable" "lendcore.mir" 354 216),(223,zC "with_blocks" "with_blocks" 464 465 466 196 2 3 218 219 .none (.ref 220) (.ref 221) 222 476 477),(224,zF [25] "with_blocks" "with_blocks" "lendcore.mir" 354 223),(230,zC "field_type" "field_type" 479 480 481 208 4 3 225 226 .none (.ref 227) (.ref 228) 229 486 487),(231,zF [26] "field_type" "field_type" "lendcore.mir" 354 230),(237,zC "projected" "projected" 489 490 491 214 4 3 232 233 .none (.ref 234) (.ref 235) 236 497 498),(238,zF [27] "projected" "projected" "lendcore.mir" 354 237),(244,zC "place_type" "place_type" 500 501 502 225 3 3 239 240 .none (.ref 241) (.ref 242) 243 509 510),(245,zF [28] "place_type" "place_type" "lendcore.mir" 354 244),(256,zC "__init__" "Scopes.__init__" 528 529 530 234 3 3 253 254 .none .none .none 255 531 532),(257,zF [31,0] "__init__" "Scopes.__init__" "lendcore.scopes" 512 256),(263,zC "user" "Scopes.user" 534 535 536 247 2 3 258 259 .none (.ref 260) (.ref 261) 262 539 540),(264,zF [31,1] "user" "Scopes.user" "lendcore.scopes" 512 263),(265,⟨.type "tuple",none,.seq #[.bool true,.none] 0,#[]⟩),(271,zC "new_local" "Scopes.new_local" 542 543 544 250 4 3 266 267 .none (.ref 268) (.ref 269) 270 549 550),(272,⟨.type "function",none,.func (fnAt [31,2] (zS "new_local") (zS "Scopes.new_local") 3 (.ref 265) (.none) (zT "lendcore.scopes" 512) (.ref 271) 0),#[]⟩),(278,zC "type_of" "Scopes.type_of" 552 553 554 253 2 3 273 274 .none (.ref 275) (.ref 276) 277 557 558),(279,zF [31,3] "type_of" "Scopes.type_of" "lendcore.scopes" 512 278),(285,zC "new_block" "Scopes.new_block" 560 561 562 256 1 3 280 281 .none (.ref 282) (.ref 283) 284 564 565),(286,zF [31,4] "new_block" "Scopes.new_block" "lendcore.scopes" 512 285),(292,zC "note" "Scopes.note" 567 568 569 260 1 3 287 288 .none (.ref 289) (.ref 290) 291 571 572),(293,zF [31,5] "note" "Scopes.note" "lendcore.scopes" 512 292),(299,zC "put" "Scopes.put" 574 575 576 263 2 3 294 295 .none (.ref 296) (.ref 297) 298 579 580),(300,zF [31,6] "put" "Scopes.put" "lendcore.scopes" 512 299),(306,zC "close" "Scopes.close" 582 583 584 267 2 3 301 302 .none (.ref 303) (.ref 304) 305 587 588),(307,zF [31,7] "close" "Scopes.close" "lendcore.scopes" 512 306),(320,zC "go" "Scopes.go" 598 599 600 275 2 3 315 316 .none (.ref 317) (.ref 318) 319 603 604),(321,zF [31,9] "go" "Scopes.go" "lendcore.scopes" 512 320),(327,zC "push" "Scopes.push" 606 607 608 279 1 3 322 323 .none (.ref 324) (.ref 325) 326 610 611),(328,zF [31,10] "push" "Scopes.push" "lendcore.scopes" 512 327),(334,zC "declare" "Scopes.declare" 613 614 615 283 2 3 329 330 .none (.ref 331) (.ref 332) 333 618 619),(335,zF [31,11] "declare" "Scopes.declare" "lendcore.scopes" 512 334),(348,zC "finish" "Scopes.finish" 629 630 631 290 2 3 343 344 .none (.ref 345) (.ref 346) 347 637 638),(349,zF [31,13] "finish" "Scopes.finish" "lendcore.scopes" 512 348),(355,zC "pop" "Scopes.pop" 640 641 642 299 1 3 350 351 .none (.ref 352) (.ref 353) 354 644 645),(356,zF [31,14] "pop" "Scopes.pop" "lendcore.scopes" 512 355),(369,zC "finished" "Scopes.finished" 656 657 658 307 1 3 364 365 .none (.ref 366) (.ref 367) 368 661 662),(370,zF [31,16] "finished" "Scopes.finished" "lendcore.scopes" 512 369),(372,⟨.type "dict",none,.dict #[zK P "__module__" 523 (zT "lendcore.scopes" 512),zK P "__firstlineno__" 527 (.int 232 526),zK P "__init__" 533 (.ref 257),zK P "user" 541 (.ref 264),zK P "new_local" 551 (.ref 272),zK P "type_of" 559 (.ref 279),zK P "new_block" 566 (.ref 286),zK P "note" 573 (.ref 293),zK P "put" 581 (.ref 300),zK P "close" 589 (.ref 307),zK P "end" 597 (.ref 314),zK P "go" 605 (.ref 321),zK P "push" 612 (.ref 328),zK P "declare" 620 (.ref 335),zK P "hold" 628 (.ref 342),zK P "finish" 639 (.ref 349),zK P "pop" 646 (.ref 356),zK P "leave" 655 (.ref 363),zK P "finished" 663 (.ref 370),zK P "__static_attributes__" 673 (.ref 371),zK P "__dict__" 675 (.ref 374),zK P "__weakref__" 677 (.ref 375),zK P "__doc__" 678 (.none)] 4,#[]⟩),(373,⟨.type "type",none,.cls {name:=(zS "Scopes"),bases:=[.type "object"],mro:=[.ref 373,.type "object"],ns:=372,qualname:=(zS "Scopes"),hasDict:=true,slotNames:=[],subclasses:=[.ref 445],abstract:=false,collection:=none,hasDel:=false},#[none,none,some (zT "Scopes" 516),some (zT "Scopes" 524),some (.builtin "object.__new__"),some (.bool true)]⟩),(378,⟨.type "tuple",none,.seq #[zT "bool" 683] 0,#[]⟩),(379,⟨.type "tuple",none,.seq #[zT "int" 685,zT "usize" 686] 0,#[]⟩),(385,zC "longer" "longer" 690 691 692 316 2 3 380 381 .none (.ref 382) (.ref 383) 384 695 696),(386,zF [36] "longer" "longer" "lendcore.build_places" 681 385),(406,zC "operand_of" "PlaceBuilder.operand_of" 719 720 721 325 3 3 401 402 .none (.ref 403) (.ref 404) 405 725 726),(407,zF [37,1] "operand_of" "PlaceBuilder.operand_of" "lendcore.build_places" 681 406),(413,zC "place" "PlaceBuilder.place" 728 729 730 328 2 3 408 409 .none (.ref 410) (.ref 411) 412 735 736),(414,zF [37,2] "place" "PlaceBuilder.place" "lendcore.build_places" 681 413),(434,zC "operand" "PlaceBuilder.operand" 761 762 763 358 2 3 429 430 .none (.ref 431) (.ref 432) 433 766 767),(435,zF [37,5] "operand" "PlaceBuilder.operand" "lendcore.build_places" 681 434),(444,⟨.type "dict",none,.dict #[zK P "__module__" 705 (zT "lendcore.build_places" 681),zK P "__firstlineno__" 709 (.int 318 708),zK P "temp" 718 (.ref 400),zK P "operand_of" 727 (.ref 407),zK P "place" 737 (.ref 414),zK P "indexed" 749 (.ref 421),zK P "asserted" 760 (.ref 428),zK P "operand" 768 (.ref 435),zK P "borrow" 778 (.ref 442),zK P "__static_attributes__" 781 (.ref 443),zK P "__doc__" 782 (.none)] 2,#[]⟩),(445,⟨.type "type",none,.cls {name:=(zS "PlaceBuilder"),bases:=[.ref 373],mro:=[.ref 445,.ref 373,.type "object"],ns:=444,qualname:=(zS "PlaceBuilder"),hasDict:=true,slotNames:=[],subclasses:=[.ref 618],abstract:=false,collection:=none,hasDel:=false},#[some (.ref 387),none,some (zT "PlaceBuilder" 698),some (zT "PlaceBuilder" 706),some (.builtin "object.__new__"),some (.bool true)]⟩),(460,zC "__init__" "Binding.__init__" 799 800 801 373 4 3 455 456 .none (.ref 457) (.ref 458) 459 806 807),(461,zF [39,0] "__init__" "Binding.__init__" "lendcore.build_match" 785 460),(467,zC "rvalue" "Binding.rvalue" 809 810 811 378 1 3 462 463 .none (.ref 464) (.ref 465) 466 813 814),(468,zF [39,1] "rvalue" "Binding.rvalue" "lendcore.build_match" 785 467),(470,⟨.type "dict",none,.dict #[zK P "__module__" 794 (zT "lendcore.build_match" 785),zK P "__firstlineno__" 798 (.int 371 797),zK P "__init__" 808 (.ref 461),zK P "rvalue" 815 (.ref 468),zK P "__static_attributes__" 819 (.ref 469),zK P "__dict__" 821 (.ref 472),zK P "__weakref__" 823 (.ref 473),zK P "__doc__" 824 (.none)] 4,#[]⟩),(471,⟨.type "type",none,.cls {name:=(zS "Binding"),bases:=[.type "object"],mro:=[.ref 471,.type "object"],ns:=470,qualname:=(zS "Binding"),hasDict:=true,slotNames:=[],subclasses:=[],abstract:=false,collection:=none,hasDel:=false},#[none,none,some (zT "Binding" 787),some (zT "Binding" 795),some (.builtin "object.__new__"),some (.bool true)]⟩),(484,zC "alternatives" "alternatives" 833 834 835 387 1 3 481 482 .none .none .none 483 836 837),(485,zF [41] "alternatives" "alternatives" "lendcore.build_match" 785 484),(489,zC "parts_at" "parts_at" 839 840 841 401 2 3 486 487 .none .none .none 488 842 843),(490,zF [42] "parts_at" "parts_at" "lendcore.build_match" 785 489),(496,zC "bindings_at" "bindings_at" 845 846 847 413 2 3 491 492 .none (.ref 493) (.ref 494) 495 853 854),(497,zF [43] "bindings_at" "bindings_at" "lendcore.build_match" 785 496),(503,zC "mentions" "mentions" 856 857 858 418 2 3 498 499 .none (.ref 500) (.ref 501) 502 863 864),(504,zF [44] "mentions" "mentions" "lendcore.build_match" 785 503),(529,zC "branch" "MatchBuilder.branch" 891 892 893 437 4 3 524 525 .none (.ref 526) (.ref 527) 528 900 901),(530,zF [47,0] "branch" "MatchBuilder.branch" "lendcore.build_match" 785 529),(536,zC "told" "MatchBuilder.told" 903 904 905 449 3 3 531 532 .none (.ref 533) (.ref 534) 535 910 911),(537,zF [47,1] "told" "MatchBuilder.told" "lendcore.build_match" 785 536),(543,zC "test" "MatchBuilder.test" 913 914 915 455 4 3 538 539 .none (.ref 540) (.ref 541) 542 927 928),(544,zF [47,2] "test" "MatchBuilder.test" "lendcore.build_match" 785 543),(550,zC "bind" "MatchBuilder.bind" 930 931 932 470 2 3 545 546 .none (.ref 547) (.ref 548) 549 935 936),(551,zF [47,3] "bind" "MatchBuilder.bind" "lendcore.build_match" 785 550),(555,zC "lent" "MatchBuilder.lent" 938 939 940 473 2 3 552 553 .none .none .none 554 941 942),(556,zF [47,4] "lent" "MatchBuilder.lent" "lendcore.build_match" 785 555),(560,zC "guarded" "MatchBuilder.guarded" 944 945 946 478 5 3 557 558 .none .none .none 559 947 948),(561,zF [47,5] "guarded" "MatchBuilder.guarded" "lendcore.build_match" 785 560),(567,zC "arm_entry" "MatchBuilder.arm_entry" 950 951 952 500 5 3 562 563 .none (.ref 564) (.ref 565) 566 960 961),(568,zF [47,6] "arm_entry" "MatchBuilder.arm_entry" "lendcore.build_match" 785 567),(574,zC "anew" "MatchBuilder.anew" 963 964 965 509 2 3 569 570 .none (.ref 571) (.ref 572) 573 969 970),(575,zF [47,7] "anew" "MatchBuilder.anew" "lendcore.build_match" 785 574),(579,zC "arm_into" "MatchBuilder.arm_into" 972 973 974 515 5 3 576 577 .none .none .none 578 975 976),(580,zF [47,8] "arm_into" "MatchBuilder.arm_into" "lendcore.build_match" 785 579),(586,zC "match_into" "MatchBuilder.match_into" 978 979 980 536 3 3 581 582 .none (.ref 583) (.ref 584) 585 987 988),(587,zF [47,9] "match_into" "MatchBuilder.match_into" "lendcore.build_match" 785 586),(614,zC "bind_params" "MatchBuilder.bind_params" 1025 1026 1027 575 2 3 609 610 .none (.ref 611) (.ref 612) 613 1034 1035),(615,zF [47,13] "bind_params" "MatchBuilder.bind_params" "lendcore.build_match" 785 614),(617,⟨.type "dict",none,.dict #[zK P "__module__" 886 (zT "lendcore.build_match" 785),zK P "__firstlineno__" 890 (.int 435 889),zK P "branch" 902 (.ref 530),zK P "told" 912 (.ref 537),zK P "test" 929 (.ref 544),zK P "bind" 937 (.ref 551),zK P "lent" 943 (.ref 556),zK P "guarded" 949 (.ref 561),zK P "arm_entry" 962 (.ref 568),zK P "anew" 971 (.ref 575),zK P "arm_into" 977 (.ref 580),zK P "match_into" 989 (.ref 587),zK P "let_bound" 1001 (.ref 594),zK P "bind_all" 1014 (.ref 601),zK P "bind_one" 1024 (.ref 608),zK P "bind_params" 1036 (.ref 615),zK P "__static_attributes__" 1040 (.ref 616),zK P "__doc__" 1041 (.none)] 2,#[]⟩),(618,⟨.type "type",none,.cls {name:=(zS "MatchBuilder"),bases:=[.ref 445],mro:=[.ref 618,.ref 445,.ref 373,.type "object"],ns:=617,qualname:=(zS "MatchBuilder"),hasDict:=true,slotNames:=[],subclasses:=[.ref 827],abstract:=false,collection:=none,hasDel:=false},#[some (.ref 517),none,some (zT "MatchBuilder" 879),some (zT "MatchBuilder" 887),some (.builtin "object.__new__"),some (.bool true)]⟩),(621,⟨.type "tuple",none,.seq #[zT "bool" 1046] 0,#[]⟩),(625,⟨.type "tuple",none,.seq #[zT "local" 1052,zT "deref" 1053,zT "field" 1054,zT "index" 1055] 0,#[]⟩),(626,⟨.type "tuple",none,.seq #[zT "+" 1057,zT "-" 1058,zT "*" 1059,zT "/" 1060,zT "%" 1061,zT "<<" 1062,zT ">>" 1063] 0,#[]⟩),(627,⟨.type "dict",none,.dict #[zK P "+" 1065 (zT "add" 1066),zK P "-" 1067 (zT "subtract" 1068),zK P "*" 1069 (zT "multiply" 1070),zK P "/" 1071 (zT "divide" 1072),zK P "%" 1073 (zT "calculate the remainder" 1074),zK P "<<" 1075 (zT "shift left" 1076),zK P ">>" 1077 (zT "shift right" 1078)] 7,#[]⟩),(633,zC "is_quiet" "is_quiet" 1087 1088 1089 588 1 3 628 629 .none (.ref 630) (.ref 631) 632 1091 1092),(634,zF [55] "is_quiet" "is_quiet" "lendcore.build_exprs" 1044 633),(668,zC "__init__" "ExprBuilder.__init__" 1141 1142 1143 601 3 3 663 664 .none (.ref 665) (.ref 666) 667 1147 1148),(669,zF [57,0] "__init__" "ExprBuilder.__init__" "lendcore.build_exprs" 1044 668),(675,zC "assign" "ExprBuilder.assign" 1150 1151 1152 605 3 3 670 671 .none (.ref 672) (.ref 673) 674 1156 1157),(676,zF [57,1] "assign" "ExprBuilder.assign" "lendcore.build_exprs" 1044 675),(694,zC "operands" "ExprBuilder.operands" 1177 1178 1179 616 2 3 691 692 .none .none .none 693 1180 1181),(695,zF [57,4] "operands" "ExprBuilder.operands" "lendcore.build_exprs" 1044 694),(699,zC "operand_ahead" "ExprBuilder.operand_ahead" 1183 1184 1185 619 3 3 696 697 .none .none .none 698 1186 1187),(700,zF [57,5] "operand_ahead" "ExprBuilder.operand_ahead" "lendcore.build_exprs" 1044 699),(727,zC "into" "ExprBuilder.into" 1219 1220 1221 642 3 3 722 723 .none (.ref 724) (.ref 725) 726 1226 1227),(728,zF [57,9] "into" "ExprBuilder.into" "lendcore.build_exprs" 1044 727),(734,zC "into_scalar" "ExprBuilder.into_scalar" 1229 1230 1231 666 3 3 729 730 .none (.ref 731) (.ref 732) 733 1237 1238),(735,zF [57,10] "into_scalar" "ExprBuilder.into_scalar" "lendcore.build_exprs" 1044 734),(741,zC "put_binary" "ExprBuilder.put_binary" 1240 1241 1242 679 6 3 736 737 .none (.ref 738) (.ref 739) 740 1251 1252),(742,zF [57,11] "put_binary" "ExprBuilder.put_binary" "lendcore.build_exprs" 1044 741),(826,⟨.type "dict",none,.dict #[zK P "__module__" 1136 (zT "lendcore.build_exprs" 1044),zK P "__firstlineno__" 1140 (.int 599 1139),zK P "__init__" 1149 (.ref 669),zK P "assign" 1158 (.ref 676),zK P "put_unit" 1166 (.ref 683),zK P "kept" 1176 (.ref 690),zK P "operands" 1182 (.ref 695),zK P "operand_ahead" 1188 (.ref 700),zK P "truth" 1197 (.ref 707),zK P "fork" 1207 (.ref 714),zK P "must" 1218 (.ref 721),zK P "into" 1228 (.ref 728),zK P "into_scalar" 1239 (.ref 735),zK P "put_binary" 1253 (.ref 742),zK P "into_lazy" 1267 (.ref 749),zK P "into_made" 1273 (.ref 754),zK P "into_deed" 1284 (.ref 761),zK P "put_over" 1295 (.ref 768),zK P "into_call" 1306 (.ref 775),zK P "into_if" 1318 (.ref 782),zK P "into_scope" 1327 (.ref 789),zK P "into_block" 1337 (.ref 796),zK P "put_statement" 1346 (.ref 803),zK P "into_way" 1356 (.ref 810),zK P "put_value" 1365 (.ref 817),zK P "into_loop" 1376 (.ref 824),zK P "__static_attributes__" 1380 (.ref 825),zK P "__doc__" 1381 (.none)] 2,#[]⟩),(827,⟨.type "type",none,.cls {name:=(zS "ExprBuilder"),bases:=[.ref 618],mro:=[.ref 827,.ref 618,.ref 445,.ref 373,.type "object"],ns:=826,qualname:=(zS "ExprBuilder"),hasDict:=true,slotNames:=[],subclasses:=[],abstract:=false,collection:=none,hasDel:=false},#[some (.ref 656),none,some (zT "ExprBuilder" 1129),some (zT "ExprBuilder" 1137),some (.builtin "object.__new__"),some (.bool true)]⟩),(835,zC "lower" "lower" 1384 1385 1386 821 2 3 830 831 .none (.ref 832) (.ref 833) 834 1391 1392),(836,zF [58] "lower" "lower" "lendcore.build_exprs" 1044 835),(849,zC "__init__" "TypedFn.__init__" 1408 1409 1410 836 6 3 844 845 .none (.ref 846) (.ref 847) 848 1417 1418),(850,zF [60,0] "__init__" "TypedFn.__init__" "lendcore.check_exprs" 1394 849),(852,⟨.type "dict",none,.dict #[zK P "__module__" 1403 (zT "lendcore.check_exprs" 1394),zK P "__firstlineno__" 1407 (.int 834 1406),zK P "__init__" 1419 (.ref 850),zK P "__static_attributes__" 1425 (.ref 851),zK P "__dict__" 1427 (.ref 854),zK P "__weakref__" 1429 (.ref 855),zK P "__doc__" 1430 (.none)] 4,#[]⟩),(853,⟨.type "type",none,.cls {name:=(zS "TypedFn"),bases:=[.type "object"],mro:=[.ref 853,.type "object"],ns:=852,qualname:=(zS "TypedFn"),hasDict:=true,slotNames:=[],subclasses:=[],abstract:=false,collection:=none,hasDel:=false},#[none,none,some (zT "TypedFn" 1396),some (zT "TypedFn" 1404),some (.builtin "object.__new__"),some (.bool true)]⟩),(865,⟨.type "tuple",none,.seq #[.none] 0,#[]⟩),(871,zC "__init__" "World.__init__" 1447 1448 1449 845 2 3 866 867 .none (.ref 868) (.ref 869) 870 1452 1453),(872,⟨.type "function",none,.func (fnAt [62,0] (zS "__init__") (zS "World.__init__") 3 (.ref 865) (.none) (zT "lendcore.world" 1433) (.ref 871) 0),#[]⟩),(881,⟨.type "dict",none,.dict #[zK P "__module__" 1442 (zT "lendcore.world" 1433),zK P "__firstlineno__" 1446 (.int 843 1445),zK P "__init__" 1454 (.ref 872),zK P "is_field_seen" 1465 (.ref 879),zK P "__static_attributes__" 1474 (.ref 880),zK P "__dict__" 1476 (.ref 883),zK P "__weakref__" 1478 (.ref 884),zK P "__doc__" 1479 (.none)] 4,#[]⟩),(882,⟨.type "type",none,.cls {name:=(zS "World"),bases:=[.type "object"],mro:=[.ref 882,.type "object"],ns:=881,qualname:=(zS "World"),hasDict:=true,slotNames:=[],subclasses:=[],abstract:=false,collection:=none,hasDel:=false},#[none,none,some (zT "World" 1435),some (zT "World" 1443),some (.builtin "object.__new__"),some (.bool true)]⟩),(892,zC "_law_pool" "_law_pool" 1484 1485 1486 858 2 3 887 888 .none (.ref 889) (.ref 890) 891 1492 1493),(893,zF [64] "_law_pool" "_law_pool" "law_ot0049_01" 1482 892),(899,zC "_law_take" "_law_take" 1495 1496 1497 865 2 3 894 895 .none (.ref 896) (.ref 897) 898 1501 1502),(900,zF [65] "_law_take" "_law_take" "law_ot0049_01" 1482 899),(906,zC "_law_one" "_law_one" 1504 1505 1506 872 2 3 901 902 .none (.ref 903) (.ref 904) 905 1509 1510),(907,zF [66] "_law_one" "_law_one" "law_ot0049_01" 1482 906),(908,⟨.type "tuple",none,.seq #[zT "int" 1512,zT "u8" 1513] 0,#[]⟩),(909,⟨.type "tuple",none,.seq #[zT "bool" 1515] 0,#[]⟩),(915,zC "_law_scrutinee" "_law_scrutinee" 1517 1518 1519 876 1 3 910 911 .none (.ref 912) (.ref 913) 914 1528 1529),(916,zF [69] "_law_scrutinee" "_law_scrutinee" "law_ot0049_01" 1482 915),(922,zC "_law_pattern" "_law_pattern" 1531 1532 1533 888 2 3 917 918 .none (.ref 919) (.ref 920) 921 1536 1537),(923,zF [70] "_law_pattern" "_law_pattern" "law_ot0049_01" 1482 922),(929,zC "_law_arms" "_law_arms" 1539 1540 1541 890 2 3 924 925 .none (.ref 926) (.ref 927) 928 1551 1552),(930,zF [71] "_law_arms" "_law_arms" "law_ot0049_01" 1482 929),(936,zC "_law_event" "_law_event" 1554 1555 1556 903 1 3 931 932 .none (.ref 933) (.ref 934) 935 1560 1561),(937,zF [72] "_law_event" "_law_event" "law_ot0049_01" 1482 936),(941,zC "_law_ways" "_law_ways" 1563 1564 1565 916 1 3 938 939 .none .none .none 940 1566 1567),(942,zF [73] "_law_ways" "_law_ways" "law_ot0049_01" 1482 941),(946,zC "_law_way_right" "_law_way_right" 1569 1570 1571 929 2 3 943 944 .none .none .none 945 1572 1573),(947,zF [74] "_law_way_right" "_law_way_right" "law_ot0049_01" 1482 946),(953,zC "_law_is_refused" "_law_is_refused" 1575 1576 1577 945 0 3 948 949 .none (.ref 950) (.ref 951) 952 1582 1583),(954,zF [75] "_law_is_refused" "_law_is_refused" "law_ot0049_01" 1482 953),(958,zC "_law_right" "_law_right" 1585 1586 1587 955 6 3 955 956 .none .none .none 957 1588 1589),(959,zF [76] "_law_right" "_law_right" "law_ot0049_01" 1482 958),(965,zC "law" "law" 1591 1592 1593 967 1 3 960 961 .none (.ref 962) (.ref 963) 964 1603 1604),(966,zF [77] "law" "law" "law_ot0049_01" 1482 965)]
end
noncomputable def asK:List Addr:=[1,2,3,29,35,36,38,39,51,52,60,61,67,68,110,111,134,135,143,149,150,156,157,170,171,177,178,186,192,193,195,196,204,205,209,210,216,217,223,224,230,231,237,238,244,245,256,257,263,264,265,271,272,278,279,285,286,292,293,299,300,306,307,320,321,327,328,334,335,348,349,355,356,369,370,372,373,378,379,385,386,406,407,413,414,434,435,444,445,460,461,467,468,470,471,484,485,489,490,496,497,503,504,529,530,536,537,543,544,550,551,555,556,560,561,567,568,574,575,579,580,586,587,614,615,617,618,621,625,626,627,633,634,668,669,675,676,694,695,699,700,727,728,734,735,741,742,826,827,835,836,849,850,852,853,865,871,872,881,882,892,893,899,900,906,907,908,909,915,916,922,923,929,930,936,937,941,942,946,947,953,954,958,959,965,966]
noncomputable def yw:List (Nat×PV):=[(5,.typ "Exception"),(9,.typ "tuple"),(42,.str 444),(20,.obj 61),(43,.obj 111),(69,.typ "range"),(31,.blt "len"),(76,.typ "list"),(94,.obj 205),(98,.obj 196),(100,.obj 210),(102,.obj 39),(108,.obj 231),(113,.obj 238),(56,.typ "dict"),(132,.obj 135),(137,.obj 224),(138,.blt "sorted"),(140,.obj 217),(148,.obj 386),(178,.obj 485),(59,.typ "enumerate"),(182,.obj 490),(183,.obj 471),(184,.obj 497),(185,.blt "isinstance"),(155,.tup [.str 45]),(154,.tup [.str 32,.str 447]),(201,.obj 245),(207,.obj 504),(209,.obj 52),(223,.obj 634),(226,.obj 618),(230,.tup [.str 77,.str 107,.str 106,.str 97]),(231,.blt "all"),(264,.tup [.str 321,.str 260,.str 322,.str 265,.str 266,.str 448,.str 449]),(232,.tup [.str 45]),(272,.obj 627),(294,.obj 827),(291,.int 0),(307,.blt "max"),(32,.typ "int"),(312,.obj 900),(396,.tup [.str 32,.str 355]),(319,.obj 907),(401,.obj 923),(402,.tup [.str 45]),(405,.obj 937),(366,.obj 836),(368,.obj 853),(370,.obj 882),(411,.obj 942),(412,.obj 947),(371,.obj 893),(414,.obj 916),(415,.obj 930),(416,.obj 959),(417,.obj 954)]
noncomputable def YF:List (Addr×List (Nat×PV)):=[(627,[(321,.str 331),(260,.str 332),(322,.str 333),(265,.str 428),(266,.str 432),(448,.str 436),(449,.str 440)])]
noncomputable def yx:List (Addr×List (Nat×Addr)):=[(196,[(112,157),(99,171),(81,178),(124,193)]),(373,[(150,264),(124,272),(112,279),(120,286),(126,293),(128,300),(127,307),(222,321),(208,328),(142,335),(135,349),(65,356),(296,370)]),(445,[(166,407),(111,414),(162,435),(150,264),(124,272),(112,279),(120,286),(126,293),(128,300),(127,307),(222,321),(208,328),(142,335),(135,349),(65,356),(296,370)]),(471,[(192,468)]),(618,[(198,530),(6,537),(193,544),(177,551),(205,556),(211,561),(215,568),(216,575),(217,580),(254,587),(295,615),(166,407),(111,414),(162,435),(150,264),(124,272),(112,279),(120,286),(126,293),(128,300),(127,307),(222,321),(208,328),(142,335),(135,349),(65,356),(296,370)]),(827,[(159,676),(258,695),(228,700),(147,728),(238,735),(259,742),(198,530),(6,537),(193,544),(177,551),(205,556),(211,561),(215,568),(216,575),(217,580),(254,587),(295,615),(166,407),(111,414),(162,435),(150,264),(124,272),(112,279),(120,286),(126,293),(128,300),(127,307),(222,321),(208,328),(142,335),(135,349),(65,356),(296,370)]),(853,[]),(882,[])]
noncomputable def yC:List (Addr×List (Nat×Addr)):=[(196,[(4,150)]),(373,[(4,257)]),(445,[(4,257)]),(471,[(4,461)]),(618,[(4,257)]),(827,[(4,669)]),(853,[(4,850)]),(882,[(4,872)])]
noncomputable def yD:List (Addr×Addr):=[(196,150),(373,257),(445,257),(471,461),(618,257),(827,669),(853,850),(882,872)]
noncomputable def Mr:List (Addr×List Nat):=[(196,[40,71,75,73,74]),(373,[37,38,115,116,92,3,117,118,64]),(445,[37,38,115,116,92,3,117,118,64]),(471,[77,170,111]),(618,[64,117,3,37,38,115,116,92,118]),(827,[225,3,64,117,37,38,115,116,92,118]),(853,[119,75,39,122,92]),(882,[298,53,52,121,41,44,299,300])]
noncomputable def fnL:List (Addr×(List Nat×List Nat)):=[(36,([2,0],[1,2,3])),(61,([7],[6])),(68,([8],[6,13])),(111,([15],[6,37,38])),(135,([19],[6,37])),(150,([21,0],[1,40,71,72,73,74])),(157,([21,1],[1,77])),(171,([21,3],[1,78])),(178,([21,4],[1,78])),(193,([21,6],[1,6,80,40])),(205,([22],[81])),(210,([23],[81,90])),(217,([24],[92])),(224,([25],[92,95])),(231,([26],[6,51,0,37])),(238,([27],[6,51,104,37])),(245,([28],[92,111,37])),(257,([31,0],[1,114,37])),(264,([31,1],[1,123])),(272,([31,2],[1,6,80,40])),(279,([31,3],[1,77])),(286,([31,4],[1])),(293,([31,5],[1])),(300,([31,6],[1,125])),(307,([31,7],[1,81])),(321,([31,9],[1,78])),(328,([31,10],[1])),(335,([31,11],[1,77])),(349,([31,13],[1,130])),(356,([31,14],[1])),(370,([31,16],[1])),(386,([36],[111,141])),(407,([37,1],[1,111,6])),(414,([37,2],[1,145])),(435,([37,5],[1,145])),(461,([39,0],[1,77,170,111])),(468,([39,1],[1])),(485,([41],[25])),(490,([42],[25,111])),(497,([43],[25,111])),(504,([44],[145,72])),(530,([47,0],[1,77,89,189])),(537,([47,1],[1,6,192])),(544,([47,2],[1,25,111,189])),(551,([47,3],[1,200])),(556,([47,4],[1,111])),(561,([47,5],[1,202,203,111,189])),(568,([47,6],[1,25,202,111,189])),(575,([47,7],[1,212])),(580,([47,8],[1,111,213,35,165])),(587,([47,9],[1,111,145])),(615,([47,13],[1,39])),(634,([55],[145])),(669,([57,0],[1,114,37])),(676,([57,1],[1,111,192])),(695,([57,4],[1,227])),(700,([57,5],[1,145,229])),(728,([57,9],[1,111,145])),(735,([57,10],[1,111,145])),(742,([57,11],[1,111,194,28,29,6])),(836,([58],[114,37])),(850,([60,0],[1,119,91,39,122,92])),(872,([62,0],[1,298])),(893,([64],[304,0])),(900,([65],[308,309])),(907,([66],[308,311])),(916,([69],[308])),(923,([70],[308,397])),(930,([71],[308,91])),(937,([72],[125])),(942,([73],[92])),(947,([74],[403,96])),(954,([75],[])),(959,([76],[145,6,395,408,91,399])),(966,([77],[304]))]
noncomputable abbrev Q7:Addr:=52
noncomputable abbrev gR:Addr:=196
noncomputable abbrev U4:Addr:=471
noncomputable abbrev U6:Addr:=827
noncomputable abbrev cI:Addr:=853
noncomputable abbrev jK:Addr:=882
noncomputable abbrev aO:Addr:=36
noncomputable abbrev uL:Addr:=61
noncomputable abbrev yP:Addr:=111
noncomputable abbrev nu:Addr:=135
noncomputable abbrev jk:Addr:=150
noncomputable abbrev uM:Addr:=157
noncomputable abbrev dW:Addr:=171
noncomputable abbrev dX:Addr:=178
noncomputable abbrev fO:Addr:=193
noncomputable abbrev nA:Addr:=205
noncomputable abbrev nC:Addr:=210
noncomputable abbrev qN:Addr:=217
noncomputable abbrev kW:Addr:=224
noncomputable abbrev Ay:Addr:=231
noncomputable abbrev qO:Addr:=238
noncomputable abbrev nD:Addr:=245
noncomputable abbrev wM:Addr:=257
noncomputable abbrev eV:Addr:=264
noncomputable abbrev V4:Addr:=272
noncomputable abbrev fP:Addr:=279
noncomputable abbrev Z2:Addr:=286
noncomputable abbrev kY:Addr:=293
noncomputable abbrev gU:Addr:=300
noncomputable abbrev cW:Addr:=307
noncomputable abbrev eX:Addr:=328
noncomputable abbrev fQ:Addr:=335
noncomputable abbrev iQ:Addr:=349
noncomputable abbrev gV:Addr:=356
noncomputable abbrev dY:Addr:=370
noncomputable abbrev DX:Addr:=386
noncomputable abbrev W9:Addr:=407
noncomputable abbrev W2:Addr:=414
noncomputable abbrev V5:Addr:=435
noncomputable abbrev uN:Addr:=461
noncomputable abbrev fU:Addr:=468
noncomputable abbrev cX:Addr:=485
noncomputable abbrev lK:Addr:=490
noncomputable abbrev eY:Addr:=497
noncomputable abbrev uO:Addr:=504
noncomputable abbrev aH:Addr:=530
noncomputable abbrev X5:Addr:=537
noncomputable abbrev X6:Addr:=544
noncomputable abbrev bK:Addr:=551
noncomputable abbrev bL:Addr:=556
noncomputable abbrev V6:Addr:=561
noncomputable abbrev U7:Addr:=568
noncomputable abbrev bM:Addr:=575
noncomputable abbrev V1:Addr:=580
noncomputable abbrev U0:Addr:=587
noncomputable abbrev W4:Addr:=615
noncomputable abbrev uP:Addr:=634
noncomputable abbrev lM:Addr:=669
noncomputable abbrev aZ:Addr:=676
noncomputable abbrev aC:Addr:=695
noncomputable abbrev S8:Addr:=700
noncomputable abbrev T5:Addr:=728
noncomputable abbrev dG:Addr:=735
noncomputable abbrev eZ:Addr:=742
noncomputable abbrev sX:Addr:=836
noncomputable abbrev uQ:Addr:=850
noncomputable abbrev nG:Addr:=872
noncomputable abbrev qP:Addr:=893
noncomputable abbrev qQ:Addr:=900
noncomputable abbrev uR:Addr:=907
noncomputable abbrev fV:Addr:=916
noncomputable abbrev jl:Addr:=923
noncomputable abbrev qR:Addr:=930
noncomputable abbrev nH:Addr:=937
noncomputable abbrev jm:Addr:=942
noncomputable abbrev fW:Addr:=947
noncomputable abbrev dZ:Addr:=954
noncomputable abbrev bT:Addr:=959
noncomputable abbrev Kl:Addr:=966
noncomputable def texts:List Str:=[zS "k",zS "self",zS "message",zS "spot",zS "__init__",zS "Exception",zS "told",zS "kind",zS "ref",zS "tuple",zS "box",zS "array",zS "adt",zS "parts",zS "table",zS "param",zS "rebuilt",zS "get",zS "substituted",zS "part",zS "parts_of",zS "change",zS "with_regions",zS "region",zS "no_region",zS "pattern",zS "some",zS "others",zS "one",zS "other",zS "zip",zS "len",zS "int",zS "var",zS "intvar",zS "matched",zS "row",zS "world",zS "bounds",zS "params",zS "name",zS "traits",zS "COPY",zS "is_copy",zS "impls",zS "bool",zS "never",zS "trait",zS "impl_bounds",zS "erased",zS "self_type",zS "variant",zS "variants",zS "adts",zS "types",zS "regions",zS "dict",zS "field_rows",zS "str",zS "enumerate",zS "put_in",zS "DROP",zS "seen",zS "left",zS "here",zS "pop",zS "extend",zS "append",zS "has_drop",zS "range",zS "fields_of",zS "arg_count",zS "locals_told",zS "blocks",zS "spots",zS "locals",zS "list",zS "local",zS "block",zS "point",zS "is_mut",zS "terminator",zS "word",zS "found",zS "goto",zS "switch",zS "call",zS "drop",zS "assert",zS "value",zS "turned",zS "rows",zS "body",zS "waiting",zS "successors",zS "kept",zS "places",zS "index",zS "Body",zS "statements",zS "retargeted",zS "goal",zS "LendError",zS "a type without fields: ",zS "projection",zS "downcast",zS "field",zS "deref",zS "field_type",zS " of ",zS "no ",zS "place",zS "type_of",zS "projected",zS "typed_fn",zS "args",zS "first_user",zS "alias",zS "frames",zS "path",zS "new_block",zS "sigs",zS "result",zS "n",zS "new_local",zS "statement",zS "note",zS "close",zS "put",zS "live",zS "frame",zS "is_living",zS "needs_drop",zS "following",zS "dead",zS "finish",zS "depth",zS "with_blocks",zS "sorted",zS "unreachable",zS "reachable",zS "step",zS "declare",zS "copy",zS "move",zS "e",zS "temp",zS "into",zS "longer",zS "indexed",zS "user",zS "base",zS "is_there",zS "many",zS "USIZE",zS "BOOL_build_places",zS "const",zS "asserted",zS "OUT_OF_BOUNDS",zS "assign",zS "binary",zS "<",zS "operand",zS "expected",zS "text",zS "behind",zS "operand_of",zS "auto",zS "two-phase",zS "shared",zS "mode",zS "use",zS "mut",zS "lots",zS "lot",zS "or",zS "fields",zS "bind",zS "alternatives",zS "rows_of",zS "inner",zS "at",zS "parts_at",zS "Binding",zS "bindings_at",zS "isinstance",zS "borrow",zS "any",zS "is_kept_on",zS "fail",zS "bad",zS "good",zS "rvalue",zS "test",zS "op",zS "bound",zS ">=",zS "<=",zS "branch",zS "discriminant",zS "binding",zS "place_type",zS "guard",zS "bindings",zS "ahead",zS "lent",zS "holds",zS "mentions",zS "push",zS "PatternFault",zS "a guard that looks at what a mutable reference binds",zS "guarded",zS "locals_now",zS "arm",zS "inside",zS "arm_entry",zS "anew",zS "arm_into",zS "is_kept",zS "is_plain_name",zS "bind_all",zS "bind_one",zS "go",zS "is_quiet",zS "head",zS "loops",zS "MatchBuilder",zS "es",zS "operand_ahead",zS "late",zS "PLACES",zS "all",zS "BOOL_build_exprs",zS "yes",zS "no",zS "lazy",zS "unary",zS "cast",zS "into_scalar",zS "repeat",zS "into_made",zS "update",zS "print",zS "into_deed",zS "loop",zS "break",zS "continue",zS "return",zS "panic",zS "into_way",zS "into_call",zS "if",zS "into_if",zS "match",zS "match_into",zS "into_block",zS "no expression: ",zS "into_lazy",zS "operands",zS "put_binary",zS "-",zS "pair",zS "is_zero",zS "must",zS "CHECKED",zS "/",zS "%",zS "checked",zS " with overflow",zS "==",zS " by zero",zS "attempt to ",zS "VERBS",zS "settled",zS "asked",zS "fork",zS "truth",zS "&&",zS "||",zS "put_unit",zS "put_over",zS "NEVER",zS "end",zS "into_scope",zS "put_statement",zS "UNIT",zS "let",zS "let_bound",zS "into_loop",zS "put_value",zS "leave",zS "RESULT",zS "Loop",zS "builder",zS "ExprBuilder",zS "bind_params",zS "finished",zS "hold",zS "modules",zS "consts",zS "bodies",zS "number",zS "module",zS "_wall",zS "script",zS "script_cell",zS "large",zS "max",zS "source",zS "top",zS "digit",zS "things",zS "_law_take",zS "deep",zS "way",zS "choice",zS "sum",zS "_law_truth",zS "_law_number",zS "_law_one",zS "_law_deed",zS "+",zS "*",zS "compared",zS "not",zS "run",zS "a",zS "b",zS "is_over",zS "_law_counted",zS "_law_kind",zS "add",zS "subtract",zS "multiply",zS "first",zS "_law_worth",zS "_law_done",zS "_law_sum",zS "cells",zS "is_so",zS "prints",zS "done",zS "_law_int",zS "_law_bool",zS "tail",zS "both",zS "_law_local",zS "!",zS "_law_typed",zS "do",zS "_law_act",zS "_law_unit",zS "ill",zS "whole",zS "low",zS "u8",zS "told_now",zS "_law_read",zS "_law_made",zS "turn",zS "_law_stepped",zS "key",zS "begins",zS "tree",zS "_law_walked",zS "_law_due",zS "lower",zS "t",zS "TypedFn",zS "f",zS "World",zS "_law_pool",zS "_law_is_right",zS "_law_statement",zS "book",zS "counter",zS "_law_block",zS "ring",zS "_law_asked",zS "open",zS "_law_gone_through",zS "_law_rounds",zS "most",zS "_law_const",zS "_law_tree",zS "_law_choice",zS "_law_ring",zS "leaves",zS "grows",zS "last",zS "told_one",zS "cell",zS "big",zS "mixed",zS "drawn",zS "steps",zS "_law_U8",zS "slot",zS "wild",zS "due",zS "is_open",zS "_law_pattern",zS "_law_BOOL",zS "events",zS "event",zS "_law_event",zS "begin",zS "gone",zS "arms",zS "x",zS "guards",zS "_law_ways",zS "_law_way_right",zS "",zS "_law_scrutinee",zS "_law_arms",zS "_law_right",zS "_law_is_refused",zS "g",zS "attempt to add",zS "attempt to add with overflow",zS "attempt to add by zero",zS "attempt to subtract",zS "attempt to subtract with overflow",zS "attempt to subtract by zero",zS "attempt to multiply",zS "attempt to multiply with overflow",zS "attempt to multiply by zero",zS "divide",zS "attempt to divide",zS "attempt to divide with overflow",zS "attempt to divide by zero",zS "calculate the remainder",zS "attempt to calculate the remainder",zS "attempt to calculate the remainder with overflow",zS "attempt to calculate the remainder by zero",zS "shift left",zS "attempt to shift left",zS "attempt to shift left with overflow",zS "attempt to shift left by zero",zS "shift right",zS "attempt to shift right",zS "attempt to shift right with overflow",zS "attempt to shift right by zero",zS "Copy",zS "Drop",zS ".0",zS "usize",zS "<<",zS ">>"]
noncomputable def ac1:List ((Nat×Nat)×Nat):=[((271,331),419),((419,268),420),((419,270),421),((271,332),422),((422,268),423),((422,270),424),((271,333),425),((425,268),426),((425,270),427),((271,428),429),((429,268),430),((429,270),431),((271,432),433),((433,268),434),((433,270),435),((271,436),437),((437,268),438),((437,270),439),((271,440),441),((441,268),442),((441,270),443)]
noncomputable abbrev pU:List S:=[.expr (.ao4 5 4 [.loc 1,.loc 2]),.asg (.Ka (.loc 1) 2) (.loc 2),.asg (.Ka (.loc 1) 3) (.loc 3)]
noncomputable abbrev HN:List S:=[.asg (.name 7) (.at (.loc 6) 0),.iff (.cmp .Eq (.loc 7) (.str 8)) [.bad] [],.iff (.or [.cmp .Eq (.loc 7) (.str 10),.cmp .Eq (.loc 7) (.str 11)]) [.bad] [],.iff (.cmp .Eq (.loc 7) (.str 9)) [.ret (.at (.loc 6) 1)] [],.ret (.sV (.cmp .Eq (.loc 7) (.str 12)) (.at (.loc 6) 3) (.tup []))]
noncomputable abbrev Ni:List S:=[.asg (.name 7) (.at (.loc 6) 0),.iff (.cmp .In (.loc 7) (.tup [.str 32,.str 45,.str 46,.str 34])) [.ret (.gK true)] [],.iff (.cmp .Eq (.loc 7) (.str 8)) [.bad] [],.iff (.or [.cmp .Eq (.loc 7) (.str 9),.cmp .Eq (.loc 7) (.str 11)]) [.ret (.cmp .Eq (.comp [37,38] (.one 19) (.loc 19) (.call 20 [.loc 6]) [.not (.call 43 [.loc 19,.loc 37,.loc 38])] [(446,.local),(19,.local),(43,.globalImplicit),(38,.free),(37,.free)]) (.lst []))] [],.bad,.bad,.bad,.bad]
noncomputable abbrev Az:List S:=[.asg (.name 62) (.bR []),.asg (.name 63) (.bR [.loc 6]),.while (.cmp .NotEq (.loc 63) (.lst [])) [.asg (.name 64) (.S7 (.loc 63) "list" 65 "list.pop" []),.iff (.cmp .In (.at (.loc 64) 0) (.tup [.str 10,.str 15])) [.bad] [],.iff (.cmp .In (.at (.loc 64) 0) (.tup [.str 9,.str 11])) [.expr (.S7 (.loc 63) "list" 66 "list.extend" [.call 20 [.loc 64]])] [.iff (.and [.cmp .Eq (.at (.loc 64) 0) (.str 12),.cmp .NotIn (.loc 64) (.loc 62)]) [.bad,.bad,.bad] []]],.ret (.gK false)]
noncomputable abbrev DY:List S:=[.asg (.attr (.loc 1) 40) (.loc 40),.asg (.attr (.loc 1) 71) (.loc 71),.asg (.attr (.loc 1) 75) (.call 76 [.loc 72]),.asg (.attr (.loc 1) 73) (.sV (.cmp .Is (.loc 73) .none) (.bR []) (.loc 73)),.asg (.attr (.loc 1) 74) (.sV (.cmp .Is (.loc 74) .none) (.gJ 2) (.loc 74))]
noncomputable abbrev uT:List S:=[.ret (.at (.sub (.attr (.loc 1) 75) (.loc 77)) 0)]
noncomputable abbrev nJ:List S:=[.ret (.at (.sub (.attr (.loc 1) 73) (.loc 78)) 0)]
noncomputable abbrev nM:List S:=[.ret (.at (.sub (.attr (.loc 1) 73) (.loc 78)) 1)]
noncomputable abbrev pW:List S:=[.expr (.S7 (.attr (.loc 1) 75) "list" 67 "list.append" [.tup [.loc 6,.loc 80,.loc 40]]),.ret (.bin .Sub (.call 31 [.attr (.loc 1) 75]) (.int 1))]
noncomputable abbrev Ba:List S:=[.asg (.name 82) (.at (.loc 81) 0),.iff (.cmp .Eq (.loc 82) (.str 84)) [.asg (.name 6) (.lst [.at (.loc 81) 1])] [.iff (.cmp .Eq (.loc 82) (.str 85)) [.asg (.name 6) (.bin .Add (.comp [] (.many [89,78]) (.loc 78) (.at (.loc 81) 2) [] [(446,.local),(89,.local),(78,.local)]) (.lst [.at (.loc 81) 3]))] [.iff (.cmp .Eq (.loc 82) (.str 86)) [.asg (.name 6) (.lst [.at (.loc 81) 4])] [.iff (.cmp .Eq (.loc 82) (.str 87)) [.asg (.name 6) (.lst [.at (.loc 81) 2])] [.iff (.cmp .Eq (.loc 82) (.str 88)) [.asg (.name 6) (.lst [.at (.loc 81) 4])] [.asg (.name 6) (.lst [])]]]]],.asg (.name 83) (.bR []),.for (.name 78) (.loc 6) [.iff (.and [.cmp .IsNot (.loc 78) .none,.cmp .NotIn (.loc 78) (.loc 83)]) [.expr (.S7 (.loc 83) "list" 67 "list.append" [.loc 78])] []],.ret (.loc 83)]
noncomputable abbrev Bb:List S:=[.asg (.name 82) (.at (.loc 81) 0),.iff (.cmp .Eq (.loc 82) (.str 84)) [.ret (.tup [.str 84,.JL 90 [.at (.loc 81) 1]])] [],.iff (.cmp .Eq (.loc 82) (.str 85)) [.asg (.name 91) (.call 9 [.comp [90] (.many [89,78]) (.tup [.loc 89,.JL 90 [.loc 78]]) (.at (.loc 81) 2) [] [(446,.local),(89,.local),(78,.local),(90,.free)]]),.ret (.tup [.str 85,.at (.loc 81) 1,.loc 91,.sV (.cmp .Is (.at (.loc 81) 3) .none) .none (.JL 90 [.at (.loc 81) 3])])] [],.iff (.cmp .Eq (.loc 82) (.str 86)) [.bad] [],.iff (.cmp .Eq (.loc 82) (.str 87)) [.bad] [],.iff (.cmp .Eq (.loc 82) (.str 88)) [.ret (.bin .Add (.UW (.loc 81) (.int 4)) (.tup [.JL 90 [.at (.loc 81) 4]]))] [],.ret (.loc 81)]
noncomputable abbrev Ea:List S:=[.swap [83,93] [.bR [],.bR [.int 0]],.while (.cmp .NotEq (.loc 93) (.lst [])) [.asg (.name 78) (.S7 (.loc 93) "list" 65 "list.pop" []),.iff (.cmp .NotIn (.loc 78) (.loc 83)) [.expr (.S7 (.loc 83) "list" 67 "list.append" [.loc 78]),.expr (.S7 (.loc 93) "list" 66 "list.extend" [.slR (.call 94 [.meth (.loc 92) 81 [.loc 78]])])] []],.ret (.loc 83)]
noncomputable abbrev wN:List S:=[.asg (.name 96) (.gJ 0),.for (.name 78) (.loc 95) [.asg (.sub (.loc 96) (.loc 78)) (.call 31 [.loc 96])],.swap [73,74] [.bR [],.gJ 2],.for (.name 78) (.loc 95) [.asg (.tup [.name 99,.name 81]) (.sub (.attr (.loc 92) 73) (.loc 78)),.Qq 73 67 (.call 76 [.loc 99]) 81 96 101 100 R3,.for (.name 97) (.call 69 [.bin .Add (.call 31 [.loc 99]) (.int 1)]) [.iff (.cmp .In (.tup [.loc 78,.loc 97]) (.attr (.loc 92) 74)) [.asg (.sub (.loc 74) (.tup [.sub (.loc 96) (.loc 78),.loc 97])) (.sub (.attr (.loc 92) 74) (.tup [.loc 78,.loc 97]))] []]],.ret (.call 98 [.attr (.loc 92) 40,.attr (.loc 92) 71,.attr (.loc 92) 75,.loc 73,.loc 74])]
noncomputable abbrev Bc:List S:=[.iff (.cmp .Eq (.at (.loc 6) 0) (.str 9)) [.ret (.sub (.at (.loc 6) 1) (.loc 0))] [],.iff (.cmp .Eq (.at (.loc 6) 0) (.str 12)) [.bad] [],.bad]
noncomputable abbrev Eb:List S:=[.asg (.name 82) (.at (.loc 104) 0),.iff (.cmp .Eq (.loc 82) (.str 105)) [.ret (.tup [.loc 6,.at (.loc 104) 1])] [],.iff (.cmp .Eq (.loc 82) (.str 106)) [.ret (.tup [.call 108 [.loc 6,.loc 51,.at (.loc 104) 1,.loc 37],.int 0])] [],.iff (.and [.cmp .Eq (.loc 82) (.str 107),.cmp .Eq (.at (.loc 6) 0) (.str 8)]) [.ret (.tup [.at (.loc 6) 3,.int 0])] [],.iff (.or [.and [.cmp .Eq (.loc 82) (.str 107),.cmp .Eq (.at (.loc 6) 0) (.str 10)],.and [.cmp .Eq (.loc 82) (.str 97),.cmp .Eq (.at (.loc 6) 0) (.str 11)]]) [.ret (.tup [.at (.loc 6) 1,.int 0])] [],.bad]
noncomputable abbrev Bd:List S:=[.swap [6,51] [.meth (.loc 92) 112 [.at (.loc 111) 0],.int 0],.for (.name 104) (.at (.loc 111) 1) [.asg (.tup [.name 6,.name 51]) (.call 113 [.loc 6,.loc 51,.loc 104,.loc 37])],.ret (.loc 6)]
noncomputable abbrev wO:List S:=[.asg (.attr (.loc 1) 37) (.loc 37),.asg (.attr (.loc 1) 38) (.sV (.cmp .In (.attr (.loc 114) 119) (.attr (.loc 37) 121)) (.call 56 [.attr (.sub (.attr (.loc 37) 121) (.attr (.loc 114) 119)) 39]) (.gJ 1)),.asg (.name 91) (.Zz (.lst [.tup [.attr (.loc 114) 122,.gK true,.none]]) (.comp [] (.one 25) (.tup [.at (.loc 25) 1,.gK false,.none]) (.attr (.loc 114) 39) [] [(446,.local),(25,.local)])),.asg (.attr (.loc 1) 115) (.call 76 [.call 69 [.int 1,.call 31 [.loc 91]]]),.asg (.attr (.loc 1) 116) (.call 31 [.loc 91]),.expr (.S7 (.loc 91) "list" 66 "list.extend" [.comp [] (.many [40,6,80]) (.tup [.loc 6,.loc 80,.loc 40]) (.attr (.loc 114) 75) [] [(446,.local),(40,.local),(6,.local),(80,.local)]]),.asg (.attr (.loc 1) 92) (.call 98 [.attr (.loc 114) 119,.call 31 [.attr (.loc 1) 115],.loc 91]),.asg (.attr (.loc 1) 3) (.int 0),.asg (.attr (.loc 1) 117) (.gJ 0),.asg (.attr (.loc 1) 118) (.bR []),.asg (.attr (.loc 1) 64) (.meth (.loc 1) 120 [])]
noncomputable abbrev wQ:List S:=[.ret (.bin .Add (.attr (.loc 1) 116) (.loc 123))]
noncomputable abbrev lN:List S:=[.ret (.meth (.attr (.loc 1) 92) 124 [.loc 6,.loc 80,.loc 40])]
noncomputable abbrev pX:List S:=[.ret (.meth (.attr (.loc 1) 92) 112 [.loc 77])]
noncomputable abbrev lO:List S:=[.expr (.S7 (.attr (.attr (.loc 1) 92) 73) "list" 67 "list.append" [.bR [.bR [],.none]]),.ret (.bin .Sub (.call 31 [.attr (.attr (.loc 1) 92) 73]) (.int 1))]
noncomputable abbrev wR:List S:=[.asg (.sub (.attr (.attr (.loc 1) 92) 74) (.tup [.attr (.loc 1) 64,.call 31 [.meth (.attr (.loc 1) 92) 99 [.attr (.loc 1) 64]]])) (.attr (.loc 1) 3)]
noncomputable abbrev Bf:List S:=[.expr (.meth (.loc 1) 126 []),.expr (.S7 (.meth (.attr (.loc 1) 92) 99 [.attr (.loc 1) 64]) "list" 67 "list.append" [.loc 125])]
noncomputable abbrev uU:List S:=[.expr (.meth (.loc 1) 126 []),.asg (.sub (.sub (.attr (.attr (.loc 1) 92) 73) (.attr (.loc 1) 64)) (.int 1)) (.loc 81)]
noncomputable abbrev wU:List S:=[.expr (.S7 (.attr (.loc 1) 118) "list" 67 "list.append" [.bR []]),.ret (.bin .Sub (.call 31 [.attr (.loc 1) 118]) (.int 1))]
noncomputable abbrev pY:List S:=[.expr (.meth (.loc 1) 128 [.tup [.str 129,.loc 77]]),.expr (.S7 (.sub (.attr (.loc 1) 118) (.neg (.int 1))) "list" 67 "list.append" [.tup [.loc 77,.gK true]])]
noncomputable abbrev rP:List S:=[.for (.tup [.name 77,.name 131]) (.slR (.loc 130)) [.iff (.call 132 [.meth (.loc 1) 112 [.loc 77],.attr (.loc 1) 37]) [.bad,.bad,.bad] [],.iff (.loc 131) [.expr (.meth (.loc 1) 128 [.tup [.str 134,.loc 77]])] []]]
noncomputable abbrev Bg:List S:=[.expr (.meth (.loc 1) 135 [.sub (.attr (.loc 1) 118) (.neg (.int 1))]),.expr (.S7 (.attr (.loc 1) 118) "list" 65 "list.pop" [])]
noncomputable abbrev nO:List S:=[.for (.name 78) (.attr (.attr (.loc 1) 92) 73) [.iff (.cmp .Is (.at (.loc 78) 1) .none) [.asg (.sub (.loc 78) (.int 1)) (.tup [.str 139])] []],.ret (.call 137 [.attr (.loc 1) 92,.call 138 [.call 140 [.attr (.loc 1) 92]]])]
noncomputable abbrev Rn:List S:=[.ret (.tup [.at (.loc 111) 0,.bin .Add (.at (.loc 111) 1) (.tup [.loc 141])])]
noncomputable abbrev dH:List S:=[.ret (.tup [.sV (.call 43 [.loc 6,.attr (.loc 1) 37,.attr (.loc 1) 38]) (.str 143) (.str 144),.loc 111])]
noncomputable abbrev jo:List S:=[.asg (.name 7) (.at (.loc 145) 0),.iff (.cmp .Eq (.loc 7) (.str 77)) [.ret (.sV (.cmp .In (.at (.loc 145) 3) (.attr (.loc 1) 117)) (.sub (.attr (.loc 1) 117) (.at (.loc 145) 3)) (.tup [.meth (.loc 1) 150 [.at (.loc 145) 3],.tup []]))] [],.iff (.cmp .Eq (.loc 7) (.str 107)) [.ret (.call 148 [.meth (.loc 1) 111 [.at (.loc 145) 3],.tup [.str 107]])] [],.iff (.cmp .Eq (.loc 7) (.str 106)) [.ret (.call 148 [.meth (.loc 1) 111 [.at (.loc 145) 3],.tup [.str 106,.at (.loc 145) 4]])] [],.bad,.bad,.bad,.ret (.tup [.loc 77,.tup []])]
noncomputable abbrev gW:List S:=[.iff (.cmp .Eq (.at (.loc 145) 0) (.str 156)) [.ret (.tup [.str 156,.at (.loc 145) 1,.at (.loc 145) 3])] [],.ret (.meth (.loc 1) 166 [.meth (.loc 1) 111 [.loc 145],.at (.loc 145) 1])]
noncomputable abbrev uV:List S:=[.asg (.attr (.loc 1) 77) (.loc 77),.asg (.attr (.loc 1) 170) (.loc 170),.asg (.attr (.loc 1) 111) (.loc 111)]
noncomputable abbrev pZ:List S:=[.iff (.or [.cmp .Eq (.attr (.loc 1) 170) (.str 8),.cmp .Eq (.attr (.loc 1) 170) (.str 172)]) [.ret (.tup [.str 8,.none,.sV (.cmp .Eq (.attr (.loc 1) 170) (.str 172)) (.str 172) (.str 169),.attr (.loc 1) 111])] [],.ret (.tup [.str 171,.tup [.attr (.loc 1) 170,.attr (.loc 1) 111]])]
noncomputable abbrev uW:List S:=[.asg (.name 7) (.at (.loc 25) 0),.iff (.cmp .Eq (.loc 7) (.str 175)) [.ret (.Kg [] (.one 19) (.one 28) (.loc 28) (.at (.loc 25) 2) (.call 178 [.loc 19]) [] [(446,.local),(19,.local),(28,.local),(178,.globalImplicit)])] [],.iff (.and [.cmp .Eq (.loc 7) (.str 177),.cmp .IsNot (.at (.loc 25) 4) .none]) [.bad] [],.iff (.cmp .Eq (.loc 7) (.str 107)) [.bad] [],.iff (.cmp .Eq (.loc 7) (.str 176)) [.bad] [],.iff (.cmp .Eq (.loc 7) (.str 51)) [.bad,.bad] [],.ret (.lst [.loc 25])]
noncomputable abbrev HS:List S:=[.asg (.name 7) (.at (.loc 25) 0),.iff (.cmp .Eq (.loc 7) (.str 177)) [.ret (.sV (.cmp .Is (.at (.loc 25) 4) .none) (.lst []) (.lst [.tup [.at (.loc 25) 4,.loc 111]]))] [],.iff (.cmp .Eq (.loc 7) (.str 107)) [.bad] [],.iff (.cmp .Eq (.loc 7) (.str 176)) [.bad] [],.iff (.cmp .Eq (.loc 7) (.str 51)) [.bad,.bad] [],.ret (.lst [])]
noncomputable abbrev wV:List S:=[.asg (.name 83) (.sV (.cmp .Eq (.at (.loc 25) 0) (.str 177)) (.bR [.call 183 [.at (.loc 25) 2,.at (.loc 25) 3,.loc 111]]) (.bR [])),.for (.tup [.name 19,.name 3]) (.call 182 [.loc 25,.loc 111]) [.bad],.ret (.loc 83)]
noncomputable abbrev HW:List S:=[.asg (.name 63) (.bR [.loc 145]),.while (.cmp .NotEq (.loc 63) (.lst [])) [.asg (.name 64) (.S7 (.loc 63) "list" 65 "list.pop" []),.iff (.call 185 [.loc 64,.glob 9]) [.iff (.and [.cmp .Eq (.call 31 [.loc 64]) (.int 4),.cmp .Eq (.at (.loc 64) 0) (.str 77),.cmp .In (.at (.loc 64) 3) (.loc 72)]) [.ret (.gK true)] [],.expr (.S7 (.loc 63) "list" 66 "list.extend" [.loc 64])] []],.ret (.gK false)]
noncomputable abbrev iW:List S:=[.swap [191,190] [.meth (.loc 1) 120 [],.meth (.loc 1) 120 []],.iff (.cmp .Is (.loc 89) .none) [.expr (.meth (.loc 1) 127 [.tup [.str 85,.tup [.str 143,.tup [.loc 77,.tup []]],.tup [.tup [.gK false,.loc 190]],.loc 191]])] [.expr (.meth (.loc 1) 127 [.tup [.str 85,.tup [.str 143,.tup [.loc 77,.tup []]],.tup [.tup [.loc 89,.loc 191]],.loc 190]])],.asg (.attr (.loc 1) 64) (.loc 190),.expr (.meth (.loc 1) 128 [.tup [.str 134,.loc 77]]),.expr (.meth (.loc 1) 127 [.tup [.str 84,.loc 189]]),.asg (.attr (.loc 1) 64) (.loc 191),.expr (.meth (.loc 1) 128 [.tup [.str 134,.loc 77]])]
noncomputable abbrev jV:List S:=[.asg (.name 77) (.meth (.loc 1) 124 [.loc 6]),.expr (.meth (.loc 1) 128 [.tup [.str 129,.loc 77]]),.expr (.meth (.loc 1) 128 [.tup [.str 159,.tup [.loc 77,.tup []],.loc 192]]),.ret (.loc 77)]
noncomputable abbrev jW:List S:=[.asg (.name 7) (.at (.loc 25) 0),.iff (.cmp .Eq (.loc 7) (.str 156)) [.asg (.name 191) (.meth (.loc 1) 120 []),.expr (.meth (.loc 1) 127 [.tup [.str 85,.tup [.str 143,.loc 111],.tup [.tup [.at (.loc 25) 2,.loc 191]],.loc 189]]),.asg (.attr (.loc 1) 64) (.loc 191)] [.iff (.cmp .Eq (.loc 7) (.str 69)) [.for (.tup [.name 194,.name 195]) (.tup [.tup [.str 196,.at (.loc 25) 2],.tup [.str 197,.at (.loc 25) 3]]) [.asg (.name 36) (.tup [.str 160,.loc 194,.tup [.str 143,.loc 111],.tup [.str 156,.at (.loc 25) 1,.loc 195]]),.expr (.meth (.loc 1) 198 [.meth (.loc 1) 6 [.glob 155,.loc 36],.none,.loc 189])]] [.iff (.and [.cmp .Eq (.loc 7) (.str 51),.cmp .Gt (.call 31 [.attr (.sub (.attr (.attr (.loc 1) 37) 53) (.at (.at (.loc 25) 1) 1)) 52]) (.int 1)]) [.expr (.meth (.loc 1) 198 [.meth (.loc 1) 6 [.glob 154,.tup [.str 199,.loc 111]],.at (.loc 25) 2,.loc 189])] []]],.for (.tup [.name 19,.name 3]) (.call 182 [.loc 25,.loc 111]) [.expr (.meth (.loc 1) 193 [.loc 19,.loc 3,.loc 189])]]
noncomputable abbrev jX:List S:=[.expr (.meth (.loc 1) 128 [.tup [.str 159,.tup [.meth (.loc 1) 150 [.attr (.loc 200) 77],.tup []],.meth (.loc 200) 192 []]])]
noncomputable abbrev jY:List S:=[.asg (.name 26) (.bin .Add (.lst [.loc 111]) (.YQ 59 [111] [181,141] (.tup [.at (.loc 111) 0,.UW (.at (.loc 111) 1) (.loc 181)]) (.at (.loc 111) 1) [.cmp .Eq (.loc 141) (.tup [.str 107])] [(446,.local),(181,.local),(141,.local),(111,.free)])),.yN 54 [1] (.one 28) (.tup [.str 8,.none,.gK false,.call 201 [.attr (.loc 1) 92,.loc 28,.attr (.loc 1) 37]]) (.loc 26) [] [(446,.local),(28,.local),(201,.globalImplicit),(1,.free)],.ret (.YQ 59 [1,54] [181,28] (.meth (.loc 1) 6 [.sub (.loc 54) (.loc 181),.tup [.str 8,.none,.str 169,.loc 28]]) (.loc 26) [] [(446,.local),(181,.local),(28,.local),(1,.free),(54,.free)])]
noncomputable abbrev R2:List S:=[.asg (.name 204) (.call 56 [.attr (.loc 1) 117]),.iff (.call 207 [.loc 202,.comp [] (.one 200) (.attr (.loc 200) 77) (.loc 203) [.cmp .Eq (.attr (.loc 200) 170) (.str 172)] [(446,.local),(200,.local)]]) [.Wa (.ao5 209 [.str 210,.at (.loc 202) 2])] [],.for (.name 200) (.loc 203) [.iff (.cmp .Eq (.attr (.loc 200) 170) (.str 144)) [.asg (.sub (.attr (.loc 1) 117) (.attr (.loc 200) 77)) (.attr (.loc 200) 111)] [.iff (.cmp .NotEq (.attr (.loc 200) 170) (.str 172)) [.expr (.meth (.loc 1) 177 [.loc 200])] []]],.asg (.name 205) (.meth (.loc 1) 205 [.loc 111]),.asg (.name 206) (.meth (.loc 1) 124 [.glob 155]),.expr (.meth (.loc 1) 128 [.tup [.str 129,.loc 206]]),.expr (.meth (.loc 1) 208 []),.expr (.meth (.loc 1) 147 [.tup [.loc 206,.tup []],.loc 202]),.expr (.meth (.loc 1) 65 []),.asg (.attr (.loc 1) 117) (.loc 204),.for (.name 77) (.loc 205) [.expr (.meth (.loc 1) 128 [.tup [.str 134,.meth (.loc 1) 6 [.meth (.loc 1) 112 [.loc 77],.tup [.str 171,.tup [.str 143,.tup [.loc 77,.tup []]]]]]])],.for (.name 77) (.slR (.loc 205)) [.expr (.meth (.loc 1) 128 [.tup [.str 134,.loc 77]])],.expr (.meth (.loc 1) 198 [.loc 206,.none,.loc 189])]
noncomputable abbrev fj:List S:=[.expr (.meth (.loc 1) 193 [.loc 25,.loc 111,.loc 189]),.asg (.name 203) (.call 184 [.loc 25,.loc 111]),.iff (.cmp .IsNot (.loc 202) .none) [.expr (.meth (.loc 1) 211 [.loc 202,.loc 203,.loc 111,.loc 189])] [],.for (.name 200) (.loc 203) [.iff (.or [.cmp .Is (.loc 202) .none,.cmp .In (.attr (.loc 200) 170) (.tup [.str 144,.str 172])]) [.expr (.meth (.loc 1) 177 [.loc 200])] []]]
noncomputable abbrev jZ:List S:=[.for (.name 77) (.slR (.loc 212)) [.expr (.meth (.loc 1) 128 [.tup [.str 134,.loc 77]])],.for (.name 77) (.loc 212) [.expr (.meth (.loc 1) 128 [.tup [.str 129,.loc 77]])]]
noncomputable abbrev Z5:List S:=[.asg (.tup [.name 25,.name 202,.name 145]) (.loc 213),.swap [26,214] [.call 178 [.loc 25],.meth (.loc 1) 120 []],.expr (.meth (.loc 1) 208 []),.VB 212 [1] (.one 200) (.meth (.loc 1) 150 [.attr (.loc 200) 77]) (.call 184 [.at (.loc 26) 0,.loc 35]) [] [(446,.local),(200,.local),(1,.free)],.for (.name 77) (.loc 212) [.expr (.meth (.loc 1) 142 [.loc 77])],.for (.name 28) (.loc 26) [.asg (.name 189) (.meth (.loc 1) 120 []),.expr (.meth (.loc 1) 215 [.loc 28,.loc 202,.loc 35,.loc 189]),.expr (.meth (.loc 1) 127 [.tup [.str 84,.loc 214]]),.asg (.attr (.loc 1) 64) (.loc 189),.expr (.meth (.loc 1) 216 [.loc 212])],.an1 [.name 189,.attr (.loc 1) 64] [.attr (.loc 1) 64,.loc 214],.expr (.meth (.loc 1) 147 [.loc 111,.loc 145]),.expr (.meth (.loc 1) 65 []),.expr (.meth (.loc 1) 127 [.tup [.str 84,.loc 165]]),.asg (.attr (.loc 1) 64) (.loc 189),.for (.name 77) (.slR (.loc 212)) [.expr (.meth (.loc 1) 128 [.tup [.str 134,.loc 77]])]]
noncomputable abbrev dI:List S:=[.swap [35,165] [.meth (.loc 1) 111 [.at (.loc 145) 3],.meth (.loc 1) 120 []],.for (.name 213) (.at (.loc 145) 4) [.asg (.attr (.loc 1) 3) (.at (.loc 145) 2),.expr (.meth (.loc 1) 217 [.loc 111,.loc 213,.loc 35,.loc 165])],.expr (.meth (.loc 1) 127 [.tup [.str 139]]),.asg (.attr (.loc 1) 64) (.loc 165)]
noncomputable abbrev cY:List S:=[.ap2 [.name 181,.name 25] 59 (.loc 39) [.bad,.bad,.bad]]
noncomputable abbrev HX:List S:=[.iff (.cmp .Eq (.at (.loc 145) 0) (.str 106)) [.ret (.call 223 [.at (.loc 145) 3])] [],.ret (.cmp .In (.at (.loc 145) 0) (.tup [.str 156,.str 77]))]
noncomputable abbrev lQ:List S:=[.expr (.PK 226 4 [.loc 1,.loc 114,.loc 37]),.asg (.attr (.loc 1) 225) (.gJ 0)]
noncomputable abbrev jq:List S:=[.expr (.meth (.loc 1) 128 [.tup [.str 159,.loc 111,.loc 192]])]
noncomputable abbrev gY:List S:=[.ret (.comp [1,227] (.one 181) (.meth (.loc 1) 228 [.sub (.loc 227) (.loc 181),.slF (.loc 227) (.bin .Add (.loc 181) (.int 1))]) (.call 69 [.call 31 [.loc 227]]) [] [(446,.local),(181,.local),(227,.free),(1,.free)])]
noncomputable abbrev bU:List S:=[.asg (.name 162) (.meth (.loc 1) 162 [.loc 145]),.iff (.and [.cmp .In (.at (.loc 145) 0) (.glob 230),.not (.call 231 [.comp [] (.one 28) (.call 223 [.loc 28]) (.loc 229) [] [(446,.local),(28,.local),(223,.globalImplicit)]])]) [.ret (.meth (.loc 1) 95 [.loc 162,.at (.loc 145) 1])] [],.ret (.loc 162)]
noncomputable abbrev lR:List S:=[.an1 [.name 3,.attr (.loc 1) 3] [.attr (.loc 1) 3,.at (.loc 145) 2],.iff (.or [.cmp .In (.at (.loc 145) 0) (.glob 230),.cmp .Eq (.at (.loc 145) 0) (.str 156)]) [.expr (.meth (.loc 1) 159 [.loc 111,.tup [.str 171,.meth (.loc 1) 162 [.loc 145]]])] [.iff (.cmp .In (.at (.loc 145) 0) (.tup [.str 160,.str 235,.str 236,.str 237])) [.expr (.meth (.loc 1) 238 [.loc 111,.loc 145])] [.iff (.cmp .In (.at (.loc 145) 0) (.tup [.str 186,.str 9,.str 11,.str 239,.str 12,.str 10])) [.expr (.meth (.loc 1) 240 [.loc 111,.loc 145])] [.iff (.cmp .In (.at (.loc 145) 0) (.tup [.str 159,.str 241,.str 242])) [.expr (.meth (.loc 1) 243 [.loc 111,.loc 145])] [.iff (.cmp .In (.at (.loc 145) 0) (.tup [.str 244,.str 245,.str 246,.str 247,.str 248])) [.expr (.meth (.loc 1) 249 [.loc 111,.loc 145])] [.iff (.cmp .Eq (.at (.loc 145) 0) (.str 86)) [.expr (.meth (.loc 1) 250 [.loc 111,.loc 145])] [.iff (.cmp .Eq (.at (.loc 145) 0) (.str 251)) [.expr (.meth (.loc 1) 252 [.loc 111,.loc 145])] [.iff (.cmp .Eq (.at (.loc 145) 0) (.str 253)) [.expr (.meth (.loc 1) 254 [.loc 111,.loc 145])] [.iff (.cmp .Eq (.at (.loc 145) 0) (.str 78)) [.expr (.meth (.loc 1) 255 [.loc 111,.loc 145])] [.bad]]]]]]]]],.asg (.attr (.loc 1) 3) (.loc 3)]
noncomputable abbrev dJ:List S:=[.iff (.cmp .Eq (.at (.loc 145) 0) (.str 235)) [.expr (.meth (.loc 1) 257 [.loc 111,.loc 145])] [.iff (.cmp .Eq (.at (.loc 145) 0) (.str 237)) [.expr (.meth (.loc 1) 159 [.loc 111,.tup [.str 237,.meth (.loc 1) 162 [.at (.loc 145) 3],.at (.loc 145) 1]])] [.iff (.cmp .Eq (.at (.loc 145) 0) (.str 160)) [.asg (.tup [.name 28,.name 29]) (.meth (.loc 1) 258 [.tup [.at (.loc 145) 4,.at (.loc 145) 5]]),.expr (.meth (.loc 1) 259 [.loc 111,.at (.loc 145) 3,.loc 28,.loc 29,.at (.at (.loc 145) 4) 1])] [.iff (.cmp .Eq (.at (.loc 145) 3) (.str 260)) [.expr (.meth (.loc 1) 259 [.loc 111,.str 260,.tup [.str 156,.at (.loc 145) 1,.int 0],.meth (.loc 1) 162 [.at (.loc 145) 4],.at (.loc 145) 1])] [.expr (.meth (.loc 1) 159 [.loc 111,.tup [.str 236,.at (.loc 145) 3,.meth (.loc 1) 162 [.at (.loc 145) 4]]])]]]]]
noncomputable abbrev fB:List S:=[.iff (.or [.cmp .NotIn (.loc 194) (.glob 264),.cmp .NotEq (.at (.loc 6) 0) (.str 32)]) [.expr (.meth (.loc 1) 159 [.loc 111,.tup [.str 160,.loc 194,.loc 28,.loc 29]]),.ay4] [],.iff (.cmp .In (.loc 194) (.tup [.str 265,.str 266])) [.asg (.name 262) (.meth (.loc 1) 146 [.glob 232]),.expr (.meth (.loc 1) 159 [.tup [.loc 262,.tup []],.tup [.str 160,.str 269,.loc 29,.tup [.str 156,.loc 6,.int 0]]]),.expr (.meth (.loc 1) 263 [.tup [.str 143,.tup [.loc 262,.tup []]],.gK false,.bin .Add (.bin .Add (.str 271) (.sub (.glob 272) (.loc 194))) (.str 270)])] [],.asg (.name 261) (.meth (.loc 1) 146 [.tup [.str 9,.tup [.loc 6,.glob 232]]]),.expr (.meth (.loc 1) 159 [.tup [.loc 261,.tup []],.tup [.str 267,.loc 194,.loc 28,.loc 29]]),.expr (.meth (.loc 1) 263 [.tup [.str 143,.tup [.loc 261,.tup [.tup [.str 106,.int 1]]]],.gK false,.bin .Add (.bin .Add (.str 271) (.sub (.glob 272) (.loc 194))) (.str 268)]),.expr (.meth (.loc 1) 159 [.loc 111,.tup [.str 171,.tup [.str 143,.tup [.loc 261,.tup [.tup [.str 106,.int 0]]]]]])]
noncomputable abbrev Wg:List S:=[.asg (.name 293) (.call 294 [.loc 114,.loc 37]),.expr (.meth (.loc 293) 208 []),.for (.name 77) (.attr (.loc 293) 115) [.expr (.meth (.loc 293) 297 [.loc 77])],.expr (.meth (.loc 293) 208 []),.expr (.meth (.loc 293) 295 [.attr (.loc 114) 39]),.expr (.meth (.loc 293) 147 [.tup [.glob 291,.tup []],.attr (.loc 114) 92]),.expr (.meth (.loc 293) 65 []),.expr (.meth (.loc 293) 65 []),.expr (.meth (.loc 293) 127 [.tup [.str 247]]),.ret (.meth (.loc 293) 296 [])]
noncomputable abbrev uX:List S:=[.asg (.attr (.loc 1) 119) (.loc 119),.asg (.attr (.loc 1) 75) (.loc 91),.asg (.attr (.loc 1) 39) (.loc 39),.asg (.attr (.loc 1) 122) (.loc 122),.asg (.attr (.loc 1) 92) (.loc 92)]
noncomputable abbrev Bh:List S:=[.asg (.attr (.loc 1) 298) (.loc 298),.asg (.attr (.loc 1) 53) (.gJ 1),.asg (.attr (.loc 1) 52) (.gJ 1),.asg (.attr (.loc 1) 121) (.gJ 1),.asg (.attr (.loc 1) 41) (.gJ 1),.asg (.attr (.loc 1) 44) (.bR []),.asg (.attr (.loc 1) 299) (.gJ 1),.asg (.attr (.loc 1) 300) (.gJ 1)]
noncomputable abbrev qT:List S:=[.asg (.name 391) (.int 0),.iff (.cmp .Lt (.loc 0) (.call 31 [.loc 304])) [.asg (.name 391) (.sub (.loc 304) (.loc 0))] [],.asg (.name 392) (.call 307 [.call 32 [.loc 391],.call 32 [.bin .Sub (.neg (.int 1)) (.loc 391)]]),.asg (.name 393) (.bin .Mod (.call 32 [.bin .Mult (.bin .Add (.bin .Add (.bin .Add (.bin .Mod (.call 32 [.loc 392]) (.int 2147483629)) (.bin .Mult (.bin .Mult (.int 7919) (.loc 0)) (.loc 0))) (.bin .Mult (.int 31) (.loc 0))) (.int 17)) (.int 48271)]) (.int 2147483647)),.ret (.bR [.bin .Mult (.loc 392) (.call 32 [.cmp .GtE (.loc 392) (.bin .Pow (.int 10) (.int 18))]),.loc 393])]
noncomputable abbrev Ec:List S:=[.iff (.cmp .Gt (.at (.loc 308) 0) (.int 0)) [.asg (.name 394) (.bin .Mod (.call 32 [.at (.loc 308) 0]) (.loc 309)),.asg (.sub (.loc 308) (.int 0)) (.bin .FloorDiv (.at (.loc 308) 0) (.loc 309)),.ret (.loc 394)] [],.asg (.sub (.loc 308) (.int 1)) (.bin .Mod (.call 32 [.bin .Add (.bin .Mult (.at (.loc 308) 1) (.int 39373)) (.int 7)]) (.int 2147483647)),.ret (.bin .Mod (.call 32 [.bin .FloorDiv (.bin .Mod (.call 32 [.bin .Mult (.at (.loc 308) 1) (.at (.loc 308) 1)]) (.int 2147483629)) (.int 32)]) (.loc 309))]
noncomputable abbrev HY:List S:=[.ret (.sub (.loc 311) (.call 312 [.loc 308,.call 31 [.loc 311]]))]
noncomputable abbrev qb:List S:=[.swap [145,6,395] [.tup [.str 77,.glob 396,.int 0,.int 0],.glob 396,.tup []],.for (.name 359) (.call 69 [.call 312 [.loc 308,.int 4]]) [.asg (.name 314) (.call 312 [.loc 308,.int 3]),.asg (.name 6) (.sub (.lst [.tup [.str 9,.tup [.glob 396,.loc 6]],.tup [.str 10,.loc 6],.tup [.str 8,.none,.cmp .Gt (.loc 359) (.int 0),.loc 6]]) (.loc 314)),.asg (.name 395) (.bin .Add (.sV (.cmp .Eq (.loc 314) (.int 0)) (.tup [.tup [.str 106,.int 1]]) (.tup [.tup [.str 107]])) (.loc 395))],.asg (.name 180) (.loc 6),.asg (.name 145) (.tup [.str 77,.loc 6,.int 0,.int 0]),.for (.name 141) (.loc 395) [.asg (.name 180) (.sV (.cmp .Eq (.loc 141) (.tup [.str 106,.int 1])) (.at (.at (.loc 180) 1) 1) (.sV (.cmp .Eq (.at (.loc 180) 0) (.str 8)) (.at (.loc 180) 3) (.at (.loc 180) 1))),.asg (.name 145) (.sV (.cmp .Eq (.loc 141) (.tup [.str 106,.int 1])) (.tup [.str 106,.loc 180,.int 0,.loc 145,.int 1]) (.tup [.str 107,.loc 180,.int 0,.loc 145]))],.ret (.tup [.loc 145,.loc 6,.loc 395])]
noncomputable abbrev uY:List S:=[.ret (.call 319 [.loc 308,.lst [.tup [.str 398,.glob 396],.tup [.str 156,.glob 396,.int 3],.tup [.str 69,.glob 396,.int 2,.int 5],.tup [.str 177,.glob 396,.loc 397,.str 143,.none],.tup [.str 175,.glob 396,.tup [.tup [.str 156,.glob 396,.int 1],.tup [.str 69,.glob 396,.int 4,.int 6]]],.tup [.str 177,.glob 396,.loc 397,.str 8,.none]]])]
noncomputable abbrev qU:List S:=[.swap [83,399,400] [.bR [],.int 0,.gK true],.for (.name 301) (.call 69 [.bin .Add (.int 1) (.call 312 [.loc 308,.int 2])]) [.swap [25,202] [.call 401 [.loc 308,.call 31 [.loc 91]],.none],.asg (.name 6) (.sV (.and [.cmp .Eq (.at (.loc 25) 0) (.str 177),.cmp .Eq (.at (.loc 25) 3) (.str 8)]) (.tup [.str 8,.none,.gK false,.glob 396]) (.glob 396)),.expr (.S7 (.loc 91) "list" 67 "list.append" [.tup [.str 327,.loc 6,.gK false]]),.iff (.cmp .Gt (.call 312 [.loc 308,.int 3]) (.int 0)) [.asg (.name 202) (.tup [.str 160,.glob 402,.int 0,.str 161,.tup [.str 77,.glob 396,.int 0,.int 1],.tup [.str 156,.glob 396,.int 0,.bin .Add (.int 70) (.loc 301)]]),.asg (.name 399) (.bin .Add (.loc 399) (.bin .Mult (.loc 400) (.sV (.cmp .Eq (.at (.loc 25) 0) (.str 175)) (.int 2) (.int 1))))] [.iff (.cmp .In (.at (.loc 25) 0) (.lst [.str 398,.str 177])) [.asg (.name 400) (.gK false)] []],.expr (.S7 (.loc 83) "list" 67 "list.append" [.tup [.loc 25,.loc 202,.tup [.str 156,.glob 396,.int 0,.loc 301]]])],.ret (.tup [.bin .Add (.call 9 [.loc 83]) (.tup [.tup [.tup [.str 398,.glob 396],.none,.tup [.str 156,.glob 396,.int 0,.int 9]]]),.loc 399])]
noncomputable abbrev Bj:List S:=[.iff (.cmp .Eq (.at (.loc 125) 0) (.str 134)) [.ret (.tup [.str 134,.at (.loc 125) 1])] [],.iff (.cmp .NotEq (.at (.loc 125) 0) (.str 159)) [.ret .none] [],.swap [77,192] [.at (.at (.loc 125) 1) 0,.at (.loc 125) 2],.iff (.and [.cmp .Eq (.at (.loc 192) 0) (.str 8),.cmp .Eq (.at (.loc 192) 2) (.str 169)]) [.ret (.tup [.str 205,.loc 77,.at (.loc 192) 3])] [],.iff (.and [.cmp .Eq (.at (.loc 192) 0) (.str 160),.cmp .Eq (.at (.at (.loc 192) 3) 0) (.str 156),.cmp .GtE (.at (.at (.loc 192) 3) 2) (.int 70)]) [.ret (.tup [.str 202,.at (.at (.loc 192) 3) 2])] [],.iff (.and [.cmp .Eq (.at (.loc 192) 0) (.str 171),.cmp .Eq (.at (.at (.loc 192) 1) 0) (.str 143),.cmp .Eq (.at (.at (.at (.loc 192) 1) 1) 1) (.tup [])]) [.ret (.tup [.str 143,.at (.at (.at (.loc 192) 1) 1) 0])] [],.ret .none]
noncomputable abbrev Ed:List S:=[.swap [83,93] [.bR [],.bR [.tup [.int 0,.lst []]]],.while (.and [.cmp .NotEq (.loc 93) (.lst []),.cmp .Lt (.call 31 [.loc 83]) (.int 300)]) [.asg (.tup [.name 78,.name 403]) (.S7 (.loc 93) "list" 65 "list.pop" []),.asg (.name 403) (.bin .Add (.loc 403) (.comp [] (.one 404) (.loc 404) (.comp [] (.one 28) (.call 405 [.loc 28]) (.at (.sub (.attr (.loc 92) 73) (.loc 78)) 0) [] [(446,.local),(28,.local),(405,.globalImplicit)]) [.cmp .IsNot (.loc 404) .none] [(446,.local),(404,.local)])),.asg (.name 282) (.at (.sub (.attr (.loc 92) 73) (.loc 78)) 1),.iff (.cmp .Eq (.at (.loc 282) 0) (.str 84)) [.expr (.S7 (.loc 93) "list" 67 "list.append" [.tup [.at (.loc 282) 1,.loc 403]])] [.iff (.cmp .Eq (.at (.loc 282) 0) (.str 85)) [.expr (.S7 (.loc 93) "list" 66 "list.extend" [.comp [403] (.one 101) (.tup [.loc 101,.bin .Add (.loc 403) (.lst [.tup [.str 275]])]) (.bin .Add (.comp [] (.one 36) (.at (.loc 36) 1) (.at (.loc 282) 2) [] [(446,.local),(36,.local)]) (.lst [.at (.loc 282) 3])) [] [(446,.local),(101,.local),(403,.free)]])] [.expr (.S7 (.loc 83) "list" 67 "list.append" [.loc 403])]]],.ret (.loc 83)]
noncomputable abbrev qe:List S:=[.asg (.name 406) (.int 0),.ap2 [.name 181,.name 404] 59 (.loc 403) [.iff (.cmp .NotEq (.at (.loc 404) 0) (.str 202)) [.cont] [],.VB 205 [96] (.one 28) (.loc 28) (.Nb (.loc 403) (.loc 406) (.loc 181)) [.and [.cmp .Eq (.at (.loc 28) 0) (.str 205),.cmp .In (.at (.loc 28) 2) (.loc 96)]] [(446,.local),(28,.local),(96,.free)],.asg (.name 205) (.slF (.loc 205) (.bin .Sub (.call 31 [.loc 205]) (.call 31 [.loc 96]))),.asg (.name 165) (.Nb (.loc 403) (.bin .Add (.loc 181) (.int 1)) (.S7 (.loc 403) "list" 97 "list.index" [.tup [.str 275],.loc 181])),.yN 62 [] (.one 28) (.at (.loc 28) 1) (.loc 165) [.cmp .Eq (.at (.loc 28) 0) (.str 143)] [(446,.local),(28,.local)],.yN 407 [] (.one 28) (.at (.loc 28) 1) (.loc 165) [.cmp .Eq (.at (.loc 28) 0) (.str 134)] [(446,.local),(28,.local)],.iff (.or [.cmp .NotEq (.call 138 [.comp [] (.one 28) (.at (.loc 28) 2) (.loc 205) [] [(446,.local),(28,.local)]]) (.call 138 [.loc 96]),.cmp .Gt (.call 31 [.loc 96]) (.call 31 [.loc 205])]) [.ret (.gK false)] [],.iff (.cmp .NotEq (.comp [62,407] (.one 28) (.loc 28) (.loc 205) [.or [.cmp .NotIn (.at (.loc 28) 1) (.loc 62),.cmp .NotIn (.at (.loc 28) 1) (.loc 407)]] [(446,.local),(28,.local),(407,.free),(62,.free)]) (.lst [])) [.ret (.gK false)] [],.asg (.name 406) (.loc 181)],.ret (.gK true)]
noncomputable abbrev eE:List S:=[.asg (.name 6) (.tup [.str 8,.none,.gK true,.glob 396]),.asg (.name 202) (.tup [.str 160,.glob 402,.int 0,.str 161,.tup [.str 107,.glob 396,.int 0,.tup [.str 77,.loc 6,.int 0,.int 1]],.tup [.str 156,.glob 396,.int 0,.int 70]]),.asg (.name 408) (.tup [.tup [.tup [.str 177,.glob 396,.int 1,.str 172,.none],.loc 202,.tup [.str 156,.glob 396,.int 0,.int 1]],.tup [.tup [.str 398,.glob 396],.none,.tup [.str 156,.glob 396,.int 0,.int 2]]]),.asg (.name 145) (.tup [.str 253,.glob 396,.int 0,.tup [.str 77,.glob 396,.int 0,.int 0],.loc 408]),.Wb 366 [.call 368 [.str 369,.bR [.tup [.str 409,.glob 396,.gK true],.tup [.str 327,.loc 6,.gK false]],.tup [],.glob 396,.loc 145],.call 370 [.none]] 209,.ret (.gK false)]
noncomputable abbrev bV:List S:=[.asg (.name 64) (.tup [.str 253,.glob 396,.int 0,.loc 145,.loc 408]),.asg (.name 92) (.call 366 [.call 368 [.str 369,.loc 91,.tup [],.glob 396,.loc 64],.call 370 [.none]]),.asg (.name 96) (.bin .Add (.lst [.tup [.int 1,.loc 395]]) (.comp [395] (.one 181) (.tup [.int 1,.UW (.loc 395) (.loc 181)]) (.call 69 [.call 31 [.loc 395]]) [.cmp .Eq (.sub (.loc 395) (.loc 181)) (.tup [.str 107])] [(446,.local),(181,.local),(395,.free)])),.Ri 410 [] (.one 78) (.one 28) (.loc 28) (.attr (.loc 92) 73) (.at (.loc 78) 0) [.cmp .Eq (.at (.or [.call 405 [.loc 28],.tup [.str 413]]) 0) (.str 202)] [(446,.local),(78,.local),(28,.local),(405,.globalImplicit)],.iff (.cmp .NotEq (.call 31 [.loc 410]) (.loc 399)) [.ret (.gK false)] [],.iff (.cmp .Eq (.loc 399) (.int 0)) [.Ri 205 [] (.one 78) (.one 28) (.call 405 [.loc 28]) (.attr (.loc 92) 73) (.at (.loc 78) 0) [.cmp .Eq (.at (.or [.call 405 [.loc 28],.tup [.str 413]]) 0) (.str 205)] [(446,.local),(78,.local),(28,.local),(405,.globalImplicit)],.VB 195 [] (.one 213) (.loc 213) (.loc 408) [.and [.cmp .Eq (.at (.at (.loc 213) 0) 0) (.str 177),.cmp .Eq (.at (.at (.loc 213) 0) 3) (.str 8)]] [(446,.local),(213,.local)],.ret (.cmp .LtE (.call 31 [.loc 205]) (.call 31 [.loc 195]))] [],.ret (.cmp .Eq (.comp [96] (.one 314) (.loc 314) (.call 411 [.loc 92]) [.not (.call 412 [.loc 314,.loc 96])] [(446,.local),(314,.local),(412,.globalImplicit),(96,.free)]) (.lst []))]
noncomputable abbrev Ro:List S:=[.iff (.not (.call 417 [])) [.ret (.gK false)] [],.asg (.name 202) (.tup [.str 160,.glob 402,.int 0,.str 161,.tup [.str 77,.glob 396,.int 0,.int 1],.tup [.str 156,.glob 396,.int 0,.int 70]]),.asg (.name 6) (.tup [.str 8,.none,.gK true,.glob 396]),.asg (.name 408) (.tup [.tup [.tup [.str 156,.glob 396,.int 3],.loc 202,.tup [.str 156,.glob 396,.int 0,.int 1]],.tup [.tup [.str 398,.glob 396],.none,.tup [.str 156,.glob 396,.int 0,.int 2]]]),.iff (.not (.call 416 [.tup [.str 107,.glob 396,.int 0,.tup [.str 77,.loc 6,.int 0,.int 0]],.loc 6,.tup [.tup [.str 107]],.loc 408,.bR [.tup [.str 409,.loc 6,.gK true],.tup [.str 418,.glob 396,.gK true]],.int 1])) [.ret (.gK false)] [],.asg (.name 308) (.call 371 [.loc 304,.int 0]),.asg (.tup [.name 145,.name 6,.name 395]) (.call 414 [.loc 308]),.asg (.name 91) (.bR [.tup [.str 409,.loc 6,.gK true],.tup [.str 418,.glob 396,.gK true]]),.asg (.tup [.name 408,.name 399]) (.call 415 [.loc 308,.loc 91]),.ret (.call 416 [.loc 145,.loc 6,.loc 395,.loc 408,.loc 91,.loc 399])]
noncomputable def Qs:Option (List Nat×Addr×Addr×Str):=some ([25],223,219,cV)
noncomputable def O4(P:Params):TD:=⟨pw,texts,K P,yw,YF,yx,yC,yD,Mr,fnL,ac1,Qs⟩
theorem ok1:sW texts=true:=by kernel_rfl
theorem ok2(P:Params):(yw.all (Ht (tabOf texts) (K P)))=true:=by kernel_rfl
theorem ok3(P:Params):(Mr.all (QB (tabOf texts) (K P)))=true:=by kernel_rfl
theorem ok4(P:Params):(yx.all (Hu (tabOf texts) (K P)))=true:=by kernel_rfl
theorem ok5(P:Params):(fnL.all (fun q=>QC (K P) q.1))=true:=by kernel_rfl
theorem ok6(P:Params):(yC.all (Hv (tabOf texts) (K P)))=true:=by kernel_rfl
theorem ok7(P:Params):(yD.all (Hw (K P)))=true:=by kernel_rfl
theorem ok8(P:Params):(YF.all (ac3 (tabOf texts) (K P)))=true:=by kernel_rfl
theorem ok9(P:Params):ac4 (K P) sysModules=true:=by kernel_rfl
theorem az5(P:Params):JT (O4 P)=true:=by kernel_rfl
theorem Rp(P:Params):(O4 P).ok=true:=by
 show(yw.all (Ht (tabOf texts) (K P))&&Mr.all (QB (tabOf texts) (K P))&&yx.all (Hu (tabOf texts) (K P))&&fnL.all (fun q=>QC (K P) q.1)&&yC.all (Hv (tabOf texts) (K P))&&yD.all (Hw (K P))&&YF.all (ac3 (tabOf texts) (K P))&&ac4 (K P) sysModules&&JT (O4 P))=true
 rw [ok2,ok3,ok4,ok5,ok6,ok7,ok8,ok9,az5];rfl
theorem qW:texts.Nodup:=Hx (by kernel_rfl)
theorem nQ(P:Params):bH (O4 P).T aO [1,2,3] pU:=bH.of (by kernel_rfl) (by kernel_rfl)
theorem O2.X3{d:TD}{f:Addr}{ps:List Nat}{body:List S}(h:(JV d f ps body&&QG d f)=true)(hb:Al d f=readAt d f body):O2 d.T f ps body:=O2.of (n7 h).1 hb (n7 h).2
theorem Ef(P:Params):O2 (O4 P).T uL [6] HN:=O2.X3 (by kernel_rfl) (by kernel_rfl)
theorem Ia(P:Params):O2 (O4 P).T yP [6,37,38] Ni:=O2.X3 (by kernel_rfl) (by kernel_rfl)
theorem wW(P:Params):O2 (O4 P).T nu [6,37] Az:=O2.X3 (by kernel_rfl) (by kernel_rfl)
theorem nR(P:Params):bH (O4 P).T jk [1,40,71,72,73,74] DY:=bH.of (by kernel_rfl) (by kernel_rfl)
theorem iR(P:Params):O2 (O4 P).T uM [1,77] uT:=O2.X3 (by kernel_rfl) (by kernel_rfl)
theorem lU(P:Params):O2 (O4 P).T dW [1,78] nJ:=O2.X3 (by kernel_rfl) (by kernel_rfl)
theorem lV(P:Params):O2 (O4 P).T dX [1,78] nM:=O2.X3 (by kernel_rfl) (by kernel_rfl)
theorem nU(P:Params):bH (O4 P).T fO [1,6,80,40] pW:=bH.of (by kernel_rfl) (by kernel_rfl)
theorem wX(P:Params):O2 (O4 P).T nA [81] Ba:=O2.X3 (by kernel_rfl) (by kernel_rfl)
theorem wY(P:Params):O2 (O4 P).T nC [81,90] Bb:=O2.X3 (by kernel_rfl) (by kernel_rfl)
theorem Bk(P:Params):O2 (O4 P).T qN [92] Ea:=O2.X3 (by kernel_rfl) (by kernel_rfl)
theorem uZ(P:Params):O2 (O4 P).T kW [92,95] wN:=O2.X3 (by kernel_rfl) (by kernel_rfl)
theorem wZ(P:Params):O2 (O4 P).T Ay [6,51,0,37] Bc:=O2.X3 (by kernel_rfl) (by kernel_rfl)
theorem Bo(P:Params):O2 (O4 P).T qO [6,51,104,37] Eb:=O2.X3 (by kernel_rfl) (by kernel_rfl)
theorem xg(P:Params):O2 (O4 P).T nD [92,111,37] Bd:=O2.X3 (by kernel_rfl) (by kernel_rfl)
theorem vd(P:Params):O2 (O4 P).T wM [1,114,37] wO:=O2.X3 (by kernel_rfl) (by kernel_rfl)
theorem vf(P:Params):O2 (O4 P).T eV [1,123] wQ:=O2.X3 (by kernel_rfl) (by kernel_rfl)
theorem kh(P:Params):bH (O4 P).T V4 [1,6,80,40] lN:=bH.of (by kernel_rfl) (by kernel_rfl)
theorem nW(P:Params):O2 (O4 P).T fP [1,77] pX:=O2.X3 (by kernel_rfl) (by kernel_rfl)
theorem bN(P:Params):O2 (O4 P).T Z2 [1] lO:=O2.X3 (by kernel_rfl) (by kernel_rfl)
theorem vg(P:Params):O2 (O4 P).T kY [1] wR:=O2.X3 (by kernel_rfl) (by kernel_rfl)
theorem xq(P:Params):O2 (O4 P).T gU [1,125] Bf:=O2.X3 (by kernel_rfl) (by kernel_rfl)
theorem rQ(P:Params):O2 (O4 P).T cW [1,81] uU:=O2.X3 (by kernel_rfl) (by kernel_rfl)
theorem vh(P:Params):O2 (O4 P).T eX [1] wU:=O2.X3 (by kernel_rfl) (by kernel_rfl)
theorem nY(P:Params):O2 (O4 P).T fQ [1,77] pY:=O2.X3 (by kernel_rfl) (by kernel_rfl)
theorem qg(P:Params):O2 (O4 P).T iQ [1,130] rP:=O2.X3 (by kernel_rfl) (by kernel_rfl)
theorem xr(P:Params):O2 (O4 P).T gV [1] Bg:=O2.X3 (by kernel_rfl) (by kernel_rfl)
theorem lW(P:Params):O2 (O4 P).T dY [1] nO:=O2.X3 (by kernel_rfl) (by kernel_rfl)
theorem Nj(P:Params):O2 (O4 P).T DX [111,141] Rn:=O2.X3 (by kernel_rfl) (by kernel_rfl)
theorem cZ(P:Params):O2 (O4 P).T W9 [1,111,6] dH:=O2.X3 (by kernel_rfl) (by kernel_rfl)
theorem aJ(P:Params):O2 (O4 P).T W2 [1,145] jo:=O2.X3 (by kernel_rfl) (by kernel_rfl)
theorem Z6(P:Params):O2 (O4 P).T V5 [1,145] gW:=O2.X3 (by kernel_rfl) (by kernel_rfl)
theorem iT(P:Params):O2 (O4 P).T uN [1,77,170,111] uV:=O2.X3 (by kernel_rfl) (by kernel_rfl)
theorem nZ(P:Params):O2 (O4 P).T fU [1] pZ:=O2.X3 (by kernel_rfl) (by kernel_rfl)
theorem bJ(P:Params):O2 (O4 P).T cX [25] uW:=O2.X3 (by kernel_rfl) (by kernel_rfl)
theorem qX(P:Params):O2 (O4 P).T lK [25,111] HS:=O2.X3 (by kernel_rfl) (by kernel_rfl)
theorem jr(P:Params):O2 (O4 P).T eY [25,111] wV:=O2.X3 (by kernel_rfl) (by kernel_rfl)
theorem Eh(P:Params):O2 (O4 P).T uO [145,72] HW:=O2.X3 (by kernel_rfl) (by kernel_rfl)
theorem gZ(P:Params):O2 (O4 P).T aH [1,77,89,189] iW:=O2.X3 (by kernel_rfl) (by kernel_rfl)
theorem bw(P:Params):O2 (O4 P).T X5 [1,6,192] jV:=O2.X3 (by kernel_rfl) (by kernel_rfl)
theorem bx(P:Params):O2 (O4 P).T X6 [1,25,111,189] jW:=O2.X3 (by kernel_rfl) (by kernel_rfl)
theorem jt(P:Params):O2 (O4 P).T bK [1,200] jX:=O2.X3 (by kernel_rfl) (by kernel_rfl)
theorem ju(P:Params):O2 (O4 P).T bL [1,111] jY:=O2.X3 (by kernel_rfl) (by kernel_rfl)
theorem Z7(P:Params):O2 (O4 P).T V6 [1,202,203,111,189] R2:=O2.X3 (by kernel_rfl) (by kernel_rfl)
theorem U3(P:Params):O2 (O4 P).T U7 [1,25,202,111,189] fj:=O2.X3 (by kernel_rfl) (by kernel_rfl)
theorem jw(P:Params):O2 (O4 P).T bM [1,212] jZ:=O2.X3 (by kernel_rfl) (by kernel_rfl)
theorem Y5(P:Params):O2 (O4 P).T V1 [1,111,213,35,165] Z5:=O2.X3 (by kernel_rfl) (by kernel_rfl)
theorem W5(P:Params):O2 (O4 P).T U0 [1,111,145] dI:=O2.X3 (by kernel_rfl) (by kernel_rfl)
theorem bW(P:Params):O2 (O4 P).T W4 [1,39] cY:=O2.X3 (by kernel_rfl) (by kernel_rfl)
theorem Ei(P:Params):O2 (O4 P).T uP [145] HX:=O2.X3 (by kernel_rfl) (by kernel_rfl)
theorem kj(P:Params):O2 (O4 P).T lM [1,114,37] lQ:=O2.X3 (by kernel_rfl) (by kernel_rfl)
theorem iY(P:Params):O2 (O4 P).T aZ [1,111,192] jq:=O2.X3 (by kernel_rfl) (by kernel_rfl)
theorem fX(P:Params):O2 (O4 P).T aC [1,227] gY:=O2.X3 (by kernel_rfl) (by kernel_rfl)
theorem V8(P:Params):O2 (O4 P).T S8 [1,145,229] bU:=O2.X3 (by kernel_rfl) (by kernel_rfl)
theorem U9(P:Params):O2 (O4 P).T T5 [1,111,145] lR:=O2.X3 (by kernel_rfl) (by kernel_rfl)
theorem dg(P:Params):O2 (O4 P).T dG [1,111,145] dJ:=O2.X3 (by kernel_rfl) (by kernel_rfl)
theorem dK(P:Params):O2 (O4 P).T eZ [1,111,194,28,29,6] fB:=O2.X3 (by kernel_rfl) (by kernel_rfl)
theorem Ej(P:Params):O2 (O4 P).T sX [114,37] Wg:=O2.X3 (by kernel_rfl) (by kernel_rfl)
theorem rR(P:Params):O2 (O4 P).T uQ [1,119,91,39,122,92] uX:=O2.X3 (by kernel_rfl) (by kernel_rfl)
theorem xu(P:Params):bH (O4 P).T nG [1,298] Bh:=bH.of (by kernel_rfl) (by kernel_rfl)
theorem Bp(P:Params):O2 (O4 P).T qP [304,0] qT:=O2.X3 (by kernel_rfl) (by kernel_rfl)
theorem Bq(P:Params):O2 (O4 P).T qQ [308,309] Ec:=O2.X3 (by kernel_rfl) (by kernel_rfl)
theorem Ek(P:Params):O2 (O4 P).T uR [308,311] HY:=O2.X3 (by kernel_rfl) (by kernel_rfl)
theorem oh(P:Params):O2 (O4 P).T fV [308] qb:=O2.X3 (by kernel_rfl) (by kernel_rfl)
theorem rT(P:Params):O2 (O4 P).T jl [308,397] uY:=O2.X3 (by kernel_rfl) (by kernel_rfl)
theorem Br(P:Params):O2 (O4 P).T qR [308,91] qU:=O2.X3 (by kernel_rfl) (by kernel_rfl)
theorem xG(P:Params):O2 (O4 P).T nH [125] Bj:=O2.X3 (by kernel_rfl) (by kernel_rfl)
theorem Bs(P:Params):O2 (O4 P).T jm [92] Ed:=O2.X3 (by kernel_rfl) (by kernel_rfl)
theorem ou(P:Params):O2 (O4 P).T fW [403,96] qe:=O2.X3 (by kernel_rfl) (by kernel_rfl)
theorem lX(P:Params):O2 (O4 P).T dZ [] eE:=O2.X3 (by kernel_rfl) (by kernel_rfl)
theorem xH(P:Params):O2 (O4 P).T bT [145,6,395,408,91,399] bV:=O2.X3 (by kernel_rfl) (by kernel_rfl)
theorem ad3(P:Params):O2 (O4 P).T Kl [304] Ro:=O2.X3 (by kernel_rfl) (by kernel_rfl)
noncomputable abbrev ap5:=@PySem.W.Fast.tw10110043849684766642
theorem El:@segRunT=ap5:=PySem.W.Fast.te10110043849684766642
noncomputable abbrev Km:=@PySem.W.Fast.tw14364793385576792824
theorem oA:@treeTable=Km:=PySem.W.Fast.te14364793385576792824
noncomputable abbrev Wh:=@PySem.W.Fast.tw12563942051412417395
theorem vm:@execs=Wh:=PySem.W.Fast.te12563942051412417395
noncomputable abbrev Wi:Env:={scope:=pw.main.scope,locals:=mainNs,globals:=mainNs,cells:=[],code:=.ref 13,frame:=some 14}
noncomputable abbrev p0:Pos:={line:=0,col:=0,endLine:=0,endCol:=0}
noncomputable abbrev S_(s:String)(t:Nat):Value:=.str (Str.ofString s) t
noncomputable def o11:Obj:=⟨.type "tuple",none,.seq #[] 0,#[]⟩
noncomputable def o12:Obj:=⟨.none,none,.fields #[],#[]⟩
noncomputable def o13:Obj:=⟨.type "code",none,.fields #[S_ "<module>" 182,S_ "<module>" 183,S_ "/claim/cut.py" 184,.int 1 0,.int 0 0,.int 0 0,.int 0 0,.int 0 0,.ref 11,.bool false,.int 181 0,.ref 12,.none,.none,.none,.none,.int 185 0,.int 1 0,S_ "/claim/cut.py" 186],#[]⟩
noncomputable def o14:Obj:=⟨.type "frame",none,.plain,#[some (.ref 13),some (.ref 3),some (.ref 3),none,some (S_ "__main__" 164),none,some (.ref 0)]⟩
noncomputable def Rq:List Obj->Nat->BT->BT
 | [],_,t=>t
 |o::r,i,t=>Rq r (i+1) (t.ins i o)
noncomputable def saT(P:Params):BT:=Rq [boot_o_0 P,boot_o_1 P,boot_o_2 P,boot_o_3 P,boot_o_4 P,boot_o_5 P,boot_o_6 P,boot_o_7 P,boot_o_8 P,boot_o_9 P,boot_o_10 P,o11,o12,o13,o14] 0 .nil
noncomputable def sa(P:Params)(os:OsState):SharedT:=⟨saT P,15,(boot_heap P).life,Array.mk [],boot_drawn,187,os⟩
noncomputable def Rr:Code:=.body (behindTheImports pw) Wi
noncomputable abbrev ad4:=@PySem.W.Fast.tw4187177175401517315
theorem yQ:@openSeen = @ad4:=PySem.W.Fast.te4187177175401517315
noncomputable def ap6:Nat:=77
noncomputable def qv:Program:={pw with main:={pw.main with body:=(pw.main.body[ap6]?).toList}}
noncomputable def loose:List Str:=[Str.ofString "_wall",Str.ofString "LendError",Str.ofString "PatternFault",Str.ofString "COPY",Str.ofString "DROP",Str.ofString "parts_of",Str.ofString "rebuilt",Str.ofString "substituted",Str.ofString "with_regions",Str.ofString "no_region",Str.ofString "erased",Str.ofString "matched",Str.ofString "impl_bounds",Str.ofString "is_copy",Str.ofString "field_rows",Str.ofString "fields_of",Str.ofString "has_drop",Str.ofString "needs_drop",Str.ofString "Body",Str.ofString "successors",Str.ofString "retargeted",Str.ofString "reachable",Str.ofString "with_blocks",Str.ofString "field_type",Str.ofString "projected",Str.ofString "place_type",Str.ofString "RESULT",Str.ofString "Scopes",Str.ofString "BOOL_build_places",Str.ofString "USIZE",Str.ofString "OUT_OF_BOUNDS",Str.ofString "longer",Str.ofString "PlaceBuilder",Str.ofString "Binding",Str.ofString "rows_of",Str.ofString "alternatives",Str.ofString "parts_at",Str.ofString "bindings_at",Str.ofString "mentions",Str.ofString "is_plain_name",Str.ofString "is_kept_on",Str.ofString "MatchBuilder",Str.ofString "BOOL_build_exprs",Str.ofString "UNIT",Str.ofString "NEVER",Str.ofString "PLACES",Str.ofString "CHECKED",Str.ofString "VERBS",Str.ofString "is_quiet",Str.ofString "Loop",Str.ofString "ExprBuilder",Str.ofString "lower",Str.ofString "TypedFn",Str.ofString "World",Str.ofString "_law_pool",Str.ofString "_law_take",Str.ofString "_law_one",Str.ofString "_law_U8",Str.ofString "_law_BOOL",Str.ofString "_law_scrutinee",Str.ofString "_law_pattern",Str.ofString "_law_arms",Str.ofString "_law_event",Str.ofString "_law_ways",Str.ofString "_law_way_right",Str.ofString "_law_is_refused",Str.ofString "_law_right"]
noncomputable abbrev p1:Pos:={line:=967,col:=0,endLine:=979,endCol:=54}
noncomputable def Xt(_:Shared):Bool:=true
set_option maxHeartbeats 0
noncomputable abbrev Ko:=@PySem.W.Fast.tw15667345088766844465
theorem Ib:@topGo = @Ko:=PySem.W.Fast.te15667345088766844465
noncomputable abbrev YT:=@PySem.W.Fast.tw11892475500146522536
theorem Rt:@denote = @YT:=PySem.W.Fast.te11892475500146522536
noncomputable abbrev YW:=@PySem.W.Fast.tw14374325043358763698
theorem Ru:@segRun = @YW:=PySem.W.Fast.te14374325043358763698
noncomputable abbrev YX:=@PySem.W.Fast.tw1066825118222455980
theorem Rv:@blockStart = @YX:=PySem.W.Fast.te1066825118222455980
theorem az6(w:World)(os:OsState):Ko Km pw w 11 (some (.ref 6)) 12 ⟨boot_heap w.params,Array.mk [],boot_drawn,boot_toks,os⟩ (topStub pw)=some ((sa w.params os).abs,⟨YT Km Rr,Rr,p0,[topFrame p0]⟩):=by kernel_rfl
theorem az7(w:World)(os:OsState):YW Km pw w 11 (some (.ref 6)) 1 1 (sa w.params os).abs ⟨(YX (behindTheImports pw) Wi).wrap (fun O=>doneF .next) deadEnd id id,Rr,p0,[topFrame p0]⟩=some (.next,(sa w.params os).abs,Rr,p0):=by kernel_rfl
theorem az8(w:World)(s:Shared):topRun treeTable pw w 11 (some (.ref 6)) 2 s ⟨doneF .next,Rr,p1,[topFrame p0]⟩=some s:=by kernel_rfl
theorem ap7(w:World):((boot_heap w.params).isNs mainGlobals,(boot_heap w.params).objs.size,(boot_heap w.params).nsMap mainGlobals "__annotations__")=(true,11,some (.ref 6)):=by kernel_rfl
theorem az9:opening pw=plainProg pw.main.scope.names:=by kernel_rfl
theorem aA0(s:Shared):fenceModules? pw s=some s:=by kernel_rfl
theorem Wj{p q:Program}{loose:List Str}{Xt:Shared->Bool}{α:Type}{Yf:Shared->α}{Ya:World->α}{N:Nat}(h:∀w:World,∃(H0:Heap) (d:Drawn) (k m0 M j:Nat) (ann:Option Value),(fencedOpening treeTable p w N).map (fun s=>(s.heap,s.gens,s.drawn,s.toks))=some (H0,Array.mk [],d,k)/\(H0.isNs mainGlobals,H0.objs.size,H0.nsMap mainGlobals "__annotations__")=(true,m0,ann)/\M+j=N/\
  ∀os,∃s1,topRun treeTable p w m0 ann M ⟨H0,Array.mk [],d,k,os⟩ (topStub p)=some s1/\(staticsOk (importedModules p.main.body) H0 s1.heap&&namesBound p s1.heap&&gensDone s1&&laidKept H0 s1.heap)=true/\
   openSeen q loose (importedModules p.main.body) Xt true s1=openGood q loose/\Yf s1=Ya w):LeftO p q loose Xt Yf Ya N:=fun w=>by
 obtain⟨H0,d,k,m0,M,j,ann,h1,h2,h3,h4⟩:=h w
 obtain⟨⟨h,gs,d',k',os⟩,e1,e2⟩:=z9.mp h1
 obtain⟨rfl,rfl,rfl,rfl⟩:h=H0/\gs=Array.mk []/\d'=d/\k'=k:=by simpa using e2
 obtain⟨z1,z2,z3⟩:h.isNs mainGlobals=true/\h.objs.size=m0/\h.nsMap mainGlobals "__annotations__" = ann:=by simpa using h2
 obtain⟨s1,r,k1,k2,k3⟩:=h4 os
 have top:topFrom treeTable p w N ⟨h,Array.mk [],d',k',os⟩=some s1:=by
  have r:=topRun_mono j _ _ _ _ r
  rw [h3] at r
  unfold topFrom
  dsimp only
  rw [z1,z2,z3,r]
  show(match staticsOk (importedModules p.main.body) h s1.heap&&namesBound p s1.heap&&gensDone s1&&laidKept h s1.heap with|true=>some s1|false=>none)=_
  rw [k1]
 unfold openEnds
 rw [e1]
 show(topFrom treeTable p w N _).map _=_
 rw [top]
 exact congrArg some (Prod.ext k2 k3)
theorem six{A B C D E F:Type}{a a':A}{b b':B}{c c':C}{d d':D}{e e':E}{f f':F}(h:(a,b,c,d,e,f)=(a',b',c',d',e',f')):a=a'/\b=b'/\c=c'/\d=d'/\e=e'/\f=f':=by
 simpa using h
theorem run_mk{p:Program}{w:World}{m0 n1 n2:Nat}{ann:Option Value}{s0:Shared}{sa s:SharedT}{env:Env}{b:List Stmt}{c:Code}{q q1 q2:Pos}(h1:topGo treeTable p w m0 ann n1 s0 (topStub p)=some (sa.abs,⟨denote treeTable (.body b env),c,q,[topFrame q]⟩))
  (h2:segRun treeTable p w m0 ann 1 1 sa.abs (blockOf b env c q [topFrame q])=some (.next,sa.abs,c,q1)) (h3:segRunT treeTable p w m0 ann 1 n2 sa (piecesOf b env c q1 [topFrame q])=some (.next,s,c,q2)) (h4:topRun treeTable p w m0 ann 2 s.abs ⟨doneF .next,c,q2,[topFrame q]⟩=some s.abs):
  topRun treeTable p w m0 ann (n1+(1+(n2+2))) s0 (topStub p)=some s.abs:=by
 have z:=piece_app (rest:=[]) (q:=q) (segRun_of h3) (piece_nil h4)
 rw [s7] at z
 exact go_top h1 (piece_block h2 z)
noncomputable def vo(p q:Program)(loose:List Str)(K:Frag)(n:Nat)(c:Code)(p1:Pos)(H0:Heap)(r:Option (Flow×SharedT×Code×Pos)):Prop:=
 r.map (fun r=>((r.1,r.2.2),(staticsOk (importedModules p.main.body) H0 r.2.1.abs.heap&&namesBound p r.2.1.abs.heap&&gensDone r.2.1.abs&&laidKept H0 r.2.1.abs.heap),K.map (fun q=>r.2.1.tree.get q.1),r.2.1.n,(),openSeen q loose (importedModules p.main.body) Xt true r.2.1.abs))=some ((Flow.next,c,p1),true,K.map (fun q=>some q.2),n,(),openGood q loose)
noncomputable def Kp(o:Obj):Bool:=match o.data with
 |.freed=>false
 |_=>true
theorem Rw{o:Obj}(h:Kp o=true):alive o=some o:=by
 obtain⟨c,d,x,sl⟩:=o
 cases x<;>first|rfl|cases h
theorem ap8{K:Frag}{T:BT}{n:Nat}{life:Life}(h1:K.map (fun q=>T.get q.1)=K.map fun q=>some q.2)(h2:K.all (fun q=>Nat.blt q.1 n&&Kp q.2)=true):(K.map (·.1)).map (absHeap T n life).get? = K.map fun q=>some q.2:=by
 rw [List.map_map]
 refine List.map_congr_left fun q hq=>?_
 obtain⟨a,b⟩:=n7 (m9.mp h2 q hq)
 exact(abs_get (d9 a) (List.map_inj_left.mp h1 q hq)).trans (Rw b)
theorem vo.of{p q:Program}{loose:List Str}{K:Frag}{n:Nat}{c:Code}{p1:Pos}{H0:Heap}{r:Option (Flow×SharedT×Code×Pos)}(h:vo p q loose K n c p1 H0 r)(hK:K.all (fun q=>Nat.blt q.1 n&&Kp q.2)=true):
  ∃s:SharedT,r=some (.next,s,c,p1)/\(staticsOk (importedModules p.main.body) H0 s.abs.heap&&namesBound p s.abs.heap&&gensDone s.abs&&laidKept H0 s.abs.heap)=true/\openSeen q loose (importedModules p.main.body) Xt true s.abs=openGood q loose/\(K.map (·.1)).map s.abs.heap.get? = K.map fun q=>some q.2:=by
 obtain⟨⟨f,⟨T,m,life,gs,d,k,os⟩,c',p'⟩,r1,r2⟩:=z9.mp h
 obtain⟨h1,h2,h3,h4,_,h6⟩:=six r2
 obtain⟨rfl,rfl,rfl⟩:f = .next/\c'=c/\p'=p1:=by simpa using h1
 obtain rfl:m=n:=h4
 exact⟨_,r1,h2,h6,ap8 h3 hK⟩
noncomputable def KT(P:Params):Frag:=(R3,tabObj #[])::K P
noncomputable def Ran(w:World):Prop := ∀os:OsState,vo pw qv loose (KT w.params) 967 Rr p1 (boot_heap w.params) (segRunT treeTable pw w 11 (some (.ref 6)) 1 6443 (sa w.params os) (piecesOf (behindTheImports pw) Wi Rr p0 [topFrame p0]))
theorem aA1(w:World):Ran (w.withFollow "special-get-raises" false):=by
 unfold Ran vo piecesOf
 rw [El,oA,vm,yQ]
 intro os
 kernel_rfl
theorem aA2(w:World):Ran (w.withFollow "special-get-raises" true):=by
 unfold Ran vo piecesOf
 rw [El,oA,vm,yQ]
 intro os
 kernel_rfl
theorem ran(w:World):Ran w:=byRow2 "special-get-raises" aA1 aA2 w
theorem aA3(P:Params):(KT P).all (fun q=>Nat.blt q.1 967&&Kp q.2)=true:=by kernel_rfl
theorem as_(P:Params):R3::asK=(KT P).map (·.1):=by kernel_rfl
theorem pre'(w:World)(os:OsState):topGo treeTable pw w 11 (some (.ref 6)) 12 ⟨boot_heap w.params,Array.mk [],boot_drawn,boot_toks,os⟩ (topStub pw)=some ((sa w.params os).abs,⟨denote treeTable Rr,Rr,p0,[topFrame p0]⟩):=by
 rw [Ib,oA,Rt];exact az6 w os
theorem aA4(w:World)(os:OsState):segRun treeTable pw w 11 (some (.ref 6)) 1 1 (sa w.params os).abs (blockOf (behindTheImports pw) Wi Rr p0 [topFrame p0])=some (.next,(sa w.params os).abs,Rr,p0):=by
 unfold blockOf
 rw [Ru,oA,Rv];exact az7 w os
noncomputable def vp:Hook:=kHook KT (R3::asK) as_
theorem ap9:LeftO pw qv loose Xt vp.obs vp.val 7000:=Wj fun w=>⟨_,_,_,_,_,542,_,boot_open (N:=7000) az9 (by decide) aA0 w,ap7 w,rfl,fun os=>by
 obtain⟨s,r,k1,k2,k3⟩:=(ran w os).of (aA3 w.params)
 exact⟨s.abs,run_mk (pre' w os) (aA4 w os) r (az8 w s.abs),k1,k2,(congrArg (List.map s.abs.heap.get?) (as_ w.params)).trans k3⟩⟩
noncomputable abbrev J9:OpenLaw:=PySem.Challenge.rw_ot0049_01
set_option maxHeartbeats 0
theorem qY:@noRoadLSs = @PySem.W.Fast.tw8326940854005059898:=PySem.W.Fast.te8326940854005059898
theorem eG:@namesMeet = @PySem.W.Fast.tw17119622794617984870:=PySem.W.Fast.te17119622794617984870
theorem Em:@sreFenced = @PySem.W.Fast.tw11788848310118352699:=PySem.W.Fast.te11788848310118352699
theorem vq:@namesResolve = @PySem.W.Fast.tw8377067652309620493:=PySem.W.Fast.te8377067652309620493
theorem vA:@lookedIntoSs = @PySem.W.Fast.tw12862048085361865435:=PySem.W.Fast.te12862048085361865435
theorem En:@defStands = @PySem.W.Fast.tw9558739934217749035:=PySem.W.Fast.te9558739934217749035
theorem vB:@noClassBlock = @PySem.W.Fast.tw8179353310426384613:=PySem.W.Fast.te8179353310426384613
theorem oE:@OpenLaw.namesIt = @PySem.W.Fast.tw16286561074155671207:=PySem.W.Fast.te16286561074155671207
theorem rU:@OpenLaw.reads = @PySem.W.Fast.tw6984425678791042302:=PySem.W.Fast.te6984425678791042302
theorem Ie:@footLine = @PySem.W.Fast.tw10501279942588096481:=PySem.W.Fast.te10501279942588096481
theorem Wk:@attrL = @PySem.W.Fast.tw17868728402115742887:=PySem.W.Fast.te17868728402115742887
theorem bA:@Program.boundNames = @PySem.W.Fast.tw18344453789297297638:=PySem.W.Fast.te18344453789297297638
theorem Ig:@readsOut = @PySem.W.Fast.tw13343964577679436407:=PySem.W.Fast.te13343964577679436407
theorem oF:@importedModules = @PySem.W.Fast.tw5923862056798008813:=PySem.W.Fast.te5923862056798008813
theorem aV:@OpenLaw.own = @PySem.W.Fast.tw10792542408131684335:=PySem.W.Fast.te10792542408131684335
theorem Bu:@worldNames = @PySem.W.Fast.tw14412699480532031325:=PySem.W.Fast.te14412699480532031325
theorem xJ:@moduleNames = @PySem.W.Fast.tw9807087744658564304:=PySem.W.Fast.te9807087744658564304
theorem fY:@OpenLaw.bound' = @PySem.W.Fast.tw797321630700447069:=PySem.W.Fast.te797321630700447069
theorem kZ:@OpenLaw.may = @PySem.W.Fast.tw9572597257264208301:=PySem.W.Fast.te9572597257264208301
theorem lo1:sreFenced pw.main=true:=by rw [Em];kernel_rfl
theorem lo2:((moduleNames pw.main.body).isEmpty||lookedIntoSs (moduleNames pw.main.body) pw.main.body)=true:=by rw [xJ,vA];kernel_rfl
theorem lo3:namesResolve pw=true:=by rw [vq];kernel_rfl
theorem lo4:pw.boundNames.all (fun n => !worldNames.contains n)=true:=by rw [bA,Bu];kernel_rfl
theorem lo5:noRoadLSs {strict := !(importedModules pw.main.body).all cThrough.contains,foot:=none,bare:=(["vars","dir","locals"]:List Str).filter (readsOut pw pw.main.body)} pw.main.body=true:=by rw [qY,oF,Ig];kernel_rfl
theorem lo6:namesMeet pw pw.main.body (fun O n=>attrL n)=true:=by rw [eG,Wk];kernel_rfl
theorem ls2:decide (J9.foot<=(behindTheImports J9.prog).length)=true:=by kernel_rfl
theorem ls3:J9.footing.all footLine=true:=by rw [Ie];kernel_rfl
theorem ls4:noClassBlock J9.prog J9.footing=true:=by rw [vB];kernel_rfl
theorem ls5:J9.most.all (fun n=>decide (63<=n))=true:=by kernel_rfl
theorem ls6:J9.bound.all (fun n=>decide (2 ^ 63<=n))=true:=by kernel_rfl
theorem ls7:noRoadLSs {strict:=true,foot:=some J9.bound',writes:=J9.writes,may:=J9.may} J9.footing=true:=by rw [qY,fY,kZ];kernel_rfl
theorem ls8:defStands J9.about J9.above=true:=by rw [En];kernel_rfl
theorem ls9:J9.namesIt=true:=by rw [oE];kernel_rfl
theorem aA5:(["type","isinstance","issubclass","getattr","hasattr"]:List Str).all (fun n=>J9.about != [n])=true:=by kernel_rfl
theorem aA6:J9.bound'.all (fun n => !builtinNamed n||J9.about==[n] || !J9.reads n)=true:=by rw [fY,rU,PySem.W.Fast.named_eq];kernel_rfl
theorem aA7:(!J9.writes||(J9.prog.main.body.flatMap importedNames).all fun n => !J9.reads n)=true:=by kernel_rfl
theorem aA8:(J9.prog.main.body.flatMap importedNames).all (fun n => !J9.reads n||(drawsOf n J9.prog.main.body).all fun mn=>mn.2 != ("attrgetter" : Str)&&mn.2 != ("methodcaller" : Str))=true:=by kernel_rfl
theorem aA9:namesMeet J9.prog J9.footing (fun sc n=>(!(["type","isinstance","issubclass","getattr","hasattr"]:List Str).contains n||sc.names.lookup n==some .globalImplicit)&&(J9.may != some n||sc.kind == .module||sc.names.lookup n==some .globalImplicit))=true:=by rw [eG,kZ];kernel_rfl
theorem aB0:J9.own.contains J9.name=true:=by rw [aV];kernel_rfl
theorem aB1:(J9.own.eraseDups.length==J9.own.length)=true:=by rw [aV];kernel_rfl
theorem aB2:J9.own.all (fun n => !builtinNamed n)=true:=by rw [aV,PySem.W.Fast.named_eq];kernel_rfl
theorem aB3:namesMeet J9.prog J9.above (fun O n => !J9.own.contains n)=true:=by rw [eG,aV];kernel_rfl
theorem aB4:namesMeet J9.prog J9.footing (fun sc n=>sc.kind == .module||sc.names.lookup n != some .globalExplicit)=true:=by rw [eG];kernel_rfl
theorem lo_:looksOpen pw=true:=v9 (v9 (v9 (v9 (v9 lo1 lo2) lo3) lo4) lo5) lo6
theorem aq0:J9.row.partSaid=true:=
 v9 (v9 (v9 (v9 (v9 (v9 (v9 (v9 (v9 (v9 (v9 (v9 (v9 lo_ rfl) rfl) rfl) rfl) (by kernel_rfl)) rfl) (by kernel_rfl)) (by kernel_rfl)) (by kernel_rfl)) rfl) rfl) rfl) rfl
theorem bn_:pw.boundNames.contains J9.name=true:=by rw [bA];kernel_rfl
theorem aB5:J9.row.wellSaid=true:=v9 (v9 aq0 bn_) (by kernel_rfl)
theorem aq1:J9.wellSaid=true:=by
 have z:=v9 (v9 (v9 (v9 (v9 (v9 (v9 (v9 (v9 (v9 (v9 (v9 (v9 (v9 (v9 (v9 (v9 (v9 aB5 ls2) ls3) ls4) ls5) ls6) ls7) ls8) ls9) aA5) aA6) aA7) aA8) aA9) aB0) aB1) aB2) aB3) aB4
 exact z
theorem Rx:(PySem.W.defOf qv J9.row.name).isSome=true:=by kernel_rfl
noncomputable def Eo:DefRec×List (Str×PySem.Expr):=(PySem.W.defOf qv J9.row.name).get Rx
theorem Wm:PySem.W.defOf qv J9.row.name=some (Eo.1,Eo.2):=(Option.some_get Rx).symm
noncomputable abbrev aq2:=@PySem.W.Fast.tw10235530238920679567
theorem Ry:@Program.theDef = @aq2:=PySem.W.Fast.te10235530238920679567
theorem Wn:J9.row.prog.theDef J9.row.name=some (Eo.1.params,Eo.1.body,Eo.1.scope):=by
 rw [Ry];kernel_rfl
theorem kw_:kwWritten? Eo.1.params.kwonlyargs Eo.1.params.kw_defaults=some Eo.2:=by kernel_rfl
theorem ok_:(chainsOk qv&&opensWell J9.row.prog&&(frees J9.row.toRowW&&J9.row.within.isEmpty))=true:=by kernel_rfl
theorem aq3:J9.row.prog.bare:=⟨rfl,rfl,rfl,rfl,rfl,by kernel_rfl⟩
theorem YZ:J9.row.toRowW.promised:=⟨[.list []],by kernel_rfl,by kernel_rfl⟩
theorem lq:∀{xs:List WData},WShape.hasItems [] xs .int=true->∃is:List Int,xs=is.map WData.int
 | [],_=>⟨[],rfl⟩
 |x::xs,h=>by
  obtain⟨h1,h2⟩:=n7 (show(WShape.has [] x .int&&WShape.hasItems [] xs .int)=true from h)
  obtain⟨is,rfl⟩:=lq h2
  cases x<;>first|exact nomatch (show false=true from h1)|exact⟨_::is,rfl⟩
theorem lay_ints{R:WRecords}{cl:Str->Option Addr}{P:Params}{ord:List DictEntry->List DictEntry}:∀(is:List Int) (s:Shared),∃vs t,layAllW R cl P ord (is.map WData.int) s=some (vs,{s with toks:=t})/\∀tab h H,K4 tab h H (is.map PV.int) vs
 | [],s=>⟨[],s.toks,rfl,fun O O O=>rfl⟩
 |i::is,s=>by
  obtain⟨vs,t,e,r⟩:=lay_ints (R:=R) (cl:=cl) (P:=P) (ord:=ord) is {s with toks:=s.toks+1}
  refine⟨.int i s.toks::vs,t,?_,fun tab h H=>⟨_,_,rfl,⟨_,rfl⟩,r tab h H⟩⟩
  show(match layAllW R cl P ord (is.map WData.int) {s with toks:=s.toks+1} with|some r=>some (Value.int i s.toks::r.1,r.2)|none=>none)=_
  rw [e]
theorem ad5(P:Params):KeysLit P []:=trivial
theorem Wo{P:Params}{e:DictEntry}{r:List DictEntry}{x:Str}{t:Tok}(h1:e.key = .str x t)(h2:e.hash=PyData.keyHash P x)(h:KeysLit P r):KeysLit P (e::r):=⟨⟨x,t,h1,h2⟩,h⟩
theorem Za(P:Params):∀q∈YF,∃es n,(K P).lookup q.1=some ⟨.type "dict",none,.dict es n,#[]⟩/\KeysLit P es.toList:=by
 intro q hq
 cases hq with
 |head=>exact⟨_,_,rfl,by repeat' first|exact ad5 P|refine Wo rfl rfl ?_⟩
 |tail _ h=>cases h
theorem Wq(P:Params):nsIn (K P) mainGlobals J9.row.name=some (some (.ref Kl)):=by kernel_rfl
theorem Wr{xs:List WData}(h:J9.row.pre.holds [] {args:=[.list xs]}=true):xs.length<=63:=by
 have z:=condW_of (X := !decide ((63:Int)<(xs.length:Int))) (holds_andW h).1 rfl
 have z:=of_decide_eq_false ((Bool.not_eq_true' _).mp z)
 lia
theorem post_(a:List WData):J9.row.claim.post a (.bool true) a=true:=by
 have h:J9.row.post.value [] {args:=a,res:=some (.bool true),after:=a}=some (.bool (same (.bool true) (.bool true))):=rfl
 show(true&&(match J9.row.post.value [] {args:=a,res:=some (.bool true),after:=a} with|some (.bool true)=>true|_=>false))=true
 rw [h,same_self];rfl
noncomputable def erase(h:Heap)(a:Addr):Heap:=h.update a fun o=>{o with data:=.freed}
theorem vC(h:Heap)(a:Addr):(erase h a).get? a=none:=by
 obtain⟨objs,l⟩:=h
 show(match(objs.modify a _)[a]? with|some ⟨_,_,.freed,_⟩=>none|o=>o)=none
 rw [Array.getElem?_modify,if_pos rfl]
 cases objs[a]? <;> rfl
theorem vD{h:Heap}{a b:Addr}{o:Obj}(e:(erase h a).get? b=some o):h.get? b=some o:=by
 by_cases z:b=a
 ·rw [z,vC] at e;cases e
 ·exact((I6 h a _).2 b z).symm.trans e
theorem Ep(P:Params):(K P).lookup R3=none:=by kernel_rfl
theorem Rz(P:Params):∃o vs,(K P).lookup 223=some o/\o.cls = .type "code"/\o.data = .fields vs/\vs[11]? = some (.ref R3):=⟨_,_,rfl,rfl,rfl,rfl⟩
theorem Wt{w:World}{p:Program}{loose:List Str}{mean:ExcName->Option Value}{mg mb:Str->Option Value}{h:Heap}(T:Top p loose mean mg mb h)(X:(KT w.params).In h):(K w.params).In (erase h R3)/\Base mg mb (erase h R3):=by
 have B:Heap.SameBut R3 h (erase h R3):=I6 h R3 _
 refine⟨fun a o e=>?_,T.g.sameBut B (by decide),T.b.sameBut B (by decide),T.nolimit.sameBut B (by decide),T.builtins,?_⟩
 ·have ne:a≠R3:=fun z=>by rw [z,Ep] at e;cases e
  refine(B.2 a ne).trans (X a o ?_)
  show List.lookup a ((R3,tabObj #[])::K w.params)=some o
  rw [u5,s8.mpr ne]
  exact e
 ·obtain⟨bm,ob,h1,h2,h3,h4,r⟩:=T.bmain
  refine⟨bm,ob,h1,h2,(B.2 bm fun z=>?_).trans h3,h4,r⟩
  have e:=X R3 (tabObj #[]) rfl
  rw [z,e] at h3
  cases h3
  cases h4
noncomputable abbrev H0:AH:=upd (fun O=>none) R3 (.code cV)
inductive jx where
 |x|u8|bool|Nk|lt (k:Nat)
inductive Sx where
 |live (l:Nat)|dead (l:Nat)|ref (l:Nat)|Ow (l:Nat)|cmp (l:Nat) (lo:Bool) (v:Nat)|gd (l v:Nat)|cst (v:Nat)
inductive Tx where
 |goto (i:Nat)|br (l bad good:Nat)|eq (v good fail:Nat)|ret|Gu
structure GM where
 tys:List jx
 blks:List (List Sx×Option Tx)
 here:Nat
 frs:List (List (Nat×Bool))
 sz:Nat
 ord:List Nat
noncomputable def GM.put(M:GM)(s:Sx):GM:={M with blks:=M.blks.modify M.here fun b=>(b.1++[s],b.2),sz:=M.sz+1+1}
noncomputable def GM.close(M:GM)(t:Tx):GM:={M with blks:=M.blks.modify M.here fun b=>(b.1,some t),sz:=M.sz+1+1,ord:=M.here::M.ord}
noncomputable def GM.to(M:GM)(b:Nat):GM:={M with here:=b}
noncomputable def GM.R6(M:GM):GM:={M with blks:=M.blks++[([],none)],sz:=M.sz+1}
noncomputable def GM.newL(M:GM)(ty:jx):GM:={M with tys:=M.tys++[ty],sz:=M.sz+1}
noncomputable def GM.push(M:GM):GM:={M with frs:=[]::M.frs,sz:=M.sz+1}
noncomputable def GM.add(M:GM)(x:Nat×Bool):GM:={M with frs:=(match M.frs with|f::fs=>(f++[x])::fs | []=>[]),sz:=M.sz+1}
noncomputable def GM.fin:GM->List (Nat×Bool)->GM
 |M,[]=>M
 |M,(i,true)::r=>GM.fin (M.put (.dead i)) r
 |M,(_,false)::r=>GM.fin M r
noncomputable def GM.pop(M:GM):GM:=let N:=M.fin (M.frs.headD []).reverse;{N with frs:=N.frs.tail}
noncomputable def GM.nl(M:GM):Nat:=M.tys.length
noncomputable def GM.nb(M:GM):Nat:=M.blks.length
noncomputable def GM.told(M:GM)(ty:jx)(rv:Nat->Sx):GM:=((M.newL ty).put (.live M.nl)).put (rv M.nl)
noncomputable def GM.branch(M:GM)(l fail:Nat):GM:=(((((M.R6.R6.close (.br l (M.nb+1) M.nb)).to (M.nb+1)).put (.dead l)).close (.goto fail)).to M.nb).put (.dead l)
inductive Pt where
 |wild|cst (v:Nat)|rng (a b:Nat)|bnd (s:Nat) (rf:Bool)|Er
noncomputable def GM.RB(M:GM)(lo:Bool)(v fail:Nat):GM:=(M.told .bool fun l=>.cmp l lo v).branch M.nl fail
noncomputable def GM.test(M:GM)(p:Pt)(fail:Nat):GM:=match p with
 |.cst v=>(M.R6.close (.eq v M.nb fail)).to M.nb
 |.rng a b=>(M.RB true a fail).RB false b fail
 |_=>M
noncomputable def GM.bind(M:GM)(p:Pt):GM:=match p with
 |.bnd s true=>M.put (.ref (1+s))
 |.bnd s false=>M.put (.Ow (1+s))
 |_=>M
noncomputable def xK:Nat->Nat->List jx
 |_,0=>[]
 |k,n+1=>.lt k::xK (k+1) n
noncomputable def RD(m:Nat):List jx:=xK 0 (m+1) ++ .bool::xK 0 (m+1)
noncomputable def GM.guard(M:GM)(m v fail:Nat):GM:=
 GM.branch {M with tys:=M.tys++RD m,blks:=M.blks.modify M.here fun b=>(b.1++[.gd M.nl v],b.2),sz:=M.sz+100} (M.nl+(m+1)) fail
noncomputable def GM.entry(M:GM)(m:Nat)(p:Pt)(gd:Option Nat)(fail:Nat):GM:=match gd with
 |some v=>((M.test p fail).bind p).guard m v fail
 |none=>(M.test p fail).bind p
noncomputable def GM.puts(M:GM)(f:Nat->Sx):List Nat->GM
 | []=>M
 |l::r=>(M.put (f l)).puts f r
noncomputable def GM.anew(M:GM)(ls:List Nat):GM:=(M.puts .dead ls.reverse).puts .live ls
noncomputable def GM.alt(M:GM)(m:Nat)(p:Pt)(gd:Option Nat)(inside:Nat)(ls:List Nat):GM:=
 (((M.R6.entry m p gd M.nb).close (.goto inside)).to M.nb).anew ls
noncomputable def GM.alts(m:Nat)(gd:Option Nat)(inside:Nat)(ls:List Nat):List Pt->GM->GM
 | [],M=>M
 |p::r,M=>GM.alts m gd inside ls r (M.alt m p gd inside ls)
noncomputable def Pt.alts:Pt->List Pt
 |.Er=>[.cst 1,.rng 4 6]
 |p=>[p]
noncomputable def Pt.ls:Pt->List Nat
 |.bnd s _=>[1+s]
 |_=>[]
noncomputable def GM.decl(M:GM):List Nat->GM
 | []=>M
 |l::r=>((M.put (.live l)).add (l,true)).decl r
structure Z8 where
 p:Pt
 gd:Option Nat
 num:Nat
noncomputable def GM.Z9(M:GM)(m:Nat)(a:Z8):GM:=GM.alts m a.gd M.nb a.p.ls a.p.alts ((M.R6.push).decl a.p.ls)
noncomputable def GM.arm(M:GM)(m:Nat)(a:Z8)(behind:Nat):GM:=
 let N:=M.Z9 m a
 (((((N.to M.nb).put (.cst a.num)).pop).close (.goto behind)).to N.here).puts .dead a.p.ls.reverse
noncomputable def GM.arms(m behind:Nat):List Z8->GM->GM
 | [],M=>M
 |a::r,M=>GM.arms m behind r (M.arm m a behind)
noncomputable def GM.xM(M:GM)(m:Nat)(as:List Z8):GM:=((GM.arms m M.nb as M.R6).close .Gu).to M.nb
noncomputable def RG(tys:List jx):GM:=⟨tys,[([],none)],0,[],200,[]⟩
noncomputable def lowG(m:Nat)(as:List Z8)(tys:List jx):GM:=((((RG tys).push.push.xM m as).pop).pop).close .ret
noncomputable def Tx.succ:Tx->List Nat
 |.goto i=>[i]
 |.br _ bad good=>[bad,good]
 |.eq _ good fail=>[good,fail]
 |_=>[]
noncomputable def aj(o:Option Tx):List Nat:=match o with
 |some t=>t.succ
 |none=>[]
noncomputable def Tx.forks:Tx->Bool
 |.br .. => true
 |.eq .. => true
 |_=>false
noncomputable def rW(x:Nat)(l:List Nat):Bool:=l.any fun y=>Nat.beq x y
noncomputable def Y6:Sx->Bool
 |.gd .. => true
 |_=>false
noncomputable def isRef:Sx->Bool
 |.ref .. => true
 |_=>false
noncomputable def Kq:List Sx->Bool
 | []=>false
 |s::r=>match r with
  | []=>Y6 s
  |_::_ => !Y6 s&&Kq r
noncomputable def noG(l:List Sx):Bool := !(l.any Y6)
noncomputable def vG(b:List Sx×Option Tx):Bool:=noG b.1||(Kq b.1&&match b.2 with|some t=>t.forks|none=>false)
noncomputable def RJ:List Nat->Bool
 | [a,b] => !Nat.beq a b
 |_=>true
noncomputable def yR(N:Nat)(b:List Sx×Option Tx):Bool:=(aj b.2).all (fun j=>Nat.blt j N)&&RJ (aj b.2)
noncomputable def fZ(f:Nat->Nat):List Nat->Nat
 | []=>0
 |x::r=>f x+fZ f r
noncomputable def Ih(l:List Nat):List Nat->List Nat
 | []=>l
 |x::r=>if rW x l then Ih l r else Ih (x::l) r
noncomputable def Kr(B:List (List Sx×Option Tx)):List Nat->List Nat->List Nat
 | [],L=>L
 |i::r,L=>Kr B r (if rW i L then Ih L (aj ((B[i]?).elim none (·.2))) else L)
noncomputable def wts(B:List (List Sx×Option Tx)):List Nat->List (Nat×Nat)->List (Nat×Nat)
 | [],T=>T
 |i::r,T=>wts B r ((i,1+fZ (fun j=>(T.lookup j).getD 0) (aj ((B[i]?).elim none (·.2))))::T)
noncomputable def rY(b:List Sx):Nat:=(b.filter Y6).length
noncomputable def Ii(b:List Sx):Nat:=(b.filter isRef).length
noncomputable abbrev lY:=List (List Sx×Option Tx)
noncomputable def R4(B:lY)(i:Nat):List Sx×Option Tx:=(B[i]?).getD ([],none)
noncomputable def iU(T:List (Nat×Nat))(i:Nat):Nat:=(T.lookup i).getD 0
noncomputable def Wu:List Nat->Bool
 | []=>true
 |x::l => !rW x l&&Wu l
noncomputable def jy:Sx->Bool
 |.cmp _ _ v=>Nat.blt v 70
 |.gd _ v=>Nat.ble 70 v
 |_=>true
noncomputable def Ks(B:lY)(b:List Sx×Option Tx):Bool:=b.2.isSome&&(yR B.length b&&(vG b&&(Nat.ble b.1.length 60&&b.1.all jy)))
noncomputable def lowOk(B:lY)(L:List Nat)(T:List (Nat×Nat))(due bd:Nat):Bool:=
 Nat.ble B.length 60&&(B.all (Ks B)&&(Wu L&&(L.all (fun i=>Nat.blt i B.length&&(aj (R4 B i).2).all fun j=>rW j L)&&(rW 0 L&&((List.range B.length).all (fun i=>Nat.ble (1+fZ (iU T) (aj (R4 B i).2)) (iU T i))&&(Nat.ble (iU T 0) 400&&(Nat.beq (fZ (fun i=>rY (R4 B i).1) L) due&&(!Nat.beq due 0||Nat.ble (fZ (fun i=>Ii (R4 B i).1) L) bd))))))))
noncomputable def Wv(M:GM)(due bd:Nat):Bool:=Nat.ble M.sz 3000&&(Nat.blt 0 M.blks.length&&lowOk M.blks (Kr M.blks M.ord.reverse [0]) (wts M.blks M.ord []) due bd)
noncomputable def Pt.Et:Pt->Bool
 |.Er=>true
 |_=>false
noncomputable def Pt.rZ:Pt->Bool
 |.bnd _ rf=>rf
 |_=>false
noncomputable def Pt.shuts:Pt->Bool
 |.wild=>true
 |.bnd .. => true
 |_=>false
noncomputable def Pt.ty(p:Pt):jx:=if p.rZ then .Nk else .u8
noncomputable def Pt.nth(k slot:Nat):Pt:=match k with
 |0=>.wild
 |1=>.cst 3
 |2=>.rng 2 5
 |3=>.bnd slot false
 |4=>.Er
 |_=>.bnd slot true
noncomputable def qZ:List Z8->Bool->Nat
 | [],_=>0
 |a::r,o=>match a.gd with
  |some _=>(if o then(if a.p.Et then 2 else 1) else 0)+qZ r o
  |none=>qZ r (o && !a.p.shuts)
noncomputable def sy:List Z8->Nat
 | []=>0
 |a::r=>(if a.p.rZ then 1 else 0)+sy r
noncomputable def Ku(as:List Z8):List jx:=.u8 :: .x :: .u8::as.map fun a=>a.p.ty
noncomputable def oG:Z8:=⟨.wild,none,9⟩
noncomputable def Y7(j:Nat)(kg:Nat×Bool):Z8:=⟨Pt.nth kg.1 (2+j),if kg.2 then some (70+j) else none,j⟩
noncomputable def RK(m:Nat)(as:List Z8):Bool:=Wv (lowG m (as++[oG]) (Ku as)) (qZ as true) (sy as)
noncomputable def all1:List (Nat×Bool):=[(0,false),(0,true),(1,false),(1,true),(2,false),(2,true),(3,false),(3,true),(4,false),(4,true),(5,false),(5,true)]
noncomputable def aB6(m:Nat):Bool:=all1.all fun a=>RK m [Y7 0 a]
noncomputable def bB(m:Nat)(a:Nat×Bool):Bool:=all1.all fun b=>RK m [Y7 0 a,Y7 1 b]
inductive Role where
 |self|dx|body|Q8|locs|blks|spots|frs|alias
 |bl (i:Nat)|st (i:Nat)|fr (i:Nat)
inductive bY:PV->Prop
 |int (k:Nat):bY (.tup [.str 32,.str k])
 |bool:bY (.tup [.str 45])
inductive Simple:PV->Prop
 |one {p:PV}:bY p->Simple p
 |tup {l:List PV}:(∀p∈l,bY p)->l.length<=2->Simple (.tup [.str 9,.tup l])
 |ref (b:Bool):Simple (.tup [.str 8,.none,.bool b,.tup [.str 32,.str 355]])
noncomputable abbrev Ww(_:PV):Prop:=True
noncomputable abbrev Ox(tys:List PV)(y:Nat×Bool):Prop := ∃t,tys[y.1]? = some t/\Simple t
structure Mem where
 tys:List PV
 blks:List (List PV×PV)
 here:Nat
 frs:List (List (Nat×Bool))
 sz:Nat
structure Fix where
 world:PV
 bounds:PV
 args:PV
 fu:Int
 path:PV
 argc:PV
 loops:PV
structure wB where
 spot:PV
 sp:List ((Int×Int)×PV)
 rows:List PV
noncomputable def Bv(x:Nat×Bool):PV:=.tup [.int (x.1:Int),.bool x.2]
section
variable(c:Fix)(M:Mem)(L:Role->Addr)(x:wB)
noncomputable abbrev dxL:List (Nat×PV):=[(37,c.world),(38,c.bounds),(115,c.args),(116,.int c.fu),(92,.obj (L .body)),(3,x.spot),(117,.obj (L .alias)),(118,.obj (L .frs)),(64,.int M.here),(225,c.loops)]
noncomputable abbrev aq4:List (Nat×PV):=[(40,c.path),(71,c.argc),(75,.obj (L .locs)),(73,.obj (L .blks)),(74,.obj (L .spots))]
noncomputable def Y8:Nat->Nat->List PV
 |_,0=>[]
 |i,k+1=>PV.obj (L (.bl i))::Y8 (i+1) k
noncomputable def W6:Nat->Nat->List PV
 |_,0=>[]
 |i,k+1=>PV.obj (L (.fr i))::W6 (i+1) k
noncomputable def X7:Role->Option N7
 |.self=>some (.inst U6 (L .dx))
 |.dx=>some (.attrs (dxL c M L x))
 |.body=>some (.inst gR (L .Q8))
 |.Q8=>some (.attrs (aq4 c L))
 |.locs=>some (.list x.rows)
 |.blks=>some (.list (Y8 L 0 M.blks.length))
 |.spots=>some (.Q9 x.sp)
 |.frs=>some (.list (W6 L 0 M.frs.length))
 |.alias=>some (.N5 [])
 |.bl i=>M.blks[i]?.map fun b=>.list [.obj (L (.st i)),b.2]
 |.st i=>M.blks[i]?.map fun b=>.list b.1
 |.fr i=>M.frs.reverse[i]?.map fun f=>.list (f.map Bv)
noncomputable def Mem.tick(M:Mem):Mem:={M with sz:=M.sz+1}
noncomputable def Mem.put(M:Mem)(s:PV):Mem:={M with blks:=M.blks.modify M.here fun b=>(b.1++[s],b.2),sz:=M.sz+1}
noncomputable def Mem.close(M:Mem)(t:PV):Mem:={M with blks:=M.blks.modify M.here fun b=>(b.1,t),sz:=M.sz+1}
noncomputable def Mem.to(M:Mem)(b:Nat):Mem:={M with here:=b}
noncomputable def Mem.R6(M:Mem):Mem:={M with blks:=M.blks++[([],.none)],sz:=M.sz+1}
noncomputable def Mem.newL(M:Mem)(ty:PV):Mem:={M with tys:=M.tys++[ty],sz:=M.sz+1}
noncomputable def Mem.push(M:Mem):Mem:={M with frs:=[]::M.frs,sz:=M.sz+1}
noncomputable def Mem.add(M:Mem)(x:Nat×Bool):Mem:={M with frs:=(match M.frs with|f::fs=>(f++[x])::fs | []=>[]),sz:=M.sz+1}
noncomputable def Mem.drop(M:Mem):Mem:={M with frs:=M.frs.tail}
inductive Z4:List PV->List PV->Prop
 |nil:Z4 [] []
 |cons {t a b:PV} {ts rows:List PV}:Z4 ts rows->Z4 (t::ts) (.tup [t,a,b]::rows)
structure oH(M:Mem):Prop where
 tys:M.tys.length<=M.sz
 blks:M.blks.length<=M.sz
 sts:∀b∈M.blks,b.1.length<=M.sz
 frs:M.frs.length<=M.sz
 Np:∀f∈M.frs,f.length<=M.sz
 here:M.here<M.blks.length
 simple:∀t∈M.tys,Ww t
 Oz:∀f∈M.frs,∀y∈f,Ox M.tys y
structure O6(H:AH):Prop where
 inj:∀r r',X7 c M L x r≠none->X7 c M L x r'≠none->L r=L r'->r=r'
 at_:∀r o,X7 c M L x r=some o->H (L r)=some o
 rows:Z4 M.tys x.rows
 sp:x.sp.length<=M.sz
 ok:oH M
noncomputable def Framed(R H:AH):Prop := ∀b o,R b=some o->H b=some o/\∀r,X7 c M L x r≠none->L r≠b
end
noncomputable def M6(c:Fix)(self:Addr)(M:Mem)(R H:AH):Prop := ∃L x,L .self=self/\O6 c M L x H/\Framed c M L x R H
section
variable{c:Fix}{M M':Mem}{L:Role->Addr}{x x':wB}{H R:AH}
theorem O6.self(B:O6 c M L x H):H (L .self)=some (.inst U6 (L .dx)):=B.at_ .self _ rfl
theorem O6.dx(B:O6 c M L x H):H (L .dx)=some (.attrs (dxL c M L x)):=B.at_ .dx _ rfl
theorem O6.body(B:O6 c M L x H):H (L .body)=some (.inst gR (L .Q8)):=B.at_ .body _ rfl
theorem O6.Q8(B:O6 c M L x H):H (L .Q8)=some (.attrs (aq4 c L)):=B.at_ .Q8 _ rfl
theorem O6.bl(B:O6 c M L x H){i:Nat}{b:List PV×PV}(e:M.blks[i]? = some b):H (L (.bl i))=some (.list [.obj (L (.st i)),b.2]):=B.at_ (.bl i) _ (congrArg (Option.map _) e)
theorem O6.st(B:O6 c M L x H){i:Nat}{b:List PV×PV}(e:M.blks[i]? = some b):H (L (.st i))=some (.list b.1):=B.at_ (.st i) _ (congrArg (Option.map _) e)
theorem O6.fr(B:O6 c M L x H){i:Nat}{b:List (Nat×Bool)}(e:M.frs.reverse[i]? = some b):H (L (.fr i))=some (.list (b.map Bv)):=B.at_ (.fr i) _ (congrArg (Option.map _) e)
theorem O6.turn{r0:Role}{o1:N7}(B:O6 c M L x H)(h0:X7 c M L x r0≠none)(h1:X7 c M' L x' r0=some o1)(h2:∀r,r≠r0->X7 c M' L x' r=X7 c M L x r\/X7 c M' L x' r=none)
  (hr:Z4 M'.tys x'.rows) (hs:x'.sp.length<=M'.sz) (ok:oH M'):O6 c M' L x' (upd H (L r0) o1):=by
 have sub:∀r,X7 c M' L x' r≠none->X7 c M L x r≠none:=fun r h=>by
  by_cases e:r=r0
  ·subst e;exact h0
  ·rcases h2 r e with q|q
   ·rw [<- q];exact h
   ·exact absurd q h
 refine⟨fun r r' h h'=>B.inj r r' (sub r h) (sub r' h'),fun r o h=>?_,hr,hs,ok⟩
 by_cases e:r=r0
 ·subst e;rw [h1] at h;cases h;exact p8 ..
 ·have ne:L r≠L r0:=fun z=>e (B.inj r r0 (sub r (by rw [h];simp)) h0 z)
  rw [w5 ne]
  rcases h2 r e with q|q
  ·exact B.at_ r o (q▸h)
  ·rw [q] at h;cases h
theorem Framed.turn{r0:Role}{o1:N7}(F:Framed c M L x R H)(h0:X7 c M L x r0≠none)(h1:X7 c M' L x' r0=some o1)(h2:∀r,r≠r0->X7 c M' L x' r=X7 c M L x r\/X7 c M' L x' r=none):Framed c M' L x' R (upd H (L r0) o1):=fun b o e=>by
 obtain⟨e1,e2⟩:=F b o e
 refine⟨by rw [w5 (fun z=>e2 r0 h0 z.symm)];exact e1,fun r h=>e2 r ?_⟩
 by_cases e:r=r0
 ·subst e;exact h0
 ·rcases h2 r e with q|q
  ·rw [<- q];exact h
  ·exact absurd q h
theorem M6.turn{r0:Role}{o1:N7}(B:O6 c M L x H)(F:Framed c M L x R H)(x':wB)(h0:X7 c M L x r0≠none)(h1:X7 c M' L x' r0=some o1)(h2:∀r,r≠r0->X7 c M' L x' r=X7 c M L x r\/X7 c M' L x' r=none)
  (hr:Z4 M'.tys x'.rows) (hs:x'.sp.length<=M'.sz) (ok:oH M'):M6 c (L .self) M' R (upd H (L r0) o1):=⟨L,x',rfl,B.turn h0 h1 h2 hr hs ok,F.turn h0 h1 h2⟩
theorem M6.el{C:Addr->Prop}{self:Addr}(B:M6 c self M R H)(k:∀L x,O6 c M L x H->Framed c M L x R H->C (L .self)):C self:=by
 obtain⟨L,x,rfl,B,F⟩:=B
 exact k L x B F
theorem yS(L:Role->Addr):∀(k i j:Nat),j<k->(Y8 L i k)[j]? = some (.obj (L (.bl (i+j))))
 |0,_,_,h=>absurd h (Nat.not_lt_zero _)
 |k+1,i,0,h=>rfl
 |k+1,i,j+1,h=>by
  show(Y8 L (i+1) k)[j]? = _
  rw [yS L k (i+1) j (by exact J3 ‹_›),Nat.add_right_comm];rfl
theorem yU(L:Role->Addr):∀(k i j:Nat),j<k->(W6 L i k)[j]? = some (.obj (L (.fr (i+j))))
 |0,_,_,h=>absurd h (Nat.not_lt_zero _)
 |k+1,i,0,h=>rfl
 |k+1,i,j+1,h=>by
  show(W6 L (i+1) k)[j]? = _
  rw [yU L k (i+1) j (by exact J3 ‹_›),Nat.add_right_comm];rfl
theorem jL(L:Role->Addr):∀(k i:Nat),(Y8 L i k).length=k
 |0,_=>rfl
 |k+1,i=>congrArg (·+ 1) (jL L k (i+1))
theorem gk(L:Role->Addr):∀(k i:Nat),(W6 L i k).length=k
 |0,_=>rfl
 |k+1,i=>congrArg (·+ 1) (gk L k (i+1))
theorem vH(L:Role->Addr):∀(k i:Nat),Y8 L i (k+1)=Y8 L i k++[.obj (L (.bl (i+k)))]
 |0,_=>rfl
 |k+1,i=>by
  show _::Y8 L (i+1) (k+1)=_
  rw [vH L k (i+1),Nat.add_right_comm];rfl
theorem lZ(L:Role->Addr):∀(k i:Nat),W6 L i (k+1)=W6 L i k++[.obj (L (.fr (i+k)))]
 |0,_=>rfl
 |k+1,i=>by
  show _::W6 L (i+1) (k+1)=_
  rw [lZ L k (i+1),Nat.add_right_comm];rfl
theorem iu{L L':Role->Addr}:∀(k i:Nat),(∀j,i<=j->j<i+k->L (.bl j)=L' (.bl j))->Y8 L i k=Y8 L' i k
 |0,_,_=>rfl
 |k+1,i,h=>by
  show PV.obj (L (.bl i))::_=PV.obj (L' (.bl i))::_
  rw [h i (o9 _) (by lia),iu k (i+1) fun j a b=>h j (by exact Nat.le_of_lt ‹_›) (by lia)]
theorem iw{L L':Role->Addr}:∀(k i:Nat),(∀j,i<=j->j<i+k->L (.fr j)=L' (.fr j))->W6 L i k=W6 L' i k
 |0,_,_=>rfl
 |k+1,i,h=>by
  show PV.obj (L (.fr i))::_=PV.obj (L' (.fr i))::_
  rw [h i (o9 _) (by lia),iw k (i+1) fun j a b=>h j (by exact Nat.le_of_lt ‹_›) (by lia)]
end
theorem get_modify{α:Type}(f:α->α):∀(l:List α) (h i:Nat),(l.modify h f)[i]? = if h=i then l[i]?.map f else l[i]? := fun l h i=>by
 rw [List.getElem?_modify]
 by_cases e:h=i
 ·rw [if_pos e,e];simp
 ·rw [if_neg e];simp [e]
theorem lookup_none{l:List (Nat×PV)}{x:Nat}(h:(l.map (·.1)).elem x=false):l.lookup x=none:=by
 induction l with
 |nil=>rfl
 |cons q l ih=>
  rw [I7,List.elem_cons] at h
  rw [u5]
  cases e:x==q.1 with
  |true=>rw [e] at h;cases h
  |false=>rw [e] at h;exact ih h
theorem yV{k:Nat}(h:k<=sizeLine):k<2 ^ 62:=G3 h (by rw [p7];decide)
section
variable{P:Params}{g:G (O4 P).T}(hg:N6 g){n:Nat}{m:Loc}{c:Fix}{M M':Mem}{L:Role->Addr}{x x':wB}{H R:AH}{Q:PV->AH->Prop}{W:Loc->AH->Prop}{self:Addr}
theorem M6.attr(B:M6 c self M R H){k:Nat}(hf:(O4 P).T.fld U6 k=true)(h:∀L x,L .self=self->O6 c M L x H->Framed c M L x R H->∃q,(dxL c M L x).lookup k=some q/\Q q H):H8 g k Q (.obj self) H:=by
 obtain⟨L,x,rfl,B,F⟩:=B
 obtain⟨q,e1,e2⟩:=h L x rfl B F
 exact .mk B.self B.dx hf e1 e2
theorem M6.me(B:M6 c self M R H){k:Nat}{f:Addr}{K:Addr->Addr->AH->Prop}(hf:(O4 P).T.meth U6 k=some f)(hx:[37,38,115,116,92,3,117,118,64,225].elem k=false)(h:K self f H):MethP g k K (.obj self) H:=by
 revert h
 apply M6.el B
 intro L x B F
 intro h
 exact MethP.mk B.self B.dx hf (lookup_none hx) h
theorem M6.here(B:M6 c self M R H)(h:Q (.int M.here) H):H8 g 64 Q (.obj self) H:=B.attr rfl fun O O O O O=>⟨_,rfl,h⟩
theorem M6.world(B:M6 c self M R H)(h:Q c.world H):H8 g 37 Q (.obj self) H:=B.attr rfl fun O O O O O=>⟨_,rfl,h⟩
theorem M6.bounds(B:M6 c self M R H)(h:Q c.bounds H):H8 g 38 Q (.obj self) H:=B.attr rfl fun O O O O O=>⟨_,rfl,h⟩
theorem M6.spot(B:M6 c self M R H)(h:∀q,Q q H):H8 g 3 Q (.obj self) H:=B.attr rfl fun O O O O O=>⟨_,rfl,h _⟩
theorem RL(M':Mem)(e:M'=M\/∃b,M'=M.to b)(r:Role)(ne:r≠.dx)(x':wB)(e1:x'.rows=x.rows)(e2:x'.sp=x.sp):X7 c M' L x' r=X7 c M L x r:=by
 obtain⟨_,_,_⟩:=x
 obtain⟨_,_,_⟩:=x'
 cases e1
 cases e2
 rcases e with rfl|⟨b,rfl⟩<;>cases r<;>first|rfl|exact absurd rfl ne
theorem M6.bZ(B:M6 c self M R H){q:PV}{W:AH->Prop}(h:∀H',M6 c self M R H'->W H'):iK g 3 q W (.obj self) H:=by
 revert h
 apply M6.el B
 intro L x B F
 intro h
 exact iK.mk B.self B.dx rfl (d9 rfl) (h _ (M6.turn (r0:=.dx) B F {x with spot:=q} nofun rfl (fun r ne=>.inl (RL M (.inl rfl) r ne _ rfl rfl)) B.rows B.sp B.ok))
theorem M6.Wx(B:M6 c self M R H){b:Nat}{W:AH->Prop}(hb:b<M.blks.length)(h:∀H',M6 c self (M.to b) R H'->W H'):iK g 64 (.int b) W (.obj self) H:=by
 revert h
 apply M6.el B
 intro L x B F
 intro h
 exact iK.mk B.self B.dx rfl (d9 rfl) (h _ (M6.turn (r0:=.dx) B F x nofun rfl (fun r ne=>.inl (RL _ (.inr ⟨b,rfl⟩) r ne _ rfl rfl)) B.rows B.sp ⟨B.ok.tys,B.ok.blks,B.ok.sts,B.ok.frs,B.ok.Np,hb,B.ok.simple,B.ok.Oz⟩))
theorem sY(B:O6 c M L x H){i:Nat}(hl:i<M.blks.length)(hi:M.sz<=sizeLine)(h:Q (.obj (L (.bl i))) H):SubL g (.obj (L .blks)) (.int (i:Int)) H Q:=
 aB (B.at_ .blks _ rfl) (yV (d8 (Nat.le_of_lt hl) (d8 B.ok.blks hi))) ((yS L _ _ _ hl).trans (by rw [z6])) h
include hg in
theorem xO(B:O6 c M L x H){i:Nat}{b:List PV×PV}(e:M.blks[i]? = some b)(hi:M.sz<=sizeLine)(hn:1<=n)(h:Q (.obj (L (.st i))) H):Cl g n (.obj dW) [.obj (L .body),.int i] H Q:=
 (lU P).cl hg rfl hn fun n hn=>H8.mk B.body B.Q8 rfl rfl (sY B (v8.mp e).1 hi (aB (i:=0) (B.bl e) (d9 rfl) rfl h))
include hg in
theorem Eu(B:O6 c M L x H)(e:m.lookup 1=some (.obj (L .self))) {b:List PV×PV} (eb:M.blks[M.here]? = some b) (hi:M.sz<=sizeLine) (hn:1<=n) (h:Q (.obj (L (.st M.here))) H):
  H8 g 92 (MethP g 99 fun a f H₁=>Gq g n [.attr (.loc 1) 64] m H₁ fun l aT5=>Cl g n (.obj f) (.obj a::l) aT5 Q) (.obj (L .self)) H:=
 .mk B.self B.dx rfl rfl (.mk B.body B.Q8 rfl rfl (j9 e (H8.mk B.self B.dx rfl rfl (xO hg B eb hi hn h))))
theorem O6.blk(B:O6 c M L x H):∃b,M.blks[M.here]? = some b:=by
 exact⟨_,o7 B.ok.here⟩
theorem oH.mono{k:Nat}(o:oH M)(h:M.sz<=k):oH {M with sz:=k}:=⟨d8 o.tys h,d8 o.blks h,fun b hb=>d8 (o.sts b hb) h,d8 o.frs h,fun f hf=>d8 (o.Np f hf) h,o.here,o.simple,o.Oz⟩
include hg in
theorem Kv(B:M6 c self M R H)(hz:M.tick.sz<=sizeLine)(hn:2<=n)(h:∀H',M6 c self M.tick R H'->Q .none H'):Cl g n (.obj kY) [.obj self] H Q:=by
 have hi:M.sz<=sizeLine:=v7 hz
 revert h
 apply M6.el B
 intro L x B F
 intro h
 obtain⟨b,eb⟩:=B.blk
 refine(vg P).cl hg rfl hn fun n hn=>H8.mk B.self B.dx rfl rfl (H8.mk B.self B.dx rfl rfl (.mk B.body B.Q8 rfl rfl (H8.mk B.self B.dx rfl rfl ?_)))
 refine Eu hg B rfl eb hi hn (S5 (k:=b.1.length) (len_list (B.st eb)) (yV (d8 (B.ok.sts b (u6 eb)) hi)) ?_)
 refine yF (B.at_ .spots _ rfl) rfl (d8 B.sp hi) (h _ ?_)
 exact M6.turn (M':=M.tick) (r0:=.spots) B F {x with sp:=fJ ((M.here:Int),(b.1.length:Int)) x.spot x.sp} nofun rfl (fun r ne=>.inl (by cases r<;>first|rfl|exact absurd rfl ne)) B.rows
  (d8 (qG ..) (Nat.add_le_add_right B.sp 1)) (B.ok.mono (Nat.le_succ _))
theorem oH.put(o:oH M)(s:PV):oH (M.put s):=by
 refine⟨n8 o.tys,?_,fun b hb=>?_,n8 o.frs,fun f hf=>n8 (o.Np f hf),?_,o.simple,o.Oz⟩
 ·show(M.blks.modify _ _).length<=_
  rw [K7];exact n8 o.blks
 ·obtain⟨i,hi⟩:=List.mem_iff_getElem?.mp hb
  rw [show(M.put s).blks=M.blks.modify M.here fun b=>(b.1++[s],b.2) from rfl,get_modify] at hi
  split at hi
  ·obtain⟨b',e,rfl⟩:=z9.mp hi
   show(b'.1++[s]).length<=_
   rw [d7]
   exact J7 (o.sts b' (u6 e))
  ·exact n8 (o.sts b (u6 hi))
 ·show _<(M.blks.modify _ _).length
  rw [K7];exact o.here
theorem oH.close(o:oH M)(s:PV):oH (M.close s):=by
 refine⟨n8 o.tys,?_,fun b hb=>?_,n8 o.frs,fun f hf=>n8 (o.Np f hf),?_,o.simple,o.Oz⟩
 ·show(M.blks.modify _ _).length<=_
  rw [K7];exact n8 o.blks
 ·obtain⟨i,hi⟩:=List.mem_iff_getElem?.mp hb
  rw [show(M.close s).blks=M.blks.modify M.here fun b=>(b.1,s) from rfl,get_modify] at hi
  split at hi
  ·obtain⟨b',e,rfl⟩:=z9.mp hi
   exact n8 (o.sts b' (u6 e))
  ·exact n8 (o.sts b (u6 hi))
 ·show _<(M.blks.modify _ _).length
  rw [K7];exact o.here
theorem Kw{k:Nat}{f:List PV×PV->List PV×PV}(r:Role)(h1:∀b,(f b).2=b.2\/r≠.bl M.here)(h2:∀b,(f b).1=b.1\/r≠.st M.here):X7 c {M with blks:=M.blks.modify M.here f,sz:=k} L x r=X7 c M L x r:=by
 cases r with
 |blks=>show some (N7.list (Y8 L 0 (M.blks.modify M.here f).length))=_;rw [K7];rfl
 |bl i=>
  show Option.map _ (M.blks.modify M.here f)[i]? = _
  rw [get_modify]
  split
  ·next e=>
   rw [Option.map_map]
   refine congrArg (fun z=>Option.map z M.blks[i]?) (funext fun b=>?_)
   rcases h1 b with z|z
   ·show N7.list [.obj (L (.st i)),(f b).2]=_;rw [z]
   ·exact absurd (congrArg Role.bl e.symm) z
  ·rfl
 |st i=>
  show Option.map _ (M.blks.modify M.here f)[i]? = _
  rw [get_modify]
  split
  ·next e=>
   rw [Option.map_map]
   refine congrArg (fun z=>Option.map z M.blks[i]?) (funext fun b=>?_)
   rcases h2 b with z|z
   ·show N7.list (f b).1=_;rw [z]
   ·exact absurd (congrArg Role.st e.symm) z
  ·rfl
 |_=>rfl
include hg in
theorem iy{s:PV}(B:M6 c self M R H)(hz:(M.tick.put s).sz<=sizeLine)(hn:3<=n)(h:∀H',M6 c self (M.tick.put s) R H'->Q .none H'):Cl g n (.obj gU) [.obj self,s] H Q:=by
 have hi:M.tick.sz<=sizeLine:=v7 hz
 refine(xq P).cl hg rfl hn fun n hn=>B.me rfl rfl (Kv hg B hi hn fun H B=>?_)
 revert h
 apply M6.el B
 intro L x B F
 intro h
 obtain⟨b,eb⟩:=B.blk
 refine Eu hg B rfl eb hi (leB hn rfl) (O8 (B.st eb) (Q0 (B.st eb) (d8 (B.ok.sts b (u6 eb)) hi) (h _ ?_)))
 refine M6.turn (M':=M.tick.put s) (r0:=.st M.here) B F x ?_ ?_ (fun r ne=>.inl (Kw r (fun O=>.inl rfl) fun O=>.inr ne)) B.rows (n8 B.sp) (B.ok.put s)
 ·rw [X7,show M.tick.blks[M.here]? = _ from eb];exact nofun
 ·show Option.map _ (M.blks.modify M.here _)[M.here]? = _
  rw [get_modify,if_pos rfl,show M.blks[M.here]? = _ from eb];rfl
end
section
variable{P:Params}{g:G (O4 P).T}(hg:N6 g){n:Nat}{m:Loc}{c:Fix}{M M':Mem}{L L':Role->Addr}{x x':wB}{H H' R:AH}{Q:PV->AH->Prop}{W:Loc->AH->Prop}{self:Addr}
noncomputable def Ext(H H':AH):Prop := ∀b o,H b=some o->H' b=some o
theorem Ext.refl:Ext H H:=fun O O e=>e
theorem Ext.trans{Gp:AH}(a:Ext H H')(b:Ext H' Gp):Ext H Gp:=fun x o e=>b x o (a x o e)
theorem Ext.new{a:Addr}{o:N7}(h:H a=none):Ext H (upd H a o):=fun b q e=>by
 rw [w5 fun z=>by rw [z,h] at e;cases e];exact e
theorem Ext.upd{a:Addr}{o:N7}(h:H a=none)(E:Ext H H'):Ext H (upd H' a o):=fun b q e=>by
 rw [w5 fun z=>by rw [z,h] at e;cases e];exact E b q e
theorem O6.ext(B:O6 c M L x H)(E:Ext H H'):O6 c M L x H':=⟨B.inj,fun r o e=>E _ _ (B.at_ r o e),B.rows,B.sp,B.ok⟩
theorem M6.ext(B:M6 c self M R H)(E:Ext H H'):M6 c self M R H':=by
 obtain⟨L,x,e,B,F⟩:=B
 exact⟨L,x,e,B.ext E,fun b o q=>⟨E _ _ (F b o q).1,(F b o q).2⟩⟩
theorem M6.grow(B:O6 c M L x H)(F:Framed c M L x R H)(N:Role->Prop)(old:∀r,¬N r->X7 c M' L' x' r≠none->X7 c M L x r≠none/\L' r=L r)(new:∀r,N r->H (L' r)=none)
  (inj:∀r r',N r->N r'->L' r=L' r'->r=r') (at_:∀r o,X7 c M' L' x' r=some o->H' (L' r)=some o) (fr:∀b o,H b=some o->(∀r,X7 c M L x r≠none->L r≠b)->H' b=some o)
  (hr:Z4 M'.tys x'.rows) (hs:x'.sp.length<=M'.sz) (ok:oH M'):M6 c (L' .self) M' R H':=by
 have st:∀r,X7 c M L x r≠none->H (L r)≠none:=fun r h=>by
  cases e:X7 c M L x r with
  |none=>exact absurd e h
  |some o=>rw [B.at_ r o e];exact nofun
 refine⟨L',x',rfl,⟨fun r r' h h' e=>?_,at_,hr,hs,ok⟩,fun b o e=>⟨fr b o (F b o e).1 (F b o e).2,fun r h z=>?_⟩⟩
 ·by_cases q:N r<;>by_cases q':N r'
  ·exact inj r r' q q' e
  ·obtain⟨i,j⟩:=old r' q' h'
   exact absurd (by rw [<- j,<- e];exact new r q) (st r' i)
  ·obtain⟨i,j⟩:=old r q h
   exact absurd (by rw [<- j,e];exact new r' q') (st r i)
  ·obtain⟨i,j⟩:=old r q h
   obtain⟨i',j'⟩:=old r' q' h'
   exact B.inj r r' i i' (by rw [<- j,<- j',e])
 ·by_cases q:N r
  ·have:=new r q
   rw [z,(F b o e).1] at this;cases this
  ·obtain⟨i,j⟩:=old r q h
   exact(F b o e).2 r i (by rw [<- j];exact z)
noncomputable def yW(L:Role->Addr)(k:Nat)(a b:Addr):Role->Addr
 |.st i=>if i=k then a else L (.st i)
 |.bl i=>if i=k then b else L (.bl i)
 |r=>L r
theorem oH.R6(o:oH M):oH M.R6:=by
 refine⟨n8 o.tys,?_,fun b hb=>?_,n8 o.frs,fun f hf=>n8 (o.Np f hf),?_,o.simple,o.Oz⟩
 ·show(M.blks++[([],PV.none)]).length<=_
  rw [d7];exact J7 o.blks
 ·rcases u0.mp hb with h|h
  ·exact n8 (o.sts b h)
  ·rw [j8.mp h];exact z8 _
 ·show _<(M.blks++[([],PV.none)]).length
  rw [d7];exact Nat.lt_succ_of_lt o.here
theorem Ew(i:Nat)(ne:i≠M.blks.length):M.R6.blks[i]? = M.blks[i]? := by
 show(M.blks++[([],PV.none)])[i]? = _
 by_cases h:i<M.blks.length
 ·exact I5 h
 ·rw [J0 (Nat.le_of_not_lt h),J4 (Nat.le_of_not_lt h)]
  exact J4 (show 1<=_ by lia)
theorem yX:M.R6.blks[M.blks.length]? = some ([],.none):=by
 show(M.blks++[([],PV.none)])[_]? = _
 rw [J0 (o9 _),Nat.sub_self];rfl
theorem Ey{a b:Addr}(r:Role)(h1:r≠.blks)(h2:r≠.bl M.blks.length)(h3:r≠.st M.blks.length):X7 c M.R6 (yW L M.blks.length a b) x r=X7 c M L x r/\yW L M.blks.length a b r=L r:=by
 cases r with
 |blks=>exact absurd rfl h1
 |frs=>exact⟨congrArg (fun z=>some (N7.list z)) (iw _ _ fun O O O=>rfl),rfl⟩
 |bl i=>
  have ne:i≠M.blks.length:=fun z=>h2 (z▸rfl)
  have e2:∀{y z:Addr},(if i=M.blks.length then y else z)=z:=if_neg ne
  refine⟨?_,e2⟩
  show Option.map _ M.R6.blks[i]? = _
  rw [Ew i ne]
  refine congrArg (fun z=>Option.map z M.blks[i]?) (funext fun b=>?_)
  show N7.list [.obj (if i=M.blks.length then a else L (.st i)),b.2]=_
  rw [e2]
 |st i=>
  have ne:i≠M.blks.length:=fun z=>h3 (z▸rfl)
  refine⟨?_,if_neg ne⟩
  show Option.map _ M.R6.blks[i]? = _
  rw [Ew i ne];rfl
 |_=>exact⟨rfl,rfl⟩
theorem Wz(B:O6 c M L x H)(F:Framed c M L x R H){a b:Addr}(ha:H a=none)(hb:H b=none)(ne:b≠a):
  M6 c (L .self) M.R6 R (upd (upd (upd H a (.list [])) b (.list [.obj a,.none])) (L .blks) (.list (Y8 L 0 M.blks.length++[.obj b]))):=by
 have key:∀y o,H y=some o->y≠L .blks->upd (upd (upd H a (.list [])) b (.list [.obj a,.none])) (L .blks) (.list (Y8 L 0 M.blks.length++[.obj b])) y=some o:=fun y o e q=>by
  rw [w5 q];exact Ext.new (by rw [w5 ne];exact hb) y o (Ext.new ha y o e)
 have hk:=B.at_ .blks _ rfl
 have na:a≠L .blks:=fun z=>by rw [z,hk] at ha;cases ha
 have nb:b≠L .blks:=fun z=>by rw [z,hk] at hb;cases hb
 have wb:yW L M.blks.length a b (.bl M.blks.length)=b:=if_pos rfl
 have ws:yW L M.blks.length a b (.st M.blks.length)=a:=if_pos rfl
 refine M6.grow (L':=yW L M.blks.length a b) (x':=x) B F (fun r=>r = .bl M.blks.length\/r = .st M.blks.length) (fun r h v=>?_) (fun r h=>?_) (fun r r' h h' e=>?_) (fun r o e=>?_) (fun y o e q=>key y o e fun z=>q .blks nofun z.symm) B.rows (n8 B.sp) B.ok.R6
 ·by_cases q:r = .blks
  ·subst q;exact⟨nofun,rfl⟩
  ·obtain⟨e1,e2⟩:=Ey (c:=c) (L:=L) (x:=x) (a:=a) (b:=b) r q (fun z=>h (.inl z)) (fun z=>h (.inr z))
   exact⟨e1▸v,e2⟩
 ·rcases h with rfl|rfl
  ·rw [wb];exact hb
  ·rw [ws];exact ha
 ·rcases h with rfl|rfl<;>rcases h' with rfl|rfl
  ·rfl
  ·rw [wb,ws] at e;exact absurd e ne
  ·rw [wb,ws] at e;exact absurd e.symm ne
  ·rfl
 ·by_cases q1:r = .blks
  ·subst q1
   show upd _ (L .blks) _ (L .blks)=_
   rw [p8,<- e]
   show _=some (N7.list (Y8 _ 0 (M.blks++[([],PV.none)]).length))
   rw [d7,I4,vH,z6,wb,iu M.blks.length 0 fun j O h=>?_]
   exact(if_neg (show j≠M.blks.length by lia)).symm
  ·by_cases q2:r = .bl M.blks.length
   ·subst q2
    rw [wb,w5 nb,p8,<- e]
    show _=Option.map _ M.R6.blks[_]?
    rw [yX]
    show _=some (N7.list [.obj (yW L M.blks.length a b (.st M.blks.length)),.none])
    rw [ws]
   ·by_cases q3:r = .st M.blks.length
    ·subst q3
     rw [ws,w5 na,w5 fun z=>ne z.symm,p8,<- e]
     show _=Option.map _ M.R6.blks[_]?
     rw [yX];rfl
    ·obtain⟨e1,e2⟩:=Ey (c:=c) (L:=L) (x:=x) (a:=a) (b:=b) r q1 q2 q3
     rw [e2]
     refine key _ _ (B.at_ r o (e1▸e)) fun z=>q1 (B.inj r .blks (by rw [<- e1,e];exact nofun) nofun z)
theorem Nq(B:M6 c self M R H)(hz:M.R6.sz<=sizeLine)(h:∀H',M6 c self M.R6 R H'->Q .none H'):
  H8 g 92 (H8 g 73 fun p H₁=>rI H₁ "list" p/\Gq g n [.bR [.bR [],.none]] m H₁ fun l aT5=>Cl g n (.blt "list.append") (p::l) aT5 Q) (.obj self) H:=by
 revert h
 apply M6.el B
 intro L x B F h
 refine .mk B.self B.dx rfl rfl (.mk B.body B.Q8 rfl rfl (O8 (B.at_ .blks _ rfl) fun a ha b hb=>?_))
 have ne:b≠a:=fun z=>by rw [z,p8] at hb;cases hb
 rw [w5 ne] at hb
 exact Q0 (Ext.new (by rw [w5 ne];exact hb) _ _ (Ext.new ha _ _ (B.at_ .blks _ rfl))) (by rw [jL];exact d8 B.ok.blks (v7 hz)) (h _ (Wz B F ha hb ne))
theorem RM(B:M6 c self M R H)(hz:M.sz<=sizeLine)(h:Q (.int M.blks.length) H):H8 g 92 (H8 g 73 fun p H=>Cl g n (.blt "len") [p] H Q) (.obj self) H:=by
 apply M6.el B
 intro L x B F
 exact .mk B.self B.dx rfl rfl (.mk B.body B.Q8 rfl rfl (S5 (len_list (B.at_ .blks _ rfl)) (by rw [jL];exact yV (d8 B.ok.blks hz)) (by rw [jL];exact h)))
theorem ad6{k:Nat}(h:Q (.int (k:Int)) H):Q (.int (((k+1:Nat):Int)-1)) H:=by
 rw [show((k+1:Nat):Int)-1=k by lia]
 exact h
include hg in
theorem cj(B:M6 c self M R H)(hz:M.R6.sz<=sizeLine)(hn:1<=n)(h:∀H',M6 c self M.R6 R H'->Q (.int M.blks.length) H'):Cl g n (.obj Z2) [.obj self] H Q:=
 (bN P).cl hg rfl hn fun n hn=>Nq B hz fun H B=>RM B hz (by
  rw [show M.R6.blks.length=M.blks.length+1 from d7]
  exact ad6 (Q:=Q) (h _ B))
end
section
variable{P:Params}{g:G (O4 P).T}(hg:N6 g){n:Nat}{m:Loc}{c:Fix}{M M':Mem}{L L':Role->Addr}{x x':wB}{H H' R:AH}{Q:PV->AH->Prop}{W:Loc->AH->Prop}{self:Addr}
include hg in
theorem RN{t:PV}(B:M6 c self M R H)(hz:(M.tick.close t).sz<=sizeLine)(hn:3<=n)(h:∀H',M6 c self (M.tick.close t) R H'->Q .none H'):Cl g n (.obj cW) [.obj self,t] H Q:=by
 refine(rQ P).cl hg rfl hn fun n hn=>B.me rfl rfl (Kv hg B (v7 hz) hn fun H B=>?_)
 revert h
 apply M6.el B
 intro L x B F h
 obtain⟨b,eb⟩:=B.blk
 refine H8.mk B.self B.dx rfl rfl (.mk B.body B.Q8 rfl rfl (H8.mk B.self B.dx rfl rfl (sY B B.ok.here (v7 hz) (set_list (i:=1) (B.bl eb) (H9 1) (fC rfl) (h _ ?_)))))
 refine M6.turn (M':=M.tick.close t) (r0:=.bl M.here) B F x ?_ ?_ (fun r ne=>.inl (Kw r (fun O=>.inr ne) fun O=>.inl rfl)) B.rows (n8 B.sp) (B.ok.close t)
 ·rw [X7,show M.tick.blks[M.here]? = _ from eb];exact nofun
 ·show Option.map _ (M.blks.modify M.here _)[M.here]? = _
  rw [get_modify,if_pos rfl,show M.blks[M.here]? = _ from eb];rfl
include hg in
theorem WD{i:Int}(B:M6 c self M R H)(hn:1<=n)(h:Q (.int (c.fu+i)) H):Cl g n (.obj eV) [.obj self,.int i] H Q:=
 (vf P).cl hg rfl hn fun n hn=>B.attr rfl fun O O O O O=>⟨_,rfl,h⟩
theorem Z4.get{ts rows:List PV}(h:Z4 ts rows):∀{i:Nat} {t:PV},ts[i]? = some t->∃a b,rows[i]? = some (.tup [t,a,b]):=by
 induction h with
 |nil=>intro i t e;cases e
 |cons h ih=>
  intro i t e
  cases i with
  |zero=>cases e;exact⟨_,_,rfl⟩
  |succ i=>exact ih e
theorem Z4.length{ts rows:List PV}(h:Z4 ts rows):rows.length=ts.length:=by
 induction h with
 |nil=>rfl
 |cons h ih=>exact congrArg (·+ 1) ih
theorem Z4.snoc{ts rows:List PV}(h:Z4 ts rows)(t a b:PV):Z4 (ts++[t]) (rows++[.tup [t,a,b]]):=by
 induction h with
 |nil=>exact .cons .nil
 |cons h ih=>exact .cons ih
include hg in
theorem Ky(B:M6 c self M R H){i:Nat}{t:PV}(e:M.tys[i]? = some t)(hz:M.sz<=sizeLine)(hn:2<=n)(h:Q t H):Cl g n (.obj fP) [.obj self,.int i] H Q:=by
 apply M6.el B
 intro L x B F
 obtain⟨a,b,er⟩:=B.rows.get e
 exact(nW P).cl hg rfl hn fun n hn=>H8.mk B.self B.dx rfl rfl (MethP.mk B.body B.Q8 rfl rfl ((iR P).cl hg rfl hn fun n O=>H8.mk B.body B.Q8 rfl rfl
  (aB (B.at_ .locs _ rfl) (yV (d8 (Nat.le_of_lt (v8.mp e).1) (d8 B.ok.tys hz))) er h)))
theorem Ox.snoc{tys:List PV}{y:Nat×Bool}{t:PV}(h:Ox tys y):Ox (tys++[t]) y:=
 h.imp fun O z=>⟨(I5 (v8.mp z.1).1).trans z.1,z.2⟩
theorem oH.newL(o:oH M){t:PV}(s:Ww t):oH (M.newL t):=by
 refine⟨?_,n8 o.blks,fun b hb=>n8 (o.sts b hb),n8 o.frs,fun f hf=>n8 (o.Np f hf),o.here,fun y hy=>?_,fun f hf y hy=>(o.Oz f hf y hy).snoc⟩
 ·show(M.tys++[t]).length<=_
  rw [d7];exact J7 o.tys
 ·rcases u0.mp hy with h|h
  ·exact o.simple y h
  ·rw [j8.mp h];exact s
noncomputable def wB.row(x:wB)(t a b:PV):wB:={x with rows:=x.rows++[.tup [t,a,b]]}
theorem WK{t:PV}(a b:PV)(B:O6 c M L x H)(F:Framed c M L x R H)(s:Ww t):O6 c (M.newL t) L (x.row t a b) (upd H (L .locs) (.list (x.rows++[.tup [t,a,b]])))/\Framed c (M.newL t) L (x.row t a b) R (upd H (L .locs) (.list (x.rows++[.tup [t,a,b]]))):=
 have h2:∀r,r≠.locs->X7 c (M.newL t) L (x.row t a b) r=X7 c M L x r\/X7 c (M.newL t) L (x.row t a b) r=none:=fun r ne=>.inl (by cases r<;>first|rfl|exact absurd rfl ne)
 ⟨B.turn (r0:=.locs) nofun rfl h2 (B.rows.snoc t a b) (n8 B.sp) (B.ok.newL s),F.turn (r0:=.locs) nofun rfl h2⟩
theorem Y9{k:Nat}{vs:List Value}(h:vs.length=k+1):∃a r,vs=a::r/\r.length=k:=by
 cases vs with
 |nil=>cases h
 |cons a r=>exact⟨a,r,rfl,Nat.succ.inj h⟩
theorem WL{vs:List Value}(h:vs.length=0):vs=[]:=List.length_eq_zero_iff.mp h
theorem len2{vs:List Value}(h:vs.length=2):∃a b,vs=[a,b]:=by
 obtain⟨a,r,e1,h1⟩:=Y9 h
 obtain⟨b,r',e2,h2⟩:=Y9 h1
 exact⟨a,b,by rw [e1,e2,WL h2]⟩
theorem d4:jg (O4 P).T fO 4 []:=jg.of (fd:=_) (ps:=_) rfl [] rfl fun vs h S=>by
 obtain⟨a,r,e1,h1⟩:=Y9 h
 obtain⟨b,r',e2,h2⟩:=Y9 h1
 obtain⟨c,d,e3⟩:=len2 h2
 rw [e1,e2,e3];rfl
theorem d2:jg (O4 P).T V4 2 [.bool true,.none]:=jg.of (fd:=_) (ps:=_) rfl [.bool true,.none] rfl fun vs h S=>by
 obtain⟨a,b,rfl⟩:=len2 h
 rfl
include hg in
theorem iz{t:PV}(B:M6 c self M R H)(s:Ww t)(hz:(M.newL t).sz<=sizeLine)(hn:2<=n)(h:∀H',M6 c self (M.newL t) R H'->Q (.int M.tys.length) H'):Cl g n (.obj V4) [.obj self,t] H Q:=by
 revert h
 apply M6.el B
 intro L x B F h
 have hr:=B.rows.length
 have z:=WK (.bool true) .none B F s
 refine(kh P).clD hg d2 rfl hn fun n hn=>H8.mk B.self B.dx rfl rfl (MethP.mk B.body B.Q8 rfl rfl ((nU P).clD hg d4 rfl hn fun n O=>H8.mk B.body B.Q8 rfl rfl (O8 (B.at_ .locs _ rfl) (Q0 (B.at_ .locs _ rfl) (hr▸d8 B.ok.tys (v7 hz)) ?_))))
 refine H8.mk z.1.body z.1.Q8 rfl rfl (S5 (k:=M.tys.length+1) ((len_list (p8 ..)).trans (congrArg some (d7.trans (congrArg (·+ 1) hr)))) (yV (d8 (J7 B.ok.tys) hz)) (ad6 (Q:=Q) (h _ ⟨L,_,rfl,z.1,z.2⟩)))
end
section
variable{P:Params}{g:G (O4 P).T}(hg:N6 g){n:Nat}{m:Loc}{c:Fix}{M M':Mem}{L L':Role->Addr}{x x':wB}{H H' R:AH}{Q:PV->AH->Prop}{W:Loc->AH->Prop}{self:Addr}
include hg in
theorem Ij{t w b:PV}(s:bY t)(hn:1<=n)(h:Q (.bool true) H):Cl g n (.obj yP) [t,w,b] H Q:=(Ia P).cl hg rfl hn fun n O=>by cases s<;>exact h
include hg in
theorem Ez{l:List PV}(hn:1<=n)(h:Q (.tup l) H):Cl g n (.obj uL) [.tup [.str 9,.tup l]] H Q:=(Ef P).cl hg rfl hn fun n O=>h
theorem bY.d{t:PV}(s:bY t):t.isD=true:=by cases s<;>rfl
theorem cu{l:List PV}(h:∀t∈l,PV.isD t=true):PV.V0 l=true:=by
 induction l with
 |nil=>rfl
 |cons x l ih=>exact q9.mpr ⟨h x (.head _),ih fun t ht=>h t (.tail _ ht)⟩
theorem Simple.d{t:PV}(s:Simple t):t.isD=true:=by
 cases s with
 |one s=>exact s.d
 |@tup l h _=>
  show(true&&(PV.V0 l&&true))=true
  rw [cu fun t ht=>(h t ht).d];rfl
 |ref=>rfl
noncomputable def WQ:PV->Nat
 |.tup [_,.tup l]=>l.length+1
 |_=>1
noncomputable def wt:List PV->Nat
 | []=>0
 |t::l=>WQ t+wt l
theorem snoc_cases{α:Type}(l:List α):l=[]\/∃k b,l=k++[b]:=by
 rcases List.eq_nil_or_concat l with h|⟨k,b,h⟩
 ·exact .inl h
 ·exact .inr ⟨k,b,h.trans List.concat_eq_append⟩
theorem RP(p:PV):1<=WQ p:=by
 cases p with
 |tup l=>
  cases l with
  |nil=>exact o9 1
  |cons a l=>
   cases l with
   |nil=>exact o9 1
   |cons b l=>
    cases l with
    |cons _ _=>cases b<;>exact o9 1
    |nil=>cases b<;>first|exact o9 1|exact J7 (z8 _)
 |_=>exact o9 1
theorem RQ(l k:List PV):wt (l++k)=wt l+wt k:=by
 induction l with
 |nil=>exact(z6 _).symm
 |cons x l ih=>show WQ x+wt (l++k)=WQ x+wt l+wt k;rw [ih,Nat.add_assoc]
theorem Nr{l:List PV}(h:∀t∈l,bY t):wt l=l.length:=by
 induction l with
 |nil=>rfl
 |cons x l ih=>
  show WQ x+wt l=_
  rw [ih fun t ht=>h t (.tail _ ht),show WQ x=1 by cases h x (.head _)<;>rfl,m8,Nat.add_comm]
theorem RT:∀l:List PV,l.length<=wt l
 | []=>o9 _
 |x::l=>by
  show l.length+1<=WQ x+wt l
  have h1:=RP x
  have:=RT l
  lia
inductive NdI(m0:Loc)(a1:Addr)(H:AH)(j:Nat)(m':Loc)(H':AH):Prop
 |mk (l:List PV) (hm:m'=m0\/∃q,m'=m0++[(64,q)]) (e:H' a1=some (.list l)) (hs:∀t∈l,Simple t) (hw:wt l<=j) (hj:j<=20) (E:Ext H H'):NdI m0 a1 H j m' H'
include hg in
theorem xP{t w:PV}(s:Simple t)(hn:2<=n)(h:∀H',Ext H H'->Q (.bool false) H'):Cl g n (.obj nu) [t,w] H Q:=by
 refine(wW P).cl hg rfl hn fun n hn a0 h0 a1 h1=>?_
 have ne:a1≠a0:=fun z=>by rw [z,p8] at h1;cases h1
 have h1':H a1=none:=by rw [<- h1,w5 ne]
 let m0:Loc:=[(6,t),(37,w),(62,.obj a0),(63,.obj a1)]
 refine pO.mk (NdI m0 a1 H) 20 ⟨[t],.inl rfl,p8 ..,fun y hy=>j8.mp hy▸s,?_,o9 _,Ext.upd h1' (Ext.new h0)⟩ ?_
 ·cases s with
  |one s=>cases s<;>exact(show 1+0<=20 by decide)
  |@tup l h k=>show l.length+1+0<=20;exact G3 ‹_› (by decide)
  |ref=>exact(show 1+0<=20 by decide)
 intro j m' H' z
 obtain⟨l,hm,e,hs,hw,hj,E⟩:=z
 have lk:m'.lookup 63=some (.obj a1):=by rcases hm with rfl|⟨q,rfl⟩<;>rfl
 refine j9 lk (JX e (cu fun t ht=>(hs t ht).d) ?_)
 rcases snoc_cases l with rfl|⟨l,p,rfl⟩
 ·exact h _ E
 rw [RQ] at hw
 have hw:wt l+(WQ p+0)<=j:=hw
 have hl:=RT l
 have hsz:l.length+1<=sizeLine:=by have:=RP p;rw [p7];lia
 refine dD (by cases l<;>rfl) (j9 lk (O8 e (tU e hsz ?_)))
 have hs':∀t∈l,Simple t:=fun t ht=>hs t (K5 _ ht)
 have m2:w7 64 p m'=m0++[(64,p)]:=by rcases hm with rfl|⟨q,rfl⟩<;>rfl
 show O5 g n _ (w7 64 p m') _ _
 rw [m2]
 cases hs p (J6 _ (.head _)) with
 |one hp=>
  have hw1:WQ p=1:=by cases hp<;>rfl
  have fin:∃i,i<j/\NdI m0 a1 H i (m0++[(64,p)]) (upd H' a1 (.list l)):=⟨j-1,by lia,l,.inr ⟨_,rfl⟩,p8 ..,hs',by lia,by lia,Ext.upd h1' E⟩
  cases hp<;>exact fin
 |ref=>exact⟨j-1,by have hw1:wt l+(1+0)<=j:=hw;lia,l,.inr ⟨_,rfl⟩,p8 ..,hs',by have hw1:wt l+(1+0)<=j:=hw;lia,by lia,Ext.upd h1' E⟩
 |@tup ts h k=>
  have hw1:wt l+(ts.length+1+0)<=j:=hw
  refine O8 (p8 ..) (Ez hg hn (cD (p8 ..) (.inl rfl) (by rw [p7];lia) ?_))
  exact⟨j-1,by lia,l++ts,.inr ⟨_,rfl⟩,p8 ..,fun y hy=>(u0.mp hy).elim (hs' y) fun z=>.one (h y z),by rw [RQ,Nr h];exact Mine.Internal.qh2 ‹_›,by exact d8 (Nat.sub_le ..) ‹_›,Ext.upd h1' (Ext.upd h1' E)⟩
end
section
variable{P:Params}{g:G (O4 P).T}(hg:N6 g){n:Nat}{m:Loc}{c:Fix}{M M':Mem}{L L':Role->Addr}{x x':wB}{H H' R:AH}{Q:PV->AH->Prop}{W:Loc->AH->Prop}{self:Addr}
theorem eH{α:Type}(f:α)(fs:List α)(i:Nat):(f::fs).reverse[i]? = if i=fs.length then some f else fs.reverse[i]? := by
 rw [List.reverse_cons]
 by_cases h:i<fs.length
 ·rw [I5 (by rw [J1];exact h),if_neg (Nat.ne_of_lt h)]
 ·rw [J0 (by rw [J1];exact Nat.le_of_not_lt h),J1]
  by_cases e:i=fs.length
  ·rw [if_pos e,e,Nat.sub_self];rfl
  ·rw [if_neg e]
   exact(J4 (show 1<=i-fs.length by lia)).trans (J4 (by rw [J1];exact Nat.le_of_not_lt h)).symm
noncomputable def rA(L:Role->Addr)(k:Nat)(a:Addr):Role->Addr
 |.fr i=>if i=k then a else L (.fr i)
 |r=>L r
theorem oH.push(o:oH M):oH M.push:=by
 refine⟨n8 o.tys,n8 o.blks,fun b hb=>n8 (o.sts b hb),J7 o.frs,fun f hf=>?_,o.here,o.simple,fun f hf y hy=>?_⟩
 ·rcases q7.mp hf with rfl|h
  ·exact z8 _
  ·exact n8 (o.Np f h)
 ·rcases q7.mp hf with rfl|h
  ·cases hy
  ·exact o.Oz f h y hy
theorem EY{a:Addr}(r:Role)(h1:r≠.frs)(h2:r≠.fr M.frs.length):X7 c M.push (rA L M.frs.length a) x r=X7 c M L x r/\rA L M.frs.length a r=L r:=by
 cases r with
 |frs=>exact absurd rfl h1
 |blks=>exact⟨congrArg (fun z=>some (N7.list z)) (iu _ _ fun O O O=>rfl),rfl⟩
 |fr i=>
  have ne:i≠M.frs.length:=fun z=>h2 (z▸rfl)
  refine⟨?_,if_neg ne⟩
  show Option.map _ ([]::M.frs).reverse[i]? = _
  rw [eH,if_neg ne];rfl
 |_=>exact⟨rfl,rfl⟩
theorem WW(B:O6 c M L x H)(F:Framed c M L x R H){a:Addr}(ha:H a=none):O6 c M.push (rA L M.frs.length a) x (upd (upd H a (.list [])) (L .frs) (.list (W6 L 0 M.frs.length++[.obj a])))/\
  Framed c M.push (rA L M.frs.length a) x R (upd (upd H a (.list [])) (L .frs) (.list (W6 L 0 M.frs.length++[.obj a]))):=by
 have hk:=B.at_ .frs _ rfl
 have na:a≠L .frs:=fun z=>by rw [z,hk] at ha;cases ha
 have key:∀y o,H y=some o->y≠L .frs->upd (upd H a (.list [])) (L .frs) (.list (W6 L 0 M.frs.length++[.obj a])) y=some o:=fun y o e q=>by
  rw [w5 q];exact Ext.new ha y o e
 have wb:rA L M.frs.length a (.fr M.frs.length)=a:=if_pos rfl
 have st:∀r,X7 c M L x r≠none->H (L r)≠none:=fun r h=>by
  cases e:X7 c M L x r with
  |none=>exact absurd e h
  |some o=>rw [B.at_ r o e];exact nofun
 have old:∀r,r≠.fr M.frs.length->X7 c M.push (rA L M.frs.length a) x r≠none->X7 c M L x r≠none/\rA L M.frs.length a r=L r:=fun r h v=>by
  by_cases q:r = .frs
  ·subst q;exact⟨nofun,rfl⟩
  ·obtain⟨e1,e2⟩:=EY (c:=c) (L:=L) (x:=x) (a:=a) r q h
   exact⟨e1▸v,e2⟩
 refine⟨⟨fun r r' h h' e=>?_,fun r o e=>?_,B.rows,n8 B.sp,B.ok.push⟩,fun y o e=>⟨key y o (F y o e).1 fun z=>(F y o e).2 .frs nofun z.symm,fun r h z=>?_⟩⟩
 ·by_cases q:r = .fr M.frs.length<;>by_cases q':r' = .fr M.frs.length
  ·rw [q,q']
  ·obtain⟨i,j⟩:=old r' q' h'
   rw [q,wb,j] at e
   exact absurd ha (e▸st r' i)
  ·obtain⟨i,j⟩:=old r q h
   rw [q',wb,j] at e
   exact absurd ha (e.symm▸st r i)
  ·obtain⟨i,j⟩:=old r q h
   obtain⟨i',j'⟩:=old r' q' h'
   exact B.inj r r' i i' (by rw [<- j,<- j',e])
 ·by_cases q1:r = .frs
  ·subst q1
   show upd _ (L .frs) _ (L .frs)=_
   rw [p8,<- e]
   show _=some (N7.list (W6 _ 0 (M.frs.length+1)))
   rw [lZ,z6,wb,iw M.frs.length 0 fun j O h=>?_]
   exact(if_neg (show j≠M.frs.length by lia)).symm
  ·by_cases q2:r = .fr M.frs.length
   ·subst q2
    rw [wb,w5 na,p8,<- e]
    show _=Option.map _ ([]::M.frs).reverse[_]?
    rw [eH,if_pos rfl];rfl
   ·obtain⟨e1,e2⟩:=EY (c:=c) (L:=L) (x:=x) (a:=a) r q1 q2
    rw [e2]
    refine key _ _ (B.at_ r o (e1▸e)) fun z=>q1 (B.inj r .frs (by rw [<- e1,e];exact nofun) nofun z)
 ·by_cases q:r = .fr M.frs.length
  ·rw [q,wb] at z
   rw [z,(F y o e).1] at ha;cases ha
  ·obtain⟨i,j⟩:=old r q h
   exact(F y o e).2 r i (by rw [<- j];exact z)
include hg in
theorem oK(B:M6 c self M R H)(hz:M.push.sz<=sizeLine)(hn:1<=n)(h:∀H',M6 c self M.push R H'->Q (.int M.frs.length) H'):Cl g n (.obj eX) [.obj self] H Q:=by
 revert h
 apply M6.el B
 intro L x B F h
 refine(vh P).cl hg rfl hn fun n O=>H8.mk B.self B.dx rfl rfl (O8 (B.at_ .frs _ rfl) fun a ha=>Q0 (Ext.new ha _ _ (B.at_ .frs _ rfl)) (by rw [gk];exact d8 B.ok.frs (v7 hz)) ?_)
 have z:=WW B F ha
 exact H8.mk z.1.self z.1.dx rfl rfl (S5 (k:=M.frs.length+1) ((len_list (p8 ..)).trans (congrArg some (by rw [d7,gk];rfl))) (yV (d8 (J7 B.ok.frs) hz)) (ad6 (Q:=Q) (h _ ⟨rA L M.frs.length a,x,rfl,z.1,z.2⟩)))
theorem Zb(B:O6 c M L x H){f:List (Nat×Bool)}{fs:List (List (Nat×Bool))} (e:M.frs=f::fs) (hi:M.sz<=sizeLine):LR (W6 L 0 M.frs.length) (-1)=some (.obj (L (.fr fs.length)))/\H (L (.fr fs.length))=some (.list (f.map Bv)):=by
 have hl:M.frs.length=fs.length+1:=by rw [e];rfl
 refine⟨?_,B.fr (by rw [e,eH,if_pos rfl])⟩
 unfold LR
 rw [gk,hl,if_neg (by decide),if_pos ⟨by lia,by decide⟩]
 rw [show((-1:Int)+((fs.length+1:Nat):Int)).toNat=fs.length by lia,yU L _ _ _ (H9 _),z6]
set_option tactic.hygienic true in
theorem oH.add(o:oH M)(y:Nat×Bool)(hy:Ox M.tys y):oH (M.add y):=by
 refine⟨n8 o.tys,n8 o.blks,fun b hb=>n8 (o.sts b hb),?_,fun f hf=>?_,o.here,o.simple,fun f hf z hz=>?_⟩
 ·have:=o.frs
  unfold Mem.add
  dsimp only
  split<;>rename_i e<;>rw [e] at this<;>exact n8 this
 ·unfold Mem.add at hf ⊢
  dsimp only at hf ⊢
  split at hf
  ·rename_i f' fs e
   rcases q7.mp hf with rfl|h
   ·rw [d7];exact J7 (o.Np f' (by rw [e];exact .head _))
   ·exact n8 (o.Np f (by rw [e];exact .tail _ h))
  ·cases hf
 ·show Ox M.tys z
  unfold Mem.add at hf
  dsimp only at hf
  split at hf
  ·rename_i f' fs e
   rcases q7.mp hf with rfl|h
   ·rcases u0.mp hz with h|h
    ·exact o.Oz f' (by rw [e];exact .head _) z h
    ·rw [j8.mp h];exact hy
   ·exact o.Oz f (by rw [e];exact .tail _ h) z hz
  ·cases hf
theorem WX{f:List (Nat×Bool)}{fs:List (List (Nat×Bool))} (e:M.frs=f::fs) (y:Nat×Bool) (r:Role) (h:r≠.fr fs.length):X7 c (M.add y) L x r=X7 c M L x r:=by
 have e2:(M.add y).frs=(f++[y])::fs:=by unfold Mem.add;dsimp only;rw [e]
 cases r with
 |frs=>show some (N7.list (W6 L 0 (M.add y).frs.length))=some (N7.list (W6 L 0 M.frs.length));rw [e2,e];rfl
 |fr i=>
  have ne:i≠fs.length:=fun z=>h (z▸rfl)
  show Option.map _ (M.add y).frs.reverse[i]? = Option.map _ M.frs.reverse[i]?
  rw [e2,e,eH,eH,if_neg ne,if_neg ne]
 |_=>rfl
include hg in
theorem WY(B:O6 c M L x H)(F:Framed c M L x R H){f:List (Nat×Bool)}{fs:List (List (Nat×Bool))} (e:M.frs=f::fs) (y:Nat×Bool) (hy:Ox M.tys y):M6 c (L .self) (M.add y) R (upd H (L (.fr fs.length)) (.list (f.map Bv++[Bv y]))):=by
 have e2:(M.add y).frs=(f++[y])::fs:=by unfold Mem.add;dsimp only;rw [e]
 refine M6.turn (M':=M.add y) (r0:=.fr fs.length) B F x ?_ ?_ (fun r ne=>.inl (WX e y r ne)) B.rows (n8 B.sp) (B.ok.add y hy)
 ·show Option.map _ M.frs.reverse[_]? ≠none
  rw [e,eH,if_pos rfl];exact nofun
 ·show Option.map _ (M.add y).frs.reverse[_]? = _
  rw [e2,eH,if_pos rfl]
  show some (N7.list ((f++[y]).map Bv))=_
  rw [q8];rfl
include hg in
theorem vI{i:Nat}(B:M6 c self M R H)(hi:Ox M.tys (i,true))(hf:M.frs≠[])(hz:((M.tick.put (.tup [.str 129,.int i])).add (i,true)).sz<=sizeLine) (hn:4<=n) (h:∀H',M6 c self ((M.tick.put (.tup [.str 129,.int i])).add (i,true)) R H'->Q .none H'):Cl g n (.obj fQ) [.obj self,.int i] H Q:=by
 refine(nY P).cl hg rfl hn fun n hn=>B.me rfl rfl (iy hg B (v7 hz) hn fun H B=>?_)
 revert h
 apply M6.el B
 intro L x B F h
 obtain⟨f,fs,e⟩:=List.exists_cons_of_ne_nil hf
 have z:=Zb B (f:=f) (fs:=fs) e (v7 hz)
 exact H8.mk B.self B.dx rfl rfl (uD (B.at_ .frs _ rfl) z.1 (O8 z.2 (Q0 z.2 (by rw [g8];exact d8 (B.ok.Np f (by rw [show(M.tick.put _).frs=M.frs from rfl,e];exact .head _)) (v7 hz)) (h _ (WY hg B F (f:=f) (fs:=fs) e (i,true) hi)))))
end
noncomputable def Mem.fin:Mem->List (Nat×Bool)->Mem
 |M,[]=>M
 |M,(i,true)::r=>Mem.fin (M.tick.put (.tup [.str 134,.int (i:Int)])) r
 |M,(_,false)::r=>Mem.fin M r
noncomputable def Mem.pop(M:Mem):Mem:=(M.fin (M.frs.headD []).reverse).drop
section
variable{P:Params}{g:G (O4 P).T}(hg:N6 g){n:Nat}{m:Loc}{c:Fix}{M M':Mem}{L L':Role->Addr}{x x':wB}{H H' R:AH}{Q:PV->AH->Prop}{W:Loc->AH->Prop}{self:Addr}
theorem sZ:∀(l:List (Nat×Bool)) (M:Mem),(M.fin l).frs=M.frs/\(M.fin l).tys=M.tys/\(M.fin l).here=M.here/\(M.fin l).sz<=M.sz+2*l.length/\M.sz<=(M.fin l).sz
 | [],M=>⟨rfl,rfl,rfl,o9 _,o9 _⟩
 | (i,true)::r,M=>by
  obtain⟨a,b,h,d,e⟩:=sZ r (M.tick.put (.tup [.str 134,.int (i:Int)]))
  have d:_<=M.sz+1+1+2*r.length:=d
  have e:M.sz+1+1<=_:=e
  refine⟨a,b,h,?_,?_⟩
  ·show(Mem.fin _ r).sz<=M.sz+2*(r.length+1);lia
  ·show M.sz<=(Mem.fin _ r).sz;lia
 | (_,false)::r,M=>by
  obtain⟨a,b,h,d,e⟩:=sZ r M
  refine⟨a,b,h,?_,e⟩
  show(Mem.fin _ r).sz<=M.sz+2*(r.length+1);lia
theorem Ik(l:List (Nat×Bool))(M:Mem):M.sz<=(M.fin l).sz:=(sZ l M).2.2.2.2
include hg in
theorem Nt{p:PV}{full:List PV}{m0:Loc}{Q':Out->Loc->AH->Prop}(hn:5<=n)(hm0:m0=[(1,.obj self),(130,p)])(fin:∀m' H',M6 c self M' R H'->Q' .next m' H'):∀(r:List (Nat×Bool)) (M:Mem) (H:AH) (m':Loc),M6 c self M R H->(m'=m0\/∃a b,m'=m0++[(77,a),(131,b)])->
  (∀y∈r,Ox M.tys y)->(M.fin r).sz<=sizeLine->M.fin r=M'->ur ((Tg.tup [.name 77,.name 131]).w g n) (O5 g n [.iff (.call 132 [.meth (.loc 1) 112 [.loc 77],.attr (.loc 1) 37]) [.bad,.bad,.bad] [],.iff (.loc 131) [.expr (.meth (.loc 1) 128 [.tup [.str 134,.loc 77]])] []]) (.lst full) full Q' (r.map Bv) m' H:=by
 intro r
 induction r with
 |nil=>exact fun M H m' B O O O e=>fin m' H (e▸B)
 |cons y r ih=>
  intro M H m' B hm hv hz e
  obtain⟨i,b⟩:=y
  have m2:w7 131 (.bool b) (w7 77 (.int (i:Int)) m')=m0++[(77,.int (i:Int)),(131,.bool b)]:=by
   rcases hm with rfl|⟨a,b,rfl⟩<;>subst hm0<;>rfl
  show O5 g n _ (w7 131 (.bool b) (w7 77 (.int (i:Int)) m')) _ _
  rw [m2]
  obtain⟨ty,es,hs⟩:∃t,M.tys[i]? = some t/\Simple t:=hv _ (.head _)
  have h0:=d8 (Ik ((i,b)::r) M) hz
  subst hm0
  refine B.me rfl rfl (Ky hg B es h0 (leB hn rfl) (B.world (xP hg hs (leB hn rfl) fun H' E=>?_)))
  have B:=B.ext E
  cases b with
  |false=>exact ih M H' _ B (.inr ⟨_,_,rfl⟩) (fun y hy=>hv y (.tail _ hy)) hz e
  |true=>exact B.me rfl rfl (iy hg B (d8 (Ik r _) hz) (leB hn rfl) fun H' B=>ih _ H' _ B (.inr ⟨_,_,rfl⟩) (fun y hy=>hv y (.tail _ hy)) hz e)
include hg in
theorem finish_ok{p:PV}{l:List (Nat×Bool)}(B:M6 c self M R H)(hp:Q6 H p=some (l.map Bv))(hv:∀y∈l,Ox M.tys y)(hl:l.length<=sizeLine)(hz:(M.fin l.reverse).sz<=sizeLine)(hn:6<=n)(h:∀H',M6 c self (M.fin l.reverse) R H'->Q .none H'):Cl g n (.obj iQ) [.obj self,p] H Q:=by
 refine(qg P).cl hg rfl hn fun n hn=>j9 hp (dD (J5 (by rw [g8];exact hl)) ?_)
 rw [<- List.map_reverse]
 exact Nt hg (m0:=[(1,.obj self),(130,p)]) hn rfl (fun m' H' B=>h H' B) l.reverse M H _ B (.inl rfl) (fun y hy=>hv y (List.mem_reverse.mp hy)) hz rfl
theorem ad7{f:List (Nat×Bool)}{fs:List (List (Nat×Bool))} (e:M.frs=f::fs):M.pop=(M.fin f.reverse).drop:=by unfold Mem.pop;rw [e];rfl
theorem pop_at{M':Mem}{f:List (Nat×Bool)}{fs:List (List (Nat×Bool))} (B:O6 c M' L x H) (F:Framed c M' L x R H) (e:M'.frs=f::fs):M6 c (L .self) M'.drop R (upd H (L .frs) (.list (W6 L 0 fs.length))):=by
 have img:∀r,r≠.frs->X7 c M'.drop L x r=X7 c M' L x r\/X7 c M'.drop L x r=none:=fun r ne=>by
  cases r with
  |frs=>exact absurd rfl ne
  |fr i=>
   show Option.map _ M'.frs.tail.reverse[i]? = Option.map _ M'.frs.reverse[i]? \/Option.map _ M'.frs.tail.reverse[i]? = none
   rw [e,eH]
   by_cases q:i=fs.length
   ·refine .inr ?_
    show Option.map _ fs.reverse[i]? = none
    rw [J4 (by rw [J1,q];exact o9 _)];rfl
   ·rw [if_neg q];exact .inl rfl
  |_=>exact .inl rfl
 have o:=B.ok
 refine M6.turn (r0:=.frs) B F x nofun ?_ img B.rows B.sp ⟨o.tys,o.blks,o.sts,?_,fun z hz=>o.Np z (List.mem_of_mem_tail hz),o.here,o.simple,fun z hz=>o.Oz z (List.mem_of_mem_tail hz)⟩
 ·show some (N7.list (W6 L 0 M'.frs.tail.length))=_
  rw [e];rfl
 ·show M'.frs.tail.length<=_
  rw [List.length_tail];exact d8 (Nat.sub_le _ _) o.frs
theorem Xa(B:M6 c self M R H){f:List (Nat×Bool)}{fs:List (List (Nat×Bool))} (e:M.frs=f::fs) (hi:M.sz<=sizeLine) (h:∀a,H a=some (.list (f.map Bv))->(∀y∈f,Ox M.tys y)/\f.length<=M.sz->Q (.obj a) H):H8 g 118 (fun p H=>SubL g p (.int (-1)) H Q) (.obj self) H:=by
 apply M6.el B
 intro L x B F
 have z:=Zb B e hi
 exact .mk B.self B.dx rfl rfl (uD (B.at_ .frs _ rfl) z.1 (h _ z.2 ⟨B.ok.Oz f (by rw [e];exact .head _),B.ok.Np f (by rw [e];exact .head _)⟩))
theorem Xb(B:M6 c self M R H){f:List (Nat×Bool)}{fs:List (List (Nat×Bool))} (e:M.frs=f::fs) (hi:M.sz<=sizeLine) (h:∀q H',M6 c self M.drop R H'->Q q H'):H8 g 118 (fun p H=>rI H "list" p/\Cl g n (.blt "list.pop") [p] H Q) (.obj self) H:=by
 revert h
 apply M6.el B
 intro L x B F h
 have h5:H (L .frs)=some (.list (W6 L 0 fs.length++[.obj (L (.fr fs.length))])):=by
  rw [B.at_ .frs _ rfl,e]
  show some (N7.list (W6 L 0 (fs.length+1)))=_
  rw [lZ,z6]
 exact .mk B.self B.dx rfl rfl (O8 h5 (tU h5 (by have:=B.ok.frs;rw [e] at this;rw [gk];exact d8 this hi) (h _ _ (pop_at B F e))))
include hg in
theorem RV{f:List (Nat×Bool)}{fs:List (List (Nat×Bool))} (B:M6 c self M R H) (e:M.frs=f::fs) (hz:M.pop.sz<=sizeLine) (hn:7<=n) (h:∀H',M6 c self M.pop R H'->Q .none H'):Cl g n (.obj gV) [.obj self] H Q:=by
 rw [ad7 e] at hz h
 have h0:M.sz<=sizeLine:=d8 (Ik f.reverse M) hz
 exact(xr P).cl hg rfl hn fun n hn=>B.me rfl rfl (Xa B e h0 fun a ea z=>finish_ok hg B (K9 ea) z.1 (d8 z.2 h0) hz hn fun H B=>Xb B ((sZ f.reverse M).1.trans e) hz fun O H B=>h H B)
end
section
variable{c:Fix}{M:Mem}{self:Addr}{R R' H:AH}{D:Addr}{o o':N7}
theorem M6.Zc(B:M6 c self M R' H)(h:∀b o,R b=some o->R' b=some o):M6 c self M R H:=by
 obtain⟨L,x,e,B,F⟩:=B
 exact⟨L,x,e,B,fun b o z=>F b o (h b o z)⟩
theorem M6.newR(B:M6 c self M R H)(h:H D=none):M6 c self M (upd R D o) (upd H D o):=by
 obtain⟨L,x,e,B,F⟩:=B
 refine⟨L,x,e,B.ext (Ext.new h),fun b q z=>?_⟩
 by_cases k:b=D
 ·subst k
  rw [p8] at z ⊢
  exact⟨z,fun r hr w=>by
   cases i:X7 c M L x r with
   |none=>exact hr i
   |some o'=>rw [<- w,B.at_ r o' i] at h;cases h⟩
 ·rw [w5 k] at z
  exact⟨Ext.new h b q (F b q z).1,(F b q z).2⟩
theorem M6.ad8(B:M6 c self M (upd R D o) H):M6 c self M (upd R D o') (upd H D o'):=by
 obtain⟨L,x,e,B,F⟩:=B
 have hD:=(F D o (p8 ..)).2
 refine⟨L,x,e,⟨B.inj,fun r q i=>?_,B.rows,B.sp,B.ok⟩,fun b q z=>?_⟩
 ·rw [w5 (hD r (by rw [i];exact nofun))];exact B.at_ r q i
 ·by_cases k:b=D
  ·subst k
   rw [p8] at z ⊢
   exact⟨z,hD⟩
  ·rw [w5 k] at z ⊢
   exact F b q (by rw [w5 k];exact z)
theorem M6.aq5(B:M6 c self M (upd R D o) H)(h:R D=none):M6 c self M R (del H D):=by
 obtain⟨L,x,e,B,F⟩:=B
 have hD:=(F D o (p8 ..)).2
 refine⟨L,x,e,⟨B.inj,fun r q i=>?_,B.rows,B.sp,B.ok⟩,fun b q z=>?_⟩
 ·rw [del,if_neg (hD r (by rw [i];exact nofun))];exact B.at_ r q i
 ·have ne:b≠D:=fun k=>by rw [k,h] at z;cases z
  rw [del,if_neg ne]
  exact F b q (by rw [w5 ne];exact z)
theorem M6.inR(B:M6 c self M (upd R D o) H):H D=some o:=by
 obtain⟨L,x,e,B,F⟩:=B
 exact(F D o (p8 ..)).1
theorem M6.ad9(B:M6 c self M R H)(h:H D=none):R D=none:=by
 obtain⟨L,x,e,B,F⟩:=B
 cases k:R D with
 |none=>rfl
 |some o=>rw [(F D o k).1] at h;cases h
theorem M6.ae0(B:M6 c self M (upd R D o) H)(h:R D=none):M6 c self M R H:=B.Zc fun b q z=>by
 rw [w5 fun e=>by rw [e,h] at z;cases z];exact z
end
noncomputable def T6(p:PV):PV:=.tup [.str 143,p]
noncomputable def bD(i:Nat):PV:=.tup [.int (i:Int),.tup []]
noncomputable def Mem.asg(M:Mem)(p rv:PV):Mem:=M.tick.put (.tup [.str 159,p,rv])
noncomputable def jz(o:PV):PV:=.tup [.str 171,o]
section
variable{P:Params}{g:G (O4 P).T}(hg:N6 g){n:Nat}{m:Loc}{c:Fix}{M M':Mem}{L L':Role->Addr}{x x':wB}{H H' R:AH}{Q:PV->AH->Prop}{W:Loc->AH->Prop}{self:Addr}
include hg in
theorem yZ{p rv:PV}(B:M6 c self M R H)(hz:(M.asg p rv).sz<=sizeLine)(hn:4<=n)(h:∀H',M6 c self (M.asg p rv) R H'->Q .none H'):Cl g n (.obj aZ) [.obj self,p,rv] H Q:=
 (iY P).cl hg rfl hn fun n hn=>B.me rfl rfl (iy hg B hz hn h)
include hg in
theorem xQ{p t:PV}(B:M6 c self M R H)(s:bY t)(hn:2<=n)(h:Q (T6 p) H):Cl g n (.obj W9) [.obj self,p,t] H Q:=
 (cZ P).cl hg rfl hn fun n hn=>B.world (B.bounds (Ij hg s hn h))
include hg in
theorem Nu{i s:PV}{l:List PV}(hl:l.length+1<=sizeLine)(hn:1<=n)(h:Q (.tup [i,.tup (l++[s])]) H):Cl g n (.obj DX) [.tup [i,.tup l],s] H Q:=
 (Nj P).cl hg rfl hn fun n hn=>yG hl h
end
structure St(aV0 H:AH)(K:List (Addr×N7)):Prop where
 keep:Ext aV0 H
 mem:∀x∈K,H x.1=some x.2
 nd:(K.map (·.1)).Nodup
 fresh:∀x∈K,aV0 x.1=none
noncomputable def chg:List (Addr×N7)->Nat->N7->List (Addr×N7)
 | [],_,_=>[]
 |x::r,k,o=>match k with
  |0=>(x.1,o)::r
  |k+1=>x::chg r k o
section
variable{aV0 H:AH}{K:List (Addr×N7)}{b:Addr}{o o':N7}
theorem St.nil(H:AH):St H H []:=⟨.refl,fun O h=>(List.not_mem_nil h).elim,.nil,fun O h=>(List.not_mem_nil h).elim⟩
theorem St.at(s:St aV0 H K)(i:Nat){x:Addr×N7}(e:K[i]? = some x):H x.1=some x.2:=s.mem _ (u6 e)
theorem St.new(s:St aV0 H K)(h:H b=none)(o:N7):St aV0 (upd H b o) ((b,o)::K):=by
 have h0:aV0 b=none:=by
  cases e:aV0 b with
  |none=>rfl
  |some o=>exact nomatch h.symm.trans (s.keep b o e)
 have ne:∀x∈K,x.1≠b:=fun x hx e=>by rw [<- e,s.mem x hx] at h;cases h
 refine⟨s.keep.trans (Ext.new h),fun x hx=>?_,G5.mpr ⟨fun hm=>?_,s.nd⟩,fun x hx=>?_⟩
 ·rcases q7.mp hx with rfl|hx
  ·exact p8 ..
  ·rw [w5 (ne x hx)];exact s.mem x hx
 ·obtain⟨x,hx,e⟩:=w6.mp hm
  exact ne x hx e
 ·rcases q7.mp hx with rfl|hx
  ·exact h0
  ·exact s.fresh x hx
theorem Kz:∀(K:List (Addr×N7)) (i:Nat) (o:N7),(chg K i o).map (·.1)=K.map (·.1)
 | [],_,_=>rfl
 |_::_,0,_=>rfl
 |x::r,i+1,o=>congrArg (x.1 :: ·) (Kz r i o)
theorem Bw:∀{K:List (Addr×N7)} {i:Nat} {x y:Addr×N7},(K.map (·.1)).Nodup->K[i]? = some y->x∈chg K i o'->x=(y.1,o')\/x∈K/\x.1≠y.1
 | [],_,_,_,_,e,_=>nomatch e
 |z::r,0,x,y,nd,e,h=>by
  cases e
  rcases q7.mp h with h|h
  ·exact .inl h
  ·exact .inr ⟨.tail _ h,fun q=>(G5.mp nd).1 (w6.mpr ⟨x,h,q⟩)⟩
 |z::r,i+1,x,y,nd,e,h=>by
  have e:r[i]? = some y:=e
  rcases q7.mp h with rfl|h
  ·exact .inr ⟨.head _,fun q=>(G5.mp nd).1 (w6.mpr ⟨y,u6 e,q.symm⟩)⟩
  ·exact(Bw (G5.mp nd).2 e h).imp id fun q=>⟨.tail _ q.1,q.2⟩
theorem St.put(s:St aV0 H K)(i:Nat){x:Addr×N7}(e:K[i]? = some x)(o':N7):St aV0 (upd H x.1 o') (chg K i o'):=by
 refine⟨Ext.upd (s.fresh x (u6 e)) s.keep,fun y hy=>?_,by rw [Kz];exact s.nd,fun y hy=>?_⟩
 ·rcases Bw s.nd e hy with rfl|⟨q,ne⟩
  ·exact p8 ..
  ·rw [w5 ne];exact s.mem y q
 ·rcases Bw s.nd e hy with rfl|⟨q,_⟩
  ·exact s.fresh x (u6 e)
  ·exact s.fresh y q
theorem St.app{H':AH}{K':List (Addr×N7)}(s:St aV0 H K)(t:St H H' K'):St aV0 H' (K'++K):=by
 refine⟨s.keep.trans t.keep,fun x hx=>?_,?_,fun x hx=>?_⟩
 ·exact(u0.mp hx).elim (t.mem x) fun h=>t.keep _ _ (s.mem x h)
 ·rw [q8]
  refine List.nodup_append.mpr ⟨t.nd,s.nd,fun a ha b hb e=>?_⟩
  obtain⟨x,hx,rfl⟩:=w6.mp ha
  obtain⟨y,hy,rfl⟩:=w6.mp hb
  have:=t.fresh x hx
  rw [e,s.mem y hy] at this
  cases this
 ·refine(u0.mp hx).elim (fun h=>?_) (s.fresh x)
  cases e:aV0 x.1 with
  |none=>rfl
  |some o=>exact nomatch (t.fresh x h).symm.trans (s.keep _ _ e)
theorem Xc{H':AH}{p:PV}{l:List PV}(E:Ext H H')(e:Q6 H p=some l):Q6 H' p=some l:=by
 rcases P0 e with rfl|⟨a,rfl,h⟩
 ·rfl
 ·exact K9 (E _ _ h)
end
section
variable{P:Params}{g:G (O4 P).T}(hg:N6 g){n:Nat}{aV0 H:AH}{Q:PV->AH->Prop}{K:List (Addr×N7)}{W:AH->Prop}
theorem St.attr(s:St aV0 H K)(i j:Nat){a C dx x:Addr}{l:List (Nat×PV)}{q:PV}(e1:K[i]? = some (a,.inst C dx))(e2:K[j]? = some (dx,.attrs l))(hf:(O4 P).T.fld C x=true)(hl:l.lookup x=some q)(h:Q q H):H8 g x Q (.obj a) H:=.mk (s.at i e1) (s.at j e2) hf hl h
theorem St.set(s:St aV0 H K)(i j:Nat){a C dx x:Addr}{l:List (Nat×PV)}{q:PV}(e1:K[i]? = some (a,.inst C dx))(e2:K[j]? = some (dx,.attrs l))(hf:(O4 P).T.fld C x=true)(hl:Nat.blt l.length 900=true)(h:∀H',St aV0 H' (chg K j (.attrs (w7 x q l)))->W H'):iK g x q W (.obj a) H:=
 .mk (s.at i e1) (s.at j e2) hf (d9 hl) (h _ (s.put j e2 _))
theorem dB:jg (O4 P).T jk 4 [.none,.none]:=jg.of (fd:=_) (ps:=_) rfl [.none,.none] rfl fun vs h S=>by
 obtain⟨a,r,e1,h1⟩:=Y9 h
 obtain⟨b,r',e2,h2⟩:=Y9 h1
 obtain⟨c,d,e3⟩:=len2 h2
 rw [e1,e2,e3];rfl
theorem bH.Xd{τ:T}{g:G τ}{n k:Nat}{H:AH}{Q:PV->AH->Prop}{f:Addr}{ps:List Nat}{body:List S}{l ds:List PV}(o:bH τ f ps body)(hg:N6 g)(hd:jg τ f l.length ds)(hl:l.length+ds.length=ps.length)(hn:k+1<=n)(h:∀n,k<=n->O5 g n body (ps.zip (l++ds)) H (mO Q)):yg g n (.obj f) l H Q:=by
 cases n with
 |zero=>exact absurd hn (Nat.not_succ_le_zero k)
 |succ n=>exact o.YL hg hd hl (h n (J3 hn))
include hg
theorem make{k:Nat}{C f:Addr}{l:List PV}(hi:(O4 P).T.init C=some f)(hn:k+1<=n)(h:∀n a dx H',k<=n->St H H' [(a,.inst C dx),(dx,.attrs [])]->yg g n (.obj f) (.obj a::l) H' fun r H'=>r = .none/\Q (.obj a) H'):Cl g n (.obj C) l H Q:=by
 cases n with
 |zero=>exact absurd hn (Nat.not_succ_le_zero k)
 |succ n=>exact Vq hg hi fun a dx ha hdx ne=>h n a dx _ (J3 hn) (((St.nil H).new hdx _).new (by rw [w5 ne];exact ha) _)
theorem Nv{nm many:PV}{p:PV}{rows:List PV}(hr:Q6 H p=some rows)(hz:rows.length<=sizeLine)(hn:2<=n)(h:∀b Q8 locs blks spots H',St H H' [(spots,.Q9 []),(blks,.list []),(locs,.list rows),(b,.inst gR Q8),(Q8,.attrs [(40,nm),(71,many),(75,.obj locs),(73,.obj blks),(74,.obj spots)])]->Q (.obj b) H'):
  Cl g n (.obj gR) [nm,many,p] H Q:=
 make hg rfl hn fun n b Q8 H' hn s=>(nR P).Xd hg dB rfl hn fun n O=>s.set 0 1 rfl rfl rfl rfl fun H' s=>s.set 0 1 rfl rfl rfl rfl fun H' s=>zY (.inr (Xc s.keep hr)) hz (.inr fun locs hl=>(s.new hl _).set 1 2 rfl rfl rfl rfl fun H' s=>
  fun blks hb=>(s.new hb _).set 2 3 rfl rfl rfl rfl fun H' s=>fun spots hs=>(s.new hs _).set 3 4 rfl rfl rfl rfl fun H' s=>And.intro rfl (h _ _ _ _ _ _ s))
end
theorem Q5{x y:Nat}{p q:PV}{m:Loc}(ne:x≠y)(h:m.lookup x=some p):(w7 y q m).lookup x=some p:=by rw [M9,if_neg ne];exact h
theorem T8{y:Nat}{q:PV}{m:Loc}:(w7 y q m).lookup y=some q:=by rw [M9,if_pos rfl]
inductive Wy where
 |fld|box|ref (mu:Bool)
noncomputable abbrev aG:PV:=.tup [.str 32,.str 355]
noncomputable abbrev jA:PV:=.tup [.str 45]
noncomputable def Nx(mu:Bool)(t:PV):PV:=.tup [.str 8,.none,.bool mu,t]
noncomputable def Wy.ty:Wy->PV->PV
 |.fld,t=>.tup [.str 9,.tup [aG,t]]
 |.box,t=>.tup [.str 10,t]
 |.ref mu,t=>Nx mu t
noncomputable def iZ:List Wy->PV
 | []=>aG
 |w::l=>w.ty (iZ l)
noncomputable def Wy.step:Wy->PV
 |.fld=>.tup [.str 106,.int 1]
 |_=>.tup [.str 107]
noncomputable def steps(l:List Wy):List PV:=l.map Wy.step
noncomputable def bF(l:List Wy):PV:=.tup [.int 1,.tup (steps l)]
noncomputable def Wy.isD:Wy->Bool
 |.fld=>false
 |_=>true
noncomputable def M5(pre:List Wy):List Wy->List (List Wy)
 | []=>[]
 |w::r=>@Bool.rec (fun O=>List (List Wy)) (M5 (pre++[w]) r) (pre::M5 (pre++[w]) r) w.isD
noncomputable def O1(l:List Wy):List (List Wy):=l::M5 [] l
noncomputable def O9(l:List Wy):Nat:=(M5 [] l).length
noncomputable def Xe(l:List Wy)(k:Nat):List Wy:=((O1 l)[k]?).getD []
noncomputable def pC(l:List Wy)(k:Nat):PV:=bF (Xe l k)
noncomputable def tyk(l:List Wy)(k:Nat):PV:=Nx false (iZ (l.drop (Xe l k).length))
noncomputable def xR(t v:PV):PV:=.tup [.str 156,t,v]
noncomputable def oM(p:PV):PV:=.tup [.str 8,.none,.str 169,p]
noncomputable def bO(i:Nat):PV:=.tup [.str 129,.int (i:Int)]
noncomputable def eN(i:Nat):PV:=.tup [.str 134,.int (i:Int)]
noncomputable def cA(i:Nat)(rv:PV):PV:=.tup [.str 159,bD i,rv]
noncomputable def Bx(op:Nat)(p:PV)(v:Nat):PV:=.tup [.str 160,.str op,T6 p,xR aG (.int (v:Int))]
section
variable(l:List Wy)
noncomputable def jx.v:jx->PV
 |.x=>iZ l
 |.u8=>aG
 |.bool=>jA
 |.Nk=>Nx false aG
 |.lt k=>tyk l k
noncomputable def vJ:Nat->Nat->Nat->List PV
 |_,_,0=>[]
 |i,k,n+1=>bO i::cA i (oM (pC l k))::vJ (i+1) (k+1) n
noncomputable def Fb:Nat->Nat->Nat->List PV
 |_,_,0=>[]
 |i,t,n+1=>bO t::cA t (jz (T6 (bD i)))::eN t::Fb (i+1) (t+1) n
noncomputable def RW(i:Nat):Nat->List PV
 |0=>[]
 |n+1=>eN (i+n)::RW i n
noncomputable def aq6(h v:Nat):List PV:=[bO h,cA h (Bx 161 (bD 2) v)]
noncomputable def gdV(i v:Nat):List PV:=vJ l i 0 (O9 l+1)++(aq6 (i+(O9 l+1)) v++(Fb i (i+(O9 l+1)+1) (O9 l+1)++RW i (O9 l+1)))
noncomputable def Sx.vs:Sx->List PV
 |.live i=>[bO i]
 |.dead i=>[eN i]
 |.ref i=>[cA i (oM (pC l 0))]
 |.Ow i=>[cA i (jz (T6 (pC l 0)))]
 |.cmp i true v=>[cA i (Bx 196 (pC l 0) v)]
 |.cmp i false v=>[cA i (Bx 197 (pC l 0) v)]
 |.gd i v=>gdV l i v
 |.cst v=>[cA 0 (jz (xR aG (.int (v:Int))))]
noncomputable def Tx.pv:Tx->PV
 |.goto i=>.tup [.str 84,.int (i:Int)]
 |.br t bad good=>.tup [.str 85,T6 (bD t),.tup [.tup [.bool false,.int (bad:Int)]],.int (good:Int)]
 |.eq v good fail=>.tup [.str 85,T6 (pC l 0),.tup [.tup [.int (v:Int),.int (good:Int)]],.int (fail:Int)]
 |.ret=>.tup [.str 247]
 |.Gu=>.tup [.str 139]
noncomputable def opv:Option Tx->PV
 |none=>.none
 |some t=>t.pv l
noncomputable def bv(b:List Sx×Option Tx):List PV×PV:=(b.1.flatMap (Sx.vs l),opv l b.2)
noncomputable def GM.mem(M:GM):Mem:=⟨M.tys.map (jx.v l),M.blks.map (bv l),M.here,M.frs,M.sz⟩
end
theorem BJ{α β:Type}(v:α->β)(f:α->α)(f':β->β)(h:∀a,v (f a)=f' (v a))(l:List α)(i:Nat):(l.modify i f).map v=(l.map v).modify i f':=List.ext_getElem? fun j=>by
 rw [G7,get_modify,get_modify,G7]
 by_cases e:i=j
 ·rw [if_pos e,if_pos e,Option.map_map,Option.map_map]
  exact congrArg (fun z=>Option.map z l[j]?) (funext h)
 ·rw [if_neg e,if_neg e]
section
variable{l:List Wy}{M:GM}
theorem oN{s:Sx}{p:PV}(e:s.vs l=[p]):(M.put s).mem l=(M.mem l).tick.put p:=by
 have z:=BJ (bv l) (fun b=>(b.1++[s],b.2)) (fun b=>(b.1++[p],b.2)) (fun b=>congrArg (fun y=>(y,opv l b.2)) (by
  show(b.1++[s]).flatMap (Sx.vs l)=_
  rw [List.flatMap_append]
  exact congrArg (_ ++ ·) ((s7 _).trans e))) M.blks M.here
 exact congrArg (fun y=>Mem.mk _ y M.here M.frs _) z
theorem Ny(t:Tx):(M.close t).mem l=(M.mem l).tick.close (t.pv l):=
 congrArg (fun y=>Mem.mk _ y M.here M.frs _) (BJ (bv l) (fun b=>(b.1,some t)) (fun b=>(b.1,t.pv l)) (fun b=>rfl) M.blks M.here)
theorem RX:M.R6.mem l=(M.mem l).R6:=congrArg (fun y=>Mem.mk _ y M.here M.frs _) q8
theorem RZ(t:jx):(M.newL t).mem l=(M.mem l).newL (t.v l):=congrArg (fun y=>Mem.mk y _ M.here M.frs _) q8
theorem Xf(x:Nat×Bool):(M.add x).mem l=(M.mem l).add x:=rfl
theorem BK:∀(r:List (Nat×Bool)) (M:GM),(M.fin r).mem l=(M.mem l).fin r
 | [],_=>rfl
 | (i,true)::r,M=>by
  show(GM.fin (M.put (.dead i)) r).mem l=((M.mem l).tick.put (eN i)).fin r
  rw [BK r,oN (p:=eN i) rfl]
 | (_,false)::r,M=>BK r M
theorem KC:M.pop.mem l=(M.mem l).pop:=by
 show(GM.mk _ _ _ _ _ _).mem l=((M.mem l).fin (M.frs.headD []).reverse).drop
 rw [<- BK]
 rfl
theorem Fd:(M.mem l).blks.length=M.nb:=g8 _
theorem rB:(M.mem l).tys.length=M.nl:=g8 _
theorem vK(s:Sx):(M.put s).nb=M.nb:=K7 ..
theorem dh(t:Tx):(M.close t).nb=M.nb:=K7 ..
theorem cB:M.R6.nb=M.nb+1:=d7
end
section
variable{P:Params}{g:G (O4 P).T}(hg:N6 g){n:Nat}{c:Fix}{l:List Wy}{M:GM}{R H:AH}{Q:PV->AH->Prop}{self:Addr}
include hg
theorem Nz{s:Sx}{p:PV}(B:M6 c self (M.mem l) R H)(e:s.vs l=[p])(hz:(M.put s).sz<=sizeLine)(hn:3<=n)(h:∀H',M6 c self ((M.put s).mem l) R H'->Q .none H'):Cl g n (.obj gU) [.obj self,p] H Q:=
 iy hg B hz hn fun H' B=>h H' (oN (M:=M) e▸B)
theorem mj{t:Tx}(B:M6 c self (M.mem l) R H)(hz:(M.close t).sz<=sizeLine)(hn:3<=n)(h:∀H',M6 c self ((M.close t).mem l) R H'->Q .none H'):Cl g n (.obj cW) [.obj self,t.pv l] H Q:=
 RN hg B hz hn fun H' B=>h H' (Ny (M:=M) t▸B)
theorem za(B:M6 c self (M.mem l) R H)(hz:M.R6.sz<=sizeLine)(hn:1<=n)(h:∀H',M6 c self (M.R6.mem l) R H'->Q (.int M.nb) H'):Cl g n (.obj Z2) [.obj self] H Q:=
 cj hg B hz hn fun H' B=>by rw [Fd];exact h H' (RX (M:=M)▸B)
theorem aq8{t:jx}(B:M6 c self (M.mem l) R H)(hz:(M.newL t).sz<=sizeLine)(hn:2<=n)(h:∀H',M6 c self ((M.newL t).mem l) R H'->Q (.int M.nl) H'):Cl g n (.obj V4) [.obj self,t.v l] H Q:=
 iz hg B trivial hz hn fun H' B=>by rw [rB];exact h H' (RZ (M:=M) t▸B)
omit hg in
theorem toG{b:Nat}{W:AH->Prop}(B:M6 c self (M.mem l) R H)(hb:b<M.nb)(h:∀H',M6 c self ((M.to b).mem l) R H'->W H'):iK g 64 (.int b) W (.obj self) H:=
 B.Wx (by rw [Fd];exact hb) h
theorem Sd(B:M6 c self (M.mem l) R H)(hz:M.push.sz<=sizeLine)(hn:1<=n)(h:∀r H',M6 c self (M.push.mem l) R H'->Q r H'):Cl g n (.obj eX) [.obj self] H Q:=
 oK hg B hz hn fun H' B=>h _ H' B
theorem ae1{f:List (Nat×Bool)}{fs:List (List (Nat×Bool))} (B:M6 c self (M.mem l) R H) (e:M.frs=f::fs) (hz:M.pop.sz<=sizeLine) (hn:7<=n) (h:∀H',M6 c self (M.pop.mem l) R H'->Q .none H'):Cl g n (.obj gV) [.obj self] H Q:=
 RV hg B e (by rw [<- KC];exact hz) hn fun H' B=>h H' (KC (M:=M)▸B)
theorem KH{t:jx}{s:Nat->Sx}{rv:PV}(B:M6 c self (M.mem l) R H)(e:(s M.nl).vs l=[cA M.nl rv])(hz:(M.told t s).sz<=sizeLine)(hn:4<=n)(h:∀H',M6 c self ((M.told t s).mem l) R H'->Q (.int M.nl) H'):Cl g n (.obj X5) [.obj self,t.v l,rv] H Q:=
 (bw P).cl hg rfl hn fun n hn=>B.me rfl rfl (aq8 hg B (o8 (k:=4) hz) (leB hn rfl) fun H B=>B.me rfl rfl (Nz hg B (s:=.live M.nl) rfl (o8 (k:=2) hz) hn fun H B=>B.me rfl rfl (Nz hg B e hz hn fun H B=>h H B)))
theorem qj{t fail:Nat}(B:M6 c self (M.mem l) R H)(hz:(M.branch t fail).sz<=sizeLine)(hn:4<=n)(h:∀H',M6 c self ((M.branch t fail).mem l) R H'->Q .none H'):Cl g n (.obj aH) [.obj self,.int t,.none,.int fail] H Q:=by
 have e1:(M.R6.R6.close (.br t (M.nb+1) M.nb)).nb=M.nb+2:=(dh _).trans (cB.trans (congrArg (·+ 1) cB))
 have e2:(((M.R6.R6.close (.br t (M.nb+1) M.nb)).to (M.nb+1)).put (.dead t)).nb=M.nb+2:=(vK _).trans e1
 have e3:((((M.R6.R6.close (.br t (M.nb+1) M.nb)).to (M.nb+1)).put (.dead t)).close (.goto fail)).nb=M.nb+2:=(dh _).trans e2
 refine(gZ P).cl hg rfl hn fun n hn=>B.me rfl rfl (za hg B (o8 (k:=9) hz) (leB hn rfl) fun H B=>B.me rfl rfl (za hg B (o8 (k:=8) hz) (leB hn rfl) fun H B=>?_))
 rw [cB]
 refine B.me rfl rfl (mj hg (t:=.br t (M.nb+1) M.nb) B (o8 (k:=6) hz) hn fun H B=>toG B (by rw [e1];exact H9 _) fun H B=>?_)
 exact B.me rfl rfl (Nz hg B (s:=.dead t) rfl (o8 (k:=4) hz) hn fun H B=>B.me rfl rfl (mj hg (t:=.goto fail) B (o8 (k:=2) hz) hn fun H B=>toG B (by rw [e3];exact Nat.lt_add_of_pos_right (by decide)) fun H B=>B.me rfl rfl (Nz hg B (s:=.dead t) rfl hz hn fun H B=>h H B)))
end
noncomputable def xT(t:PV)(i:Nat):PV:=.tup [.str 77,t,.int 0,.int (i:Int)]
noncomputable def Wy.ex(t e:PV):Wy->PV
 |.fld=>.tup [.str 106,t,.int 0,e,.int 1]
 |_=>.tup [.str 107,t,.int 0,e]
noncomputable def exF:PV->List Wy->PV
 |e,[]=>e
 |e,w::r=>exF (w.ex (iZ r) e) r
noncomputable def exV(l:List Wy):PV:=exF (xT (iZ l) 0) l
section
variable{P:Params}{g:G (O4 P).T}(hg:N6 g){n:Nat}{m:Loc}{c:Fix}(hfu:c.fu=1){M:Mem}{R H:AH}{Q:PV->AH->Prop}{self:Addr}
theorem Sg{i:Int}{C:Bool->AH->Prop}(B:M6 c self M R H)(h:C false H):H8 g 117 (fun q H=>wG .In (.int i) q H fun b=>C b H) (.obj self) H:=by
 apply M6.el B
 intro L x B F
 exact .mk B.self B.dx rfl rfl (ao1 (B.at_ .alias _ rfl) h)
theorem aB9(i:Nat):(1:Int)+(i:Int)=((1+i:Nat):Int):=by lia
include hg hfu
theorem tB{i:Nat}(B:M6 c self M R H)(hn:1<=n)(h:Q (.int ((1+i:Nat):Int)) H):Cl g n (.obj eV) [.obj self,.int (i:Int)] H Q:=WD hg B hn (by rw [hfu,aB9];exact h)
theorem qm{t:PV}{i:Nat}(B:M6 c self M R H)(hn:2<=n)(h:Q (bD (1+i)) H):Cl g n (.obj W2) [.obj self,xT t i] H Q:=
 (aJ P).cl hg rfl hn fun n hn=>Sg B (B.me rfl rfl (tB hg hfu B (leB hn rfl) h))
omit hg hfu
noncomputable def Sq(g:G (O4 P).T)(c:Fix)(e:PV)(p:List Wy)(w:Nat):Prop := ∀⦃n:Nat⦄ ⦃M:Mem⦄ ⦃R H:AH⦄ ⦃Q:PV->AH->Prop⦄ ⦃self:Addr⦄,M6 c self M R H->w<=n->Q (bF p) H->Cl g n (.obj W2) [.obj self,e] H Q
include hg
theorem Xg{e t:PV}{p:List Wy}{k:Nat}(w:Wy)(h:Sq g c e p k)(hk:1<=k)(hp:p.length+1<=sizeLine):Sq g c (w.ex t e) (p++[w]) (k+1):=by
 intro n M R H Q self B hn q
 have z:bF (p++[w]) = .tup [.int 1,.tup (steps p++[w.step])]:=by unfold bF steps;rw [q8];rfl
 rw [z] at q
 have lp:(steps p).length+1<=sizeLine:=by rw [steps,g8];exact hp
 refine(aJ P).cl hg (by cases w<;>rfl) hn fun n hn=>?_
 cases w<;>exact B.me rfl rfl (h B hn (Nu hg lp (d8 hk hn) q))
theorem Ss:∀(r:List Wy) {e:PV} {p:List Wy} {k:Nat},Sq g c e p k->1<=k->p.length+r.length+1<=sizeLine->Sq g c (exF e r) (p++r) (k+r.length)
 | [],e,p,k,h,_,_=>by rw [s7];exact h
 |w::r,e,p,k,h,hk,hp=>by
  have z:=Ss r (Xg hg (t:=iZ r) w h hk (by rw [m8] at hp;lia)) (n8 hk) (by rw [d7,I4];rw [m8] at hp;lia)
  rw [j7] at z
  rw [m8,Nat.add_comm r.length,<- Nat.add_assoc]
  exact z
include hfu
theorem Sv{l:List Wy}(hl:l.length<=3):Sq g c (exV l) l 5:=by
 intro n M R H Q self B hn q
 exact Ss hg l (p:=[]) (k:=2) (fun O O O O O O B hn q=>qm hg hfu (t:=iZ l) (i:=0) B hn q) (by decide) (by rw [p7];show 0+l.length+1<=_;lia) B (by lia) q
omit hfu
theorem BL{w:Wy}{t v:PV}(hn:2<=n)(h:Q (.tup [t,.int 0]) H):Cl g n (.obj qO) [w.ty t,.int 0,w.step,v] H Q:=by
 refine(Bo P).cl hg (by cases w<;>rfl) hn fun n hn=>?_
 cases w with
 |fld=>exact(wZ P).cl hg rfl hn fun n O=>aU rfl rfl h
 |box=>exact h
 |ref mu=>exact h
theorem rC{b pl wd:PV}{Q':Out->Loc->AH->Prop}{full:List PV}(hn:2<=n)(r:List Wy):∀(p:List Wy) (m':Loc),(m'=[(92,b),(111,pl),(37,wd),(51,.int 0),(6,iZ (p++r))]\/∃q,m'=[(92,b),(111,pl),(37,wd),(51,.int 0),(6,iZ (p++r)),(104,q)])->
  (∀m'',m''.lookup 6=some (iZ r)->Q' .next m'' H)->ur ((Tg.name 104).w g n) (O5 g n [.asg (.tup [.name 6,.name 51]) (.call 113 [.loc 6,.loc 51,.loc 104,.loc 37])]) (.tup full) full Q' (steps p) m' H
 | [],m',hm,fin=>fin m' (by rcases hm with rfl|⟨q,rfl⟩<;>rfl)
 |w::p,m',hm,fin=>by
  have m2:w7 104 w.step m'=[(92,b),(111,pl),(37,wd),(51,.int 0),(6,w.ty (iZ (p++r))),(104,w.step)]:=by rcases hm with rfl|⟨q,rfl⟩<;>rfl
  show O5 g n _ (w7 104 w.step m') _ _
  rw [m2]
  exact BL hg hn (rC hn r p _ (.inr ⟨w.step,rfl⟩) fin)
theorem xU{L:Role->Addr}{x:wB}{p r:List Wy}{wd:PV}(B:O6 c M L x H)(e:M.tys[1]? = some (iZ (p++r))) (hp:p.length<=3) (hz:M.sz<=sizeLine) (hn:3<=n) (h:Q (iZ r) H):Cl g n (.obj nD) [.obj (L .body),bF p,wd] H Q:=by
 obtain⟨a,b,er⟩:=B.rows.get e
 refine(xg P).cl hg rfl hn fun n hn=>MethP.mk B.body B.Q8 rfl rfl ((iR P).cl hg rfl (k:=0) (leB hn rfl) fun n O=>H8.mk B.body B.Q8 rfl rfl
  (aB (B.at_ .locs _ rfl) (by decide) er ?_))
 exact rC hg hn r p _ (.inl rfl) fun m'' hm=>j9 hm h
end
noncomputable def hit(L:List PV):List PV->Bool
 | [a,_,_,d]=>a.eqv (.str 77)&&ug d L
 |_=>false
noncomputable def jB(L:List PV):Nat->List PV->Option Bool
 |0,_=>none
 |_+1,[]=>some false
 |k+1,.tup l::rs=>@Bool.rec (fun O=>Option Bool) (@Bool.rec (fun O=>Option Bool) none (jB L k (l.reverse++rs)) (Nat.ble l.length 20)) (some true) (hit L l)
 |k+1,.none::rs=>jB L k rs
 |k+1,.bool _::rs=>jB L k rs
 |k+1,.int _::rs=>jB L k rs
 |k+1,.str _::rs=>jB L k rs
 |_+1,_::_=>none
theorem oO{l:List PV}(h:PV.V0 l=true):∀p∈l,PV.isD p=true:=by
 induction l with
 |nil=>exact fun O h=>nomatch h
 |cons x l ih=>exact fun p hp=>(q7.mp hp).elim (fun e=>e▸(n7 h).1) (ih (n7 h).2 p)
theorem ae2{p:PV}{s:Nat}{H:AH}{C:Bool->Prop}(h:p.isD=true)(k:C (p.eqv (.str s))):wG .Eq p (.str s) H C:=by
 show sel (rM p (.str s)) _ _
 rw [show rM p (.str s)=true by unfold rM;rw [h];rfl]
 exact k
theorem Sw{p:PV}{l:List PV}{H:AH}{C:Bool->Prop}(h:p.isD=true)(hl:PV.V0 l=true)(hd:Nat.ble (PV.depths l) 60=true)(k:C (ug p l)):wG .In p (.lst l) H C:=by
 show sel (okIn p l) _ _
 rw [show okIn p l=true by unfold okIn;rw [h,hl,hd];rfl]
 exact k
theorem Sy{l:List PV}(h:l.length=4):∃x y z w,l=[x,y,z,w]:=by
 cases l with
 |nil=>cases h
 |cons x l=>cases l with
  |nil=>cases h
  |cons y l=>cases l with
   |nil=>cases h
   |cons z l=>cases l with
    |nil=>cases h
    |cons w l=>cases l with
     |nil=>exact⟨x,y,z,w,rfl⟩
     |cons _ _=>cases h
theorem ae3{L l:List PV}(h:l.length≠4):hit L l=false:=by
 cases l with
 |nil=>rfl
 |cons x l=>cases l with
  |nil=>rfl
  |cons y l=>cases l with
   |nil=>rfl
   |cons z l=>cases l with
    |nil=>rfl
    |cons w l=>cases l with
     |nil=>exact absurd rfl h
     |cons _ _=>rfl
theorem KJ{L l rs:List PV}{j:Nat}{b:Bool}(h:jB L (j+1) (.tup l::rs)=some b)(hh:hit L l=false):l.length<=20/\jB L j (l.reverse++rs)=some b:=by
 have h:@Bool.rec (fun O=>Option Bool) (@Bool.rec (fun O=>Option Bool) none (jB L j (l.reverse++rs)) (Nat.ble l.length 20)) (some true) (hit L l)=some b:=h
 rw [hh] at h
 cases hb:Nat.ble l.length 20 with
 |false=>rw [hb] at h;exact nomatch h
 |true=>rw [hb] at h;exact⟨d9 hb,h⟩
theorem SJ{L l rs:List PV}{j:Nat}{b:Bool}(h:jB L (j+1) (.tup l::rs)=some b)(hh:hit L l=true):true=b:=by
 have h:@Bool.rec (fun O=>Option Bool) (@Bool.rec (fun O=>Option Bool) none (jB L j (l.reverse++rs)) (Nat.ble l.length 20)) (some true) (hit L l)=some b:=h
 rw [hh] at h
 exact G6 h
inductive MnI(L:List PV)(k0:Nat)(b:Bool)(m0:Loc)(a:Addr)(H:AH)(j:Nat)(m':Loc)(H':AH):Prop
 |mk (rs:List PV) (hm:m'=m0\/∃q,m'=m0++[(64,q)]) (e:H' a=some (.list rs.reverse)) (hd:∀p∈rs,PV.isD p=true) (hr:jB L j rs=some b) (hz:rs.length+20*j<=20*k0+1) (E:Ext H H'):MnI L k0 b m0 a H j m' H'
section
variable{P:Params}{g:G (O4 P).T}(hg:N6 g){n:Nat}{H:AH}{Q:PV->AH->Prop}
noncomputable abbrev mnS:List S:=[.iff (.call 185 [.loc 64,.glob 9]) [.iff (.and [.cmp .Eq (.call 31 [.loc 64]) (.int 4),.cmp .Eq (.at (.loc 64) 0) (.str 77),.cmp .In (.at (.loc 64) 3) (.loc 72)]) [.ret (.gK true)] [],.expr (.S7 (.loc 63) "list" 66 "list.extend" [.loc 64])] []]
theorem SM{e:PV}{L l rs:List PV}{k0 j:Nat}{b:Bool}{a:Addr}{H0:AH}{Q':Out->Loc->AH->Prop}(dl:PV.V0 l=true)(hL:PV.V0 L=true)(hd:Nat.ble (PV.depths L) 60=true)(hr:jB L (j+1) (.tup l::rs)=some b)(ea:H a=some (.list rs.reverse))(hz:rs.length<=30000)
  (k1:jB L j (l.reverse++rs)=some b->l.length<=20->Q' .next [(145,e),(72,.lst L),(63,.obj a),(64,.tup l)] (upd H a (.list (l.reverse++rs).reverse))) (k2:true=b->Q' (.ret (.bool true)) [(145,e),(72,.lst L),(63,.obj a),(64,.tup l)] H):
  O5 g n mnS [(145,e),(72,.lst L),(63,.obj a),(64,.tup l)] H Q':=by
 have ext:hit L l=false->O5 g n [.expr (.S7 (.loc 63) "list" 66 "list.extend" [.loc 64])] [(145,e),(72,.lst L),(63,.obj a),(64,.tup l)] H Q':=fun hh=>by
  obtain⟨l20,hr⟩:=KJ hr hh
  have k1:=k1 hr l20
  rw [List.reverse_append,List.reverse_reverse] at k1
  exact O8 ea (cD ea (.inl rfl) (by rw [J1,p7];lia) k1)
 by_cases h4:l.length=4
 ·obtain⟨x,y,z,w,rfl⟩:=Sy h4
  refine aN rfl (S5 (k:=4) rfl (by decide) (ae2 (oO dl x (.head _)) ?_))
  cases ex:x.eqv (.str 77) with
  |false=>exact ext (show(x.eqv (.str 77)&&ug w L)=false by rw [ex];rfl)
  |true=>
   refine Sw (oO dl w (.tail _ (.tail _ (.tail _ (.head _))))) hL hd ?_
   cases ew:ug w L with
   |false=>exact ext (show(x.eqv (.str 77)&&ug w L)=false by rw [ex,ew];rfl)
   |true=>exact k2 (SJ hr (show(x.eqv (.str 77)&&ug w L)=true by rw [ex,ew];rfl))
 ·have hh:=ae3 (L:=L) h4
  refine aN rfl (S5 (k:=l.length) rfl (G3 (KJ hr hh).1 (by decide)) ?_)
  show sel ((PV.int (l.length:Int)).eqv (.int 4)) _ _
  rw [show(PV.int (l.length:Int)).eqv (.int 4)=false from s8.mpr fun z=>h4 (Int.ofNat.inj z)]
  exact ext hh
include hg
theorem rD{e:PV}{L:List PV}{k0:Nat}{b:Bool}(he:e.isD=true)(hL:PV.V0 L=true)(hd:Nat.ble (PV.depths L) 60=true)(hr:jB L k0 [e]=some b)(hk:k0<=1000)(hn:1<=n)(h:∀H',Ext H H'->Q (.bool b) H'):Cl g n (.obj uO) [e,.lst L] H Q:=by
 refine(Eh P).cl hg rfl hn fun n hn a ha=>?_
 let m0:Loc:=[(145,e),(72,.lst L),(63,.obj a)]
 refine pO.mk (MnI L k0 b m0 a H) k0 ⟨[e],.inl rfl,p8 ..,fun p hp=>j8.mp hp▸he,hr,by show 1+_<=_;lia,Ext.new ha⟩ ?_
 intro j m' H' z
 obtain⟨rs,hm,e1,hD,hr,hz,E⟩:=z
 have Xh:m'.lookup 63=some (.obj a):=by rcases hm with rfl|⟨q,rfl⟩<;>rfl
 have zs:rs.length<=sizeLine:=by rw [p7];lia
 refine j9 Xh (JX e1 (cu fun t ht=>hD t (List.mem_reverse.mp ht)) ?_)
 cases j with
 |zero=>exact nomatch hr
 |succ j=>
 cases rs with
 |nil=>cases hr;exact h _ E
 |cons p rs=>
  have e2:H' a=some (.list (rs.reverse++[p])):=by rw [e1,List.reverse_cons]
  have hD':∀q∈rs,PV.isD q=true:=fun q hq=>hD q (.tail _ hq)
  have hp:p.isD=true:=hD p (.head _)
  rw [m8] at hz zs
  refine dD (by rw [List.reverse_cons];cases rs.reverse<;>rfl) (j9 Xh (O8 e1 (tU e2 (by rw [J1];exact zs) ?_)))
  have m2:w7 64 p m'=m0++[(64,p)]:=by rcases hm with rfl|⟨q,rfl⟩<;>rfl
  show O5 g n _ (w7 64 p m') _ _
  rw [m2]
  have E1:Ext H (upd H' a (.list rs.reverse)):=Ext.upd ha E
  have go:∀{q:PV},jB L j rs=some b->∃i,i<j+1/\MnI L k0 b m0 a H i (m0++[(64,q)]) (upd H' a (.list rs.reverse)):=fun r=>⟨j,H9 j,rs,.inr ⟨_,rfl⟩,p8 ..,hD',r,by lia,E1⟩
  cases p with
  |none=>exact aN rfl (go hr)
  |bool _=>exact aN rfl (go hr)
  |int _=>exact aN rfl (go hr)
  |str _=>exact aN rfl (go hr)
  |tup l=>
   refine SM (g:=g) (n:=n) (H:=upd H' a (.list rs.reverse)) (k0:=k0) (H0:=H) hp hL hd hr (p8 ..) (by lia) (fun hr l20=>?_) fun e=>?_
   ·rw [V2]
    exact⟨j,H9 j,l.reverse++rs,.inr ⟨_,rfl⟩,p8 ..,fun q hq=>(u0.mp hq).elim (fun z=>oO hp q (List.mem_reverse.mp z)) (hD' q),hr,by rw [d7,J1];lia,Ext.upd ha E⟩
   ·subst e;exact h _ E1
  |_=>exact nomatch hr
end
theorem BP{α:Type}{x:Nat}{p:α}:∀{l:List (Nat×α)},l.lookup x=some p->(x,p)∈l
 | [],e=>nomatch e
 | (y,q)::l,e=>by
  rw [u5] at e
  cases h:x==y with
  |true=>
   rw [h] at e
   cases e
   rw [beq_iff_eq.mp h]
   exact .head _
  |false=>
   rw [h] at e
   exact .tail _ (BP e)
theorem SN{α:Type}{x:Nat×α}:∀{l:List (Nat×α)},(l.map (·.1)).Nodup->x∈l->l.lookup x.1=some x.2
 | [],_,h=>nomatch h
 |y::l,nd,h=>by
  rcases q7.mp h with rfl|h
  ·exact aW rfl
  ·exact(aq (p:=y.2) (q:=y.1) fun e=>(G5.mp nd).1 (w6.mpr ⟨x,h,e⟩)).trans (SN (G5.mp nd).2 h)
noncomputable def onK(K:List (Addr×N7))(R:AH):AH:=fun b=>match K.lookup b with
 |some o=>some o
 |none=>R b
section
variable{P:Params}{g:G (O4 P).T}{c:Fix}{M:Mem}{self:Addr}{R H H':AH}{K:List (Addr×N7)}
theorem Fg{b:Addr}{o:N7}(h:K.lookup b=some o):onK K R b=some o:=by unfold onK;rw [h]
theorem Fi{b:Addr}(h:K.lookup b=none):onK K R b=R b:=by unfold onK;rw [h]
structure Kept(c:Fix)(me:Addr)(R R':AH)(K:List (Addr×N7)):Prop where
 back:∀{M H},M6 c me M R' H->M6 c me M R H
 at_:∀{M H},M6 c me M R' H->∀x∈K,H x.1=some x.2
 sub:∀b o,R b=some o->R' b=some o
theorem M6.onR{D:Addr}{o:N7}(B:M6 c self M R H)(h:R D=some o):H D=some o:=by
 obtain⟨L,x,e,B,F⟩:=B
 exact(F D o h).1
theorem M6.kept(B:M6 c self M R H)(s:St H H' K):∃R',M6 c self M R' H'/\Kept c self R R' K:=by
 have off:∀b o,R b=some o->K.lookup b=none:=fun b o e=>by
  cases k:K.lookup b with
  |none=>rfl
  |some o'=>exact nomatch (s.fresh (b,o') (BP k)).symm.trans (B.onR e)
 have sub:∀b o,R b=some o->onK K R b=some o:=fun b o e=>(Fi (off b o e)).trans e
 refine⟨onK K R,?_,⟨fun B=>B.Zc sub,fun B x hx=>B.onR (Fg (SN s.nd hx)),sub⟩⟩
 obtain⟨L,x,e,B,F⟩:=B
 refine⟨L,x,e,B.ext s.keep,fun b o z=>?_⟩
 cases k:K.lookup b with
 |none=>
  rw [Fi k] at z
  exact⟨s.keep _ _ (F b o z).1,(F b o z).2⟩
 |some o'=>
  rw [Fg k] at z
  have z:=G6 z
  subst z
  exact⟨s.mem _ (BP k),fun r hr w=>by
   cases j:X7 c M L x r with
   |none=>exact hr j
   |some o2=>
    have q:=B.at_ r o2 j
    rw [w,s.fresh (b,o') (BP k)] at q
    cases q⟩
theorem M6.aC1(B:M6 c self M R H){k:Nat}(h:M.sz<=k):M6 c self {M with sz:=k} R H:=by
 obtain⟨L,x,e,B,F⟩:=B
 have im:∀r,X7 c {M with sz:=k} L x r=X7 c M L x r:=fun r=>by cases r<;>rfl
 exact⟨L,x,e,⟨fun r r' a b=>B.inj r r' (im r▸a) (im r'▸b),fun r o a=>B.at_ r o (im r▸a),B.rows,d8 B.sp h,B.ok.mono h⟩,fun b o z=>⟨(F b o z).1,fun r a=>(F b o z).2 r (im r▸a)⟩⟩
theorem M6.SQ{a:Addr}{W:AH->Prop}(B:M6 c self M R' H)(e:R' a=some (.N5 []))(sub:∀b o,R b=some o->R' b=some o)(hR:R a=none)(h:∀H',M6 c self M R H'->W H'):iK g 117 (.obj a) W (.obj self) H:=by
 revert h
 apply M6.el B
 intro L x B F h
 have ha:=F a _ e
 let L':Role->Addr:=fun
  |.alias=>a
  |r=>L r
 have ne:∀{r},r≠.alias->L' r=L r:=fun{r} k=>by cases r<;>first|rfl|exact absurd rfl k
 have bl:∀k i,Y8 L' i k=Y8 L i k:=fun k i=>iu k i fun O O O=>rfl
 have fr:∀k i,W6 L' i k=W6 L i k:=fun k i=>iw k i fun O O O=>rfl
 have im:∀r,r≠.dx->X7 c M L' x r=X7 c M L x r:=fun r k=>by
  cases r with
  |blks=>exact congrArg (fun z=>some (N7.list z)) (bl _ _)
  |frs=>exact congrArg (fun z=>some (N7.list z)) (fr _ _)
  |_=>first|rfl|exact absurd rfl k
 have lv:∀r,X7 c M L' x r≠none->X7 c M L x r≠none:=fun r k=>by
  by_cases q:r = .dx
  ·rw [q];exact nofun
  ·exact im r q▸k
 have off:∀r,X7 c M L x r≠none->a≠L r:=fun r k z=>ha.2 r k z.symm
 refine iK.mk B.self B.dx rfl (d9 rfl) (h _ ⟨L',x,rfl,⟨fun r r' k k' z=>?_,fun r o k=>?_,B.rows,B.sp,B.ok⟩,fun b o k=>?_⟩)
 ·by_cases q:r = .alias<;>by_cases q':r' = .alias
  ·rw [q,q']
  ·rw [q,ne q'] at z;exact absurd z (off r' (lv r' k'))
  ·rw [q',ne q] at z;exact absurd z.symm (off r (lv r k))
  ·rw [ne q,ne q'] at z;exact B.inj r r' (lv r k) (lv r' k') z
 ·by_cases q:r = .dx
  ·subst q
   exact(p8 ..).trans k
  ·by_cases q2:r = .alias
   ·subst q2
    cases k
    exact(w5 (off .dx nofun)).trans ha.1
   ·rw [im r q] at k
    rw [ne q2,w5 fun z=>q (B.inj r .dx (by rw [k];exact nofun) nofun z)]
    exact B.at_ r o k
 ·obtain⟨e1,e2⟩:=F b o (sub b o k)
  refine⟨(w5 fun z=>e2 .dx nofun z.symm).trans e1,fun r hr z=>?_⟩
  by_cases q:r = .alias
  ·subst q
   have z:a=b:=z
   rw [<- z,hR] at k
   cases k
  ·exact e2 r (lv r hr) ((ne q).symm.trans z)
theorem M6.Fj{hg:N6 g}{n:Nat}{Q:PV->AH->Prop}(B:M6 c self M R H)(h:∀a,H a=none->Q (.obj a) (upd H a (.N5 []))):H8 g 117 (fun p H=>Cl g n (.typ "dict") [p] H Q) (.obj self) H:=by
 apply M6.el B
 intro L x B F
 exact .mk B.self B.dx rfl rfl (Ng hg (B.at_ .alias _ rfl) (z8 _) h)
end
noncomputable def md:Bool->Nat
 |true=>8
 |false=>143
noncomputable def Pt.v:Pt->PV
 |.wild=>.tup [.str 398,aG]
 |.cst v=>.tup [.str 156,aG,.int (v:Int)]
 |.rng a b=>.tup [.str 69,aG,.int (a:Int),.int (b:Int)]
 |.bnd s rf=>.tup [.str 177,aG,.int (s:Int),.str (md rf),.none]
 |.Er=>.tup [.str 175,aG,.tup [.tup [.str 156,aG,.int 1],.tup [.str 69,aG,.int 4,.int 6]]]
noncomputable def lu(D bd Q8:Addr)(p:Pt)(pl:PV):List (Addr×N7):=match p with
 |.bnd s rf=>[(D,.list [.obj bd]),(bd,.inst U4 Q8),(Q8,.attrs [(77,.int (s:Int)),(170,.str (md rf)),(111,pl)])]
 |_=>[(D,.list [])]
section
variable{P:Params}{g:G (O4 P).T}(hg:N6 g){n:Nat}{c:Fix}(hfu:c.fu=1){l:List Wy}{M:GM}{R H:AH}{Q:PV->AH->Prop}{self:Addr}
include hg
theorem vL{p:Pt}(hp:p.Et=false)(hn:1<=n)(h:Q (.lst [p.v]) H):Cl g n (.obj cX) [p.v] H Q:=by
 cases p with
 |Er=>cases hp
 |_=>exact(bJ P).cl hg rfl hn fun n O=>h
theorem Xi{p:Pt}(hn:2<=n)(h:Q (.lst (p.alts.map Pt.v)) H):Cl g n (.obj cX) [p.v] H Q:=by
 cases p with
 |Er=>
  refine(bJ P).cl hg rfl hn fun n hn=>fun D hD=>?_
  refine vL hg (p:=.cst 1) rfl hn ⟨⟨p8 ..,nofun⟩,⟨⟨p8 ..,fC rfl,rfl⟩,rfl,?_⟩⟩
  refine vL hg (p:=.rng 4 6) rfl hn ⟨⟨p8 ..,nofun⟩,⟨⟨p8 ..,fC rfl,rfl⟩,rfl,?_⟩⟩
  have z:del (upd (upd (upd H D (.list [])) D (.list ([]++[(Pt.cst 1).v]))) D (.list (([]++[(Pt.cst 1).v])++[(Pt.rng 4 6).v]))) D=H:=by rw [V2,V2,V3 hD]
  show Q (.lst [(Pt.cst 1).v,(Pt.rng 4 6).v]) (del _ D)
  exact z.symm▸h
 |_=>exact vL hg rfl (leB hn rfl) h
theorem aD{p:Pt}{pl:PV}(hn:1<=n)(h:Q (.lst []) H):Cl g n (.obj lK) [p.v,pl] H Q:=by
 refine(qX P).cl hg rfl hn fun n O=>?_
 cases p<;>exact h
theorem jC{p:Pt}{pl:PV}(hn:3<=n)(h:∀D bd Q8 H',St H H' (lu D bd Q8 p pl)->Q (.obj D) H'):Cl g n (.obj eY) [p.v,pl] H Q:=by
 refine(jr P).cl hg rfl hn fun n hn=>?_
 have no:p.ls=[]->∀D,H D=none->Q (.obj D) (upd H D (.list [])):=fun e D hD=>h D D D _ (by
  cases p<;>first|exact(St.nil H).new hD _|cases e)
 cases p with
 |bnd s rf=>
  refine make hg rfl hn fun n bd Q8 H' hn s=>(iT P).clC hg rfl hn fun n O=>s.set 0 1 rfl rfl rfl rfl fun H' s=>s.set 0 1 rfl rfl rfl rfl fun H' s=>s.set 0 1 rfl rfl rfl rfl fun H' s=>And.intro rfl fun D hD=>
   aD hg (p:=.bnd _ rf) (leB ‹2<=_› rfl) (h D bd Q8 _ (s.new hD _))
 |wild=>exact fun D hD=>aD hg (p:=.wild) (leB hn rfl) (no rfl D hD)
 |cst v=>exact fun D hD=>aD hg (p:=.cst v) (leB hn rfl) (no rfl D hD)
 |rng a b=>exact fun D hD=>aD hg (p:=.rng a b) (leB hn rfl) (no rfl D hD)
 |Er=>exact fun D hD=>aD hg (p:=.Er) (leB hn rfl) (no rfl D hD)
theorem NK{bd Q8:Addr}{s:PV}{rf:Bool}{pl:PV}(e1:H bd=some (.inst U4 Q8))(e2:H Q8=some (.attrs [(77,s),(170,.str (md rf)),(111,pl)])) (hn:1<=n) (h:Q (@Bool.rec (fun O=>PV) (jz (T6 pl)) (oM pl) rf) H):Cl g n (.obj fU) [.obj bd] H Q:=by
 refine(nZ P).cl hg rfl hn fun n O=>?_
 cases rf with
 |true=>exact H8.mk e1 e2 rfl rfl (H8.mk e1 e2 rfl rfl (H8.mk e1 e2 rfl rfl h))
 |false=>exact H8.mk e1 e2 rfl rfl (H8.mk e1 e2 rfl rfl (H8.mk e1 e2 rfl rfl (H8.mk e1 e2 rfl rfl h)))
include hfu
theorem KN{bd Q8:Addr}{s:Nat}{rf:Bool}(B:M6 c self (M.mem l) R H)(e1:H bd=some (.inst U4 Q8))(e2:H Q8=some (.attrs [(77,.int (s:Int)),(170,.str (md rf)),(111,pC l 0)])) (hz:(M.bind (.bnd s rf)).sz<=sizeLine) (hn:4<=n)
  (h:∀H',M6 c self ((M.bind (.bnd s rf)).mem l) R H'->Q .none H'):Cl g n (.obj bK) [.obj self,.obj bd] H Q:=by
 refine(jt P).cl hg rfl hn fun n hn=>B.me rfl rfl (B.me rfl rfl (H8.mk e1 e2 rfl rfl (tB hg hfu B (leB hn rfl) (MethP.mk e1 e2 rfl rfl (NK hg e1 e2 (leB hn rfl) ?_)))))
 cases rf with
 |true=>exact Nz hg B (s:=.ref (1+s)) (p:=cA (1+s) (oM (pC l 0))) rfl hz hn h
 |false=>exact Nz hg B (s:=.Ow (1+s)) (p:=cA (1+s) (jz (T6 (pC l 0)))) rfl hz hn h
omit hfu
theorem KQ{p:Pt}{fail:Nat}(hp:p.Et=false)(B:M6 c self (M.mem l) R H)(hz:(M.test p fail).sz<=sizeLine)(hn:6<=n)(h:∀H',M6 c self ((M.test p fail).mem l) R H'->Q .none H'):Cl g n (.obj X6) [.obj self,p.v,pC l 0,.int fail] H Q:=by
 refine(bx P).cl hg rfl hn fun n hn=>?_
 cases p with
 |Er=>cases hp
 |wild=>exact aD hg (p:=.wild) (leB hn rfl) (h H B)
 |bnd s rf=>exact aD hg (p:=.bnd s rf) (leB hn rfl) (h H B)
 |cst v=>
  refine B.me rfl rfl (za hg B (o8 (k:=2) hz) (leB hn rfl) fun H B=>B.me rfl rfl (mj hg (t:=.eq v M.nb fail) B hz (leB hn rfl) fun H B=>toG B (by rw [dh,cB];exact H9 _) fun H B=>?_))
  exact aD hg (p:=.cst v) (leB hn rfl) (h H B)
 |rng a b=>
  have z:(M.RB true a fail).sz<=sizeLine:=o8 (k:=15) hz
  refine B.me rfl rfl (B.me rfl rfl (KH hg (t:=.bool) (s:=fun i=>.cmp i true a) B rfl (o8 (k:=10) z) (leB hn rfl) fun H B=>qj hg B z (leB hn rfl) fun H B=>?_))
  refine B.me rfl rfl (B.me rfl rfl (KH hg (t:=.bool) (s:=fun i=>.cmp i false b) B rfl (o8 (k:=10) hz) (leB hn rfl) fun H B=>qj hg B hz (leB hn rfl) fun H B=>?_))
  exact aD hg (p:=.rng a b) (leB hn rfl) (h H B)
end
noncomputable def kE(k:Nat):PV:=.tup [.str 156,aG,.int 0,.int (k:Int)]
noncomputable def xV(v:Nat):PV:=.tup [.str 160,jA,.int 0,.str 161,xT aG 1,kE v]
section
variable{P:Params}{g:G (O4 P).T}(hg:N6 g){n:Nat}{c:Fix}(hfu:c.fu=1){l:List Wy}{M M':Mem}{R H:AH}{Q:PV->AH->Prop}{self:Addr}{k i:Nat}{q:PV}
include hg
theorem KR(hn:1<=n)(h:Q (xR aG (.int (k:Int))) H):Cl g n (.obj V5) [.obj self,kE k] H Q:=(Z6 P).cl hg rfl hn fun n hn=>h
theorem NP{late:PV}(B:M6 c self M R H)(hn:2<=n)(h:Q (xR aG (.int (k:Int))) H):Cl g n (.obj S8) [.obj self,kE k,late] H Q:=
 (V8 P).cl hg rfl hn fun n hn=>B.me rfl rfl (KR hg hn h)
theorem NQ(hn:1<=n)(h:Q (.bool true) H):Cl g n (.obj uP) [kE k] H Q:=(Ei P).cl hg rfl hn fun n hn=>h
theorem aq9(hn:1<=n){m:Loc}{C:PV->AH->Prop}(h:C (.bool true) H):cR m [] (.one 28) (Ag g n []) ((X.call 223 [.loc 28]).wE g n) (fun acc H=>Cl g n (.blt "all") [.lst acc] H C) (.tup [kE k]) H:=
 pR (f:=fun O:Unit=>kE k) (w:=fun O=>.bool true) [()] (fC rfl) (fun a ha D o K O z=>j9 (x:=kE k) (by rw [M9,if_pos rfl]) (NQ hg hn z)) (ZM rfl rfl h)
include hfu
theorem Xj(B:M6 c self M R H)(hn:3<=n)(h:Q (T6 (bD (1+i))) H):Cl g n (.obj V5) [.obj self,xT aG i] H Q:=
 (Z6 P).cl hg rfl hn fun n hn=>B.me rfl rfl (B.me rfl rfl (qm hg hfu B hn (xQ hg B (.int _) hn h)))
theorem NT(B:M6 c self M R H)(hn:4<=n)(h:Q (T6 (bD (1+i))) H):Cl g n (.obj S8) [.obj self,xT aG i,.tup [kE k]] H Q:=
 (V8 P).cl hg rfl hn fun n hn=>B.me rfl rfl (Xj hg hfu B hn (aq9 hg (leB hn rfl) h))
omit hfu
theorem SX(B:M6 c self M R H)(hz:(M.asg q (jz (xR aG (.int (k:Int))))).sz<=sizeLine) (hn:6<=n) (h:∀H',M6 c self (M.asg q (jz (xR aG (.int (k:Int))))) R H'->Q .none H'):Cl g n (.obj T5) [.obj self,q,kE k] H Q:=
 (U9 P).cl hg rfl hn fun n hn=>B.spot fun q=>B.bZ fun H B=>B.me rfl rfl (B.me rfl rfl (KR hg (leB hn rfl) (yZ hg B hz (leB hn rfl) fun H B=>B.bZ (h · ·))))
include hfu
theorem Fl(B:M6 c self M R H)(hn:6<=n)(h:∀H',M6 c self M R H'->Q (.lst [T6 (bD (1+i)),xR aG (.int (k:Int))]) H'):Cl g n (.obj aC) [.obj self,.tup [xT aG i,kE k]] H Q:=by
 refine(fX P).cl hg rfl hn fun n hn=>S5 (k:=2) rfl (d9 rfl) (fM ⟨⟨by decide,by decide,by decide,by decide⟩,fun D hD=>?_⟩)
 have hR:=B.ad9 hD
 have B:=B.newR (D:=D) (o:=.list []) hD
 refine B.me rfl rfl (aU rfl rfl (QJ (by decide) (show(1:Int)<=(2:Nat) by decide) (fC rfl) (NT hg hfu B (leB hn rfl) ?_)))
 refine And.intro (And.intro B.inR (And.intro (fC rfl) rfl)) ?_
 have B:=B.ad8 (o':=.list [T6 (bD (1+i))])
 refine B.me rfl rfl (aU rfl rfl (QJ (by decide) (show(2:Int)<=(2:Nat) by decide) (fC rfl) (NP hg (k:=k) B (leB hn rfl) ?_)))
 refine And.intro (And.intro B.inR (And.intro (fC rfl) rfl)) (h _ ?_)
 exact(B.ad8 (o':=.list [T6 (bD (1+i)),xR aG (.int (k:Int))])).aq5 hR
theorem Tc(B:M6 c self M R H)(hz:(M.asg q (Bx 161 (bD 2) k)).sz<=sizeLine) (hn:9<=n) (h:∀H',M6 c self (M.asg q (Bx 161 (bD 2) k)) R H'->Q .none H'):Cl g n (.obj T5) [.obj self,q,xV k] H Q:=by
 refine(U9 P).cl hg rfl hn fun n hn=>B.spot fun q=>B.bZ fun H B=>B.me rfl rfl ((dg P).cl hg rfl hn fun n hn=>?_)
 refine B.me rfl rfl (Fl hg hfu B (i:=1) (k:=k) (leB hn rfl) fun H B=>?_)
 refine B.me rfl rfl ((dK P).cl hg rfl hn fun n hn=>B.me rfl rfl (yZ hg B hz (leB hn rfl) fun H B=>B.bZ (h · ·)))
end
noncomputable def gn(t rv:PV)(M:Mem):Mem:=((M.newL t).tick.put (bO M.tys.length)).tick.put (cA M.tys.length rv)
noncomputable def bC:List (PV×PV)->Mem->Mem
 | [],M=>M
 |x::r,M=>bC r (gn x.1 (oM x.2) M)
noncomputable def aK:Nat->Nat->List PV
 |_,0=>[]
 |i,n+1=>.int (i:Int)::aK (i+1) n
noncomputable def tyP(l p:List Wy):PV:=Nx false (iZ (l.drop p.length))
noncomputable def wC(l p:List Wy):PV×PV:=(tyP l p,bF p)
theorem Td(t rv:PV)(M:Mem):(gn t rv M).tys.length=M.tys.length+1:=d7
theorem KY(xs:List (PV×PV)):∀M:Mem,M.sz<=(bC xs M).sz:=by
 induction xs with
 |nil=>exact fun M=>o9 _
 |cons x r ih=>exact fun M=>d8 (Nat.le_add_right M.sz 5) (ih (gn x.1 (oM x.2) M))
theorem Fo:∀(r pre:List Wy),∀p∈M5 pre r,∃q,pre++r=p++q
 | [],_,_,h=>nomatch h
 |w::r,pre,p,h=>by
  have ih:=fun h=>Fo r (pre++[w]) p h
  rw [j7] at ih
  have h:p∈@Bool.rec (fun O=>List (List Wy)) (M5 (pre++[w]) r) (pre::M5 (pre++[w]) r) w.isD:=h
  cases e:w.isD with
  |false=>rw [e] at h;exact ih h
  |true=>
   rw [e] at h
   rcases q7.mp h with rfl|h
   ·exact⟨_,rfl⟩
   ·exact ih h
theorem vM{l p:List Wy}(h:p∈O1 l):∃q,l=p++q:=by
 rcases q7.mp h with rfl|h
 ·exact⟨[],(s7 _).symm⟩
 ·exact Fo l [] p h
theorem dj:∀(r pre:List Wy),(M5 pre r).length<=r.length
 | [],_=>o9 _
 |w::r,pre=>by
  have ih:=dj r (pre++[w])
  show(@Bool.rec (fun O=>List (List Wy)) (M5 (pre++[w]) r) (pre::M5 (pre++[w]) r) w.isD).length<=r.length+1
  cases w.isD with
  |false=>exact n8 ih
  |true=>exact J7 ih
section
variable{P:Params}{g:G (O4 P).T}(hg:N6 g){n:Nat}{m:Loc}{c:Fix}{l:List Wy}{M:Mem}{R H:AH}{Q:PV->AH->Prop}{self:Addr}
theorem zc{p q:PV}{l k:List PV}(np:p.int? = none)(e1:Q6 H p=some l)(e2:Q6 H q=some k)(hz:l.length+k.length<=sizeLine)(h:Q (.lst (l++k)) H):Qc g .Add p q H Q:=.seq e1 e2 hz h
theorem iB{α:Type}{f w:α->PV}{x:Nat}{caps:List Nat}{we:Loc->AH->(PV->AH->Prop)->Prop}{fin:List PV->AH->Prop}(xs:List α)(hl:xs.length<=sizeLine)
  (he:∀a∈xs,∀D o K,H D=none->K (w a) (upd H D o)->we (w7 x (f a) (R9 caps m)) (upd H D o) K) (h:fin (xs.map w) H):cR m caps (.one x) (fun m H K=>K true H) we fin (.lst (xs.map f)) H:=fun D hD=>
 nq (it:=fun H=>itemsOf H (.lst (xs.map f))) (ct:=.one x) (f:=f) (w:=w) (fun m' => ∀q,w7 x q m'=w7 x q (R9 caps m)) (fun a=>w7 x (f a) (R9 caps m)) xs (fun a O o m' hm=>⟨congrArg some (hm _),fun q=>cF ..⟩) (fun a ha o K k=>he a ha D o K hD k) (fun O=>rfl) [] _ (fun O=>rfl) (by rw [List.length_nil,z6];exact hl) (by
  rw [K8,V3 hD];exact h)
include hg
theorem Fq{t rv:PV}(B:M6 c self M R H)(hz:(gn t rv M).sz<=sizeLine)(hn:4<=n)(h:∀H',M6 c self (gn t rv M) R H'->Q (.int M.tys.length) H'):Cl g n (.obj X5) [.obj self,t,rv] H Q:=
 (bw P).cl hg rfl hn fun n hn=>B.me rfl rfl (iz hg B trivial (o8 (k:=4) hz) (leB hn rfl) fun H B=>B.me rfl rfl (iy hg B (o8 (k:=2) hz) hn fun H B=>B.me rfl rfl (iy hg B hz hn fun H B=>h H B)))
omit hg
theorem cC{ct:CT}{wi:Loc->AH->(Bool->AH->Prop)->Prop}{we:Loc->AH->(PV->AH->Prop)->Prop}{it:AH->Option (List PV)}{l r acc:List PV}{q:PV}{D:Addr}{fin:List PV->AH->Prop}{m m₁:Loc}(e:bindC H ct q m=some m₁)
  (h:wi m₁ H fun b H₁=>sel b (we m₁ H₁ fun x aT5=>(aT5 D=some (.list acc)/\acc.length<sizeLine/\it aT5=some l)/\WC ct wi we it l D fin r (acc++[x]) m₁ (upd aT5 D (.list (acc++[x])))) ((H₁ D=some (.list acc)/\it H₁=some l)/\WC ct wi we it l D fin r acc m₁ H₁)):WC ct wi we it l D fin (q::r) acc m H:=j9 e h
theorem Il{D:Addr}{fin:List PV->AH->Prop}:∀(r pre:List Wy) (acc:List PV) (m:Loc),l=pre++r->(m=[(111,bF l)]\/∃x y,m=[(111,bF l),(181,x),(141,y)])->acc.length+r.length<=10->l.length<=10->
  fin (acc++(M5 pre r).map bF) (upd H D (.list (acc++(M5 pre r).map bF)))->
  WC (.many [181,141]) (Ag g n [.cmp .Eq (.loc 141) (.tup [.str 107])]) ((X.tup [.at (.loc 111) 0,.UW (.at (.loc 111) 1) (.loc 181)]).wE g n) (fun O=>some (S9 0 (steps l))) (S9 0 (steps l)) D fin (S9 pre.length (steps r)) acc m (upd H D (.list acc)):=by
 intro r
 induction r with
 |nil=>
  intro pre acc m _ _ _ _ h
  rw [show(M5 pre []).map bF=[] from rfl,s7] at h
  exact h
 |cons w r Im=>
  intro pre acc m hl hm hz hz2 h
  have ih:=Im (pre++[w])
  rw [d7,I4] at ih
  have hl':l=pre++[w]++r:=by rw [hl,j7];rfl
  rw [m8] at hz
  have m2:bindC (upd H D (.list acc)) (.many [181,141]) (.tup [.int (pre.length:Int),w.step]) m=some [(111,bF l),(181,.int (pre.length:Int)),(141,w.step)]:=by rcases hm with rfl|⟨x,y,rfl⟩<;>rfl
  refine cC m2 ?_
  have lt:pre.length<l.length:=by rw [hl,d7,m8];exact Nat.lt_add_of_pos_right (Nat.succ_pos _)
  have ls:(steps l).length=l.length:=g8 _
  have go:w.isD=true->((X.tup [.at (.loc 111) 0,.UW (.at (.loc 111) 1) (.loc 181)]).wE g n) [(111,bF l),(181,.int (pre.length:Int)),(141,w.step)] (upd H D (.list acc)) fun x aT5=>(aT5 D=some (.list acc)/\acc.length<sizeLine/\some (S9 0 (steps l))=some (S9 0 (steps l)))/\
    WC (.many [181,141]) (Ag g n [.cmp .Eq (.loc 141) (.tup [.str 107])]) ((X.tup [.at (.loc 111) 0,.UW (.at (.loc 111) 1) (.loc 181)]).wE g n) (fun O=>some (S9 0 (steps l))) (S9 0 (steps l)) D fin (S9 (pre.length+1) (steps r)) (acc++[x]) [(111,bF l),(181,.int (pre.length:Int)),(141,w.step)] (upd aT5 D (.list (acc++[x]))):=fun hd=>by
   refine Qg.mk ⟨⟨Int.natCast_nonneg _,by rw [ls];exact Int.ofNat_lt.mpr lt,by rw [ls,p7];lia⟩,?_⟩
   rw [show(steps l).take (pre.length:Int).toNat=steps pre by rw [Int.toNat_natCast,hl,steps,q8,List.take_left' (g8 _)];rfl]
   refine⟨⟨p8 ..,by rw [p7];lia,rfl⟩,?_⟩
   rw [V2]
   have z:M5 pre (w::r)=pre::M5 (pre++[w]) r:=by show @Bool.rec (fun O=>List (List Wy)) _ _ w.isD=_;rw [hd]
   refine ih (acc++[bF pre]) _ hl' (.inr ⟨_,_,rfl⟩) (by rw [d7,I4];lia) hz2 ?_
   rw [z,I7] at h
   rw [j7]
   exact h
  cases w with
  |fld=>exact⟨⟨p8 ..,rfl⟩,ih acc _ hl' (.inr ⟨_,_,rfl⟩) (by lia) hz2 h⟩
  |box=>exact go rfl
  |ref mu=>exact go rfl
end
section
variable{P:Params}{g:G (O4 P).T}(hg:N6 g){n:Nat}{m:Loc}{c:Fix}{l:List Wy}{M:Mem}{R H:AH}{Q:PV->AH->Prop}{self:Addr}
include hg
theorem Io{D:Addr}{TT full:List PV}{fin:List PV->AH->Prop}(hn:4<=n)(hT:TT.length<=10):∀(r:List (PV×PV)) (done:List PV) (acc:List PV) (m:Loc) (M:Mem) (H:AH),TT=done++r.map (·.1)->(m=[(1,.obj self),(54,.lst TT)]\/∃x y,m=[(1,.obj self),(54,.lst TT),(181,x),(28,y)])->acc.length=done.length->
  M6 c self M (upd R D (.list acc)) H->(bC r M).sz<=sizeLine->(∀H',M6 c self (bC r M) (upd R D (.list (acc++aK M.tys.length r.length))) H'->fin (acc++aK M.tys.length r.length) H')->
  WC (.many [181,28]) (Ag g n []) ((X.meth (.loc 1) 6 [.sub (.loc 54) (.loc 181),.tup [.str 8,.none,.str 169,.loc 28]]).wE g n) (fun O=>some full) full D fin (S9 done.length (r.map (·.2))) acc m H:=by
 intro r
 induction r with
 |nil=>
  intro done acc m M H _ _ _ B _ h
  have h:=h H
  rw [show aK M.tys.length ([]:List (PV×PV)).length=[] from rfl,s7] at h
  exact h B
 |cons x r Im=>
  intro done acc m M H hd hm ha B hz h
  have m2:bindC H (.many [181,28]) (.tup [.int (done.length:Int),x.2]) m=some [(1,.obj self),(54,.lst TT),(181,.int (done.length:Int)),(28,x.2)]:=by rcases hm with rfl|⟨x,y,rfl⟩<;>rfl
  refine cC m2 ?_
  have ln:TT.length=done.length+(r.length+1):=by rw [hd,d7,g8,m8]
  have e1:TT[done.length]? = some x.1:=by rw [hd,J0 (o9 _),Nat.sub_self];rfl
  refine B.me rfl rfl (aU rfl ((mZ (G3 (show done.length<=10 by lia) (by decide))).trans e1) (Fq hg (rv:=oM x.2) B (d8 (KY r _) hz) hn fun H' B=>?_))
  refine And.intro ⟨B.inR,by rw [ha,p7];lia,rfl⟩ ?_
  have B:=B.ad8 (o':=.list (acc++[.int (M.tys.length:Int)]))
  have ih:=Im (done++[x.1]) (acc++[.int (M.tys.length:Int)]) [(1,.obj self),(54,.lst TT),(181,.int (done.length:Int)),(28,x.2)] (gn x.1 (oM x.2) M) _ (by rw [hd,j7];rfl) (.inr ⟨_,_,rfl⟩) (by rw [d7,d7,ha];rfl) B hz
  rw [d7,I4,Td,j7] at ih
  exact ih h
theorem Xk{p0:PV}(hp:p0=bF l)(hl:l.length<=3)(B:M6 c self M R H)(e:M.tys[1]? = some (iZ l))(hz:(bC ((O1 l).map (wC l)) M).sz<=sizeLine) (hn:5<=n)
  (h:∀H',M6 c self (bC ((O1 l).map (wC l)) M) R H'->Q (.lst (aK M.tys.length (O9 l+1))) H'):Cl g n (.obj bL) [.obj self,p0] H Q:=by
 subst hp
 have pl:=dj l []
 have ln:(O1 l).length=O9 l+1:=rfl
 have lm:O9 l<=3:=d8 pl hl
 refine(ju P).cl hg rfl hn fun n hn=>fun D hD=>?_
 refine Il (l:=l) (H:=H) l [] [] _ rfl (.inl rfl) (by show 0+l.length<=10;lia) (by lia) ?_
 rw [K8,V3 hD]
 refine zc rfl rfl rfl (by rw [g8,p7];show 1+(M5 [] l).length<=_;lia) ?_
 have z:[bF l]++(M5 [] l).map bF=(O1 l).map bF:=rfl
 rw [z]
 refine iB (f:=bF) (w:=tyP l) (O1 l) (by rw [ln,p7];lia) (fun p hp D o K hD k=>?_) ?_
 ·obtain⟨q,hq⟩:=vM hp
  obtain⟨L,x,es,Bt,F⟩:=B.ext (Ext.new (o:=o) hD)
  subst es
  have lp:p.length<=3:=by rw [hq,d7] at hl;lia
  have dq:l.drop p.length=q:=by rw [hq,List.drop_left]
  refine H8.mk Bt.self Bt.dx rfl rfl (H8.mk Bt.self Bt.dx rfl rfl (xU hg (p:=p) (r:=q) Bt (by rw [<- hq];exact e) lp (d8 (KY _ M) hz) (leB hn rfl) ?_))
  have k:K (Nx false (iZ (l.drop p.length))) _:=k
  rw [dq] at k
  exact k
 ·refine fun D2 hD2=>?_
  have hR:=B.ad9 hD2
  have e2:((O1 l).map (wC l)).map (·.2)=(O1 l).map bF:=List.map_map
  have key:=@Io P g hg n c R self D2 ((O1 l).map (tyP l)) (S9 0 ((O1 l).map bF)) (fun acc H'=>kLi (kR [(1,.obj self),(111,bF l),(26,.lst ((O1 l).map bF)),(54,.lst ((O1 l).map (tyP l)))] (mO Q)) acc (del H' D2)) hn (by rw [g8,ln];lia) ((O1 l).map (wC l)) [] [] [(1,.obj self),(54,.lst ((O1 l).map (tyP l)))] M _ (by rw [K8,List.map_map];rfl) (.inl rfl) rfl (B.newR hD2) hz fun H' B=>by
   rw [g8,ln,K8] at B ⊢
   exact h _ (B.aq5 hR)
  rw [e2] at key
  exact key
end
noncomputable def Mem.ext(M:Mem)(ts ps:List PV)(k:Nat):Mem:={M with tys:=M.tys++ts,blks:=M.blks.modify M.here fun b=>(b.1++ps,b.2),sz:=M.sz+k}
noncomputable def rE:List PV->Nat->Mem->Mem
 | [],_,M=>M
 |t::r,i,M=>rE r (i+1) ((gn t (jz (T6 (bD i))) M).tick.put (eN M.tys.length))
noncomputable def Te(i:Nat):Nat->Mem->Mem
 |0,M=>M
 |n+1,M=>Te i n (M.tick.put (eN (i+n)))
noncomputable def Ip(v:Nat)(M:Mem):Mem:=((((M.newL jA).tick.put (bO M.tys.length)).push).asg (bD M.tys.length) (Bx 161 (bD 2) v)).drop
noncomputable def vN:Nat->List (PV×PV)->List PV
 |_,[]=>[]
 |i,x::r=>bO i::cA i (oM x.2)::vN (i+1) r
theorem mod_mod{α:Type}(f h:α->α)(l:List α)(i:Nat):(l.modify i f).modify i h=l.modify i fun a=>h (f a):=List.ext_getElem? fun j=>by
 rw [get_modify,get_modify,get_modify]
 by_cases e:i=j
 ·rw [if_pos e,if_pos e,if_pos e,Option.map_map];rfl
 ·rw [if_neg e,if_neg e,if_neg e]
theorem Tf{α:Type}(f:α->α)(h:∀a,f a=a)(l:List α)(i:Nat):l.modify i f=l:=List.ext_getElem? fun j=>by
 rw [get_modify,show f=id from funext h]
 by_cases e:i=j
 ·rw [if_pos e];exact congrFun Option.map_id _
 ·rw [if_neg e]
theorem BR{a a':List PV}{b b':List (List PV×PV)}{c:Nat}{f:List (List (Nat×Bool))} {z z':Nat} (e1:a=a') (e2:b=b') (e3:z=z'):Mem.mk a b c f z=⟨a',b',c,f,z'⟩:=by rw [e1,e2,e3]
section
variable(M:Mem)(ts ps:List PV)(k:Nat)
theorem ext_nil:M.ext [] [] 0=M:=BR (s7 _) (Tf _ (fun b=>by rw [s7]) _ _) rfl
theorem jM(p:PV):(M.ext ts ps k).tick.put p=M.ext ts (ps++[p]) (k+2):=BR rfl ((mod_mod ..).trans (congrArg (M.blks.modify M.here) (funext fun b=>by rw [j7]))) rfl
theorem Ft(t:PV):(M.ext ts ps k).newL t=M.ext (ts++[t]) ps (k+1):=BR (j7 ..) rfl rfl
theorem tC:(M.ext ts ps k).tys.length=M.tys.length+ts.length:=d7
theorem Fv(t rv:PV):gn t rv (M.ext ts ps k)=M.ext (ts++[t]) (ps++[bO (M.tys.length+ts.length),cA (M.tys.length+ts.length) rv]) (k+5):=by
 unfold gn
 rw [tC,Ft,jM,jM,j7];rfl
theorem KZ(v:Nat):Ip v (M.ext ts ps k)=M.ext (ts++[jA]) (ps++aq6 (M.tys.length+ts.length) v) (k+6):=by
 have z:Ip v (M.ext ts ps k)={(((M.ext ts ps k).newL jA).tick.put (bO (M.ext ts ps k).tys.length)).tick.put (cA (M.ext ts ps k).tys.length (Bx 161 (bD 2) v)) with sz:=(M.ext ts ps k).sz+6}:=rfl
 rw [z,tC,Ft,jM,jM,j7];rfl
end
theorem oR(M:Mem):∀(xs:List (PV×PV)) (ts ps:List PV) (k:Nat),bC xs (M.ext ts ps k)=M.ext (ts++xs.map (·.1)) (ps++vN (M.tys.length+ts.length) xs) (k+5*xs.length)
 | [],ts,ps,k=>by rw [List.map_nil,s7,show vN _ []=[] from rfl,s7];rfl
 |x::r,ts,ps,k=>by
  show bC r (gn x.1 (oM x.2) (M.ext ts ps k))=_
  rw [Fv,oR M r,d7,j7,j7]
  exact congrArg (M.ext _ _) (by rw [m8];lia)
theorem Fw(M:Mem):∀(r:List PV) (i:Nat) (ts ps:List PV) (k:Nat),rE r i (M.ext ts ps k)=M.ext (ts++r) (ps++Fb i (M.tys.length+ts.length) r.length) (k+7*r.length)
 | [],i,ts,ps,k=>by rw [s7,show Fb i _ ([]:List PV).length=[] from rfl,s7];rfl
 |t::r,i,ts,ps,k=>by
  show rE r (i+1) ((gn t (jz (T6 (bD i))) (M.ext ts ps k)).tick.put (eN (M.ext ts ps k).tys.length))=_
  rw [tC,Fv,jM,Fw M r,d7,j7,j7,j7]
  exact congrArg (M.ext _ _) (by rw [m8];lia)
theorem La(M:Mem)(i:Nat):∀(n:Nat) (ts ps:List PV) (k:Nat),Te i n (M.ext ts ps k)=M.ext ts (ps++RW i n) (k+2*n)
 |0,ts,ps,k=>by rw [show RW i 0=[] from rfl,s7];rfl
 |n+1,ts,ps,k=>by
  show Te i n ((M.ext ts ps k).tick.put (eN (i+n)))=_
  rw [jM,La M i n,j7]
  exact congrArg (M.ext _ _) (by lia)
section
variable(l:List Wy)
theorem BW{pre:List (List Wy)}{p:List Wy}{r:List (List Wy)}(e:O1 l=pre++p::r):Xe l pre.length=p:=by
 show((O1 l)[pre.length]?).getD []=p
 rw [e,J0 (o9 _),Nat.sub_self];rfl
theorem zf:∀(r pre:List (List Wy)) (i:Nat),O1 l=pre++r->vN i (r.map (wC l))=vJ l i pre.length r.length
 | [],_,_,_=>rfl
 |p::r,pre,i,e=>by
  have ih:=zf r (pre++[p]) (i+1) (by rw [e,j7];rfl)
  rw [d7] at ih
  show bO i::cA i (oM (bF p))::vN (i+1) (r.map (wC l))=bO i::cA i (oM (bF (Xe l pre.length)))::vJ l (i+1) (pre.length+1) r.length
  rw [ih,BW l e];rfl
theorem Fx:∀(r pre:List (List Wy)),O1 l=pre++r->(xK pre.length r.length).map (jx.v l)=r.map (tyP l)
 | [],_,_=>rfl
 |p::r,pre,e=>by
  have ih:=Fx r (pre++[p]) (by rw [e,j7];rfl)
  rw [d7] at ih
  show tyP l (Xe l pre.length)::(xK (pre.length+1) r.length).map (jx.v l)=tyP l p::r.map (tyP l)
  rw [<- ih,BW l e];rfl
end
noncomputable def NZ(l:List Wy)(v:Nat)(M:Mem):Mem:=Te M.tys.length (O9 l+1) (rE ((O1 l).map (tyP l)) M.tys.length (Ip v (bC ((O1 l).map (wC l)) M)))
theorem vO(l:List Wy)(v:Nat)(M:Mem):NZ l v M=M.ext ((O1 l).map (tyP l)++jA::(O1 l).map (tyP l)) (gdV l M.tys.length v) (6+14*(O9 l+1)):=by
 have n1:((O1 l).map (tyP l)).length=O9 l+1:=g8 _
 have n2:((O1 l).map (wC l)).length=O9 l+1:=g8 _
 have e1:((O1 l).map (wC l)).map (·.1)=(O1 l).map (tyP l):=List.map_map
 have e2:=zf l (O1 l) [] (M.tys.length+([]:List PV).length) rfl
 have z:=oR M ((O1 l).map (wC l)) [] [] 0
 rw [ext_nil,e1,e2,n2] at z
 unfold NZ
 rw [z,KZ,Fw,La]
 rw [K8,K8,d7,n1,j7,j7,j7]
 have q:0+5*(O9 l+1)+6+7*(O9 l+1)+2*(O9 l+1)=6+14*(O9 l+1):=by lia
 rw [q]
 rfl
theorem Xm(l:List Wy)(v:Nat)(hl:O9 l<=3)(M:GM):(GM.mem l {M with tys:=M.tys++RD (O9 l),blks:=M.blks.modify M.here fun b=>(b.1++[.gd M.nl v],b.2),sz:=M.sz+100})={NZ l v (M.mem l) with sz:=M.sz+100}:=by
 have e:=Fx l (O1 l) [] rfl
 rw [vO]
 refine BR ?_ ?_ rfl
 ·show List.map _ (M.tys++RD (O9 l))=M.tys.map _++_
  rw [q8]
  show _++List.map _ (xK 0 (O9 l+1)++jx.bool::xK 0 (O9 l+1))=_
  rw [q8,I7]
  exact congrArg (_ ++ ·) (by show List.map (jx.v l) (xK 0 (O9 l+1))++jA::List.map (jx.v l) (xK 0 (O9 l+1))=_;rw [show List.map (jx.v l) (xK 0 (O9 l+1))=_ from e])
 ·have z:=BJ (bv l) (fun b=>(b.1++[.gd M.nl v],b.2)) (fun b=>(b.1++gdV l (M.mem l).tys.length v,b.2)) (fun b=>congrArg (fun y=>(y,opv l b.2)) (by
   show(b.1++[Sx.gd M.nl v]).flatMap (Sx.vs l)=_
   rw [List.flatMap_append,rB]
   exact congrArg (_ ++ ·) (s7 _))) M.blks M.here
  exact z
noncomputable def oU(T:Nat):List Nat->Mem->Mem
 | [],M=>M
 |x::r,M=>oU T r (M.tick.put (.tup [.str T,.int (x:Int)]))
noncomputable def downs(i:Nat):Nat->List Nat
 |0=>[]
 |n+1=>(i+n)::downs i n
theorem oV(i:Nat):∀(n:Nat) (M:Mem),Te i n M=oU 134 (downs i n) M
 |0,_=>rfl
 |n+1,M=>oV i n _
theorem ints_snoc:∀(n i:Nat),aK i (n+1)=aK i n++[.int ((i+n:Nat):Int)]
 |0,i=>rfl
 |n+1,i=>by
  have ih:=ints_snoc n (i+1)
  rw [Nat.add_right_comm] at ih
  exact congrArg (PV.int (i:Int) :: ·) ih
theorem Fy(i:Nat):∀n,(aK i n).reverse=(downs i n).map fun x:Nat=>PV.int (x:Int)
 |0=>rfl
 |n+1=>by rw [ints_snoc,List.reverse_append,Fy i n];rfl
theorem Fz:∀(n i:Nat),(aK i n).length=n
 |0,_=>rfl
 |n+1,i=>congrArg (·+ 1) (Fz n (i+1))
theorem Lb(T:Nat)(xs:List Nat):∀M:Mem,M.sz<=(oU T xs M).sz:=by
 induction xs with
 |nil=>exact fun M=>o9 _
 |cons x r ih=>exact fun M=>d8 (Nat.le_add_right M.sz 2) (ih (M.tick.put (.tup [.str T,.int (x:Int)])))
theorem Ld(xs:List PV):∀(i:Nat) (M:Mem),M.sz<=(rE xs i M).sz:=by
 induction xs with
 |nil=>exact fun O M=>o9 _
 |cons x r ih=>exact fun i M=>d8 (Nat.le_add_right M.sz 7) (ih (i+1) ((gn x (jz (T6 (bD i))) M).tick.put (eN M.tys.length)))
theorem Xn(l:List Wy)(v:Nat)(M:Mem):∃ps k,Ip v (bC ((O1 l).map (wC l)) M)=M.ext ((O1 l).map (tyP l)++[jA]) ps k:=by
 have e1:((O1 l).map (wC l)).map (·.1)=(O1 l).map (tyP l):=List.map_map
 have z:=oR M ((O1 l).map (wC l)) [] [] 0
 rw [ext_nil,e1] at z
 rw [z,KZ]
 exact⟨_,_,rfl⟩
theorem Ti(l:List Wy)(M:Mem):(bC ((O1 l).map (wC l)) M).tys.length=M.tys.length+(O9 l+1):=by
 have e1:((O1 l).map (wC l)).map (·.1)=(O1 l).map (tyP l):=List.map_map
 have z:=oR M ((O1 l).map (wC l)) [] [] 0
 rw [ext_nil,e1] at z
 rw [z,tC,K8,g8];rfl
noncomputable def SameBut(x:Nat)(m m':Loc):Prop := ∀y,y≠x->m'.lookup y=m.lookup y
theorem SameBut.set{x:Nat}{q:PV}{m m':Loc}(h:SameBut x (w7 x q m) m'):SameBut x m m':=fun y hy=>(h y hy).trans (by rw [M9,if_neg hy])
section
variable{P:Params}{g:G (O4 P).T}(hg:N6 g){n:Nat}{m:Loc}{c:Fix}(hfu:c.fu=1){l:List Wy}{R H:AH}{Q:PV->AH->Prop}{self:Addr}
include hg
theorem dw{T:Nat}{full:List PV}{Q':Out->Loc->AH->Prop}(hn:3<=n):∀(xs:List Nat) (m:Loc) (M:Mem) (H:AH),m.lookup 1=some (.obj self)->M6 c self M R H->(oU T xs M).sz<=sizeLine->(∀m' H',SameBut 77 m m'->M6 c self (oU T xs M) R H'->Q' .next m' H')->
  ur ((Tg.name 77).w g n) (O5 g n [.expr (.meth (.loc 1) 128 [.tup [.str T,.loc 77]])]) (.lst full) full Q' (xs.map fun x:Nat=>PV.int (x:Int)) m H
 | [],m,M,H,_,B,_,h=>h m H (fun O O=>rfl) B
 |x::r,m,M,H,h1,B,hz,h=>by
  have l1:(w7 77 (.int (x:Int)) m).lookup 1=some (.obj self):=Q5 (by decide) h1
  refine j9 l1 (B.me rfl rfl (j9 T8 (iy hg B (d8 (Lb T r _) hz) hn fun H' B=>?_)))
  exact dw hn r _ _ H' l1 B hz fun m' H' sb B=>h m' H' sb.set B
theorem vP{full:List PV}{Q':Out->Loc->AH->Prop}(hn:5<=n):∀(r:List PV) (i:Nat) (m:Loc) (M:Mem) (H:AH),m.lookup 1=some (.obj self)->M6 c self M R H->(∀k t,r[k]? = some t->M.tys[i+k]? = some t)->(rE r i M).sz<=sizeLine->(∀m' H',SameBut 77 m m'->M6 c self (rE r i M) R H'->Q' .next m' H')->
  ur ((Tg.name 77).w g n) (O5 g n [.expr (.meth (.loc 1) 128 [.tup [.str 134,.meth (.loc 1) 6 [.meth (.loc 1) 112 [.loc 77],.tup [.str 171,.tup [.str 143,.tup [.loc 77,.tup []]]]]]])]) (.lst full) full Q' (aK i r.length) m H
 | [],i,m,M,H,_,B,_,_,h=>h m H (fun O O=>rfl) B
 |t::r,i,m,M,H,h1,B,ht,hz,h=>by
  have l1:(w7 77 (.int (i:Int)) m).lookup 1=some (.obj self):=Q5 (by decide) h1
  have z2:((gn t (jz (T6 (bD i))) M).tick.put (eN M.tys.length)).sz<=sizeLine:=d8 (Ld r (i+1) _) hz
  refine j9 l1 (B.me rfl rfl (j9 l1 (B.me rfl rfl (j9 l1 (B.me rfl rfl (j9 T8 (Ky hg B (ht 0 t rfl) (o8 (k:=7) z2) (leB hn rfl) ?_)))))))
  refine j9 T8 (Fq hg (rv:=jz (T6 (bD i))) B (o8 (k:=2) z2) (leB hn rfl) fun H' B=>iy hg B z2 (leB hn rfl) fun H' B=>?_)
  refine vP hn r (i+1) _ _ H' l1 B (fun k t' e=>?_) hz fun m' H' sb B=>h m' H' sb.set B
  have q:=ht (k+1) t' e
  rw [show i+(k+1)=i+1+k by lia] at q
  exact(I5 (v8.mp q).1).trans q
end
section
variable{P:Params}{g:G (O4 P).T}(hg:N6 g){n:Nat}{m:Loc}{c:Fix}(hfu:c.fu=1){l:List Wy}{M:GM}{R R' H:AH}{Q:PV->AH->Prop}{self a:Addr}{v fail:Nat}
include hg hfu
theorem Ir(h1:m.lookup 1=some (.obj self))(h2:m.lookup 202=some (xV v))(h3:m.lookup 111=some (pC l 0))(h4:m.lookup 189=some (.int (fail:Int))) (h5:m.lookup 204=some (.obj a)) (hR:R a=none) (B:M6 c self (M.mem l) (upd R a (.N5 [])) H) (hl:l.length<=3) (e:M.tys[1]? = some .x)
  (hz:(M.guard (O9 l) v fail).sz<=sizeLine) (hn:10<=n) (h:∀H',M6 c self ((M.guard (O9 l) v fail).mem l) R H'->Q .none H'):O5 g n (R2.drop 3) m H (mO Q):=by
 have lm:O9 l<=3:=d8 (dj l []) hl
 have e':(M.mem l).tys[1]? = some (iZ l):=by show(M.tys.map (jx.v l))[1]? = _;rw [G7,e];rfl
 have z0:M.sz+110<=sizeLine:=hz
 have z1:(NZ l v (M.mem l)).sz<=sizeLine:=by rw [vO];show M.sz+_<=_;lia
 have z2:(rE ((O1 l).map (tyP l)) M.nl (Ip v (bC ((O1 l).map (wC l)) (M.mem l)))).sz<=sizeLine:=d8 (Lb 134 (downs M.nl (O9 l+1)) _) (by rw [<- oV,<- rB (l:=l)];exact z1)
 have z3:=d8 (Ld _ _ _) z2
 have nh:=Ti l (M.mem l)
 rw [rB] at nh
 have l1:(w7 205 (.lst (aK M.nl (O9 l+1))) m).lookup 1=some (.obj self):=Q5 (by decide) h1
 refine j9 h1 (B.me rfl rfl (j9 h3 (Xk hg (l:=l) rfl hl B e' (o8 (k:=6) z3) (leB hn rfl) fun H B=>?_)))
 rw [rB]
 refine j9 l1 (B.me rfl rfl (iz hg (t:=jA) B trivial (o8 (k:=5) z3) (leB hn rfl) fun H B=>?_))
 rw [nh]
 have l2:(w7 206 (.int ((M.nl+(O9 l+1):Nat):Int)) (w7 205 (.lst (aK M.nl (O9 l+1))) m)).lookup 1=some (.obj self):=Q5 (by decide) l1
 refine j9 l2 (B.me rfl rfl (j9 T8 (iy hg B (o8 (k:=3) z3) (leB hn rfl) fun H B=>?_)))
 refine j9 l2 (B.me rfl rfl (oK hg B (o8 (k:=2) z3) (leB hn rfl) fun H B=>?_))
 have l6:(w7 206 (.int ((M.nl+(O9 l+1):Nat):Int)) (w7 205 (.lst (aK M.nl (O9 l+1))) m)).lookup 202=some (xV v):=Q5 (by decide) (Q5 (by decide) h2)
 refine j9 l2 (B.me rfl rfl (j9 T8 (j9 l6 (Tc hg hfu (q:=bD (M.nl+(O9 l+1))) B z3 (leB hn rfl) fun H B=>?_))))
 refine j9 l2 (B.me rfl rfl (RV hg (f:=[]) (fs:=_) B rfl z3 (leB hn rfl) fun H B=>?_))
 have l7:(w7 206 (.int ((M.nl+(O9 l+1):Nat):Int)) (w7 205 (.lst (aK M.nl (O9 l+1))) m)).lookup 204=some (.obj a):=Q5 (by decide) (Q5 (by decide) h5)
 refine j9 l7 (j9 l2 (B.SQ (p8 ..) (fun b o k=>by rw [w5 fun z=>by rw [z,hR] at k;cases k];exact k) hR fun H B=>?_))
 have lent:(w7 206 (.int ((M.nl+(O9 l+1):Nat):Int)) (w7 205 (.lst (aK M.nl (O9 l+1))) m)).lookup 205=some (.lst (aK M.nl (O9 l+1))):=Q5 (by decide) T8
 refine j9 lent ?_
 have B:M6 c self (Ip v (bC ((O1 l).map (wC l)) (M.mem l))) R H:=by
  have z:Ip v (bC ((O1 l).map (wC l)) (M.mem l))=((((bC ((O1 l).map (wC l)) (M.mem l)).newL jA).tick.put (bO (bC ((O1 l).map (wC l)) (M.mem l)).tys.length)).push.asg (bD (bC ((O1 l).map (wC l)) (M.mem l)).tys.length) (Bx 161 (bD 2) v)).pop:=rfl
  rw [z,nh]
  exact B
 have nT:((O1 l).map (tyP l)).length=O9 l+1:=g8 _
 have key:=vP hg (g:=g) (n:=n) (c:=c) (self:=self) (R:=R) (full:=aK M.nl (O9 l+1)) (Q':=YC (mO Q) (Va (O5 g n (R2.drop 11)) (mO Q))) (leB hn rfl) ((O1 l).map (tyP l)) M.nl _ _ H l2 B (fun k t q=>by
  obtain⟨ps,kk,z⟩:=Xn l v (M.mem l)
  rw [z]
  show((M.mem l).tys++_)[M.nl+k]? = _
  rw [<- rB (l:=l),J0 (Nat.le_add_right _ _),Nat.add_sub_cancel_left]
  exact(I5 (v8.mp q).1).trans q) z2 fun m' H' sb B=>?_
 ·rw [nT] at key
  exact key
 have s1:=(sb 1 (by decide)).trans l2
 have key2:=dw hg (g:=g) (n:=n) (c:=c) (self:=self) (R:=R) (T:=134) (full:=(aK M.nl (O9 l+1)).reverse) (Q':=YC (mO Q) (Va (O5 g n (R2.drop 12)) (mO Q))) (leB hn rfl) (downs M.nl (O9 l+1)) m' _ H' s1 B (by rw [<- oV,<- rB (l:=l)];exact z1) fun m2 H2 sb2 B=>?_
 ·rw [<- Fy] at key2
  exact j9 ((sb 205 (by decide)).trans lent) (dD (J5 (by rw [Fz,p7];lia)) key2)
 have s2:=(sb2 1 (by decide)).trans s1
 rw [<- oV] at B
 have B:M6 c self (NZ l v (M.mem l)) R H2:=by unfold NZ;rw [rB];exact B
 have B:=B.aC1 (k:=M.sz+100) (by rw [vO];show M.sz+_<=_;lia)
 rw [<- Xm l v lm] at B
 refine j9 s2 (B.me rfl rfl (j9 ((sb2 206 (by decide)).trans ((sb 206 (by decide)).trans T8)) (j9 ((sb2 189 (by decide)).trans ((sb 189 (by decide)).trans (Q5 (by decide) (Q5 (by decide) h4)))) (qj hg B hz (leB hn rfl) h))))
end
noncomputable def Xo(p:Pt)(bd:Addr):List PV:=match p with
 |.bnd .. => [.obj bd]
 |_=>[]
theorem oW{D bd Q8:Addr}{p:Pt}{pl:PV}:(D,N7.list (Xo p bd))∈lu D bd Q8 p pl:=by cases p<;>exact .head _
theorem ae4(v:Nat):(xV v).isD=true:=rfl
theorem Tj(v:Nat):jB [] 60 [xV v]=some false:=rfl
section
variable{P:Params}{g:G (O4 P).T}(hg:N6 g){n:Nat}{m:Loc}{c:Fix}(hfu:c.fu=1){l:List Wy}{M:GM}{R R' H:AH}{Q:PV->AH->Prop}{self D bd Q8:Addr}{v fail:Nat}{p:Pt}
include hg
theorem Xp{fin:List PV->AH->Prop}(e:∀x∈lu D bd Q8 p (pC l 0),H x.1=some x.2)(h:fin [] H):cR m [] (.one 200) (Ag g n [.cmp .Eq (.attr (.loc 200) 170) (.str 172)]) ((X.attr (.loc 200) 77).wE g n) fin (.obj D) H:=by
 have no:Xo p bd=[]->cR m [] (.one 200) (Ag g n [.cmp .Eq (.attr (.loc 200) 170) (.str 172)]) ((X.attr (.loc 200) 77).wE g n) fin (.obj D) H:=fun z=>by
  have e1:=e _ oW
  rw [z] at e1
  exact j9 (K9 e1) fun D2 h2=>by
   show fin [] (del (upd H D2 (.list [])) D2)
   rw [V3 h2];exact h
 cases p with
 |bnd s rf=>
  have e1:=e (D,.list [.obj bd]) (.head _)
  have e2:=e (bd,.inst U4 Q8) (.tail _ (.head _))
  have e3:=e (Q8,_) (.tail _ (.tail _ (.head _)))
  refine j9 (K9 e1) fun D2 h2=>?_
  have ne:∀{x o},H x=some o->x≠D2:=fun k z=>by rw [z,h2] at k;cases k
  refine cC rfl (j9 T8 (H8.mk ((w5 (ne e2)).trans e2) ((w5 (ne e3)).trans e3) rfl rfl ?_))
  have fi:fin [] (del (upd H D2 (.list [])) D2):=by rw [V3 h2];exact h
  cases rf<;>exact⟨⟨p8 ..,K9 ((w5 (ne e1)).trans e1)⟩,fi⟩
 |wild=>exact no rfl
 |cst _=>exact no rfl
 |rng _ _=>exact no rfl
 |Er=>exact no rfl
include hfu
theorem FJ{Q':Out->Loc->AH->Prop}(K:Kept c self R R' (lu D bd Q8 p (pC l 0))) (h1:m.lookup 1=some (.obj self)) (B:M6 c self (M.mem l) R' H) (hz:(M.bind p).sz<=sizeLine) (hn:4<=n) (h:∀m' H',SameBut 200 m m'->M6 c self ((M.bind p).mem l) R' H'->Q' .next m' H'):
  ur ((Tg.name 200).w g n) (O5 g n [.iff (.cmp .Eq (.attr (.loc 200) 170) (.str 144)) [.asg (.sub (.attr (.loc 1) 117) (.attr (.loc 200) 77)) (.attr (.loc 200) 111)] [.iff (.cmp .NotEq (.attr (.loc 200) 170) (.str 172)) [.expr (.meth (.loc 1) 177 [.loc 200])] []]]) (.obj D) (Xo p bd) Q' (Xo p bd) m H:=by
 cases p with
 |bnd s rf=>
  have e2:=K.at_ B (bd,.inst U4 Q8) (.tail _ (.head _))
  have e3:=K.at_ B (Q8,_) (.tail _ (.tail _ (.head _)))
  have l1:(w7 200 (.obj bd) m).lookup 1=some (.obj self):=Q5 (by decide) h1
  have rest:O5 g n [.expr (.meth (.loc 1) 177 [.loc 200])] (w7 200 (.obj bd) m) H (YC (kTn (.obj D) [.obj bd] Q' (ur ((Tg.name 200).w g n) (O5 g n [.iff (.cmp .Eq (.attr (.loc 200) 170) (.str 144)) [.asg (.sub (.attr (.loc 1) 117) (.attr (.loc 200) 77)) (.attr (.loc 200) 111)] [.iff (.cmp .NotEq (.attr (.loc 200) 170) (.str 172)) [.expr (.meth (.loc 1) 177 [.loc 200])] []]]) (.obj D) [.obj bd] Q' [])) (Va (O5 g n []) (kTn (.obj D) [.obj bd] Q' (ur ((Tg.name 200).w g n) (O5 g n [.iff (.cmp .Eq (.attr (.loc 200) 170) (.str 144)) [.asg (.sub (.attr (.loc 1) 117) (.attr (.loc 200) 77)) (.attr (.loc 200) 111)] [.iff (.cmp .NotEq (.attr (.loc 200) 170) (.str 172)) [.expr (.meth (.loc 1) 177 [.loc 200])] []]]) (.obj D) [.obj bd] Q' [])))):=
   j9 l1 (B.me rfl rfl (j9 T8 (KN hg hfu B e2 e3 hz hn fun H' B=>⟨K9 (K.at_ B (D,.list [.obj bd]) (.head _)),h _ H' (SameBut.set fun O O=>rfl) B⟩)))
  refine j9 T8 (H8.mk e2 e3 rfl rfl ?_)
  cases rf<;>exact j9 T8 (H8.mk e2 e3 rfl rfl rest)
 |wild=>exact h m H (fun O O=>rfl) B
 |cst _=>exact h m H (fun O O=>rfl) B
 |rng _ _=>exact h m H (fun O O=>rfl) B
 |Er=>exact h m H (fun O O=>rfl) B
theorem Iu(K:Kept c self R R' (lu D bd Q8 p (pC l 0))) (B:M6 c self (M.mem l) R' H) (hl:l.length<=3) (e:M.tys[1]? = some .x) (hz:((M.bind p).guard (O9 l) v fail).sz<=sizeLine) (hn:11<=n)
  (h:∀H',M6 c self (((M.bind p).guard (O9 l) v fail).mem l) R' H'->Q .none H'):Cl g n (.obj V6) [.obj self,xV v,.obj D,pC l 0,.int (fail:Int)] H Q:=by
 have z0:(M.bind p).sz+110<=sizeLine:=hz
 have e':(M.bind p).tys[1]? = some .x:=by
  cases p with
  |bnd s rf=>cases rf<;>exact e
  |_=>exact e
 refine(Z7 P).cl hg rfl hn fun n hn=>B.Fj (hg:=hg) fun a ha=>?_
 have hR:=B.ad9 ha
 have B:=B.newR (o:=.N5 []) ha
 have at_:∀{H'},M6 c self (M.mem l) (upd R' a (.N5 [])) H'->∀x∈lu D bd Q8 p (pC l 0),H' x.1=some x.2:=fun B=>K.at_ (B.ae0 hR)
 refine Xp hg (at_ B) (rD hg (k0:=60) (ae4 v) rfl rfl (Tj v) (by decide) (leB hn rfl) fun H' E=>?_)
 have B:=B.ext E
 have K2:Kept c self R (upd R' a (.N5 [])) (lu D bd Q8 p (pC l 0)):=⟨fun B=>K.back (B.ae0 hR),fun B=>K.at_ (B.ae0 hR),fun b o k=>(w5 fun z=>by rw [z] at k;rw [K.sub _ _ k] at hR;cases hR).trans (K.sub b o k)⟩
 refine j9 (K9 (at_ B _ oW)) ?_
 exact FJ hg hfu K2 (Q':=YC (mO Q) (Va (O5 g n (R2.drop 3)) (mO Q))) rfl B (o8 z0) (leB hn rfl) fun m' H' sb B=>Ir hg hfu (m:=m') (sb 1 (by decide)) (sb 202 (by decide)) (sb 111 (by decide)) (sb 189 (by decide)) (sb 204 (by decide)) hR B hl e' hz hn h
end
structure oX(M M':GM):Prop where
 tys:∃r,M'.tys=M.tys++r
 nb:M.nb<=M'.nb
 frs:M'.frs=M.frs
 sz:M.sz<=M'.sz
section
variable{M M' M'':GM}
theorem oX.refl:oX M M:=⟨⟨[],(s7 _).symm⟩,o9 _,rfl,o9 _⟩
theorem oX.trans(a:oX M M')(b:oX M' M''):oX M M'':=by
 obtain⟨r,e⟩:=a.tys
 obtain⟨r',e'⟩:=b.tys
 exact⟨⟨r++r',by rw [e',e,j7]⟩,d8 a.nb b.nb,b.frs.trans a.frs,d8 a.sz b.sz⟩
theorem oX.at(a:oX M M'){i:Nat}{t:jx}(e:M.tys[i]? = some t):M'.tys[i]? = some t:=by
 obtain⟨r,z⟩:=a.tys
 rw [z]
 exact(I5 (v8.mp e).1).trans e
theorem mq(s:Sx):oX M (M.put s):=⟨⟨[],(s7 _).symm⟩,Nat.le_of_eq (vK s).symm,rfl,Nat.le_add_right M.sz 2⟩
theorem gq(t:Tx):oX M (M.close t):=⟨⟨[],(s7 _).symm⟩,Nat.le_of_eq (dh t).symm,rfl,Nat.le_add_right M.sz 2⟩
theorem jN:oX M M.R6:=⟨⟨[],(s7 _).symm⟩,by rw [cB];exact Nat.le_succ _,rfl,Nat.le_succ _⟩
theorem Xq(t:jx):oX M (M.newL t):=⟨⟨[t],rfl⟩,o9 _,rfl,Nat.le_succ _⟩
theorem zj(b:Nat):oX M (M.to b):=⟨⟨[],(s7 _).symm⟩,o9 _,rfl,o9 _⟩
theorem Le(t:jx)(s:Nat->Sx):oX M (M.told t s):=((Xq t).trans (mq _)).trans (mq _)
theorem qp(t fail:Nat):oX M (M.branch t fail):=((((((jN.trans jN).trans (gq _)).trans (zj _)).trans (mq _)).trans (gq _)).trans (zj _)).trans (mq _)
theorem BX(p:Pt)(fail:Nat):oX M (M.test p fail):=by
 cases p with
 |cst v=>exact(jN.trans (gq _)).trans (zj _)
 |rng a b=>exact((Le _ _).trans (qp _ _)).trans ((Le _ _).trans (qp _ _))
 |_=>exact .refl
theorem tD(p:Pt):oX M (M.bind p):=by
 cases p with
 |bnd s rf=>cases rf<;>exact mq _
 |_=>exact .refl
theorem FN(m v fail:Nat):oX M (M.guard m v fail):=by
 have z:oX M {M with tys:=M.tys++RD m,blks:=M.blks.modify M.here fun b=>(b.1++[.gd M.nl v],b.2),sz:=M.sz+100}:=⟨⟨RD m,rfl⟩,Nat.le_of_eq (K7 ..).symm,rfl,Nat.le_add_right _ _⟩
 exact z.trans (qp _ _)
theorem FP(m:Nat)(p:Pt)(gd:Option Nat)(fail:Nat):oX M (M.entry m p gd fail):=by
 cases gd with
 |some v=>exact((BX _ _).trans (tD _)).trans (FN _ _ _)
 |none=>exact(BX _ _).trans (tD _)
end
theorem iC(f:Nat->Sx):∀(ls:List Nat) (M:GM),oX M (M.puts f ls)
 | [],_=>.refl
 |x::r,M=>(mq _).trans (iC f r _)
theorem Lg(M:GM)(ls:List Nat):oX M (M.anew ls):=(iC _ _ _).trans (iC _ _ _)
theorem Tn(M:GM)(m:Nat)(p:Pt)(gd:Option Nat)(inside:Nat)(ls:List Nat):oX M (M.alt m p gd inside ls):=(((jN.trans (FP _ _ _ _)).trans (gq _)).trans (zj _)).trans (Lg _ _)
theorem BZ(m:Nat)(gd:Option Nat)(inside:Nat)(ls:List Nat):∀(ps:List Pt) (M:GM),oX M (GM.alts m gd inside ls ps M)
 | [],_=>.refl
 |p::r,M=>(Tn ..).trans (BZ m gd inside ls r _)
theorem zm:∀(r:List (Nat×Bool)) (M:GM),oX M (M.fin r)
 | [],_=>.refl
 | (_,true)::r,M=>(mq _).trans (zm r _)
 | (_,false)::r,M=>zm r M
theorem Lh{M:GM}:M.pop.frs=M.frs.tail:=by show(M.fin _).frs.tail=_;rw [(zm _ M).frs]
theorem zp(M:GM):(∃r,M.pop.tys=M.tys++r)/\M.nb<=M.pop.nb/\M.sz<=M.pop.sz:=⟨(zm _ M).tys,(zm _ M).nb,(zm _ M).sz⟩
theorem Ca:∀(ls:List Nat) (M:GM) (f:List (Nat×Bool)) (fs:List (List (Nat×Bool))),M.frs=f::fs->(M.decl ls).frs=(f++ls.map fun x=>(x,true))::fs/\(∃r,(M.decl ls).tys=M.tys++r)/\M.nb<=(M.decl ls).nb/\M.sz<=(M.decl ls).sz
 | [],M,f,fs,e=>⟨by rw [List.map_nil,s7];exact e,⟨[],(s7 _).symm⟩,o9 _,o9 _⟩
 |x::r,M,f,fs,e=>by
  have e2:((M.put (.live x)).add (x,true)).frs=(f++[(x,true)])::fs:=by
   show(match M.frs with|f::fs=>(f++[(x,true)])::fs | []=>[])=_
   rw [e]
  obtain⟨h1,⟨q,h2⟩,h3,h4⟩:=Ca r ((M.put (.live x)).add (x,true)) _ fs e2
  exact⟨by rw [show M.decl (x::r)=((M.put (.live x)).add (x,true)).decl r from rfl,h1,j7];rfl,⟨q,h2⟩,d8 (Nat.le_of_eq (vK (M:=M) (.live x)).symm) h3,d8 (Nat.le_add_right M.sz 3) h4⟩
theorem FQ(M:GM)(m:Nat)(a:Z8):(M.Z9 m a).frs=(a.p.ls.map fun x=>(x,true))::M.frs/\(∃r,(M.Z9 m a).tys=M.tys++r)/\M.nb+1<=(M.Z9 m a).nb/\((M.R6.push).decl a.p.ls).sz<=(M.Z9 m a).sz/\M.R6.push.sz<=((M.R6.push).decl a.p.ls).sz:=by
 obtain⟨h1,⟨q,h2⟩,h3,h4⟩:=Ca a.p.ls M.R6.push [] M.frs rfl
 have z:=BZ m a.gd M.nb a.p.ls a.p.alts (M.R6.push.decl a.p.ls)
 obtain⟨r,z1⟩:=z.tys
 exact⟨z.frs.trans (h1.trans (by rw [K8])),⟨q++r,by
  show(GM.alts _ _ _ _ _ _).tys=_
  rw [z1,h2,j7];rfl⟩,d8 (d8 (Nat.le_of_eq (cB (M:=M)).symm) h3) z.nb,z.sz,h4⟩
theorem Tp(M:GM)(m:Nat)(a:Z8)(behind:Nat):oX M (M.arm m a behind):=by
 obtain⟨h1,⟨r,h2⟩,h3,h4,h5⟩:=FQ M m a
 have p:=zp (((M.Z9 m a).to M.nb).put (.cst a.num))
 obtain⟨⟨q,p1⟩,p2,p3⟩:=p
 have w:=((gq (M:=(((M.Z9 m a).to M.nb).put (.cst a.num)).pop) (.goto behind)).trans (zj (M.Z9 m a).here)).trans (iC .dead a.p.ls.reverse _)
 have y:oX M (((M.Z9 m a).to M.nb).put (.cst a.num)).pop:=by
  refine⟨⟨r++q,?_⟩,d8 (d8 (v7 h3) (Nat.le_of_eq (vK (M:=(M.Z9 m a).to M.nb) (.cst a.num)).symm)) p2,?_,?_⟩
  ·rw [p1]
   show(M.Z9 m a).tys++q=_
   rw [h2,j7]
  ·rw [Lh]
   show(M.Z9 m a).frs.tail=_
   rw [h1];rfl
  ·exact d8 (d8 (Nat.le_add_right M.sz 2) (d8 h5 h4)) (d8 (Nat.le_add_right _ 2) p3)
 exact y.trans w
theorem tE(m behind:Nat):∀(as:List Z8) (M:GM),oX M (GM.arms m behind as M)
 | [],_=>.refl
 |a::r,M=>(Tp ..).trans (tE m behind r _)
theorem Xr(M:GM)(m:Nat)(as:List Z8):oX M (M.xM m as):=((jN.trans (tE _ _ _ _)).trans (gq _)).trans (zj _)
noncomputable def gdv:Option Nat->PV
 |none=>.none
 |some v=>xV v
theorem Li(T:Nat)(f:Nat->Sx)(l:List Wy)(hf:∀x,(f x).vs l=[.tup [.str T,.int (x:Int)]]):∀(ls:List Nat) (M:GM),(M.puts f ls).mem l=oU T ls (M.mem l)
 | [],_=>rfl
 |x::r,M=>(Li T f l hf r _).trans (congrArg (oU T r) (oN (hf x)))
section
variable{P:Params}{g:G (O4 P).T}(hg:N6 g){n:Nat}{m:Loc}{c:Fix}(hfu:c.fu=1){l:List Wy}{M:GM}{R R' H:AH}{Q:PV->AH->Prop}{self D bd Q8:Addr}{v fail:Nat}{p:Pt}
include hg hfu
noncomputable abbrev Lj:List S:=[.iff (.or [.cmp .Is (.loc 202) .none,.cmp .In (.attr (.loc 200) 170) (.tup [.str 144,.str 172])]) [.expr (.meth (.loc 1) 177 [.loc 200])] []]
theorem Iv{Q':Out->Loc->AH->Prop}(K:Kept c self R R' (lu D bd Q8 p (pC l 0))) (h1:m.lookup 1=some (.obj self)) (h2:m.lookup 202=some .none) (B:M6 c self (M.mem l) R' H) (hz:(M.bind p).sz<=sizeLine) (hn:4<=n) (h:∀m' H',M6 c self ((M.bind p).mem l) R' H'->Q' .next m' H'):
  ur ((Tg.name 200).w g n) (O5 g n Lj) (.obj D) (Xo p bd) Q' (Xo p bd) m H:=by
 cases p with
 |bnd s rf=>
  have e2:=K.at_ B (bd,.inst U4 Q8) (.tail _ (.head _))
  have e3:=K.at_ B (Q8,_) (.tail _ (.tail _ (.head _)))
  have l1:(w7 200 (.obj bd) m).lookup 1=some (.obj self):=Q5 (by decide) h1
  have l2:(w7 200 (.obj bd) m).lookup 202=some .none:=Q5 (by decide) h2
  exact j9 l2 (j9 l1 (B.me rfl rfl (j9 T8 (KN hg hfu B e2 e3 hz hn fun H' B=>⟨K9 (K.at_ B (D,.list [.obj bd]) (.head _)),h _ H' B⟩))))
 |wild=>exact h m H B
 |cst _=>exact h m H B
 |rng _ _=>exact h m H B
 |Er=>exact h m H B
omit hg hfu in
theorem Iw{Q':Out->Loc->AH->Prop}{N:Mem}(K:Kept c self R R' (lu D bd Q8 p (pC l 0))) (h2:m.lookup 202=some (xV v)) (B:M6 c self N R' H) (h:∀m',Q' .next m' H):
  ur ((Tg.name 200).w g n) (O5 g n Lj) (.obj D) (Xo p bd) Q' (Xo p bd) m H:=by
 cases p with
 |bnd s rf=>
  have e2:=K.at_ B (bd,.inst U4 Q8) (.tail _ (.head _))
  have e3:=K.at_ B (Q8,_) (.tail _ (.tail _ (.head _)))
  have l2:(w7 200 (.obj bd) m).lookup 202=some (xV v):=Q5 (by decide) h2
  refine j9 l2 (j9 T8 (H8.mk e2 e3 rfl rfl ?_))
  have fi:itemsOf H (.obj D)=some [.obj bd]/\Q' .next (w7 200 (.obj bd) m) H:=⟨K9 (K.at_ B (D,.list [.obj bd]) (.head _)),h _⟩
  cases rf<;>exact fi
 |wild=>exact h m
 |cst _=>exact h m
 |rng _ _=>exact h m
 |Er=>exact h m
theorem Tq{gd:Option Nat}(hp:p.Et=false)(B:M6 c self (M.mem l) R H)(hl:l.length<=3)(e:M.tys[1]? = some .x)(hz:(M.entry (O9 l) p gd fail).sz<=sizeLine) (hn:12<=n) (h:∀H',M6 c self ((M.entry (O9 l) p gd fail).mem l) R H'->Q .none H'):Cl g n (.obj U7) [.obj self,p.v,gdv gd,pC l 0,.int (fail:Int)] H Q:=by
 have e':=(BX (M:=M) p fail).at e
 cases gd with
 |none=>
  have hz:((M.test p fail).bind p).sz<=sizeLine:=hz
  refine(U3 P).cl hg rfl hn fun n hn=>B.me rfl rfl (KQ hg hp B (d8 (tD p).sz hz) (leB hn rfl) fun H B=>jC hg (leB hn rfl) fun D bd Q8 H' s=>?_)
  obtain⟨R',B,K⟩:=B.kept s
  refine j9 (K9 (K.at_ B _ oW)) ?_
  exact Iv hg hfu K rfl rfl B hz (leB hn rfl) fun m' H' B=>h H' (K.back B)
 |some v=>
  have hz:(((M.test p fail).bind p).guard (O9 l) v fail).sz<=sizeLine:=hz
  refine(U3 P).cl hg rfl hn fun n hn=>B.me rfl rfl (KQ hg hp B (d8 (tD p).sz (d8 (FN _ _ _).sz hz)) (leB hn rfl) fun H B=>jC hg (leB hn rfl) fun D bd Q8 H' s=>?_)
  obtain⟨R',B,K⟩:=B.kept s
  refine B.me rfl rfl (Iu hg hfu K B hl e' hz (leB hn rfl) fun H' B=>?_)
  refine j9 (K9 (K.at_ B _ oW)) ?_
  exact Iw (v:=v) K rfl B fun m'=>h H' (K.back B)
omit hfu
theorem Xu{ls:List Nat}(hl:ls.length<=10)(B:M6 c self (M.mem l) R H)(hz:(M.anew ls).sz<=sizeLine)(hn:4<=n)(h:∀H',M6 c self ((M.anew ls).mem l) R H'->Q .none H'):Cl g n (.obj bM) [.obj self,.lst (ls.map fun x:Nat=>PV.int (x:Int))] H Q:=by
 have e1:=Li 134 .dead l (fun O=>rfl) ls.reverse M
 have e2:=Li 129 .live l (fun O=>rfl) ls (M.puts .dead ls.reverse)
 have z1:(oU 134 ls.reverse (M.mem l)).sz<=sizeLine:=e1▸d8 (iC Sx.live ls (M.puts .dead ls.reverse)).sz hz
 refine(jw P).cl hg rfl hn fun n hn=>dD (J5 (by rw [g8,p7];lia)) ?_
 rw [<- List.map_reverse]
 refine dw hg (full:=ls.reverse.map fun x:Nat=>PV.int (x:Int)) hn ls.reverse _ _ H rfl B z1 fun m' H' sb B=>?_
 rw [<- e1] at B
 refine j9 (sb 212 (by decide)) ?_
 refine dw hg (full:=ls.map fun x:Nat=>PV.int (x:Int)) hn ls _ _ H' (sb 1 (by decide)) B (e2▸hz) fun m2 H2 O B=>?_
 rw [<- e2] at B
 exact h H2 B
end
noncomputable def iV(ls:List Nat):List PV:=ls.map fun x:Nat=>PV.int (x:Int)
noncomputable def Z8.v(a:Z8):PV:=.tup [a.p.v,gdv a.gd,kE a.num]
structure Vb(m:Loc)(me:Addr)(a:Z8)(l:List Wy)(behind inside:Nat):Prop where
 s:m.lookup 1=some (.obj me)
 pl:m.lookup 111=some (bD 0)
 md:m.lookup 35=some (pC l 0)
 bh:m.lookup 165=some (.int (behind:Int))
 gd:m.lookup 202=some (gdv a.gd)
 e:m.lookup 145=some (kE a.num)
 ins:m.lookup 214=some (.int (inside:Int))
 ls:m.lookup 212=some (.lst (iV a.p.ls))
theorem Vb.set{m:Loc}{me:Addr}{a:Z8}{l:List Wy}{behind inside y:Nat}{q:PV}(h:Vb m me a l behind inside)(e:[1,111,35,165,202,145,214,212].elem y=false):Vb (w7 y q m) me a l behind inside:=by
 have ne:∀x,[1,111,35,165,202,145,214,212].elem x=true->x≠y:=fun x hx z=>by rw [z,e] at hx;cases hx
 exact⟨Q5 (ne _ rfl) h.s,Q5 (ne _ rfl) h.pl,Q5 (ne _ rfl) h.md,Q5 (ne _ rfl) h.bh,Q5 (ne _ rfl) h.gd,Q5 (ne _ rfl) h.e,Q5 (ne _ rfl) h.ins,Q5 (ne _ rfl) h.ls⟩
theorem Vb.but{m m':Loc}{me:Addr}{a:Z8}{l:List Wy}{behind inside:Nat}(h:Vb m me a l behind inside)(sb:SameBut 77 m m'):Vb m' me a l behind inside:=
 ⟨(sb _ (by decide)).trans h.s,(sb _ (by decide)).trans h.pl,(sb _ (by decide)).trans h.md,(sb _ (by decide)).trans h.bh,(sb _ (by decide)).trans h.gd,(sb _ (by decide)).trans h.e,(sb _ (by decide)).trans h.ins,(sb _ (by decide)).trans h.ls⟩
section
variable{P:Params}{g:G (O4 P).T}(hg:N6 g){n:Nat}{m:Loc}{c:Fix}(hfu:c.fu=1){l:List Wy}{M:GM}{R R' H:AH}{Q:PV->AH->Prop}{self D bd Q8:Addr}{behind inside:Nat}{p:Pt}{a:Z8}
include hg hfu
theorem Tr{fin:List PV->AH->Prop}(K:Kept c self R R' (lu D bd Q8 p (pC l 0))) (B:M6 c self (M.mem l) R' H) (hc:(R9 [1] m).lookup 1=some (.obj self)) (hn:1<=n) (h:fin (iV p.ls) H):cR m [1] (.one 200) (Ag g n []) ((X.meth (.loc 1) 150 [.attr (.loc 200) 77]).wE g n) fin (.obj D) H:=by
 have no:Xo p bd=[]->iV p.ls=[]->cR m [1] (.one 200) (Ag g n []) ((X.meth (.loc 1) 150 [.attr (.loc 200) 77]).wE g n) fin (.obj D) H:=fun z y=>by
  have e1:=K.at_ B _ oW
  rw [z] at e1
  rw [y] at h
  exact j9 (K9 e1) fun D2 h2=>by
   show fin [] (del (upd H D2 (.list [])) D2)
   rw [V3 h2];exact h
 cases p with
 |bnd s rf=>
  have e1:=K.at_ B (D,.list [.obj bd]) (.head _)
  have e2:=K.at_ B (bd,.inst U4 Q8) (.tail _ (.head _))
  have e3:=K.at_ B (Q8,_) (.tail _ (.tail _ (.head _)))
  refine j9 (K9 e1) fun D2 h2=>?_
  have ne:∀{x o},H x=some o->x≠D2:=fun k z=>by rw [z,h2] at k;cases k
  have B2:=B.ext (Ext.new (o:=.list []) h2)
  refine cC rfl (j9 (Q5 (by decide) hc) (B2.me rfl rfl (j9 T8 (H8.mk ((w5 (ne e2)).trans e2) ((w5 (ne e3)).trans e3) rfl rfl (tB hg hfu B2 (leB hn rfl) ⟨⟨p8 ..,fC rfl,K9 ((w5 (ne e1)).trans e1)⟩,?_⟩)))))
  show fin [.int ((1+s:Nat):Int)] (del (upd (upd H D2 (.list [])) D2 (.list [.int ((1+s:Nat):Int)])) D2)
  rw [V2,V3 h2]
  exact h
 |wild=>exact no rfl rfl
 |cst _=>exact no rfl rfl
 |rng _ _=>exact no rfl rfl
 |Er=>exact no rfl rfl
noncomputable abbrev aC3:List S:=[.asg (.name 189) (.meth (.loc 1) 120 []),.expr (.meth (.loc 1) 215 [.loc 28,.loc 202,.loc 35,.loc 189]),.expr (.meth (.loc 1) 127 [.tup [.str 84,.loc 214]]),.asg (.attr (.loc 1) 64) (.loc 189),.expr (.meth (.loc 1) 216 [.loc 212])]
theorem Oa{full:List PV}{Q':Out->Loc->AH->Prop}(hl:l.length<=3)(hs:a.p.ls.length<=10)(hn:12<=n):∀(ps:List Pt) (m:Loc) (M:GM) (H:AH),(∀p∈ps,p.Et=false)->Vb m self a l behind inside->M6 c self (M.mem l) R H->M.tys[1]? = some .x->(GM.alts (O9 l) a.gd inside a.p.ls ps M).sz<=sizeLine->
  (∀m' H',Vb m' self a l behind inside->M6 c self ((GM.alts (O9 l) a.gd inside a.p.ls ps M).mem l) R H'->Q' .next m' H')->ur ((Tg.name 28).w g n) (O5 g n aC3) (.lst full) full Q' (ps.map Pt.v) m H:=by
 intro ps
 induction ps with
 |nil=>exact fun m M H O am B O O h=>h m H am B
 |cons p r Im=>
  intro m M H hp am B e hz h
  have h1:=hp p (.head _)
  have Ob:=am.set (y:=28) (q:=p.v) rfl
  have Tt:=Ob.set (y:=189) (q:=.int (M.nb:Int)) rfl
  have zA:(M.alt (O9 l) p a.gd inside a.p.ls).sz<=sizeLine:=d8 (BZ _ _ _ _ r _).sz hz
  have gE:=FP (M:=M.R6) (O9 l) p a.gd M.nb
  have zC:((M.R6.entry (O9 l) p a.gd M.nb).close (.goto inside)).sz<=sizeLine:=d8 (Lg (((M.R6.entry (O9 l) p a.gd M.nb).close (.goto inside)).to M.nb) a.p.ls).sz zA
  have zE:(M.R6.entry (O9 l) p a.gd M.nb).sz<=sizeLine:=o8 (k:=2) zC
  refine j9 Ob.s (B.me rfl rfl (za hg B (d8 gE.sz zE) (leB hn rfl) fun H B=>?_))
  refine j9 Tt.s (B.me rfl rfl (j9 (Q5 (by decide) T8) (j9 Tt.gd (j9 Tt.md (j9 T8 (Tq hg hfu h1 B hl (jN.at e) zE (leB hn rfl) fun H B=>?_))))))
  refine j9 Tt.s (B.me rfl rfl (j9 Tt.ins (mj hg (t:=.goto inside) B zC (leB hn rfl) fun H B=>?_)))
  refine j9 T8 (j9 Tt.s (toG B (by rw [dh];exact G9 (H9 _) (d8 (Nat.le_of_eq cB.symm) gE.nb)) fun H B=>?_))
  refine j9 Tt.s (B.me rfl rfl (j9 Tt.ls (Xu hg hs B zA (leB hn rfl) fun H B=>?_)))
  exact Im _ _ H (fun p hp'=>hp p (.tail _ hp')) Tt B ((Tn M _ p _ _ _).at e) hz h
omit hfu
theorem Iz{full:List PV}{Q':Out->Loc->AH->Prop}(hn:4<=n):∀(ls:List Nat) (m:Loc) (M:GM) (H:AH),(∀x∈ls,∃t,M.tys[x]? = some t/\(t = .u8\/t = .Nk))->m.lookup 1=some (.obj self)->M6 c self (M.mem l) R H->M.frs≠[]->(M.decl ls).sz<=sizeLine->
  (∀m' H',SameBut 77 m m'->M6 c self ((M.decl ls).mem l) R H'->Q' .next m' H')->ur ((Tg.name 77).w g n) (O5 g n [.expr (.meth (.loc 1) 142 [.loc 77])]) (.lst full) full Q' (iV ls) m H:=by
 intro ls
 induction ls with
 |nil=>exact fun m M H O O B O O h=>h m H (fun O O=>rfl) B
 |cons x r Im=>
  intro m M H ht h1 B hf hz h
  have l1:(w7 77 (.int (x:Int)) m).lookup 1=some (.obj self):=Q5 (by decide) h1
  obtain⟨f,fs,e⟩:=List.exists_cons_of_ne_nil hf
  have e2:((M.put (.live x)).add (x,true)).frs=(f++[(x,true)])::fs:=by
   show(match M.frs with|f::fs=>(f++[(x,true)])::fs | []=>[])=_
   rw [e]
  have z:((M.put (.live x)).add (x,true)).sz<=sizeLine:=d8 (Ca r _ _ _ e2).2.2.2 hz
  obtain⟨t,t1,t2⟩:=ht x (.head _)
  have fr:Ox (M.mem l).tys (x,true):=⟨t.v l,by show(M.tys.map (jx.v l))[x]? = _;rw [G7,t1];rfl,by rcases t2 with rfl|rfl;exact .one (.int _);exact .ref _⟩
  have ez:((M.put (.live x)).add (x,true)).mem l=((M.mem l).tick.put (bO x)).add (x,true):=(Xf _).trans (congrArg (fun z=>Mem.add z (x,true)) (oN rfl))
  refine j9 l1 (B.me rfl rfl (j9 T8 (vI hg B fr hf z (leB hn rfl) fun H' B=>?_)))
  exact Im _ ((M.put (.live x)).add (x,true)) H' (fun y hy=>ht y (.tail _ hy)) l1 (by rw [ez];exact B) (by rw [e2];exact nofun) hz fun m' H' sb B=>h m' H' sb.set B
end
noncomputable def Pt.fst:Pt->Pt
 |.Er=>.cst 1
 |p=>p
theorem ae5(p:Pt):p.fst.ls=p.ls:=by cases p<;>rfl
theorem Xv(p:Pt):∀q∈p.alts,q.Et=false:=by
 cases p with
 |Er=>
  intro q hq
  rcases q7.mp hq with rfl|hq
  ·rfl
  ·rw [j8.mp hq];rfl
 |_=>exact fun q hq=>by rw [j8.mp hq];rfl
theorem Tv(p:Pt):p.ls.length<=1:=by cases p<;>exact d9 rfl
theorem Lk{c:Fix}{self:Addr}{M:GM}{l:List Wy}{R H:AH}(B:M6 c self (M.mem l) R H):M.here<M.nb:=by
 obtain⟨L,x,_,B,_⟩:=B
 exact G9 B.ok.here (Nat.le_of_eq Fd)
section
variable{P:Params}{g:G (O4 P).T}(hg:N6 g){n:Nat}{m:Loc}{c:Fix}(hfu:c.fu=1){l:List Wy}{M:GM}{R R' H:AH}{Q:PV->AH->Prop}{self D bd Q8:Addr}{behind inside:Nat}{p:Pt}{a:Z8}
include hg hfu
theorem Xw{N:GM}{f:List (Nat×Bool)}{fs:List (List (Nat×Bool))} (am:Vb m self a l behind inside) (B:M6 c self (N.mem l) R H) (hi:inside<N.nb) (hb:behind<N.nb) (ef:N.frs=f::fs) (hz:((((((N.to inside).put (.cst a.num)).pop).close (.goto behind)).to N.here).puts .dead a.p.ls.reverse).sz<=sizeLine) (hn:7<=n)
  (h:∀H',M6 c self (((((((N.to inside).put (.cst a.num)).pop).close (.goto behind)).to N.here).puts .dead a.p.ls.reverse).mem l) R H'->Q .none H'):O5 g n (Z5.drop 6) m H (mO Q):=by
 have Ob:=am.set (y:=189) (q:=.int (N.here:Int)) rfl
 have z1:((((N.to inside).put (.cst a.num)).pop).close (.goto behind)).sz<=sizeLine:=d8 (iC .dead a.p.ls.reverse (((((N.to inside).put (.cst a.num)).pop).close (.goto behind)).to N.here)).sz hz
 have z2:(((N.to inside).put (.cst a.num)).pop).sz<=sizeLine:=o8 (k:=2) z1
 have z3:((N.to inside).put (.cst a.num)).sz<=sizeLine:=d8 (zp _).2.2 z2
 have hh:N.here<((((N.to inside).put (.cst a.num)).pop).close (.goto behind)).nb:=by
  rw [dh]
  exact G9 (Lk B) (d8 (Nat.le_of_eq (vK (M:=N.to inside) (.cst a.num)).symm) (zp _).2.1)
 refine j9 am.s (B.here (j9 am.ins (j9 Ob.s (toG B hi fun H B=>?_))))
 refine j9 Ob.s (B.me rfl rfl (j9 Ob.pl (j9 Ob.e (SX hg B (q:=bD 0) (k:=a.num) z3 (leB hn rfl) fun H B=>?_))))
 have ep:((N.to inside).put (.cst a.num)).mem l=((N.to inside).mem l).asg (bD 0) (jz (xR aG (.int (a.num:Int)))):=oN rfl
 rw [<- ep] at B
 refine j9 Ob.s (B.me rfl rfl (ae1 hg B (f:=f) (fs:=fs) ef z2 (leB hn rfl) fun H B=>?_))
 refine j9 Ob.s (B.me rfl rfl (j9 Ob.bh (mj hg (t:=.goto behind) B z1 (leB hn rfl) fun H B=>?_)))
 refine j9 T8 (j9 Ob.s (toG B hh fun H B=>?_))
 refine j9 Ob.ls (dD (J5 (by rw [iV,g8,p7];have:=Tv a.p;lia)) ?_)
 have e1:=Li 134 .dead l (fun O=>rfl) a.p.ls.reverse (((((N.to inside).put (.cst a.num)).pop).close (.goto behind)).to N.here)
 rw [iV,<- List.map_reverse]
 refine dw hg (full:=a.p.ls.reverse.map fun x:Nat=>PV.int (x:Int)) (leB hn rfl) a.p.ls.reverse _ _ H Ob.s B (e1▸hz) fun m' H' sb B=>?_
 have B:M6 c self (oU 134 a.p.ls.reverse ((((((N.to inside).put (.cst a.num)).pop).close (.goto behind)).to N.here).mem l)) R H':=B
 rw [<- e1] at B
 exact h H' B
theorem ae6(B:M6 c self (M.mem l) R H)(hl:l.length<=3)(e:M.tys[1]? = some .x)(ht:∀x∈a.p.ls,∃t,M.tys[x]? = some t/\(t = .u8\/t = .Nk))(hb:behind<M.nb)(hz:(M.arm (O9 l) a behind).sz<=sizeLine) (hn:13<=n)
  (h:∀H',M6 c self ((M.arm (O9 l) a behind).mem l) R H'->Q .none H'):Cl g n (.obj V1) [.obj self,bD 0,a.v,pC l 0,.int (behind:Int)] H Q:=by
 obtain⟨a1,⟨q,a2⟩,a3,a4,a5⟩:=FQ M (O9 l) a
 have zN:(M.Z9 (O9 l) a).sz<=sizeLine:=by
  have z1:((((((M.Z9 (O9 l) a).to M.nb).put (.cst a.num)).pop).close (.goto behind)).to (M.Z9 (O9 l) a).here).sz<=sizeLine:=d8 (iC .dead a.p.ls.reverse _).sz hz
  exact o8 (k:=2) (d8 (zp (((M.Z9 (O9 l) a).to M.nb).put (.cst a.num))).2.2 (o8 (k:=2) z1))
 have zD:((M.R6.push).decl a.p.ls).sz<=sizeLine:=d8 a4 zN
 have zP:M.R6.push.sz<=sizeLine:=d8 a5 zD
 refine(Y5 P).cl hg rfl hn fun n hn=>Xi hg (leB hn rfl) (B.me rfl rfl (za hg B (v7 zP) (leB hn rfl) fun H B=>?_))
 refine B.me rfl rfl (Sd hg B zP (leB hn rfl) fun r H B=>?_)
 refine j9 (show nth (a.p.alts.map Pt.v) 0=some a.p.fst.v by cases a.p<;>rfl) (jC hg (leB hn rfl) fun D bd Q8 H' s=>?_)
 obtain⟨R',B,K⟩:=B.kept s
 refine Tr hg hfu K B rfl (leB hn rfl) ?_
 rw [ae5]
 have B:=K.back B
 have am:Vb (w7 212 (.lst (iV a.p.ls)) [(1,.obj self),(111,bD 0),(213,a.v),(35,pC l 0),(165,.int (behind:Int)),(25,a.p.v),(202,gdv a.gd),(145,kE a.num),(214,.int (M.nb:Int)),(26,.lst (a.p.alts.map Pt.v))]) self a l behind M.nb:=⟨rfl,rfl,rfl,rfl,rfl,rfl,rfl,rfl⟩
 refine Iz hg (full:=iV a.p.ls) (leB hn rfl) a.p.ls _ M.R6.push H' ht rfl B nofun zD fun m' H1 sb B=>?_
 have am':=am.but sb
 refine j9 (sb 26 (by decide)) ?_
 have d:=Ca a.p.ls M.R6.push [] M.frs rfl
 obtain⟨_,⟨q',d2⟩,_,_⟩:=d
 have e':((M.R6.push).decl a.p.ls).tys[1]? = some .x:=by
  rw [d2]
  exact(I5 (v8.mp e).1).trans e
 refine Oa hg hfu (full:=a.p.alts.map Pt.v) hl (d8 (Tv a.p) (by decide)) (leB hn rfl) a.p.alts m' _ H1 (Xv a.p) am' B e' zN fun m2 H2 Tt B=>?_
 exact Xw hg hfu (f:=a.p.ls.map fun x=>(x,true)) (fs:=M.frs) Tt B a3 (G9 hb (v7 a3)) a1 hz (leB hn rfl) h
end
noncomputable def Oc(l:List Wy)(as:List Z8):PV:=.tup [.str 253,aG,.int 0,exV l,.tup (as.map Z8.v)]
noncomputable def mz(M:GM)(as:List Z8):Prop := ∀a∈as,∀x∈a.p.ls,∃t,M.tys[x]? = some t/\(t = .u8\/t = .Nk)
section
variable{P:Params}{g:G (O4 P).T}(hg:N6 g){n:Nat}{m:Loc}{c:Fix}(hfu:c.fu=1){l:List Wy}{M:GM}{R R' H:AH}{Q:PV->AH->Prop}{self:Addr}{behind:Nat}
include hg hfu
theorem IK{ev:PV}{full:List PV}{Q':Out->Loc->AH->Prop}(he:ev.pL = some [.str 253,aG,.int 0,exV l,.tup full])(hl:l.length<=3)(hn:13<=n):∀(as:List Z8) (m:Loc) (M:GM) (H:AH),m.lookup 1=some (.obj self)->m.lookup 111=some (bD 0)->m.lookup 145=some ev->m.lookup 35=some (pC l 0)->m.lookup 165=some (.int (behind:Int))->
  M6 c self (M.mem l) R H->M.tys[1]? = some .x->mz M as->behind<M.nb->(GM.arms (O9 l) behind as M).sz<=sizeLine->(∀m' H',SameBut 213 m m'->M6 c self ((GM.arms (O9 l) behind as M).mem l) R H'->Q' .next m' H')->
  ur ((Tg.name 213).w g n) (O5 g n [.asg (.attr (.loc 1) 3) (.at (.loc 145) 2),.expr (.meth (.loc 1) 217 [.loc 111,.loc 213,.loc 35,.loc 165])]) (.tup full) full Q' (as.map Z8.v) m H:=by
 intro as
 induction as with
 |nil=>exact fun m M H O O O O O B O O O O h=>h m H (fun O O=>rfl) B
 |cons a r Im=>
  intro m M H h1 h2 h3 h4 h5 B e ok hb hz h
  have l1:(w7 213 a.v m).lookup 1=some (.obj self):=Q5 (by decide) h1
  have l2:(w7 213 a.v m).lookup 111=some (bD 0):=Q5 (by decide) h2
  have l3:(w7 213 a.v m).lookup 145=some ev:=Q5 (by decide) h3
  have l4:(w7 213 a.v m).lookup 35=some (pC l 0):=Q5 (by decide) h4
  have l5:(w7 213 a.v m).lookup 165=some (.int (behind:Int)):=Q5 (by decide) h5
  have ga:=Tp M (O9 l) a behind
  refine j9 l3 (at_of (k:=2) he rfl (j9 l1 (B.bZ fun H B=>?_)))
  refine j9 l1 (B.me rfl rfl (j9 l2 (j9 T8 (j9 l4 (j9 l5 (ae6 hg hfu B hl e (ok a (.head _)) hb (d8 (tE _ _ r _).sz hz) hn fun H B=>?_))))))
  exact Im _ _ H l1 l2 l3 l4 l5 B (ga.at e) (fun a' ha x hx=>(ok a' (.tail _ ha) x hx).imp fun t z=>⟨ga.at z.1,z.2⟩) (G9 hb ga.nb) hz fun m' H' sb B=>h m' H' sb.set B
theorem Tw{as:List Z8}(hl:l.length<=3)(B:M6 c self (M.mem l) R H)(e:M.tys[1]? = some .x)(ok:mz M as)(hz:(M.xM (O9 l) as).sz<=sizeLine) (hn:14<=n) (h:∀H',M6 c self ((M.xM (O9 l) as).mem l) R H'->Q .none H'):Cl g n (.obj U0) [.obj self,bD 0,Oc l as] H Q:=by
 have z1:((GM.arms (O9 l) M.nb as M.R6).close .Gu).sz<=sizeLine:=hz
 have z2:(GM.arms (O9 l) M.nb as M.R6).sz<=sizeLine:=o8 (k:=2) z1
 have ga:=tE (O9 l) M.nb as M.R6
 refine(W5 P).cl hg rfl hn fun n hn=>B.me rfl rfl (Sv hg hfu hl B (leB hn rfl) (B.me rfl rfl (za hg B (d8 ga.sz z2) (leB hn rfl) fun H B=>?_)))
 refine IK hg hfu (ev:=Oc l as) (full:=as.map Z8.v) (l:=l) (behind:=M.nb) rfl hl hn as _ M.R6 H rfl rfl rfl rfl rfl B e ok (by rw [cB];exact H9 _) z2 fun m' H' sb B=>?_
 have s1:=sb 1 (by decide)
 refine j9 s1 (B.me rfl rfl (mj hg (t:=.Gu) B z1 (leB hn rfl) fun H B=>?_))
 refine j9 (sb 165 (by decide)) (j9 s1 (toG B ?_ fun H B=>h H B))
 rw [dh]
 exact G9 (by rw [cB];exact H9 _) ga.nb
theorem IV{as:List Z8}(hl:l.length<=3)(B:M6 c self (M.mem l) R H)(e:M.tys[1]? = some .x)(ok:mz M as)(hz:(M.xM (O9 l) as).sz<=sizeLine) (hn:15<=n) (h:∀H',M6 c self ((M.xM (O9 l) as).mem l) R H'->Q .none H'):Cl g n (.obj T5) [.obj self,bD 0,Oc l as] H Q:=
 (U9 P).cl hg rfl hn fun n hn=>B.spot fun q=>B.bZ fun H B=>B.me rfl rfl (Tw hg hfu hl B e ok hz hn fun H B=>B.bZ (h · ·))
end
section
variable{P:Params}{g:G (O4 P).T}(hg:N6 g){n:Nat}{m:Loc}{aV0 H:AH}{Q:PV->AH->Prop}{K:List (Addr×N7)}
theorem St.me(s:St aV0 H K)(i j:Nat){a C dx x f:Addr}{l:List (Nat×PV)}{k:Addr->Addr->AH->Prop}(e1:K[i]? = some (a,.inst C dx))(e2:K[j]? = some (dx,.attrs l))(hf:(O4 P).T.meth C x=some f)(hl:l.lookup x=none)(h:k a f H):MethP g x k (.obj a) H:=.mk (s.at i e1) (s.at j e2) hf hl h
theorem ar3{a:Addr}{l:List (Nat×PV)}{k:Nat}{C:Bool->Prop}(e:H a=some (.T9 l))(h:C (Y0 k l).isSome):wF .In (.str k) (.obj a) H C:=.mem (.os e h)
noncomputable abbrev gw(r:PV×PV×PV):PV:=.tup [r.1,r.2.1,r.2.2]
noncomputable abbrev Cd(r:PV×PV×PV):PV:=.tup [r.2.1,r.2.2,r.1]
theorem IW{rows:List (PV×PV×PV)}{lw:Addr}(e:H lw=some (.list (rows.map gw))) (hl:rows.length<=sizeLine) {m:Loc} {fin:List PV->AH->Prop} (h:fin (rows.map Cd) H):
  cR m [] (.many [40,6,80]) (Ag g n []) ((X.tup [.loc 6,.loc 80,.loc 40]).wE g n) fin (.obj lw) H:=j9 (K9 e) fun D hD=>
 nq (it:=fun H=>itemsOf H (.obj lw)) (ct:=.many [40,6,80]) (f:=gw) (w:=Cd) (fun m'=>m'=[]\/∃x y z,m'=[(40,x),(6,y),(80,z)]) (fun r=>[(40,r.1),(6,r.2.1),(80,r.2.2)]) rows
  (fun a O o m' hm=>⟨by rcases hm with rfl|⟨x,y,z,rfl⟩<;>rfl,.inr ⟨_,_,_,rfl⟩⟩) (fun a O o K k=>k) (fun o=>K9 ((w5 fun z=>by rw [z,hD] at e;cases e).trans e)) [] _ (.inl (yH m)) (by rw [List.length_nil,z6];exact hl) (by
   rw [K8,V3 hD];exact h)
include hg
theorem oY{tf Od w Gv sg lw:Addr}{body path res:PV}{wl:List (Nat×PV)}{rows:List (PV×PV×PV)}{pn:Nat}(hp:path = .str pn)(hl:rows.length<=100)(t1:H tf=some (.inst cI Od))(t2:H Od=some (.attrs [(119,path),(75,.obj lw),(39,.tup []),(122,res),(92,body)])) (t3:H lw=some (.list (rows.map gw)))
  (w1:H w=some (.inst jK Gv)) (w2:H Gv=some (.attrs wl)) (w3:wl.lookup 121=some (.obj sg)) (w4:H sg=some (.T9 [])) (hn:5<=n) (h:∀a dx b Q8 lc bl sp fr al d1 d2 rw st0 OD H',St H H' [(d2,.N5 []),(OD,.list [.obj st0,.none]),(st0,.list []),(fr,.list []),(al,.N5 []),(sp,.Q9 []),(bl,.list [.obj OD]),(lc,.list (.tup [res,.bool true,.none]::rows.map Cd)),(b,.inst gR Q8),(Q8,.attrs [(40,path),(71,.int 0),(75,.obj lc),(73,.obj bl),(74,.obj sp)]),(rw,.list (.tup [res,.bool true,.none]::rows.map Cd)),(d1,.T9 []),(a,.inst U6 dx),(dx,.attrs [(37,.obj w),(38,.obj d1),(115,.lst []),(116,.int 1),(92,.obj b),(3,.int 0),(117,.obj al),(118,.obj fr),(64,.int 0),(225,.obj d2)])]->Q (.obj a) H'):Cl g n (.obj U6) [.obj tf,.obj w] H Q:=by
 subst hp
 refine make hg rfl hn fun n a dx H' hn s=>(kj P).clC hg rfl hn fun n hn=>⟨_,_,rfl,rfl,(vd P).cl hg rfl hn fun n hn=>s.set 0 1 rfl rfl rfl rfl fun H1 s=>?_⟩
 refine H8.mk (s.keep _ _ t1) (s.keep _ _ t2) rfl rfl (H8.mk (s.keep _ _ w1) (s.keep _ _ w2) rfl w3 (ar3 (s.keep _ _ w4) fun d1 h1=>(s.new h1 _).set 1 2 rfl rfl rfl rfl fun H1 s=>?_))
 refine H8.mk (s.keep _ _ t1) (s.keep _ _ t2) rfl rfl (H8.mk (s.keep _ _ t1) (s.keep _ _ t2) rfl rfl ?_)
 refine pR (f:=id) (w:=id) [] (z8 _) (fun a ha=>nomatch ha) (Dp.mk rfl rfl (fC rfl) fun rw h2=>?_)
 have s:=s.new h2 (.list [.tup [res,.bool true,.none]])
 refine S5 (k:=1) (len_list (s.at 0 rfl)) (d9 rfl) (Mg (Hh ⟨by decide,by decide,by decide,by decide⟩ (d9 rfl) (.inl (s.set 2 3 rfl rfl rfl rfl fun H1 s=>?_))))
 refine S5 (k:=1) (len_list (s.at 0 rfl)) (d9 rfl) (s.set 2 3 rfl rfl rfl rfl fun H1 s=>?_)
 refine O8 (s.at 0 rfl) (H8.mk (s.keep _ _ t1) (s.keep _ _ t2) rfl rfl (IW (s.keep _ _ t3) (d8 hl (fC rfl)) ?_))
 refine cD (s.at 0 rfl) (.inr rfl) (d8 (Nat.add_le_add_left (by rw [g8];exact hl) 1) (fC rfl)) ?_
 have s:=s.put 0 rfl (.list ([.tup [res,.bool true,.none]]++rows.map Cd))
 refine H8.mk (s.keep _ _ t1) (s.keep _ _ t2) rfl rfl (s.attr 2 3 rfl rfl rfl rfl (S5 (k:=0) rfl (d9 rfl) ?_))
 refine Nv hg (K9 (s.at 0 rfl)) (d8 (Nat.le_of_eq (d7.trans (congrArg (1 + ·) (g8 _)))) (d8 (Nat.add_le_add_left hl 1) (fC rfl))) (leB hn rfl) fun b Q8 lc bl sp H1 t=>?_
 have s:=s.app t
 refine s.set 7 8 rfl rfl rfl rfl fun H1 s=>s.set 7 8 rfl rfl rfl rfl fun H1 s=>fun al h3=>(s.new h3 _).set 8 9 rfl rfl rfl rfl fun H1 s=>fun fr h4=>(s.new h4 _).set 9 10 rfl rfl rfl rfl fun H1 s=>s.me 9 10 rfl rfl rfl rfl ?_
 refine(bN P).cl hg rfl hn fun n O=>s.attr 9 10 rfl rfl rfl rfl (s.attr 5 6 rfl rfl rfl rfl (O8 (s.at 3 rfl) fun st0 h5 OD h6=>?_))
 have s:=(s.new h5 (.list [])).new h6 (.list [.obj st0,.none])
 refine Q0 (s.at 5 rfl) (fC rfl) ?_
 have s:=s.put 5 rfl (.list [.obj OD])
 refine s.attr 11 12 rfl rfl rfl rfl (s.attr 7 8 rfl rfl rfl rfl (S5 (k:=1) (len_list (s.at 5 rfl)) (d9 rfl) ?_))
 refine s.set 11 12 rfl rfl rfl rfl fun H1 s=>fun d2 h7=>(s.new h7 _).set 12 13 rfl rfl rfl rfl fun H1 s=>And.intro rfl (h a dx b Q8 lc bl sp fr al d1 d2 rw st0 OD H1 s)
end
section
variable{H R:AH}{K:List (Addr×N7)}
theorem St.off(s:St R H K){z:Addr}(h:z∈K.map (·.1)):R z=none:=by
 obtain⟨x,hx,rfl⟩:=w6.mp h
 exact s.fresh x hx
noncomputable def rIx:Role->Nat
 |.self=>12 | .dx=>13 | .body=>8 | .Q8=>9 | .locs=>7 | .blks=>6 | .spots=>5 | .frs=>3 | .alias=>4 | .bl _=>1 | .st _=>2 | .fr _=>0
noncomputable def ixR:Nat->Role
 |12=>.self|13=>.dx|8=>.body|9=>.Q8|7=>.locs|6=>.blks|5=>.spots|3=>.frs|4=>.alias|1=>.bl 0|2=>.st 0|_=>.fr 0
noncomputable def Tz(tys:List PV):Mem:=⟨tys,[([],.none)],0,[],200⟩
theorem rows_of(rows:List (PV×PV×PV)):Z4 (rows.map fun r=>r.2.1) (rows.map Cd):=by
 induction rows with
 |nil=>exact .nil
 |cons r rows ih=>exact .cons ih
theorem Xx{tys:List PV}(hl:tys.length<=200):oH (Tz tys):=
 ⟨hl,d9 rfl,fun b h=>(j8.mp h▸z8 _),z8 _,fun O h=>(nomatch h),H9 0,fun O O=>trivial,fun O h=>(nomatch h)⟩
theorem TF{a dx b Q8 lc bl sp fr al d1 d2 rw st0 OD:Addr}{path world res:PV}{rows:List (PV×PV×PV)}(hl:rows.length<=100)
  (s:St R H [(d2,.N5 []),(OD,.list [.obj st0,.none]),(st0,.list []),(fr,.list []),(al,.N5 []),(sp,.Q9 []),(bl,.list [.obj OD]),(lc,.list (.tup [res,.bool true,.none]::rows.map Cd)),(b,.inst gR Q8),(Q8,.attrs [(40,path),(71,.int 0),(75,.obj lc),(73,.obj bl),(74,.obj sp)]),(rw,.list (.tup [res,.bool true,.none]::rows.map Cd)),(d1,.T9 []),(a,.inst U6 dx),(dx,.attrs [(37,world),(38,.obj d1),(115,.lst []),(116,.int 1),(92,.obj b),(3,.int 0),(117,.obj al),(118,.obj fr),(64,.int 0),(225,.obj d2)])]):
  M6 ⟨world,.obj d1,.lst [],1,path,.int 0,.obj d2⟩ a (Tz (res::rows.map fun r=>r.2.1)) R H:=by
 let L:Role->Addr:=fun
  |.self=>a | .dx=>dx | .body=>b | .Q8=>Q8 | .locs=>lc | .blks=>bl | .spots=>sp | .frs=>fr | .alias=>al | .bl _=>OD | .st _=>st0 | .fr _=>d2
 let x:wB:=⟨.int 0,[],.tup [res,.bool true,.none]::rows.map Cd⟩
 let c:Fix:=⟨world,.obj d1,.lst [],1,path,.int 0,.obj d2⟩
 let M:=Tz (res::rows.map fun r=>r.2.1)
 have back:∀r,X7 c M L x r≠none->ixR (rIx r)=r:=fun r h=>by
  cases r with
  |bl i=>cases i<;>first|rfl|exact absurd rfl h
  |st i=>cases i<;>first|rfl|exact absurd rfl h
  |fr i=>exact absurd rfl h
  |_=>rfl
 have at_:∀r o,X7 c M L x r=some o->H (L r)=some o:=fun r o h=>by
  cases r with
  |self=>cases h;exact s.at 12 rfl
  |dx=>cases h;exact s.at 13 rfl
  |body=>cases h;exact s.at 8 rfl
  |Q8=>cases h;exact s.at 9 rfl
  |locs=>cases h;exact s.at 7 rfl
  |blks=>cases h;exact s.at 6 rfl
  |spots=>cases h;exact s.at 5 rfl
  |frs=>cases h;exact s.at 3 rfl
  |alias=>cases h;exact s.at 4 rfl
  |bl i=>cases i<;>cases h;exact s.at 1 rfl
  |st i=>cases i<;>cases h;exact s.at 2 rfl
  |fr i=>cases h
 let A:List Addr:=[d2,OD,st0,fr,al,sp,bl,lc,b,Q8,rw,d1,a,dx]
 have ix:∀r,A[rIx r]? = some (L r):=fun r=>by cases r<;>rfl
 have nd:A.Nodup:=s.nd
 have off:∀z∈A,R z=none:=fun z hz=>s.off hz
 refine⟨L,x,rfl,⟨fun r r' h h' e=>?_,at_,.cons (rows_of rows),z8 _,Xx (by rw [m8,g8];exact d8 (J7 hl) (by decide))⟩,fun y o e=>⟨s.keep y o e,fun r h z=>?_⟩⟩
 ·have z:rIx r=rIx r':=(List.getElem?_inj (v8.mp (ix r)).1 nd).mp ((ix r).trans ((congrArg some e).trans (ix r').symm))
  exact(back r h).symm.trans ((congrArg ixR z).trans (back r' h'))
 ·have q:=off (L r) (u6 (ix r))
  rw [z,e] at q
  cases q
end
noncomputable def jc(b:List PV×PV):List PV×PV:=(b.1,if isNone b.2 then .tup [.str 139] else b.2)
noncomputable def Mem.aF(M:Mem)(i:Nat):Mem:={M with blks:=M.blks.modify i jc}
noncomputable def Mem.Oe:Nat->Nat->Mem->Mem
 |_,0,M=>M
 |i,k+1,M=>Mem.Oe (i+1) k (M.aF i)
theorem zq:∀(k i:Nat) (M:Mem) (j:Nat),(M.Oe i k).blks[j]? = if i<=j/\j<i+k then M.blks[j]?.map jc else M.blks[j]?
 |0,i,M,j=>by rw [if_neg (by lia)];rfl
 |k+1,i,M,j=>by
  show(Mem.Oe (i+1) k (M.aF i)).blks[j]? = _
  rw [zq k (i+1) (M.aF i) j,show(M.aF i).blks=M.blks.modify i jc from rfl,get_modify]
  by_cases h:i=j
  ·rw [if_pos h,if_neg (by lia),if_pos (by lia)]
  ·rw [if_neg h]
   by_cases q:i+1<=j/\j<i+1+k
   ·rw [if_pos q,if_pos (by lia)]
   ·rw [if_neg q,if_neg (by lia)]
noncomputable def Mem.fix(M:Mem):Mem:=M.Oe 0 M.blks.length
theorem jD(M:Mem):M.fix.blks=M.blks.map jc:=List.ext_getElem? fun j=>by
 rw [Mem.fix,zq,G7]
 by_cases h:j<M.blks.length
 ·rw [if_pos ⟨z8 _,by exact d8 ‹_› (Nat.le_add_left ..)⟩]
 ·rw [if_neg (by lia),J4 (Nat.le_of_not_lt h)];rfl
section
variable{P:Params}{g:G (O4 P).T}(hg:N6 g){n w:Nat}{m:Loc}{c:Fix}{M M':Mem}{L:Role->Addr}{x:wB}{H R:AH}{Q:PV->AH->Prop}{self:Addr}
theorem oH.aF(o:oH M)(i:Nat):oH (M.aF i):=by
 have e:(M.blks.modify i jc).length=M.blks.length:=K7 ..
 refine⟨o.tys,by show(M.blks.modify i jc).length<=_;rw [e];exact o.blks,fun b hb=>?_,o.frs,o.Np,by show _<(M.blks.modify i jc).length;rw [e];exact o.here,o.simple,o.Oz⟩
 obtain⟨j,hj⟩:=List.mem_iff_getElem?.mp hb
 rw [show(M.aF i).blks=M.blks.modify i jc from rfl,get_modify] at hj
 by_cases h:i=j
 ·rw [if_pos h] at hj
  obtain⟨b',e,rfl⟩:=z9.mp hj
  exact o.sts b' (u6 e)
 ·rw [if_neg h] at hj
  exact o.sts b (u6 hj)
theorem ae7(B:O6 c M L x H)(F:Framed c M L x R H){i:Nat}{b:List PV×PV}(e:M.blks[i]? = some b):O6 c (M.aF i) L x (upd H (L (.bl i)) (.list [.obj (L (.st i)),(jc b).2]))/\Framed c (M.aF i) L x R (upd H (L (.bl i)) (.list [.obj (L (.st i)),(jc b).2])):=by
 have h0:X7 c M L x (.bl i)≠none:=by rw [X7,e];exact nofun
 have h1:X7 c (M.aF i) L x (.bl i)=some (.list [.obj (L (.st i)),(jc b).2]):=by
  show Option.map _ (M.blks.modify i jc)[i]? = _
  rw [get_modify,if_pos rfl,e];rfl
 have h2:∀r,r≠.bl i->X7 c (M.aF i) L x r=X7 c M L x r\/X7 c (M.aF i) L x r=none:=fun r ne=>.inl (by
  cases r with
  |blks=>show some (N7.list (Y8 L 0 (M.blks.modify i jc).length))=_;rw [K7];rfl
  |bl j=>
   show Option.map _ (M.blks.modify i jc)[j]? = _
   rw [get_modify,if_neg fun h=>ne (congrArg Role.bl h.symm)];rfl
  |st j=>
   show Option.map _ (M.blks.modify i jc)[j]? = _
   rw [get_modify]
   by_cases h:i=j
   ·rw [if_pos h,Option.map_map];rfl
   ·rw [if_neg h];rfl
  |_=>rfl)
 exact⟨B.turn (r0:=.bl i) h0 h1 h2 B.rows B.sp (B.ok.aF i),F.turn (r0:=.bl i) h0 h1 h2⟩
theorem Ja{i:Nat}{b:List PV×PV}(e:M.blks[i]? = some b)(h:isNone b.2=false):M.aF i=M:=by
 have:M.blks.modify i jc=M.blks:=List.ext_getElem? fun j=>by
  rw [get_modify]
  by_cases q:i=j
  ·rw [if_pos q,<- q,e]
   show some (b.1,if isNone b.2 then _ else b.2)=_
   rw [h];rfl
  ·rw [if_neg q]
 show{M with blks:=M.blks.modify i jc}=M
 rw [this]
include hg
theorem Og{Q':Out->Loc->AH->Prop}{l0:List PV}(fin:∀m' H',O6 c M' L x H'->Framed c M' L x R H'->(∀q,w7 78 q m'=w7 78 q [(1,.obj (L .self))])->Q' .next m' H'):∀(k i:Nat) (M:Mem) (H:AH) (m':Loc),(∀q,w7 78 q m'=w7 78 q [(1,.obj (L .self))])->i+k=M.blks.length->l0=Y8 L 0 M.blks.length->O6 c M L x H->Framed c M L x R H->M.Oe i k=M'->
  ur ((Tg.name 78).w g n) (O5 g n [.iff (.cmp .Is (.at (.loc 78) 1) .none) [.asg (.sub (.loc 78) (.int 1)) (.tup [.str 139])] []]) (.obj (L .blks)) l0 Q' (Y8 L i k) m' H:=by
 intro k
 induction k with
 |zero=>exact fun i M H m' hm O O B F e=>fin m' H (e▸B) (e▸F) hm
 |succ k ih=>
  intro i M H m' hm hk hl B F e
  obtain⟨b,eb⟩:∃b,M.blks[i]? = some b:=⟨_,o7 (by exact Mine.Internal.eqs ‹_›)⟩
  have z:=ae7 B F eb
  have hl':(M.aF i).blks.length=M.blks.length:=K7 ..
  have next:∀{H},O6 c (M.aF i) L x H->Framed c (M.aF i) L x R H->itemsOf H (.obj (L .blks))=some l0/\ur ((Tg.name 78).w g n) (O5 g n [.iff (.cmp .Is (.at (.loc 78) 1) .none) [.asg (.sub (.loc 78) (.int 1)) (.tup [.str 139])] []]) (.obj (L .blks)) l0 Q' (Y8 L (i+1) k) (w7 78 (.obj (L (.bl i))) [(1,.obj (L .self))]) H:=fun B F=>
   ⟨by rw [hl,<- hl'];exact K9 (B.at_ .blks _ rfl),ih (i+1) (M.aF i) _ _ (fun q=>cF ..) (by rw [hl'];exact Mine.Internal.eqt ‹_›) (by rw [hl'];exact hl) B F e⟩
  show O5 g n _ (w7 78 (.obj (L (.bl i))) m') _ _
  rw [hm]
  refine aB (i:=1) (B.bl eb) (d9 rfl) rfl ?_
  cases hb:isNone b.2 with
  |true=>
   rw [show(jc b).2 = .tup [.str 139] from if_pos hb] at z
   exact dD hb (set_list (i:=1) (B.bl eb) (H9 1) (fC rfl) (next z.1 z.2))
  |false=>
   rw [Ja eb hb] at next
   exact LC hb (next B F)
end
inductive Tm where
 |goto (i:Nat)|sw (o v:PV) (no yes:Nat)|Oh (o x t:PV) (i:Nat)|ret|Gu
noncomputable def Tm.v:Tm->PV
 |.goto i=>.tup [.str 84,.int (i:Int)]
 |.sw o v no yes=>.tup [.str 85,o,.tup [.tup [v,.int (no:Int)]],.int (yes:Int)]
 |.Oh o x t i=>.tup [.str 88,o,x,t,.int (i:Int)]
 |.ret=>.tup [.str 247]
 |.Gu=>.tup [.str 139]
noncomputable def Tm.succ:Tm->List Nat
 |.goto i=>[i]
 |.sw _ _ no yes=>[no,yes]
 |.Oh _ _ _ i=>[i]
 |_=>[]
noncomputable def Tm.fine(N:Nat)(t:Tm):Prop:=(∀j∈t.succ,j<N)/\t.succ.Nodup
theorem Ln{a b:List Nat}:kO (a++b)=kO a++kO b:=q8
theorem TG(l:List Nat):PV.V0 (kO l)=true:=by
 induction l with
 |nil=>rfl
 |cons x l ih=>exact ih
theorem Jb(l:List Nat):PV.depths (kO l)=0:=by
 induction l with
 |nil=>rfl
 |cons x l ih=>exact(Nat.max_eq_right (z8 _)).trans ih
theorem TJ(l:List Nat)(i:Nat):((kO l).any fun y=>y.eqv (.int (i:Int)))=l.elem i:=by
 induction l with
 |nil=>rfl
 |cons x l ih=>
  show(((x:Int)==(i:Int))||_)=_
  rw [ih,List.elem_cons]
  by_cases h:i=x
  ·rw [h,J2,J2];rfl
  ·rw [show(i==x)=false from s8.mpr h,show((x:Int)==(i:Int))=false from s8.mpr fun z=>h (Int.ofNat.inj z).symm];rfl
section
variable{P:Params}{g:G (O4 P).T}(hg:N6 g){n w:Nat}{m:Loc}{H R:AH}{Q:PV->AH->Prop}{C:Bool->Prop}
theorem jE{a:Addr}{l:List Nat}{i:Nat}(e:H a=some (.list (kO l))) (h:C (!l.elem i)):wF .NotIn (.int (i:Int)) (.obj a) H C:=
 .nmem (fun a' l' z k=>by cases z;rw [e] at k;cases k) (.ol e ⟨rfl,TG l,.inl (by rw [Jb];exact z8 _)⟩ (by show C (!((kO l).any fun y=>y.eqv (.int (i:Int))));rw [TJ];exact h))
theorem nd2{a b:Nat}(h:[a,b].Nodup):[a].elem b=false:=by
 have:a≠b:=fun e=>(G5.mp h).1 (e▸.head _)
 rw [List.elem_cons,show(b==a)=false from s8.mpr fun e=>this e.symm];rfl
include hg
theorem Xy{t:Tm}(nd:t.succ.Nodup)(hn:1<=n)(h:∀F,H F=none->Q (.obj F) (upd H F (.list (kO t.succ)))):Cl g n (.obj nA) [t.v] H Q:=by
 refine(wX P).cl hg rfl hn fun n O=>?_
 cases t with
 |goto i=>exact fun F hF=>jE (l:=[]) (p8 ..) (O8 (p8 ..) (Q0 (p8 ..) (fC rfl) (by have z:=h F hF;rw [<- V2 H F (.list [])] at z;exact z)))
 |sw o v no yes=>
  have e:=nd2 nd
  refine fun D hD=>nq (ct:=.many [89,78]) (f:=fun r:PV×PV=>.tup [r.1,r.2]) (w:=fun r=>r.2) (fun m'=>m'=[]\/∃x y,m'=[(89,x),(78,y)]) (fun r=>[(89,r.1),(78,r.2)]) [(v,PV.int (no:Int))] (fun a O o m' hm=>⟨by rcases hm with rfl|⟨x,y,rfl⟩<;>rfl,.inr ⟨_,_,rfl⟩⟩) (fun a O o K k=>k) (fun O=>rfl) [] _ (.inl (yH _)) (fC rfl) ?_
  rw [K8,V3 hD]
  refine zc rfl rfl rfl (fC rfl) fun F hF=>jE (l:=[]) (p8 ..) (O8 (p8 ..) (Q0 (p8 ..) (fC rfl) (jE (l:=[no]) (p8 ..) (dD (by rw [e];rfl) (O8 (p8 ..) (Q0 (p8 ..) (fC rfl) ?_))))))
  have z:Q (.obj F) (upd (upd (upd H F (.list [])) F (.list [.int (no:Int)])) F (.list [.int (no:Int),.int (yes:Int)])):=by rw [V2,V2];exact h F hF
  exact z
 |Oh o x t i=>exact fun F hF=>jE (l:=[]) (p8 ..) (O8 (p8 ..) (Q0 (p8 ..) (fC rfl) (by have z:=h F hF;rw [<- V2 H F (.list [])] at z;exact z)))
 |ret=>exact fun F hF=>h F hF
 |Gu=>exact fun F hF=>h F hF
omit hg
noncomputable def TOk(M:Mem)(t:Nat->Tm):Prop := ∀i b,M.blks[i]? = some b->b.2=(t i).v/\(t i).fine M.blks.length
include hg
theorem xW{c:Fix}{M:Mem}{L:Role->Addr}{x:wB}(B:O6 c M L x H){i:Nat}{b:List PV×PV}(e:M.blks[i]? = some b)(hi:M.sz<=sizeLine)(hn:1<=n)(h:Q b.2 H):Cl g n (.obj dX) [.obj (L .body),.int i] H Q:=
 (lV P).cl hg rfl hn fun n hn=>H8.mk B.body B.Q8 rfl rfl (sY B (v8.mp e).1 hi (aB (i:=1) (B.bl e) (d9 rfl) rfl h))
structure Vc(t:Nat->Tm)(N:Nat)(f w:List Nat):Prop where
 nd:f.Nodup
 lf:∀i∈f,i<N
 lw:∀i∈w,i<N
 cl:∀i∈f,∀j∈(t i).succ,j∈f\/j∈w
 z:f=[]/\w=[0]\/f.head? = some 0
 su:∀S:Nat->Prop,S 0->(∀i,S i->∀j∈(t i).succ,S j)->∀i,i∈f\/i∈w->S i
omit hg
theorem Vc.skip{t:Nat->Tm}{N b:Nat}{f w:List Nat}(d:Vc t N f (w++[b]))(hb:b∈f):Vc t N f w:=by
 refine⟨d.nd,d.lf,fun i hi=>d.lw i (K5 _ hi),fun i hi j hj=>?_,?_,fun S a b i h=>d.su S a b i (h.imp id fun h=>K5 _ h)⟩
 ·rcases d.cl i hi j hj with h|h
  ·exact .inl h
  ·rcases u0.mp h with h|h
   ·exact .inr h
   ·exact .inl (j8.mp h▸hb)
 ·rcases d.z with⟨rfl,_⟩|h
  ·cases hb
  ·exact .inr h
theorem Vc.meet{t:Nat->Tm}{N b:Nat}{f w:List Nat}(d:Vc t N f (w++[b]))(hb:b∉f)(fine:(t b).fine N):Vc t N (f++[b]) (w++(t b).succ.reverse):=by
 have lb:b<N:=d.lw b (J6 _ (.head _))
 refine⟨List.nodup_append.mpr ⟨d.nd,G5.mpr ⟨List.not_mem_nil,.nil⟩,fun x hx y hy e=>hb (by rw [<- j8.mp hy,<- e];exact hx)⟩,fun i hi=>?_,fun i hi=>?_,fun i hi j hj=>?_,?_,fun S s0 sc i h=>h.elim (fun h=>(u0.mp h).elim (fun h=>d.su S s0 sc i (.inl h)) fun h=>d.su S s0 sc i (.inr (J6 _ h))) fun h=>(u0.mp h).elim (fun h=>d.su S s0 sc i (.inr (K5 _ h))) fun h=>sc b (d.su S s0 sc b (.inr (J6 _ (.head _)))) i (List.mem_reverse.mp h)⟩
 ·rcases u0.mp hi with h|h
  ·exact d.lf i h
  ·rw [j8.mp h];exact lb
 ·rcases u0.mp hi with h|h
  ·exact d.lw i (K5 _ h)
  ·exact fine.1 i (List.mem_reverse.mp h)
 ·rcases u0.mp hi with h|h
  ·rcases d.cl i h j hj with q|q
   ·exact .inl (K5 _ q)
   ·rcases u0.mp q with q|q
    ·exact .inr (K5 _ q)
    ·exact .inl (J6 _ q)
  ·rw [j8.mp h] at hj
   exact .inr (J6 _ (List.mem_reverse.mpr hj))
 ·rcases d.z with⟨rfl,h⟩|h
  ·have:b=0:=by
    have z:=congrArg List.getLast? h
    rw [List.getLast?_append] at z
    exact G6 z
   exact .inr (by rw [this];rfl)
  ·refine .inr ?_
   cases f with
   |nil=>cases h
   |cons x f=>exact h
theorem Vc.len{t:Nat->Tm}{N:Nat}{f w:List Nat}(d:Vc t N f w):f.length<=N:=by
 have:=List.Nodup.length_le_of_subset (l₂:=List.range N) d.nd fun i hi=>List.mem_range.mpr (d.lf i hi)
 rwa [List.length_range] at this
include hg
omit hg
inductive ar4(t:Nat->Tm)(N:Nat)(m0:Loc)(F W:Addr)(H:AH)(j:Nat)(m':Loc)(H':AH):Prop
 |mk (f w:List Nat) (hm:m'=m0\/∃q,m'=m0++[(78,q)]) (e1:H' F=some (.list (kO f))) (e2:H' W=some (.list (kO w))) (d:Vc t N f w) (hj:3*(N-f.length)+w.length<=j) (hj2:j<=3*N+1) (E:Ext H H'):ar4 t N m0 F W H j m' H'
include hg
theorem TP{c:Fix}{M:Mem}{L:Role->Addr}{x:wB}{t:Nat->Tm}(B:O6 c M L x H)(T:TOk M t)(hp:0<M.blks.length)(hl:4*M.blks.length+10<=sizeLine)(hi:M.sz<=sizeLine)(hn:2<=n)(h:∀F H' f,Ext H H'->H' F=some (.list (kO f))->Vc t M.blks.length f []->Q (.obj F) H'):Cl g n (.obj qN) [.obj (L .body)] H Q:=by
 refine(Bk P).cl hg rfl hn fun n hn F hF W hW=>?_
 have ne:W≠F:=fun z=>by rw [z,p8] at hW;cases hW
 have hW':H W=none:=by rw [<- hW,w5 ne]
 let m0:Loc:=[(92,.obj (L .body)),(93,.obj W),(83,.obj F)]
 refine pO.mk (ar4 t M.blks.length m0 F W H) (3*M.blks.length+1)
  ⟨[],[0],.inl rfl,(w5 ne.symm).trans (p8 ..),p8 ..,⟨.nil,fun O h=>(nomatch h),fun i hi=>j8.mp hi▸hp,fun O h=>(nomatch h),.inl ⟨rfl,rfl⟩,fun S s0 O i h=>h.elim (fun h=>nomatch h) fun h=>j8.mp h▸s0⟩,by show 3*(M.blks.length-0)+1<=3*M.blks.length+1;exact o9 _,o9 _,Ext.upd hW' (Ext.new hF)⟩ ?_
 intro j m' H' z
 obtain⟨f,w,hm,e1,e2,d,hj,hj2,E⟩:=z
 have lw:m'.lookup 93=some (.obj W):=by rcases hm with rfl|⟨q,rfl⟩<;>rfl
 have lf:m'.lookup 83=some (.obj F):=by rcases hm with rfl|⟨q,rfl⟩<;>rfl
 refine j9 lw (JX e2 (TG w) ?_)
 rcases snoc_cases w with rfl|⟨w,b,rfl⟩
 ·exact j9 lf (h F H' f E e1 d)
 have e2':H' W=some (.list (kO w++[.int (b:Int)])):=e2.trans (congrArg (fun l=>some (N7.list l)) q8)
 have fl:=d.len
 rw [d7,I4] at hj
 refine dD (by cases w<;>rfl) (j9 lw (O8 e2 (tU e2' (by rw [g8];lia) ?_)))
 have m2:w7 78 (.int (b:Int)) m'=m0++[(78,.int (b:Int))]:=by rcases hm with rfl|⟨q,rfl⟩<;>rfl
 show O5 g n _ (w7 78 (.int (b:Int)) m') _ _
 rw [m2]
 have e1':upd H' W (.list (kO w)) F=some (.list (kO f)):=(w5 ne.symm).trans e1
 have E':Ext H (upd H' W (.list (kO w))):=Ext.upd hW' E
 refine jE e1' ?_
 cases hb:f.elem b with
 |true=>exact⟨j-1,by exact Mine.Internal.qh1 ‹_›,f,w,.inr ⟨_,rfl⟩,e1',p8 ..,d.skip (List.elem_iff.mp hb),by exact Mine.Internal.qh2 ‹_›,by exact d8 (Nat.sub_le ..) ‹_›,E'⟩
 |false=>
  have nb:b∉f:=fun h=>nomatch (List.elem_iff.mpr h).symm.trans hb
  obtain⟨bl,eb⟩:∃bl,M.blks[b]? = some bl:=⟨_,o7 (d.lw b (J6 _ (.head _)))⟩
  obtain⟨tv,fine⟩:=T b bl eb
  have d':=d.meet nb fine
  have fl':=d'.len
  rw [d7,I4] at fl'
  have s2:(t b).succ.length<=2:=by cases t b<;>exact d9 rfl
  refine O8 e1' (Q0 e1' (by rw [g8];lia) ?_)
  have E2:=Ext.upd hF E' (o:=.list (kO f++[.int (b:Int)]))
  have B2:=B.ext E2
  have eW:upd (upd H' W (.list (kO w))) F (.list (kO f++[.int (b:Int)])) W=some (.list (kO w)):=(w5 ne).trans (p8 ..)
  refine O8 eW (MethP.mk B2.body B2.Q8 rfl rfl (xW hg B2 eb hi hn ?_))
  rw [tv]
  refine Xy hg fine.2 hn fun S hS=>j9 (K9 (p8 ..)) (dD (J5 (by rw [g8];exact d8 ‹_› (by decide))) ?_)
  have nS:W≠S:=fun z=>by rw [<- z,eW] at hS;cases hS
  have nF:F≠S:=fun z=>by rw [<- z,p8] at hS;cases hS
  have hS':H S=none:=by
   cases q:H S with
   |none=>rfl
   |some o=>rw [E2 _ _ q] at hS;cases hS
  refine cD ((w5 nS).trans eW) (.inr rfl) (by rw [J1,g8,g8];lia) ?_
  refine⟨j-1,by exact Mine.Internal.qh1 ‹_›,f++[b],w++(t b).succ.reverse,.inr ⟨_,rfl⟩,?_,?_,d',?_,by exact d8 (Nat.sub_le ..) ‹_›,Ext.upd hW' (Ext.upd hS' E2)⟩
  ·rw [w5 ne.symm,w5 nF,p8];exact congrArg (fun l=>some (N7.list l)) (Ln (a:=f) (b:=[b])).symm
  ·rw [p8,<- List.map_reverse];exact congrArg (fun l=>some (N7.list l)) (Ln (a:=w)).symm
  ·rw [d7,d7,J1,I4];lia
end
noncomputable def Tm.map(ρ:Nat->Nat):Tm->Tm
 |.goto i=>.goto (ρ i)
 |.sw o v no yes=>.sw o v (ρ no) (ρ yes)
 |.Oh o x t i=>.Oh o x t (ρ i)
 |.ret=>.ret
 |.Gu=>.Gu
noncomputable def Turns{τ:T}(g:G τ)(p:PV)(D:Addr)(l:List (Int×PV))(ρ:Nat->Nat)(js:List Nat):Prop:=Plain g p/\∀(k j:Nat) (H':AH) (Q':PV->AH->Prop),1<=k->j∈js->H' D=some (.N5 l)->Q' (.int ((ρ j:Nat):Int)) H'->Cl g k p [.int (j:Int)] H' Q'
section
variable{P:Params}{g:G (O4 P).T}(hg:N6 g){n w:Nat}{m:Loc}{H R:AH}{Q:PV->AH->Prop}{C:Bool->Prop}
include hg
theorem xX{t:Tm}{p:PV}{ρ:Nat->Nat}{D:Addr}{l:List (Int×PV)}(K:Turns g p D l ρ t.succ)(e:H D=some (.N5 l))(hn:2<=n)(h:Q (t.map ρ).v H):Cl g n (.obj nC) [t.v,p] H Q:=by
 refine(wY P).cl hg rfl hn fun n hn=>?_
 cases t with
 |goto i=>exact⟨K.1,K.2 n i H _ hn (.head _) e h⟩
 |sw o v no yes=>
  refine fun A hA=>?_
  have ne:D≠A:=fun z=>by rw [z,hA] at e;cases e
  refine nq (ct:=.many [89,78]) (f:=fun r:PV×PV=>.tup [r.1,r.2]) (w:=fun O=>.tup [v,.int ((ρ no:Nat):Int)]) (fun m'=>m'=[(90,p)]\/∃x y,m'=[(90,p),(89,x),(78,y)]) (fun r=>[(90,p),(89,r.1),(78,r.2)]) [(v,PV.int (no:Int))]
   (fun a O o m' hm=>⟨by rcases hm with rfl|⟨x,y,rfl⟩<;>rfl,.inr ⟨_,_,rfl⟩⟩) (fun a ha o k kk=>?_) (fun O=>rfl) [] _ (.inl rfl) (fC rfl) ?_
  ·cases j8.mp ha
   exact⟨K.1,K.2 n no _ _ hn (.head _) ((w5 ne).trans e) kk⟩
  ·rw [K8,V3 hA]
   exact Df (.inr rfl) (fC rfl) ⟨K.1,K.2 n yes H _ hn (.tail _ (.head _)) e h⟩
 |Oh o x t i=>exact Qg.mk ⟨⟨by decide,by show(4:Int)<5;decide,fC rfl⟩,K.1,K.2 n i H _ hn (.head _) e (yG (fC rfl) h)⟩
 |ret=>exact h
 |Gu=>exact h
end
theorem FT{K:Type} [DecidableEq K]{k:K}{v:PV}:∀{l:List (K×PV)},Y0 k l=some v->(k,v)∈l
 | [],h=>nomatch h
 |x::r,h=>by
  unfold Y0 at h
  by_cases e:x.1=k
  ·rw [if_pos e] at h;cases h;rw [<- e];exact .head _
  ·rw [if_neg e] at h;exact .tail _ (FT h)
theorem zu{α:Type}{p q:α->Bool}(le:∀e,p e=true->q e=true):∀{l:List α},(∃e∈l,q e=true/\p e=false)->l.countP p+1<=l.countP q
 | [],h=>by obtain⟨_,h,_⟩:=h;cases h
 |x::r,h=>by
  rw [List.countP_cons,List.countP_cons]
  have mono:r.countP p<=r.countP q:=List.countP_mono_left fun e O=>le e
  have up:=fun h=>zu (p:=p) (q:=q) le (l:=r) h
  obtain⟨e,he,h1,h2⟩:=h
  rcases q7.mp he with rfl|he
  ·rw [h1,h2];simp;omega
  ·have:=up ⟨e,he,h1,h2⟩
   cases a:p x with
   |true=>rw [le x a];simp;omega
   |false=>simp only [K6,if_false];exact d8 ‹_› (Nat.le_add_right ..)
noncomputable def cd(dn:List Nat)(e:(Int×Int)×PV):Bool:=dn.any fun i=>decide (e.1.1=(i:Int))
noncomputable def cp(dn:List Nat)(b J:Nat)(e:(Int×Int)×PV):Bool:=cd dn e||(decide (e.1.1=(b:Int))&&decide (e.1.2<(J:Int)))
theorem Lp{dn:List Nat}{b J:Nat}{e:(Int×Int)×PV}(h:cp dn b J e=true):cp dn b (J+1) e=true:=by
 simp only [cp,Bool.or_eq_true,Bool.and_eq_true,decide_eq_true_eq] at h ⊢
 exact h.imp id fun h=>⟨h.1,by have:=h.2;lia⟩
theorem Xz{dn:List Nat}{b J:Nat}{e:(Int×Int)×PV}(h:cp dn b J e=true):cd (dn++[b]) e=true:=by
 simp only [cp,cd,Bool.or_eq_true,Bool.and_eq_true,decide_eq_true_eq,List.any_append,List.any_cons,List.any_nil,Bool.or_false] at h ⊢
 exact h.imp id fun h=>h.1
noncomputable def Jc:Nat->List Nat->List (Int×PV)
 |_,[]=>[]
 |i,b::r=>((b:Int),.int (i:Int))::Jc (i+1) r
theorem tG:∀(l:List Nat) (i:Nat),(Jc i l).length=l.length
 | [],_=>rfl
 |_::r,i=>congrArg (·+ 1) (tG r (i+1))
theorem Lq{b:Nat}:∀(l:List Nat) (i:Nat),b∉l->fJ (b:Int) (.int ((i+l.length:Nat):Int)) (Jc i l)=Jc i (l++[b])
 | [],i,_=>rfl
 |c::r,i,h=>by
  have ne:¬((c:Int)=(b:Int)):=fun e=>h (Int.ofNat.inj e▸.head _)
  show fJ _ _ (((c:Int),PV.int (i:Int))::Jc (i+1) r)=_
  rw [mU (q:=((c:Int),PV.int (i:Int))) ne,m8,show i+(r.length+1)=i+1+r.length by lia,Lq r (i+1) fun h'=>h (.tail _ h')];rfl
noncomputable def V9(j:Nat):List Nat->Nat
 | []=>0
 |c::r=>if c=j then 0 else V9 j r+1
theorem vQ{j:Nat}:∀{l:List Nat},j∈l->l[V9 j l]? = some j
 | [],h=>nomatch h
 |c::r,h=>by
  show(c::r)[if c=j then 0 else V9 j r+1]? = _
  by_cases e:c=j
  ·rw [if_pos e,e];rfl
  ·rw [if_neg e,I3]
   exact vQ ((q7.mp h).resolve_left fun z=>e z.symm)
theorem Ce{j:Nat}:∀(l:List Nat) (i:Nat),j∈l->Y0 (j:Int) (Jc i l)=some (.int ((i+V9 j l:Nat):Int))
 | [],_,h=>nomatch h
 |c::r,i,h=>by
  show(if(c:Int)=(j:Int) then some (PV.int (i:Int)) else Y0 (j:Int) (Jc (i+1) r))=some (.int ((i+(if c=j then 0 else V9 j r+1):Nat):Int))
  by_cases e:c=j
  ·rw [if_pos (show(c:Int)=(j:Int) from congrArg Int.ofNat e),if_pos e];rfl
  ·rw [if_neg (show ¬(c:Int)=(j:Int) from fun z=>e (Int.ofNat.inj z)),if_neg e,Ce r (i+1) ((q7.mp h).resolve_left fun z=>e z.symm)]
   congr 3;exact Nat.add_right_comm ..
section
variable{P:Params}{g:G (O4 P).T}(hg:N6 g){n w:Nat}{m:Loc}{H R:AH}{Q:PV->AH->Prop}{C:Bool->Prop}
theorem ar5{a:Addr}{l:List ((Int×Int)×PV)} {i j:Int} (e:H a=some (.Q9 l)) (h:C (Y0 (i,j) l).isSome):wF .In (.tup [.int i,.int j]) (.obj a) H C:=.mem (.ot e h)
theorem Oi{a:Addr}{l:List ((Int×Int)×PV)} {i j:Int} {r:PV} (o:H a=some (.Q9 l)) (e:Y0 (i,j) l=some r) (h:Q r H):SubL g (.obj a) (.tup [.int i,.int j]) H Q:=.ot o e h
structure WM(m:Loc)(bd kp:PV)(D Bl Sp:Addr):Prop where
 body:m.lookup 92=some bd
 kept:m.lookup 95=some kp
 places:m.lookup 96=some (.obj D)
 blocks:m.lookup 73=some (.obj Bl)
 spots:m.lookup 74=some (.obj Sp)
theorem WM.set{bd kp:PV}{D Bl Sp:Addr}{y:Nat}{q:PV}(h:WM m bd kp D Bl Sp)(e:[92,95,96,73,74].elem y=false):WM (w7 y q m) bd kp D Bl Sp:=by
 have ne:∀x,[92,95,96,73,74].elem x=true->x≠y:=fun x hx z=>by rw [z,e] at hx;cases hx
 exact⟨Q5 (ne _ rfl) h.body,Q5 (ne _ rfl) h.kept,Q5 (ne _ rfl) h.places,Q5 (ne _ rfl) h.blocks,Q5 (ne _ rfl) h.spots⟩
theorem FW{c:Fix}{M:Mem}{L:Role->Addr}{x:wB}(B:O6 c M L x H){kp:PV}{D Bl Sp:Addr}{b N1:Nat}{dn f:List Nat}{done l0:List PV}(hb:b∈f)(hnb:b∉dn)(hz:M.sz+1<=sizeLine){Q':Out->Loc->AH->Prop}
  (fin:∀m' H' sG,WM m' (.obj (L .body)) kp D Bl Sp->St H H' [(Sp,.Q9 sG),(Bl,.list done),(D,.N5 (Jc 0 f))]->sG.length<=x.sp.countP (cd (dn++[b]))->Q' .next m' H'):∀(k i:Nat) (m:Loc) (H1:AH) (sG:List ((Int×Int)×PV)),
  WM m (.obj (L .body)) kp D Bl Sp->m.lookup 78=some (.int (b:Int))->St H H1 [(Sp,.Q9 sG),(Bl,.list done),(D,.N5 (Jc 0 f))]->sG.length<=x.sp.countP (cp dn b i)->
  ur ((Tg.name 97).w g n) (O5 g n [.iff (.cmp .In (.tup [.loc 78,.loc 97]) (.attr (.loc 92) 74)) [.asg (.sub (.loc 74) (.tup [.sub (.loc 96) (.loc 78),.loc 97])) (.sub (.attr (.loc 92) 74) (.tup [.loc 78,.loc 97]))] []]) (.rng 0 (N1:Int)) l0 Q' (S6 (i:Int) k) m H1:=by
 intro k
 induction k with
 |zero=>exact fun i m H1 sG wm O s hs=>fin m H1 sG wm s (d8 hs (List.countP_mono_left fun e O=>Xz))
 |succ k ih=>
  intro i m H1 sG wm hbk s hs
  have Zd:=wm.set (y:=97) (q:=.int (i:Int)) rfl
  have XC:(w7 97 (.int (i:Int)) m).lookup 78=some (.int (b:Int)):=Q5 (by decide) hbk
  have B1:=B.ext s.keep
  have next:∀sG H2,St H H2 [(Sp,.Q9 sG),(Bl,.list done),(D,.N5 (Jc 0 f))]->sG.length<=x.sp.countP (cp dn b (i+1))->_:=fun sG H2 s2 h2=>ih (i+1) (w7 97 (.int (i:Int)) m) H2 sG Zd XC s2 h2
  show lk _ _
  refine j9 XC (j9 T8 (j9 Zd.body (H8.mk B1.body B1.Q8 rfl rfl (ar5 (B1.at_ .spots _ rfl) ?_))))
  cases e:Y0 ((b:Int),(i:Int)) x.sp with
  |none=>exact next sG H1 s (d8 hs (List.countP_mono_left fun e O=>Lp))
  |some v=>
   have up:sG.length+1<=x.sp.countP (cp dn b (i+1)):=by
    refine d8 (J7 hs) (zu (fun e h=>Lp h) ⟨_,FT e,?_,?_⟩)
    ·exact Bool.or_eq_true_iff.mpr (.inr (q9.mpr ⟨decide_eq_true rfl,decide_eq_true (by show(i:Int)<((i+1:Nat):Int);exact Int.le_refl _)⟩))
    ·refine Bool.or_eq_false_iff.mpr ⟨List.any_eq_false.mpr fun j hj=>?_,Bool.and_eq_false_iff.mpr (.inr (decide_eq_false (Int.lt_irrefl _)))⟩
     rw [decide_eq_true_eq]
     exact fun z=>hnb (Int.ofNat.inj z▸hj)
   refine j9 Zd.body (H8.mk B1.body B1.Q8 rfl rfl (j9 XC (j9 T8 (Oi (B1.at_ .spots _ rfl) e ?_))))
   refine j9 Zd.spots (j9 Zd.places (j9 XC (Mu (s.at 2 rfl) (Ce f 0 hb) (j9 T8 (yF (s.at 0 rfl) rfl ?_ ?_)))))
   ·exact d8 (v7 (d8 up List.countP_le_length)) (d8 B.sp (v7 hz))
   ·exact next _ _ (s.put 0 rfl _) (d8 (qG _ _ _) up)
end
section
variable{P:Params}{g:G (O4 P).T}(hg:N6 g){n w:Nat}{m:Loc}{H R:AH}{Q:PV->AH->Prop}{C:Bool->Prop}
theorem ar6{ns:List (Str×NameKind)}{c:Addr}{q:Str}(e:(O4 P).T.lam ns=some (c,R3,q)):q=cV:=by
 obtain⟨path,e⟩:=QD e
 have e':some ([25],223,219,cV)=some (path,c,R3,q):=e
 cases e'
 rfl
theorem dB6:jg (O4 P).T jk 6 []:=jg.of (fd:=_) (ps:=_) rfl [] rfl fun vs h S=>by
 obtain⟨a,r,e1,h1⟩:=Y9 h
 obtain⟨b,r',e2,h2⟩:=Y9 h1
 obtain⟨c,r2,e3,h3⟩:=Y9 h2
 obtain⟨d,r3,e4,h4⟩:=Y9 h3
 obtain⟨e,f,e5⟩:=len2 h4
 rw [e1,e2,e3,e4,e5];rfl
include hg
theorem Cg{bd kp:PV}{D:Addr}{f:List Nat}(nd:f.Nodup)(hz:f.length<=sizeLine){l0:List PV}{Q':Out->Loc->AH->Prop}
  (fin:∀m' H',m'.lookup 92=some bd->m'.lookup 95=some kp->m'.lookup 96=some (.obj D)->St H H' [(D,.N5 (Jc 0 f))]->Q' .next m' H'):∀(r pre:List Nat) (m:Loc) (H1:AH),
  m.lookup 92=some bd->m.lookup 95=some kp->m.lookup 96=some (.obj D)->St H H1 [(D,.N5 (Jc 0 pre))]->f=pre++r->
  ur ((Tg.name 78).w g n) (O5 g n [.asg (.sub (.loc 96) (.loc 78)) (.call 31 [.loc 96])]) (.lst l0) l0 Q' (kO r) m H1:=by
 intro r
 induction r with
 |nil=>exact fun pre m H1 e1 e2 e3 s e=>fin m H1 e1 e2 e3 (by rw [e,s7];exact s)
 |cons b r ih=>
  intro pre m H1 e1 e2 e3 s e
  have hl:pre.length+(r.length+1)=f.length:=by rw [e,d7,m8]
  have nb:b∉pre:=fun h=>by
   rw [e] at nd
   exact(List.nodup_append.mp nd).2.2 b h b (.head _) rfl
  have e3':(w7 78 (.int (b:Int)) m).lookup 96=some (.obj D):=Q5 (by decide) e3
  have z:=Lq pre 0 nb
  rw [z6] at z
  refine j9 e3' (VL hg (s.at 0 rfl) (by rw [tG];rw [p7] at hz;lia) (j9 e3' (j9 T8 (Mv (s.at 0 rfl) (by rw [tG];lia) ?_))))
  rw [tG,z]
  exact ih (pre++[b]) _ _ (Q5 (by decide) e1) (Q5 (by decide) e2) e3' (s.put 0 rfl _) (by rw [e,j7];rfl)
noncomputable def sH(M:Mem)(t:Nat->Tm)(f:List Nat)(b:Nat):PV:=.lst [.lst ((M.blks[b]?.map (·.1)).getD []),((t b).map fun j=>V9 j f).v]
theorem Ci{c:Fix}{M:Mem}{L:Role->Addr}{x:wB}{t:Nat->Tm}(B:O6 c M L x H)(T:TOk M t)(hP:H R3=some (.code cV)){kp:PV}{D Bl Sp:Addr}{f:List Nat}(nd:f.Nodup)(lf:∀i∈f,i<M.blks.length)(cl:∀i∈f,∀j∈(t i).succ,j∈f)
  (hz:M.sz+1<=sizeLine) (hfz:f.length<=sizeLine) (hn:3<=n) {l0:List PV} {Q':Out->Loc->AH->Prop}
  (fin:∀m' H' sG,WM m' (.obj (L .body)) kp D Bl Sp->St H H' [(Sp,.Q9 sG),(Bl,.list (f.map (sH M t f))),(D,.N5 (Jc 0 f))]->Q' .next m' H'):∀(r pre:List Nat) (m:Loc) (H1:AH) (sG:List ((Int×Int)×PV)),
  WM m (.obj (L .body)) kp D Bl Sp->St H H1 [(Sp,.Q9 sG),(Bl,.list (pre.map (sH M t f))),(D,.N5 (Jc 0 f))]->sG.length<=x.sp.countP (cd pre)->f=pre++r->
  ur ((Tg.name 78).w g n) (O5 g n [.asg (.tup [.name 99,.name 81]) (.sub (.attr (.loc 92) 73) (.loc 78)),.Qq 73 67 (.call 76 [.loc 99]) 81 96 101 100 R3,.for (.name 97) (.call 69 [.bin .Add (.call 31 [.loc 99]) (.int 1)]) [.iff (.cmp .In (.tup [.loc 78,.loc 97]) (.attr (.loc 92) 74)) [.asg (.sub (.loc 74) (.tup [.sub (.loc 96) (.loc 78),.loc 97])) (.sub (.attr (.loc 92) 74) (.tup [.loc 78,.loc 97]))] []]]) (.lst l0) l0 Q' (kO r) m H1:=by
 intro r
 induction r with
 |nil=>exact fun pre m H1 sG wm s hs e=>fin m H1 sG wm (by rw [show f.map (sH M t f)=pre.map (sH M t f) from congrArg (List.map (sH M t f)) (e.trans (s7 _))];exact s)
 |cons b r ih=>
  intro pre m H1 sG wm s hs e
  have bf:b∈f:=by rw [e];exact J6 _ (.head _)
  have nb:b∉pre:=fun h=>by
   rw [e] at nd
   exact(List.nodup_append.mp nd).2.2 b h b (.head _) rfl
  obtain⟨bl,eb⟩:∃bl,M.blks[b]? = some bl:=⟨_,o7 (lf b bf)⟩
  obtain⟨tv,fine⟩:=T b bl eb
  have B1:=B.ext s.keep
  have hsz:=v7 hz
  have Zd:=wm.set (y:=78) (q:=.int (b:Int)) rfl
  refine j9 Zd.body (H8.mk B1.body B1.Q8 rfl rfl (j9 T8 (sY B1 (lf b bf) hsz ?_)))
  show lk _ _
  refine j9 (K9 (B1.bl eb)) (dD rfl ?_)
  have wm2:=(Zd.set (y:=99) (q:=.obj (L (.st b))) rfl).set (y:=81) (q:=bl.2) rfl
  have ls:=B.ok.sts bl (u6 eb)
  refine j9 wm2.blocks (O8 (s.at 1 rfl) (j9 (Q5 (by decide) T8) (zY (.inr (K9 (B1.st eb))) (d8 ls hsz) (.inl ?_))))
  refine Mq.mk T8 wm2.places rfl (fun ns cc q el=>?_) fun g' hg' F pl K=>?_
  ·rw [ar6 el];exact s.keep _ _ hP
  rw [tv]
  refine xX hg' (D:=D) (l:=Jc 0 f) (ρ:=fun j=>V9 j f) ⟨pl,fun k j H' Q' k1 hj e q=>K k j _ _ H' Q' k1 e (Ce f 0 (cl b bf j hj)) (by rw [z6];exact q)⟩ (s.at 2 rfl) (leB hn rfl) ?_
  refine Q0 (s.at 1 rfl) ?_ ?_
  ·rw [g8]
   have:f.length=pre.length+(r.length+1):=by rw [e,d7,m8]
   lia
  have s2:=s.put 1 rfl (.list (pre.map (sH M t f)++[.lst [.lst bl.1,((t b).map fun j=>V9 j f).v]]))
  have B2:=B.ext s2.keep
  refine j9 (Q5 (by decide) T8) (S5 (len_list (B2.st eb)) (by rw [p7] at hsz;lia) (fM ?_))
  rw [p7] at hsz
  refine And.intro ⟨by decide,by decide,by lia,by lia⟩ (j9 (x:=S6 ((0:Nat):Int) (bl.1.length+1)) (congrArg (fun k=>some (S6 0 k)) (by lia)) ?_)
  refine FW B (kp:=kp) (N1:=bl.1.length+1) (dn:=pre) bf nb hz (fun m' H' aC5 wm3 s3 hs3=>ih (pre++[b]) m' H' aC5 wm3 ?_ hs3 (by rw [e,j7];rfl)) (bl.1.length+1) 0 _ _ sG (tv▸wm2) (Q5 (by decide) (Q5 (by decide) T8)) s2 (d8 hs (List.countP_mono_left fun e O h=>Bool.or_eq_true_iff.mpr (.inl h)))
  rw [q8,show [b].map (sH M t f)=[.lst [.lst bl.1,((t b).map fun j=>V9 j f).v]] from congrArg (fun z=>[z]) (by unfold sH;rw [eb];rfl)]
  exact s3
theorem vR{c:Fix}{M:Mem}{L:Role->Addr}{x:wB}{t:Nat->Tm}(B:O6 c M L x H)(T:TOk M t)(hP:H R3=some (.code cV)){f:List Nat}(nd:f.Nodup)(lf:∀i∈f,i<M.blks.length)(cl:∀i∈f,∀j∈(t i).succ,j∈f)
  (hz:M.sz+1<=sizeLine) (hn:4<=n) (h:∀b Q8 bl H' a1 a2 a3 a5,Ext H H'->H' b=some (.inst gR Q8)->H' Q8=some (.attrs [(40,a1),(71,a2),(75,a3),(73,.obj bl),(74,a5)])->H' bl=some (.list (f.map (sH M t f)))->Q (.obj b) H'):
  Cl g n (.obj kW) [.obj (L .body),.lst (kO f)] H Q:=by
 have fl:f.length<=M.blks.length:=by
  have:=List.Nodup.length_le_of_subset (l₂:=List.range M.blks.length) nd fun i hi=>List.mem_range.mpr (lf i hi)
  rwa [List.length_range] at this
 have fz:f.length<=sizeLine:=d8 fl (d8 B.ok.blks (v7 hz))
 refine(uZ P).cl hg rfl hn fun n hn=>fun D hD=>?_
 refine Cg hg nd fz (bd:=.obj (L .body)) (kp:=.lst (kO f)) (fun m' H1 e1 e2 e3 s=>?_) f [] _ _ rfl rfl rfl ((St.nil H).new hD (.N5 [])) rfl
 refine fun Bl hBl Sp hSp=>?_
 have s2:=(s.new hBl (.list [])).new hSp (.Q9 [])
 have wm0:WM (w7 73 (.obj Bl) (w7 74 (.obj Sp) m')) (.obj (L .body)) (.lst (kO f)) D Bl Sp:=⟨Q5 (by decide) (Q5 (by decide) e1),Q5 (by decide) (Q5 (by decide) e2),Q5 (by decide) (Q5 (by decide) e3),T8,Q5 (by decide) T8⟩
 have se:qH ([73,74]:List Nat).reverse [PV.obj Bl,PV.obj Sp].reverse m'=w7 73 (.obj Bl) (w7 74 (.obj Sp) m'):=rfl
 show lk (List.lookup 95 (qH ([73,74]:List Nat).reverse [PV.obj Bl,PV.obj Sp].reverse m')) _
 rw [se]
 refine j9 (x:=.lst (kO f)) wm0.kept ?_
 refine Ci hg B T hP nd lf cl hz fz hn (kp:=.lst (kO f)) (D:=D) (Bl:=Bl) (Sp:=Sp) (fun m2 H2 sG wm s=>?_) f [] _ _ [] wm0 s2 (z8 _) rfl
 have B2:=B.ext s.keep
 refine j9 wm.body (H8.mk B2.body B2.Q8 rfl rfl (j9 wm.body (H8.mk B2.body B2.Q8 rfl rfl (j9 wm.body (H8.mk B2.body B2.Q8 rfl rfl (j9 wm.blocks (j9 wm.spots ?_)))))))
 refine make hg rfl hn fun n b Q8 H' hn u=>(nR P).Xd hg dB6 rfl hn fun n O=>u.set 0 1 rfl rfl rfl rfl fun H' u=>u.set 0 1 rfl rfl rfl rfl fun H' u=>zY (.inr (K9 ((B2.ext u.keep).at_ .locs _ rfl))) ?_ (.inl (u.set 0 1 rfl rfl rfl rfl fun H' u=>u.set 0 1 rfl rfl rfl rfl fun H' u=>u.set 0 1 rfl rfl rfl rfl fun H' u=>And.intro rfl (h b Q8 Bl H' _ _ _ _ (s.keep.trans u.keep) (u.at 0 rfl) (u.at 1 rfl) (u.keep _ _ (s.at 1 rfl)))))
 rw [B.rows.length]
 exact d8 B.ok.tys (v7 hz)
end
structure Done(M:Mem)(t:Nat->Tm)(f:List Nat)(R:AH)(b:Addr)(H':AH):Prop where
 nd:f.Nodup
 lf:∀i∈f,i<M.blks.length
 cl:∀i∈f,∀j∈(t i).succ,j∈f
 z:f[0]? = some 0
 ty:M.tys.length<=M.sz
 bk:M.blks.length<=M.sz
 keep:∀y o,R y=some o->H' y=some o
 su:∀S:Nat->Prop,S 0->(∀i,S i->∀j∈(t i).succ,S j)->∀i∈f,S i
 ob:∃Q8 bl a1 a2 a3 a5,H' b=some (.inst gR Q8)/\H' Q8=some (.attrs [(40,a1),(71,a2),(75,a3),(73,.obj bl),(74,a5)])/\H' bl=some (.list (f.map (sH M t f)))
section
variable{P:Params}{g:G (O4 P).T}(hg:N6 g){n w:Nat}{m:Loc}{c:Fix}(hfu:c.fu=1){M M':Mem}{H R:AH}{Q:PV->AH->Prop}{self:Addr}{i:Nat}{p:PV}
theorem Lr:∀(k i:Nat) (M:Mem),(M.Oe i k).sz=M.sz
 |0,_,_=>rfl
 |k+1,i,M=>Lr k (i+1) (M.aF i)
include hg
theorem FZ{t:Nat->Tm}(B:M6 c self M R H)(T:TOk M.fix t)(hp:0<M.blks.length)(hz:4*M.sz+10<=sizeLine)(hS:M.blks.length<=60)(hP:R R3=some (.code cV))(hn:6<=n)(h:∀f b H',Done M.fix t f R b H'->Q (.obj b) H'):Cl g n (.obj dY) [.obj self] H Q:=by
 refine(lW P).cl hg rfl hn fun n hn=>?_
 obtain⟨L,x,rfl,B,F⟩:=B
 refine H8.mk B.self B.dx rfl rfl (H8.mk B.body B.Q8 rfl rfl (j9 (K9 (B.at_ .blks _ rfl)) ?_))
 have fb:M.fix.blks.length=M.blks.length:=by rw [jD,g8]
 refine Og hg (l0:=Y8 L 0 M.blks.length) (M':=M.fix) (fun m' H1 B1 F1 hm=>?_) M.blks.length 0 M H _ (fun O=>rfl) (z6 _) rfl B F rfl
 have ls:m'.lookup 1=some (.obj (L .self)):=by
  have z:=congrArg (List.lookup 1) (hm .none)
  rw [M9,if_neg (by decide),M9,if_neg (by decide)] at z
  exact z
 have sz:M.fix.sz=M.sz:=Lr _ _ _
 have lb:=B1.ok.blks
 rw [sz] at lb
 refine j9 ls (H8.mk B1.self B1.dx rfl rfl (j9 ls (H8.mk B1.self B1.dx rfl rfl (TP hg B1 T (by rw [fb];exact hp) (by lia) (by rw [sz];lia) (leB hn rfl) fun F' H2 f E e d=>?_))))
 obtain⟨l,rfl⟩:∃l,f=0::l:=by
  rcases d.z with⟨_,z⟩|z
  ·cases z
  ·cases f with
   |nil=>cases z
   |cons y l=>cases z;exact⟨l,rfl⟩
 have fl:=d.len
 rw [m8] at fl
 have hl:(0::l).length<=60:=by rw [m8];exact d8 fl (by rw [fb];exact hS)
 refine Mw e (show l.length<63 from G9 (H9 _) (d8 hl (by decide))) fun l' pm=>?_
 have mm:∀i,i∈0::l' ↔ i∈0::l:=fun i=>pm.mem_iff
 have B2:=B1.ext E
 have cl:∀i∈0::l',∀j∈(t i).succ,j∈0::l':=fun i hi j hj=>(mm j).mpr ((d.cl i ((mm i).mp hi) j hj).resolve_right List.not_mem_nil)
 refine vR hg B2 T (E _ _ (F1 _ _ hP).1) (pm.nodup_iff.mpr d.nd) (fun i hi=>d.lf i ((mm i).mp hi)) cl (by rw [sz];lia) (leB hn rfl) fun b Q8 bl H' a1 a2 a3 a5 E2 e1 e2 e3=>?_
 exact h _ b H' ⟨pm.nodup_iff.mpr d.nd,fun i hi=>d.lf i ((mm i).mp hi),cl,rfl,B2.ok.tys,B2.ok.blks,fun y o z=>E2 _ _ (E _ _ (F1 y o z).1),fun S s0 sc i hi=>d.su S s0 sc i (.inl ((mm i).mp hi)),Q8,bl,a1,a2,a3,a5,e1,e2,e3⟩
omit hg
theorem M6.keep(B:M6 c self M R H){y:Addr}{o:N7}(e:R y=some o):H y=some o:=by
 obtain⟨L,x,_,_,F⟩:=B
 exact(F y o e).1
include hg
theorem vU(hn:1<=n)(h:Q .none H):Cl g n (.obj W4) [.obj self,.tup []] H Q:=(bW P).cl hg rfl hn fun n O=>h
theorem TQ{tf Od w Gv sg lw:Addr}{pn:Nat}{wl:List (Nat×PV)}{rows:List (PV×PV×PV)}{l:List Wy}{as:List Z8}{tys:List jx}{t:Nat->Tm}(hl:rows.length<=100)(hw:l.length<=3)(t1:H tf=some (.inst cI Od))
  (t2:H Od=some (.attrs [(119,.str pn),(75,.obj lw),(39,.tup []),(122,aG),(92,Oc l as)])) (t3:H lw=some (.list (rows.map gw))) (w1:H w=some (.inst jK Gv)) (w2:H Gv=some (.attrs wl)) (w3:wl.lookup 121=some (.obj sg)) (w4:H sg=some (.T9 []))
  (ht:aG::rows.map (fun r=>r.2.1)=tys.map (jx.v l)) (hx:tys[1]? = some .x) (ok:mz (RG tys) as) (T:TOk ((lowG (O9 l) as tys).mem l).fix t) (hb:(lowG (O9 l) as tys).nb<=60) (hz:4*(lowG (O9 l) as tys).sz+10<=sizeLine) (hP:H R3=some (.code cV)) (hn:17<=n)
  (h:∀f b H',Done ((lowG (O9 l) as tys).mem l).fix t f H b H'->Q (.obj b) H'):Cl g n (.obj sX) [.obj tf,.obj w] H Q:=by
 refine(Ej P).cl hg rfl hn fun n hn=>?_
 have gM:=Xr (RG tys).push.push (O9 l) as
 have p1:=zp ((RG tys).push.push.xM (O9 l) as)
 have p2:=zp ((RG tys).push.push.xM (O9 l) as).pop
 have z0:((RG tys).push.push.xM (O9 l) as).pop.pop.sz+2=(lowG (O9 l) as tys).sz:=rfl
 have z1:(lowG (O9 l) as tys).sz<=sizeLine:=by lia
 have z2:((RG tys).push.push.xM (O9 l) as).pop.pop.sz<=sizeLine:=by lia
 have z3:=d8 p2.2.2 z2
 have z4:=d8 p1.2.2 z3
 have z5:=d8 gM.sz z4
 refine oY hg rfl hl t1 t2 t3 w1 w2 w3 w4 (leB hn rfl) fun a dx b Q8 lc bl sp fr al d1 d2 rw st0 OD H1 s=>?_
 have B:=TF hl s
 have em:Tz (aG::rows.map fun r=>r.2.1)=(RG tys).mem l:=by rw [ht];rfl
 rw [em] at B
 refine B.me rfl rfl (Sd hg B (v7 z5) (leB hn rfl) fun r H2 B=>B.attr rfl fun O O O O O=>⟨_,rfl,?_⟩)
 refine B.me rfl rfl (Sd hg B z5 (leB hn rfl) fun r H3 B=>B.me rfl rfl (H8.mk (B.keep t1) (B.keep t2) rfl rfl (vU hg (leB hn rfl) ?_)))
 refine B.me rfl rfl (H8.mk (B.keep t1) (B.keep t2) rfl rfl (IV hg rfl hw B hx ok z4 (leB hn rfl) fun H4 B=>?_))
 refine B.me rfl rfl (ae1 hg (f:=[]) (fs:=[[]]) B gM.frs z3 (leB hn rfl) fun H5 B=>B.me rfl rfl (ae1 hg (f:=[]) (fs:=[]) B (by rw [Lh,gM.frs];rfl) z2 (leB hn rfl) fun H6 B=>?_))
 refine B.me rfl rfl (mj hg (t:=.ret) B z1 (leB hn rfl) fun H7 B=>B.me rfl rfl ?_)
 exact FZ hg B T (by rw [Fd];exact G3 (z8 _) (Lk B)) hz (by rw [Fd];exact hb) hP (leB hn rfl) fun f b H' d=>h f b H' d
end
noncomputable def SrcAt(a:Addr)(H:AH):Prop := ∃x y:Int,H a=some (.list [.int x,.int y])/\0<=y/\y<2147483647
structure gA(a:Addr)(H H':AH):Prop where
 at_:SrcAt a H'
 keep:∀b,b≠a->H' b=H b
theorem gA.trans{a:Addr}{H H' Gp:AH}(s:gA a H H')(t:gA a H' Gp):gA a H Gp:=⟨t.at_,fun b ne=>(t.keep b ne).trans (s.keep b ne)⟩
theorem gA.put{a:Addr}{H:AH}{x y:Int}(h:0<=y/\y<2147483647):gA a H (upd H a (.list [.int x,.int y])):=⟨⟨x,y,p8 ..,h⟩,fun b ne=>w5 ne⟩
theorem fm{x:Int}{k:Nat}(h:0<k):∃d:Nat,d<k/\x.fmod (k:Int)=(d:Int):=by
 have a:=Int.fmod_nonneg_of_pos x (b:=(k:Int)) (by omega)
 have b:=Int.fmod_lt_of_pos x (b:=(k:Int)) (by exact Int.ofNat_lt.mpr ‹_›)
 exact⟨(x.fmod k).toNat,by omega,by omega⟩
theorem ar7{a b:Int}(h:b≠0):pG .Mod a b=some (a.fmod b):=if_neg h
theorem aC6{a b:Int}(h:b≠0/\b.natAbs<1073741824):pG .FloorDiv a b=some (a.fdiv b):=if_pos h
theorem XD{a b:Int}(h:a.natAbs<2 ^ 62\/b.natAbs<2 ^ 62):pG .Mult a b=some (a*b):=if_pos h
section
variable{P:Params}{g:G (O4 P).T}(hg:N6 g){n w:Nat}{m:Loc}{H:AH}{Q:PV->AH->Prop}{src:Addr}
include hg
theorem oZ{top:Nat}(S:SrcAt src H)(ht:0<top)(ht2:top<1073741824)(hn:1<=n)(h:∀(d:Nat) H',d<top->gA src H H'->Q (.int (d:Int)) H'):Cl g n (.obj qQ) [.obj src,.int (top:Int)] H Q:=by
 obtain⟨x,y,e,y0,y1⟩:=S
 refine(Bq P).cl hg rfl hn fun n O=>?_
 have t0:¬((top:Int)=0):=by lia
 refine aB (i:=0) e (by decide) rfl ?_
 by_cases hx:0<x
 ·obtain⟨d,hd,ed⟩:=fm (x:=x) ht
  refine dD (decide_eq_true hx) (aB (i:=0) e (by decide) rfl (dM (j9 (ar7 t0) ?_)))
  refine aB (i:=0) e (by decide) rfl (j9 (aC6 ⟨t0,by show((top:Int)).natAbs<_;assumption⟩) (set_list (i:=0) e (by show 0<2;decide) (fC rfl) ?_))
  show Q (.int (x.fmod top)) _
  rw [ed]
  exact h d _ hd (.put ⟨y0,y1⟩)
 ·refine LC (decide_eq_false hx) (aB (i:=1) e (by decide) rfl (j9 (XD (b:=39373) (.inr (by decide))) (dM (set_list (i:=1) e (by show 1<2;decide) (fC rfl) ?_))))
  obtain⟨y',hy,ey⟩:=fm (x:=y*39373+7) (k:=2147483647) (by decide)
  have e2:upd H src (.list [.int x,.int (y':Int)]) src=some (.list [.int x,.int (y':Int)]):=p8 ..
  show O5 g n _ _ (upd H src (.list [.int x,.int ((y*39373+7).fmod 2147483647)])) _
  rw [show(y*39373+7).fmod 2147483647=(y':Int) from ey]
  refine aB (i:=1) e2 (by decide) rfl (aB (i:=1) e2 (by decide) rfl (j9 (XD (.inl (by exact d8 ‹_› (by decide)))) (dM (dM (j9 (ar7 t0) ?_)))))
  obtain⟨d,hd,ed⟩:=fm (x:=((y':Int)*(y':Int)).fmod 2147483629 |>.fdiv 32) ht
  show Q (.int ((((y':Int)*(y':Int)).fmod 2147483629).fdiv 32 |>.fmod (top:Int))) _
  rw [ed]
  exact h d _ hd (.put (by lia))
end
section
variable{P:Params}{g:G (O4 P).T}(hg:N6 g){n w:Nat}{m:Loc}{H:AH}{Q:PV->AH->Prop}{src:Addr}
theorem Oj(b:Bool):(if b then 1 else 0:Int).natAbs<2 ^ 62:=by cases b<;>decide
include hg
theorem XF{xs:List Int}(hx:xs.length<=63)(hn:1<=n)(h:∀a o,H a=none->gA a H (upd H a o)->Q (.obj a) (upd H a o)):Cl g n (.obj qP) [.lst (xs.map .int),.int 0] H Q:=by
 refine(Bp P).cl hg rfl hn fun n O=>?_
 have fin:∀c:Int,O5 g n (qT.drop 2) [(304,.lst (xs.map .int)),(0,.int 0),(391,.int c)] H (mO Q):=fun c=>by
  refine dM (dM (ZL ?_))
  generalize (if -1-c > c then -1-c else c)=L
  refine dM (j9 (XD (b:=48271) (.inr (by decide))) (dM ?_))
  obtain⟨y,hy,ey⟩:=fm (x:=(L.fmod 2147483629+7919*0*0+31*0+17)*48271) (k:=2147483647) (by decide)
  refine Vm (j9 (XD (.inr (Oj _))) fun a ha=>?_)
  have z:=h a (.list [.int (L*(if(decide ((10:Int) ^ 18<=L)) then 1 else 0)),.int (y:Int)]) ha (.put (by omega))
  rw [<- ey] at z
  exact z
 cases xs with
 |nil=>exact S5 (k:=0) rfl (by decide) (fin 0)
 |cons x xs=>exact S5 (k:=xs.length+1) (congrArg (fun k=>some k) (congrArg (·+ 1) (g8 _))) (by rw [m8] at hx;exact G3 ‹_› (by decide)) (dD (decide_eq_true (by show(0:Int)<((xs.length+1:Nat):Int);lia)) (aU rfl rfl (fin x)))
end
inductive Es where
 |live (i:Nat)|dead (i:Nat)|ref (i:Nat) (p:List Wy)|cpp (i:Nat) (p:List Wy)|Ow (i j:Nat)|bin (i op:Nat) (p:PV) (v:Nat)|cst (v:Nat)
noncomputable def Es.v:Es->PV
 |.live i=>bO i
 |.dead i=>eN i
 |.ref i p=>cA i (oM (bF p))
 |.cpp i p=>cA i (jz (T6 (bF p)))
 |.Ow i j=>cA i (jz (T6 (bD j)))
 |.bin i op p v=>cA i (Bx op p v)
 |.cst v=>cA 0 (jz (xR aG (.int (v:Int))))
noncomputable def Ze(i:Nat):PV:=.tup [.str 134,.int (i:Int)]
noncomputable def Zf(i:Nat)(p:PV):PV:=.tup [.str 205,.int (i:Int),p]
noncomputable def TV(i:Nat):PV:=.tup [.str 143,.int (i:Int)]
noncomputable def mD(v:Nat):PV:=.tup [.str 202,.int (v:Int)]
noncomputable def lA:PV:=.tup [.str 275]
noncomputable def Es.ev:Es->Option PV
 |.dead i=>some (Ze i)
 |.ref i p=>some (Zf i (bF p))
 |.cpp _ []=>some (TV 1)
 |.Ow _ j=>some (TV j)
 |.bin _ _ _ v=>@Bool.rec (fun O=>Option PV) none (some (mD v)) (Nat.ble 70 v)
 |_=>none
theorem iD(p:List Wy):PV.V0 (steps p)=true:=cu fun t ht=>by
 obtain⟨w,_,rfl⟩:=w6.mp ht
 cases w<;>rfl
theorem XH(v:Nat):decide ((70:Int)<=(v:Int))=Nat.ble 70 v:=by
 cases h:Nat.ble 70 v with
 |true=>exact decide_eq_true (Int.ofNat_le.mpr (d9 h))
 |false=>exact decide_eq_false fun z=>by rw [J5 (Int.ofNat_le.mp z)] at h;cases h
section
variable{P:Params}{g:G (O4 P).T}(hg:N6 g){n:Nat}{m:Loc}{H:AH}{Q:PV->AH->Prop}
include hg
theorem vV(e:Es)(hn:1<=n)(h:Q (e.ev.getD .none) H):Cl g n (.obj nH) [e.v] H Q:=by
 refine(xG P).cl hg rfl hn fun n O=>?_
 cases e with
 |live i=>exact h
 |dead i=>exact h
 |ref i p=>exact h
 |cst v=>exact h
 |Ow i j=>exact h
 |cpp i p=>
  have ok:rM (.tup (steps p)) (.tup [])=true:=by
   unfold rM
   rw [show(PV.tup (steps p)).isD=true from iD p];rfl
  refine dD ok ?_
  cases p with
  |nil=>exact h
  |cons w r=>exact h
 |bin i op p v=>
  have h:Q ((@Bool.rec (fun O=>Option PV) none (some (mD v)) (Nat.ble 70 v)).getD .none) H:=h
  show sel (decide ((70:Int)<=(v:Int))) _ _
  rw [XH]
  cases e:Nat.ble 70 v with
  |true=>rw [e] at h;exact h
  |false=>rw [e] at h;exact h
end
section
variable(l:List Wy)
noncomputable def mF:Nat->Nat->Nat->List Es
 |_,_,0=>[]
 |i,k,n+1=>.live i :: .ref i (Xe l k)::mF (i+1) (k+1) n
noncomputable def vW:Nat->Nat->Nat->List Es
 |_,_,0=>[]
 |i,t,n+1=>.live t :: .Ow t i :: .dead t::vW (i+1) (t+1) n
noncomputable def Ol(i:Nat):Nat->List Es
 |0=>[]
 |n+1=>.dead (i+n)::Ol i n
noncomputable def XJ(h v:Nat):List Es:=[.live h,.bin h 161 (bD 2) v]
noncomputable def Vd(i v:Nat):List Es:=mF l i 0 (O9 l+1)++(XJ (i+(O9 l+1)) v++(vW i (i+(O9 l+1)+1) (O9 l+1)++Ol i (O9 l+1)))
noncomputable def Sx.es:Sx->List Es
 |.live i=>[.live i]
 |.dead i=>[.dead i]
 |.ref i=>[.ref i l]
 |.Ow i=>[.cpp i l]
 |.cmp i true v=>[.bin i 196 (bF l) v]
 |.cmp i false v=>[.bin i 197 (bF l) v]
 |.gd i v=>Vd l i v
 |.cst v=>[.cst v]
theorem Ga:∀(n i k:Nat),(mF l i k n).map Es.v=vJ l i k n
 |0,_,_=>rfl
 |n+1,i,k=>congrArg (fun z=>bO i::cA i (oM (pC l k))::z) (Ga n (i+1) (k+1))
theorem Ls:∀(n i t:Nat),(vW i t n).map Es.v=Fb i t n
 |0,_,_=>rfl
 |n+1,i,t=>congrArg (fun z=>bO t::cA t (jz (T6 (bD i)))::eN t::z) (Ls n (i+1) (t+1))
theorem TX(i:Nat):∀n,(Ol i n).map Es.v=RW i n
 |0=>rfl
 |n+1=>congrArg (eN (i+n) :: ·) (TX i n)
theorem aC7(s:Sx):(s.es l).map Es.v=s.vs l:=by
 cases s with
 |cmp i lo v=>cases lo<;>rfl
 |gd i v=>
  show(Vd l i v).map Es.v=gdV l i v
  unfold Vd gdV
  rw [q8,q8,q8,Ga,Ls,TX];rfl
 |_=>rfl
theorem Cj:∀b:List Sx,(b.flatMap (Sx.es l)).map Es.v=b.flatMap (Sx.vs l)
 | []=>rfl
 |s::b=>by rw [List.flatMap_cons,q8,aC7,Cj b,List.flatMap_cons]
end
theorem jF(p:PV):p.isD=true->p.eqv p=true:=
 PV.rec (motive_1:=fun p=>p.isD=true->p.eqv p=true) (motive_2:=fun l=>PV.V0 l=true->PV.eqvs l l=true) (fun O=>rfl) (fun b O=>by cases b<;>rfl) (fun i O=>decide_eq_true rfl) (fun n O=>Nat.beq_refl n)
  (fun O ih h=>ih h) (fun O ih h=>ih h) (fun O h=>nomatch (show false=true from h)) (fun O h=>nomatch (show false=true from h)) (fun O h=>nomatch (show false=true from h)) (fun O O h=>nomatch (show false=true from h))
  (fun O=>rfl) (fun x l ih il h=>q9.mpr ⟨ih (n7 h).1,il (n7 h).2⟩) p
theorem iG{caps:List Nat}{x:Nat}(hx:caps.contains x=true){p:PV}{m:Loc}(h:m.lookup x=some p):(R9 caps m).lookup x=some p:=by
 induction m with
 |nil=>exact h
 |cons q r ih=>
  obtain⟨q1,q2⟩:=q
  unfold R9
  rw [List.filter_cons]
  by_cases e:x=q1
  ·subst e
   rw [if_pos hx]
   exact(aW rfl).trans ((aW rfl).symm.trans h)
  ·have h:=(aq e).symm.trans h
   split
   ·exact(aq e).trans (ih h)
   ·exact ih h
section
variable{τ:T}{g:G τ}{n:Nat}{m:Loc}{H:AH}
theorem qu{α:Type}{f w:α->PV}{c:α->Bool}{x:Nat}{cap:Loc}{wi:Loc->AH->(Bool->AH->Prop)->Prop}{we:Loc->AH->(PV->AH->Prop)->Prop}{fin:List PV->AH->Prop}{it:AH->Option (List PV)}{D:Addr}(xs:List α)(hl:xs.length<=sizeLine)(hD:H D=none)(hit:∀o,it (upd H D o)=some (xs.map f))
  (hi:∀a∈xs,∀D o K,H D=none->K (c a) (upd H D o)->wi (w7 x (f a) cap) (upd H D o) K)
  (he:∀a∈xs,c a=true->∀D o K,H D=none->K (w a) (upd H D o)->we (w7 x (f a) cap) (upd H D o) K) (h:fin ((xs.filter c).map w) H):WC (.one x) wi we it (xs.map f) D (fun acc H'=>fin acc (del H' D)) (xs.map f) [] cap (upd H D (.list [])):=by
 have key:∀(r:List α) (acc:List PV) (m':Loc),(∀a∈r,a∈xs)->(∀q,w7 x q m'=w7 x q cap)->acc.length+r.length<=sizeLine->fin (acc++(r.filter c).map w) H->WC (.one x) wi we it (xs.map f) D (fun acc H'=>fin acc (del H' D)) (r.map f) acc m' (upd H D (.list acc)):=by
  intro r
  induction r with
  |nil=>
   intro acc m' _ _ _ h
   rw [List.filter_nil,List.map_nil,s7] at h
   show fin acc (del (upd H D (.list acc)) D)
   rw [V3 hD]
   exact h
  |cons a r ih=>
   intro acc m' hm hq hz h
   have hz:acc.length+(r.length+1)<=sizeLine:=hz
   refine cC (m₁:=w7 x (f a) m') rfl ?_
   rw [hq]
   have ha:=hm a (.head _)
   have hm':∀b∈r,b∈xs:=fun b hb=>hm b (.tail _ hb)
   have hq':∀q,w7 x q (w7 x (f a) cap)=w7 x q cap:=fun q=>cF ..
   refine hi a ha D _ _ hD ?_
   cases e:c a with
   |false=>
    rw [J8 (by rw [e];exact nofun)] at h
    exact⟨⟨p8 ..,hit _⟩,ih acc _ hm' hq' (by lia) h⟩
   |true=>
    rw [List.filter_cons_of_pos e] at h
    refine he a ha e D _ _ hD ⟨⟨p8 ..,by lia,hit _⟩,?_⟩
    rw [V2]
    refine ih (acc++[w a]) _ hm' hq' (by rw [d7];show acc.length+1+r.length<=_;lia) ?_
    rw [j7]
    exact h
 exact key xs [] _ (fun O h=>h) (fun O=>rfl) (by rw [List.length_nil,z6];exact hl) h
theorem eO{α:Type}{f w:α->PV}{c:α->Bool}{x:Nat}{caps:List Nat}{wi:Loc->AH->(Bool->AH->Prop)->Prop}{we:Loc->AH->(PV->AH->Prop)->Prop}{fin:List PV->AH->Prop}(xs:List α)(hl:xs.length<=sizeLine)
  (hi:∀a∈xs,∀D o K,H D=none->K (c a) (upd H D o)->wi (w7 x (f a) (R9 caps m)) (upd H D o) K)
  (he:∀a∈xs,c a=true->∀D o K,H D=none->K (w a) (upd H D o)->we (w7 x (f a) (R9 caps m)) (upd H D o) K) (h:fin ((xs.filter c).map w) H):cR m caps (.one x) wi we fin (.lst (xs.map f)) H:=fun O hD=>qu xs hl hD (fun O=>rfl) hi he h
theorem Ck{α:Type}{f w:α->PV}{c:α->Bool}{x:Nat}{caps:List Nat}{wi:Loc->AH->(Bool->AH->Prop)->Prop}{we:Loc->AH->(PV->AH->Prop)->Prop}{fin:List PV->AH->Prop}(xs:List α)(hl:xs.length<=sizeLine)
  (hi:∀a∈xs,∀D o K,H D=none->K (c a) (upd H D o)->wi (w7 x (f a) (R9 caps m)) (upd H D o) K)
  (he:∀a∈xs,c a=true->∀D o K,H D=none->K (w a) (upd H D o)->we (w7 x (f a) (R9 caps m)) (upd H D o) K) (h:fin ((xs.filter c).map w) H):cR m caps (.one x) wi we fin (.tup (xs.map f)) H:=fun O hD=>qu xs hl hD (fun O=>rfl) hi he h
theorem Cm{α:Type}{fn w:α->PV}{c:α->Bool}{x:Nat}{caps:List Nat}{wi:Loc->AH->(Bool->AH->Prop)->Prop}{we:Loc->AH->(PV->AH->Prop)->Prop}{fin:List PV->AH->Prop}{a:Addr}(xs:List α)(e:H a=some (.list (xs.map fn))) (hl:xs.length<=sizeLine)
  (hi:∀a∈xs,∀D o K,H D=none->K (c a) (upd H D o)->wi (w7 x (fn a) (R9 caps m)) (upd H D o) K)
  (he:∀a∈xs,c a=true->∀D o K,H D=none->K (w a) (upd H D o)->we (w7 x (fn a) (R9 caps m)) (upd H D o) K) (h:fin ((xs.filter c).map w) H):cR m caps (.one x) wi we fin (.obj a) H:=
 j9 (K9 e) fun D hD=>qu xs hl hD (fun o=>K9 ((w5 fun z=>by rw [<- z,e] at hD;cases hD).trans e)) hi he h
end
inductive M7 where
 |dead (i:Nat)|lent (i:Nat) (p:List Wy)|copy (i:Nat)|guard (v:Nat)|fork
noncomputable def M7.v:M7->PV
 |.dead i=>Ze i
 |.lent i p=>Zf i (bF p)
 |.copy i=>TV i
 |.guard v=>mD v
 |.fork=>lA
noncomputable def M7.TY:M7->Bool
 |.guard _=>true
 |_=>false
noncomputable def M7.Gb:M7->Bool
 |.lent .. => true
 |_=>false
noncomputable def M7.isC:M7->Bool
 |.copy _=>true
 |_=>false
noncomputable def M7.isD:M7->Bool
 |.dead _=>true
 |_=>false
noncomputable def M7.isF:M7->Bool
 |.fork=>true
 |_=>false
noncomputable def M7.i:M7->Nat
 |.dead i=>i
 |.lent i _=>i
 |.copy i=>i
 |_=>0
noncomputable def M7.p:M7->List Wy
 |.lent _ p=>p
 |_=>[]
noncomputable def M7.tag:M7->Nat
 |.dead _=>134
 |.lent .. => 205
 |.copy _=>143
 |.guard _=>202
 |.fork=>275
theorem Ua(e:M7):∃r,e.v = .tup (.str e.tag::r):=by cases e<;>exact⟨_,rfl⟩
theorem Zg(e:M7):e.v.isD=true/\e.v.depth<=50:=by
 have st:∀l:List Wy,PV.depths (steps l)<=1:=fun l=>by
  induction l with
  |nil=>exact z8 _
  |cons w l ih=>exact Nat.max_le.mpr ⟨by cases w<;>exact d9 rfl,ih⟩
 cases e with
 |lent i p=>
  refine⟨?_,?_⟩
  ·show(true&&(true&&((true&&(PV.V0 (steps p)&&true))&&true)))=true
   rw [iD];rfl
  ·have:=st p
   show max 0 (max 0 (max (max 0 (max (PV.depths (steps p)+1) 0)+1) 0))+1<=50
   lia
 |_=>exact⟨rfl,d9 rfl⟩
theorem gB{l:List PV}{k:Nat}(h:∀p∈l,p.depth<=k):PV.depths l<=k:=by
 induction l with
 |nil=>exact z8 _
 |cons x l ih=>exact Nat.max_le.mpr ⟨h x (.head _),ih fun p hp=>h p (.tail _ hp)⟩
theorem Ub(es:List M7):PV.V0 (es.map M7.v)=true/\PV.depths (es.map M7.v)<=50:=
 ⟨cu fun p hp=>by obtain⟨e,_,rfl⟩:=w6.mp hp;exact(Zg e).1,gB fun p hp=>by obtain⟨e,_,rfl⟩:=w6.mp hp;exact(Zg e).2⟩
theorem ar8(ps:List (List Wy)):PV.V0 (ps.map bF)=true/\PV.depths (ps.map bF)<=50:=by
 have st:∀l:List Wy,PV.depths (steps l)<=1:=fun l=>by
  induction l with
  |nil=>exact z8 _
  |cons w l ih=>exact Nat.max_le.mpr ⟨by cases w<;>exact d9 rfl,ih⟩
 refine⟨cu fun p hp=>?_,gB fun p hp=>?_⟩
 ·obtain⟨q,_,rfl⟩:=w6.mp hp
  show(true&&(PV.V0 (steps q)&&true))=true
  rw [iD];rfl
 ·obtain⟨q,_,rfl⟩:=w6.mp hp
  have:=st q
  show max 0 (max (PV.depths (steps q)+1) 0)+1<=50
  lia
theorem ae8{p:List Wy}{ps:List (List Wy)}(h:p∈ps):ug (bF p) (ps.map bF)=true:=by
 refine List.any_eq_true.mpr ⟨bF p,List.mem_map_of_mem h,jF _ ?_⟩
 show(true&&(PV.V0 (steps p)&&true))=true
 rw [iD];rfl
theorem Lw{i:Nat}{l:List Nat}(h:i∈l):ug (.int (i:Int)) (l.map fun x:Nat=>PV.int (x:Int))=true:=
 List.any_eq_true.mpr ⟨.int (i:Int),List.mem_map_of_mem h,jF _ rfl⟩
structure WR(m:Loc)(E:List M7)(l:List Wy)(b:Nat):Prop where
 ev:m.lookup 403=some (.lst (E.map M7.v))
 pl:m.lookup 96=some (.lst ((O1 l).map bF))
 bg:m.lookup 406=some (.int (b:Int))
theorem WR.set{m:Loc}{E:List M7}{l:List Wy}{b y:Nat}{q:PV}(h:WR m E l b)(e:[403,96,406].elem y=false):WR (w7 y q m) E l b:=by
 have ne:∀x,[403,96,406].elem x=true->x≠y:=fun x hx z=>by rw [z,e] at hx;cases hx
 exact⟨Q5 (ne _ rfl) h.ev,Q5 (ne _ rfl) h.pl,Q5 (ne _ rfl) h.bg⟩
theorem WR.bgn{m:Loc}{E:List M7}{l:List Wy}{b c:Nat}(h:WR m E l b):WR (w7 406 (.int (c:Int)) m) E l c:=⟨Q5 (by decide) h.ev,Q5 (by decide) h.pl,T8⟩
noncomputable abbrev Uc:List S:=[.iff (.cmp .NotEq (.at (.loc 404) 0) (.str 202)) [.cont] [],.VB 205 [96] (.one 28) (.loc 28) (.Nb (.loc 403) (.loc 406) (.loc 181)) [.and [.cmp .Eq (.at (.loc 28) 0) (.str 205),.cmp .In (.at (.loc 28) 2) (.loc 96)]] [(446,.local),(28,.local),(96,.free)],.asg (.name 205) (.slF (.loc 205) (.bin .Sub (.call 31 [.loc 205]) (.call 31 [.loc 96]))),.asg (.name 165) (.Nb (.loc 403) (.bin .Add (.loc 181) (.int 1)) (.S7 (.loc 403) "list" 97 "list.index" [.tup [.str 275],.loc 181])),.yN 62 [] (.one 28) (.at (.loc 28) 1) (.loc 165) [.cmp .Eq (.at (.loc 28) 0) (.str 143)] [(446,.local),(28,.local)],.yN 407 [] (.one 28) (.at (.loc 28) 1) (.loc 165) [.cmp .Eq (.at (.loc 28) 0) (.str 134)] [(446,.local),(28,.local)],.iff (.or [.cmp .NotEq (.call 138 [.comp [] (.one 28) (.at (.loc 28) 2) (.loc 205) [] [(446,.local),(28,.local)]]) (.call 138 [.loc 96]),.cmp .Gt (.call 31 [.loc 96]) (.call 31 [.loc 205])]) [.ret (.gK false)] [],.iff (.cmp .NotEq (.comp [62,407] (.one 28) (.loc 28) (.loc 205) [.or [.cmp .NotIn (.at (.loc 28) 1) (.loc 62),.cmp .NotIn (.at (.loc 28) 1) (.loc 407)]] [(446,.local),(28,.local),(407,.free),(62,.free)]) (.lst [])) [.ret (.gK false)] [],.asg (.name 406) (.loc 181)]
theorem Jd{m:Loc}{x:Nat}{p:PV}(h:m.lookup x=some p):gO m [x]=true:=by
 unfold gO
 rw [List.all_cons,h];rfl
theorem ae9{m:Loc}{x y:Nat}{p q:PV}(h:m.lookup x=some p)(h':m.lookup y=some q):gO m [x,y]=true:=by
 unfold gO
 rw [List.all_cons,List.all_cons,h,h'];rfl
theorem Ud{p:PV}{l:List PV}{H:AH}{C:Bool->Prop}(h:p.isD=true)(hl:PV.V0 l=true)(hd:Nat.ble (PV.depths l) 60=true)(k:C (!ug p l)):wG .NotIn p (.lst l) H C:=by
 show sel (okIn p l) _ _
 rw [show okIn p l=true by unfold okIn;rw [h,hl,hd];rfl]
 exact k
theorem Cp(l:List Nat):PV.V0 (l.map fun x:Nat=>PV.int (x:Int))=true/\Nat.ble (PV.depths (l.map fun x:Nat=>PV.int (x:Int))) 60=true:=
 ⟨cu fun p hp=>by obtain⟨e,_,rfl⟩:=w6.mp hp;rfl,J5 (d8 (gB (k:=0) fun p hp=>by obtain⟨e,_,rfl⟩:=w6.mp hp;exact o9 0) (z8 _))⟩
section
variable{P:Params}{g:G (O4 P).T}(hg:N6 g){n:Nat}{m:Loc}{H:AH}{Q:Out->Loc->AH->Prop}{l:List Wy}{E:List M7}{b:Nat}
theorem Ue{e:M7}{Q':Out->Loc->AH->Prop}(he:e.TY=false)(h1:m.lookup 404=some e.v)(h:Q' .cont m H):O5 g n Uc m H Q':=by
 refine j9 h1 ?_
 cases e with
 |guard v=>cases he
 |_=>exact h
include hg
theorem Ug{x:Nat}{c:M7->Bool}{t:Nat}{Q':Out->Loc->AH->Prop}(B:List M7)(hc:∀e:M7,(PV.str e.tag).eqv (.str t)=c e)(hi:∀e∈B,c e=true->∃r,e.v = .tup (.str e.tag :: .int (e.i:Int)::r)) (hz:B.length<=sizeLine) (h1:m.lookup 165=some (.lst (B.map M7.v)))
  (h:Q' .next (w7 x (.lst (((B.filter c).map M7.i).map fun x:Nat=>PV.int (x:Int))) m) H):(S.yN x [] (.one 28) (.at (.loc 28) 1) (.loc 165) [.cmp .Eq (.at (.loc 28) 0) (.str t)] [(446,.local),(28,.local)]).w g n m H Q':=by
 refine j9 h1 (eO (f:=M7.v) (w:=fun e=>.int (e.i:Int)) (c:=c) B hz (fun e he D o K O k=>j9 T8 ?_) (fun e he ce D o K O k=>j9 T8 ?_) ?_)
 ·obtain⟨r,z⟩:=Ua e
  rw [z]
  show K ((PV.str e.tag).eqv (.str t)) _
  rw [hc]
  exact k
 ·obtain⟨r,z⟩:=hi e he ce
  rw [z]
  exact k
 ·rw [List.map_map] at h
  exact h
end
structure Grd(l:List Wy)(L B:List M7):Prop where
 lent:∀e∈L,e.Gb=true
 pls:L.map M7.p=O1 l
 noF:∀e∈B,e.isF=false
 noG:∀e∈B,e.TY=false
 seen:∀e∈L,e.i∈(B.filter M7.isC).map M7.i
 gone:∀e∈L,e.i∈(B.filter M7.isD).map M7.i
theorem Je{e:M7}(h:e.Gb=true):e.v = .tup [.str 205,.int (e.i:Int),bF e.p]:=by
 cases e with
 |lent i p=>rfl
 |_=>cases h
theorem XM(e:M7):(PV.str e.tag).eqv (.str 205)=e.Gb:=by cases e<;>rfl
theorem XQ(e:M7):(PV.str e.tag).eqv (.str 143)=e.isC:=by cases e<;>rfl
theorem XR(e:M7):(PV.str e.tag).eqv (.str 134)=e.isD:=by cases e<;>rfl
theorem Uh{e:M7}(h:e.isF=false):e.v.eqv lA=false:=by cases e<;>first|rfl|cases h
theorem XS{α:Type}{A L Y:List α}{b:Nat}(hb:b<=A.length):(((A++L)++Y).drop b).take ((A++L).length-b)=A.drop b++L:=by
 rw [List.drop_append_of_le_length (by rw [d7];lia),List.take_left' (by rw [List.length_drop]),List.drop_append_of_le_length hb]
theorem Jf{α:Type}{X B Y:List α}{x:α}:((X++x::(B++Y)).drop (X.length+1)).take (X.length+1+B.length-(X.length+1))=B:=by
 have e:X++x::(B++Y)=(X++[x])++(B++Y):=by rw [j7];rfl
 rw [e,List.drop_left' (by rw [d7];rfl),Nat.add_sub_cancel_left,List.take_left' rfl]
theorem Yb{qs:List (List PV)}(h:∀q∈qs,PV.V0 q=true/\PV.depths q<=50):PV.V0 (dU qs)=true/\PV.depths (dU qs)<=55:=by
 have one:∀p∈qs.map tI,p.isD=true/\p.depth<=55:=fun p hp=>by
  obtain⟨q,hq,rfl⟩:=w6.mp hp
  obtain⟨h1,h2⟩:=h q hq
  refine⟨by show(true&&(PV.V0 q&&true))=true;rw [h1];rfl,?_⟩
  show max 0 (max (PV.depths q+1) 0)+1<=55
  lia
 have z:∀p∈dU qs,p.isD=true/\p.depth<=55:=fun p hp=>by
  unfold dU at hp
  cases e:Nat.blt qs.length 2 with
  |true=>rw [e] at hp;exact one p hp
  |false=>
   rw [e] at hp
   obtain⟨i,_,rfl⟩:=w6.mp hp
   rw [I9]
   cases k:(qs.map tI)[i]? with
   |none=>exact⟨rfl,z8 _⟩
   |some p=>exact one p (u6 k)
 exact⟨cu fun p hp=>(z p hp).1,gB fun p hp=>(z p hp).2⟩
section
variable{P:Params}{g:G (O4 P).T}(hg:N6 g){n:Nat}{m:Loc}{H:AH}{Q:Out->Loc->AH->Prop}{l:List Wy}{E:List M7}{b:Nat}
include hg
theorem Jg{A L B C:List M7}{v:Nat}{Q':Out->Loc->AH->Prop}(hE:E=(A++L) ++ .guard v::(B ++ .fork::C))(G:Grd l L B)(hA:∀e∈A,e.Gb=true->e.p∈O1 l)(hl:l.length<=3)(hz:E.length<=2000000)(hb:b<=A.length)(wr:WR m E l b)(h1:m.lookup 404=some (mD v))(h2:m.lookup 181=some (.int ((A++L).length:Nat)))
  (h:∀m',WR m' E l (A++L).length->Q' .next m' H):O5 g n Uc m H Q':=by
 have Ll:L.length=O9 l+1:=(g8 (f:=M7.p)).symm.trans (congrArg List.length G.pls)
 have lm:O9 l<=3:=d8 (dj l []) hl
 have ar9:E.length=(A.length+L.length)+(B.length+(C.length+1)+1):=by rw [hE,d7,d7,m8,d7,m8]
 have zs:sizeLine=16777216:=p7
 have pd:=ar8 (O1 l)
 have ed:=Ub E
 have ez:(E.map M7.v).length=E.length:=g8 _
 -- the lent ones between
 refine j9 h1 ?_
 refine dD (Jd wr.pl) (j9 wr.ev (j9 wr.bg (j9 h2 (Wd.mk rfl (Int.natCast_nonneg _) (Int.ofNat_le.mpr (by rw [d7];lia)) (Int.ofNat_le.mpr (by rw [ez,ar9,d7];lia)) (by rw [ez];lia) ?_))))
 have sl:((E.map M7.v).drop (b:Int).toNat).take ((((A++L).length:Nat):Int).toNat-(b:Int).toNat)=(A.drop b++L).map M7.v:=by
  rw [Int.toNat_natCast,Int.toNat_natCast,<- List.map_drop,<- List.map_take,hE,XS hb]
 rw [sl]
 have le1:(A.drop b++L).length<=sizeLine:=by rw [d7,List.length_drop];lia
 refine eO (f:=M7.v) (w:=M7.v) (c:=M7.Gb) (A.drop b++L) le1 (fun e he D o K O k=>?_) (fun e he ce D o K O k=>j9 T8 k) ?_
 ·obtain⟨r,z⟩:=Ua e
  refine j9 T8 ?_
  cases ce:e.Gb with
  |false=>
   rw [ce] at k
   rw [z]
   refine LC (b:=(PV.str e.tag).eqv (.str 205)) ((XM e).trans ce) k
  |true=>
   rw [ce] at k
   rw [Je ce]
   have hp:e.p∈O1 l:=(u0.mp he).elim (fun h=>hA e (List.mem_of_mem_drop h) ce) fun h=>by rw [<- G.pls];exact List.mem_map_of_mem h
   refine j9 T8 (j9 (Q5 (by decide) (iG rfl ((wr.pl)))) ?_)
   refine Sw (by show(true&&(PV.V0 (steps e.p)&&true))=true;rw [iD];rfl) pd.1 (J5 (d8 pd.2 (by decide))) ?_
   rw [ae8 hp]
   exact k
 have fL:L.filter M7.Gb=L:=List.filter_eq_self.mpr G.lent
 rw [List.filter_append,fL]
 generalize hX:(A.drop b).filter M7.Gb=X0
 have Xl:X0.length<=A.length:=by rw [<- hX];exact d8 (List.length_filter_le ..) (by rw [List.length_drop];exact Nat.sub_le ..)
 have pl1:=(wr.set (y:=205) (q:=.lst ((X0++L).map M7.v)) rfl)
 have le2:((X0++L).map M7.v).length=X0.length+L.length:=by rw [g8,d7]
 have pl2:((O1 l).map bF).length=L.length:=by rw [g8,Ll];rfl
 refine j9 T8 (j9 T8 (S5 (k:=X0.length+L.length) (congrArg some le2) (G3 (show X0.length+L.length<=2000000 by lia) (by decide)) (j9 pl1.pl (S5 (k:=L.length) (congrArg some pl2) (G3 (show L.length<=2000000 by lia) (by decide)) ?_))))
 refine Qg.mk (show((X0++L).map M7.v).length<=sizeLine/\((0:Int)<=((X0.length+L.length:Nat):Int)-(L.length:Int)/\_) from⟨by rw [le2];lia,by lia,?_⟩)
 have dr:((X0++L).map M7.v).drop (((X0.length+L.length:Nat):Int)-(L.length:Int)).toNat=L.map M7.v:=by
  rw [show(((X0.length+L.length:Nat):Int)-(L.length:Int)).toNat=X0.length by lia,<- List.map_drop,List.drop_left' rfl]
 show O5 g n (Uc.drop 3) (w7 205 (.lst (((X0++L).map M7.v).drop (((X0.length+L.length:Nat):Int)-(L.length:Int)).toNat)) (w7 205 (.lst ((X0++L).map M7.v)) m)) H Q'
 rw [dr,cF]
 have w1:=wr.set (y:=205) (q:=.lst (L.map M7.v)) rfl
 -- what is behind
 have at1:(w7 205 (.lst (L.map M7.v)) m).lookup 181=some (.int ((A++L).length:Nat)):=Q5 (by decide) h2
 have al:(A++L).length=A.length+L.length:=d7
 have gf:∀(k:Nat) (hk:k<(E.map M7.v).length),(E.map M7.v)[k]? = some ((E.map M7.v)[k]'hk):=fun k hk=>o7 hk
 have h3:((A++L)++M7.guard v::B).length=(A++L).length+(B.length+1):=d7
 have ej:E[(A++L).length+1+B.length]? = some .fork:=by
  rw [hE,show(A++L)++M7.guard v::(B ++ .fork::C)=((A++L) ++ .guard v::B) ++ .fork::C by rw [j7 (A++L) (M7.guard v::B) (M7.fork::C),List.cons_append],J0 (by rw [h3];lia),show(A++L).length+1+B.length-((A++L)++M7.guard v::B).length=0 by rw [h3];lia];rfl
 have ek:∀k,(A++L).length<=k->k<(A++L).length+1+B.length->∃e:M7,E[k]? = some e/\e.isF=false:=fun k h1 h2=>by
  rw [hE,J0 h1]
  cases hk:k-(A++L).length with
  |zero=>exact⟨_,rfl,rfl⟩
  |succ j=>
   have hj:j<B.length:=by lia
   refine⟨B[j],?_,G.noF _ (List.getElem_mem hj)⟩
   rw [I3,I5 hj,o7 hj]
 have hj:(A++L).length+1+B.length<(E.map M7.v).length:=by rw [ez,ar9,al];lia
 refine j9 w1.ev (j9 at1 (j9 w1.ev ⟨.lst,j9 at1 (Rf hg (i:=(A++L).length) (j:=(A++L).length+1+B.length) ⟨rfl,ed.1,.inr (show 1<=60 by decide)⟩ (by rw [ez];lia) (by lia) hj ?_ (fun k hk k1 k2=>?_) ?_)⟩))
 ·have z:=gf _ hj
  rw [G7,ej] at z
  rw [<- G6 z];rfl
 ·obtain⟨e,e1,e2⟩:=ek k k1 k2
  have z:=gf k hk
  rw [G7,e1] at z
  rw [<- G6 z]
  exact Uh e2
 refine Wd.mk (i:=((A++L).length:Nat)+1) (j:=((A++L).length+1+B.length:Nat)) rfl (by lia) (by lia) (Int.ofNat_le.mpr (Nat.le_of_lt hj)) (by rw [ez];lia) ?_
 have bh:((E.map M7.v).drop ((((A++L).length:Nat):Int)+1).toNat).take ((((A++L).length+1+B.length:Nat):Int).toNat-((((A++L).length:Nat):Int)+1).toNat)=B.map M7.v:=by
  rw [Int.toNat_natCast,show((((A++L).length:Nat):Int)+1).toNat=(A++L).length+1 from rfl,<- List.map_drop,<- List.map_take,hE,Jf]
 show O5 g n (Uc.drop 4) (w7 165 (.lst (((E.map M7.v).drop ((((A++L).length:Nat):Int)+1).toNat).take ((((A++L).length+1+B.length:Nat):Int).toNat-((((A++L).length:Nat):Int)+1).toNat))) (w7 205 (.lst (L.map M7.v)) m)) H Q'
 rw [bh]
 have w2:=w1.set (y:=165) (q:=.lst (B.map M7.v)) rfl
 have lB:B.length<=sizeLine:=by lia
 -- copies and deaths
 refine Ug hg (x:=62) (c:=M7.isC) (t:=143) B XQ (fun e O ce=>by cases e<;>first|exact⟨_,rfl⟩|cases ce) lB T8 ?_
 have w3:=w2.set (y:=62) (q:=.lst (((B.filter M7.isC).map M7.i).map fun x:Nat=>PV.int (x:Int))) rfl
 refine Ug hg (x:=407) (c:=M7.isD) (t:=134) B XR (fun e O ce=>by cases e<;>first|exact⟨_,rfl⟩|cases ce) lB (Q5 (by decide) T8) ?_
 have w4:=w3.set (y:=407) (q:=.lst (((B.filter M7.isD).map M7.i).map fun x:Nat=>PV.int (x:Int))) rfl
 generalize hm4:w7 407 (.lst (((B.filter M7.isD).map M7.i).map fun x:Nat=>PV.int (x:Int))) (w7 62 (.lst (((B.filter M7.isC).map M7.i).map fun x:Nat=>PV.int (x:Int))) (w7 165 (.lst (B.map M7.v)) (w7 205 (.lst (L.map M7.v)) m)))=m4 at w4 ⊢
 have l4:m4.lookup 205=some (.lst (L.map M7.v)):=by rw [<- hm4];exact Q5 (by decide) (Q5 (by decide) (Q5 (by decide) T8))
 have s4:m4.lookup 62=some (.lst (((B.filter M7.isC).map M7.i).map fun x:Nat=>PV.int (x:Int))):=by rw [<- hm4];exact Q5 (by decide) T8
 have g4:m4.lookup 407=some (.lst (((B.filter M7.isD).map M7.i).map fun x:Nat=>PV.int (x:Int))):=by rw [<- hm4];exact T8
 have a4:m4.lookup 181=some (.int ((A++L).length:Nat)):=by rw [<- hm4];exact Q5 (by decide) (Q5 (by decide) (Q5 (by decide) at1))
 -- sorted
 have qd:∀q∈(O1 l).map steps,PV.V0 q=true/\PV.depths q<=50:=fun q hq=>by
  obtain⟨p,_,rfl⟩:=w6.mp hq
  refine⟨iD p,gB fun x hx=>?_⟩
  obtain⟨w,_,rfl⟩:=w6.mp hx
  cases w<;>exact d9 rfl
 have qz:∀p∈(O1 l).map steps,∀q∈(O1 l).map steps,∀x∈p.zip q,(x.1.isD=true/\x.2.isD=true/\x.1.depth<=60)/\x.1.eqv x.2=true:=fun p0 hp0 q0 hq0 x hx=>by
  obtain⟨p,hp,e1⟩:=w6.mp hp0
  obtain⟨q,hq,e2⟩:=w6.mp hq0
  rw [<- e1,<- e2] at hx
  obtain⟨r,er⟩:=vM hp
  obtain⟨r',er'⟩:=vM hq
  obtain⟨k,hk⟩:=List.mem_iff_getElem?.mp hx
  rw [List.getElem?_zip_eq_some] at hk
  obtain⟨k1,k2⟩:=hk
  have f1:(steps l)[k]? = some x.1:=by
   rw [er,show steps (p++r)=steps p++steps r from q8]
   exact(I5 (v8.mp k1).1).trans k1
  have f2:(steps l)[k]? = some x.2:=by
   rw [er',show steps (q++r')=steps q++steps r' from q8]
   exact(I5 (v8.mp k2).1).trans k2
  have e12:x.1=x.2:=G6 (f1.symm.trans f2)
  have d1:=oO (iD p) x.1 (u6 k1)
  obtain⟨w,_,ew⟩:=w6.mp (u6 k1)
  exact⟨⟨d1,e12▸d1,by rw [<- ew];cases w<;>exact d9 rfl⟩,by rw [<- e12];exact jF _ d1⟩
 have ql:((O1 l).map steps).length<=4:=by rw [g8];show O9 l+1<=4;lia
 have pe:(O1 l).map bF=((O1 l).map steps).map tI:=by rw [List.map_map];rfl
 have lp:L.map (fun e=>bF e.p)=((O1 l).map steps).map tI:=by rw [<- pe,<- G.pls,List.map_map];rfl
 obtain⟨sd,sz⟩:=Yb qd
 have so:rM (.lst (dU ((O1 l).map steps))) (.lst (dU ((O1 l).map steps)))=true:=by
  unfold rM
  rw [show(PV.lst (dU ((O1 l).map steps))).isD=true from sd,J5 (show(PV.lst (dU ((O1 l).map steps))).depth<=60 from(show PV.depths (dU ((O1 l).map steps))+1<=60 by lia))];rfl
 have lL:L.length<=sizeLine:=by lia
 refine j9 l4 (iB (f:=M7.v) (w:=fun e=>bF e.p) L lL (fun e he D o K O k=>j9 T8 (by rw [Je (G.lent e he)];exact k)) ?_)
 rw [lp]
 refine DW hg ql qd qz (j9 w4.pl ?_)
 rw [pe]
 refine DW hg ql qd qz (dD so ?_)
 rw [jF (.lst (dU ((O1 l).map steps))) sd]
 refine j9 w4.pl (S5 (k:=L.length) (congrArg some pl2) (G3 (show L.length<=2000000 by lia) (by decide)) (j9 l4 (S5 (k:=L.length) (congrArg some (g8 _)) (G3 (show L.length<=2000000 by lia) (by decide)) ?_)))
 refine LC (b:=decide ((L.length:Int)<(L.length:Int))) (decide_eq_false (Int.lt_irrefl _)) ?_
 refine dD (ae9 s4 g4) (j9 l4 (eO (f:=M7.v) (w:=M7.v) (c:=fun O=>false) L lL (fun e he D o K O k=>j9 T8 ?_) (fun e he ce=>nomatch ce) ?_))
 ·rw [Je (G.lent e he)]
  refine j9 (Q5 (by decide) (iG rfl s4)) (Ud rfl (Cp _).1 (Cp _).2 ?_)
  rw [Lw (G.seen e he)]
  refine j9 T8 (j9 (Q5 (by decide) (iG rfl g4)) (Ud rfl (Cp _).1 (Cp _).2 ?_))
  rw [Lw (G.gone e he)]
  exact k
 ·rw [show L.filter (fun O=>false)=[] from List.filter_eq_nil_iff.mpr fun O O=>nofun]
  exact j9 a4 (h _ w4.bgn)
end
noncomputable def zx:Bool->List M7
 |true=>[.fork]
 |false=>[]
noncomputable def flat:List (List M7×Bool)->List M7
 | []=>[]
 |x::r=>x.1++(zx x.2++flat r)
noncomputable def rF(l:List Wy)(x:List M7×Bool):Prop:=(∀e∈x.1,e.Gb=true->e.p∈O1 l)/\((∀e∈x.1,e.TY=false)\/∃A L v B,x.1=A++(L ++ .guard v::B)/\(∀e∈A,e.TY=false)/\Grd l L B/\x.2=true)
section
variable{P:Params}{g:G (O4 P).T}(hg:N6 g){n:Nat}{m:Loc}{H:AH}{Q:Out->Loc->AH->Prop}{l:List Wy}{E:List M7}{b:Nat}
noncomputable abbrev Ui(g:G (O4 P).T)(n:Nat)(Q:Out->Loc->AH->Prop):List PV->Loc->AH->Prop:=wpN ((Tg.tup [.name 181,.name 404]).w g n) (O5 g n Uc) Q
theorem tH:∀(es:List M7) (k:Nat) (rest:List PV) (m:Loc),(∀e∈es,e.TY=false)->WR m E l b->(∀m',WR m' E l b->Ui g n Q (S9 (k+es.length) rest) m' H)->Ui g n Q (S9 k (es.map M7.v++rest)) m H
 | [],k,rest,m,_,wr,h=>h m wr
 |e::es,k,rest,m,he,wr,h=>by
  have w1:=(wr.set (y:=181) (q:=.int (k:Int)) rfl).set (y:=404) (q:=e.v) rfl
  refine Ue (he e (.head _)) T8 ?_
  have ih:=tH es (k+1) rest _ (fun e he'=>he e (.tail _ he')) w1 (fun m' w=>by
   have z:=h m' w
   rw [m8,Nat.add_comm es.length,<- Nat.add_assoc] at z
   exact z)
  exact ih
include hg
theorem Om(hl:l.length<=3)(hz:E.length<=2000000)(fin:∀m',Q .next m' H):∀(vX:List (List M7×Bool)) (done:List M7) (b:Nat) (m:Loc),E=done++flat vX->(∀x∈vX,rF l x)->(∀e∈done,e.Gb=true->e.p∈O1 l)->b<=done.length->WR m E l b->Ui g n Q (S9 done.length ((flat vX).map M7.v)) m H:=by
 intro vX
 induction vX with
 |nil=>exact fun done b m O O O O O=>fin m
 |cons x r Im=>
  intro done b m hE ok hd hb wr
  obtain⟨k1,k2⟩:=ok x (.head _)
  have fp:∀y,∀e∈zx y,e.TY=false/\e.Gb=false:=fun y e he=>by
   cases y with
   |true=>rw [j8.mp he];exact⟨rfl,rfl⟩
   |false=>cases he
  have hd':∀e∈done++(x.1++zx x.2),e.Gb=true->e.p∈O1 l:=fun e he el=>by
   rcases u0.mp he with h|h
   ·exact hd e h el
   ·rcases u0.mp h with h|h
    ·exact k1 e h el
    ·rw [(fp _ e h).2] at el;cases el
  have hE':E=(done++(x.1++zx x.2))++flat r:=by
   rw [hE,j7,j7];rfl
  have next:∀b' m',b'<=(done++(x.1++zx x.2)).length->WR m' E l b'->Ui g n Q (S9 (done++(x.1++zx x.2)).length ((flat r).map M7.v)) m' H:=fun b' m' h1 w=>Im _ b' m' hE' (fun y hy=>ok y (.tail _ hy)) hd' h1 w
  have ln:(done++(x.1++zx x.2)).length=done.length+(x.1.length+(zx x.2).length):=by rw [d7,d7]
  show Ui g n Q (S9 done.length ((x.1++(zx x.2++flat r)).map M7.v)) m H
  rcases k2 with k2|⟨A,L,v,B,e1,hA,G,e2⟩
  ·rw [<- j7,q8]
   refine tH (x.1++zx x.2) done.length _ m (fun e he=>(u0.mp he).elim (k2 e) fun h=>(fp _ e h).1) wr fun m' w=>?_
   have z:=next b m' (by rw [ln];lia) w
   rw [d7] at z
   exact z
  ·rw [e2] at hE' next ln ⊢
   rw [e1] at hE' next ln ⊢
   have eL:(A++(L++M7.guard v::B))++(zx true++flat r)=(A++L)++(M7.guard v::((B++[M7.fork])++flat r)):=by simp only [j7,List.cons_append];rfl
   have e3:((A++(L++M7.guard v::B))++(zx true++flat r)).map M7.v=(A++L).map M7.v++(mD v::(B++[M7.fork]).map M7.v++(flat r).map M7.v):=by
    rw [eL,q8,I7,@q8 _ _ M7.v (B++[M7.fork]) (flat r)];rfl
   rw [e3]
   have nL:∀e∈L,e.TY=false:=fun e he=>by have:=G.lent e he;cases e<;>first|rfl|cases this
   refine tH (A++L) done.length _ m (fun e he=>(u0.mp he).elim (hA e) (nL e)) wr fun m' w=>?_
   have al:(A++L).length=A.length+L.length:=d7
   have w1:=(w.set (y:=181) (q:=.int ((done.length+(A++L).length:Nat):Int)) rfl).set (y:=404) (q:=mD v) rfl
   have e4:((done++A)++L).length=done.length+(A++L).length:=by rw [j7,d7]
   refine Jg hg (A:=done++A) (L:=L) (B:=B) (C:=flat r) (v:=v) (E:=E) (by rw [hE'];simp only [j7,List.cons_append];rfl) G (fun e he el=>(u0.mp he).elim (fun h=>hd e h el) fun h=>k1 e (by rw [e1];exact K5 _ h) el) hl hz (by rw [d7];lia) w1 T8 (by rw [e4];exact Q5 (by decide) T8) fun m2 w2=>?_
   have key:=tH (g:=g) (n:=n) (H:=H) (Q:=Q) (E:=E) (l:=l) (b:=((done++A)++L).length) (B++[M7.fork]) (done.length+(A++L).length+1) ((flat r).map M7.v) m2 (fun e he=>(u0.mp he).elim (G.noG e) fun h=>by rw [j8.mp h];rfl) w2 fun m3 w3=>by
    have z:=next _ m3 (by rw [ln,e4,al,d7,d7];lia) w3
    have e5:(done++(A++(L++M7.guard v::B)++zx true)).length=done.length+(A++L).length+1+(B++[M7.fork]).length:=by rw [ln,al,d7,d7,m8,d7,I4,show(zx true).length=1 from rfl];lia
    rw [e5] at z
    exact z
   exact key
theorem Cq{vX:List (List M7×Bool)}{Q:PV->AH->Prop}(hl:l.length<=3)(hz:(flat vX).length<=2000000)(ok:∀x∈vX,rF l x)(hn:1<=n)(h:Q (.bool true) H):Cl g n (.obj fW) [.lst ((flat vX).map M7.v),.lst ((O1 l).map bF)] H Q:=by
 refine(ou P).cl hg rfl hn fun n O=>?_
 exact Om hg (E:=flat vX) (Q:=YC (mO Q) (Va (O5 g n [.ret (.gK true)]) (mO Q))) hl hz (fun m'=>h) vX [] 0 _ rfl ok (fun O h=>nomatch h) (o9 _) ⟨rfl,rfl,rfl⟩
end
noncomputable def Es.mK:Es->Option M7
 |.dead i=>some (.dead i)
 |.ref i p=>some (.lent i p)
 |.cpp _ []=>some (.copy 1)
 |.Ow _ j=>some (.copy j)
 |.bin _ _ _ v=>match Nat.ble 70 v with
  |true=>some (.guard v)
  |false=>none
 |_=>none
theorem Jh(e:Es):e.ev=e.mK.map M7.v:=by
 cases e with
 |cpp i p=>cases p<;>rfl
 |bin i op p v=>
  show @Bool.rec (fun O=>Option PV) none (some (mD v)) (Nat.ble 70 v)=Option.map M7.v (match Nat.ble 70 v with|true=>some (.guard v)|false=>none)
  cases Nat.ble 70 v<;>rfl
 |_=>rfl
noncomputable def aP(l:List Wy)(b:List Sx):List M7:=(b.flatMap (Sx.es l)).filterMap Es.mK
theorem Uj(l:List Wy)(s:Sx)(b:List Sx):aP l (s::b)=(s.es l).filterMap Es.mK++aP l b:=by
 unfold aP
 rw [List.flatMap_cons,List.filterMap_append]
theorem af0{l:List Wy}{s:Sx}(h:Y6 s=false)(h2:jy s=true):((s.es l).filterMap Es.mK).length<=1/\∀e∈(s.es l).filterMap Es.mK,e.TY=false/\(e.Gb=true->e.p∈O1 l):=by
 have one:∀x:Es,([x].filterMap Es.mK).length<=1:=fun x=>d8 (List.length_filterMap_le ..) (o9 1)
 have ev:∀{x:Es} {e:M7},e∈[x].filterMap Es.mK->x.mK=some e:=fun{x e} he=>by
  obtain⟨y,hy,z⟩:=List.mem_filterMap.mp he
  rw [j8.mp hy] at z
  exact z
 cases s with
 |live i=>exact⟨one _,fun e he=>nomatch (ev he)⟩
 |dead i=>exact⟨one _,fun e he=>by cases(ev he);exact⟨rfl,nofun⟩⟩
 |ref i=>exact⟨one _,fun e he=>by cases(ev he);exact⟨rfl,fun O=>.head _⟩⟩
 |cst v=>exact⟨one _,fun e he=>nomatch (ev he)⟩
 |gd i v=>cases h
 |Ow i=>
  refine⟨one _,fun e he=>?_⟩
  have z:(Es.cpp i l).mK=some e:=ev he
  cases l with
  |nil=>cases z;exact⟨rfl,nofun⟩
  |cons w r=>cases z
 |cmp i lo v=>
  have lt:v<70:=d9 h2
  have nb:Nat.ble 70 v=false:=by
   cases e:Nat.ble 70 v with
   |false=>rfl
   |true=>exact absurd (d9 e) (Nat.not_le_of_lt lt)
  have no:∀op p,(Es.bin i op p v).mK=none:=fun op p=>by
   show(match Nat.ble 70 v with|true=>some (M7.guard v)|false=>none)=none
   rw [nb]
  cases lo with
  |true=>exact⟨one _,fun e he=>nomatch (no _ _).symm.trans (ev (x:=.bin i 196 (bF l) v) he)⟩
  |false=>exact⟨one _,fun e he=>nomatch (no _ _).symm.trans (ev (x:=.bin i 197 (bF l) v) he)⟩
theorem Cr{l:List Wy}:∀{b:List Sx},noG b=true->b.all jy=true->(aP l b).length<=b.length/\∀e∈aP l b,e.TY=false/\(e.Gb=true->e.p∈O1 l)
 | [],_,_=>⟨o9 _,fun O h=>nomatch h⟩
 |s::b,h,h2=>by
  have h:(!(Y6 s||b.any Y6))=true:=h
  have h2:(jy s&&b.all jy)=true:=h2
  have hs:Y6 s=false:=by cases e:Y6 s with|true=>rw [e] at h;cases h|false=>rfl
  have hb:noG b=true:=by rw [hs] at h;exact h
  obtain⟨a1,a2⟩:=af0 (l:=l) hs (n7 h2).1
  obtain⟨b1,b2⟩:=Cr (l:=l) hb (n7 h2).2
  rw [Uj]
  exact⟨by rw [d7,m8];lia,fun e he=>(u0.mp he).elim (a2 e) (b2 e)⟩
noncomputable def iH(l:List Wy):Nat->Nat->Nat->List M7
 |_,_,0=>[]
 |i,k,n+1=>.lent i (Xe l k)::iH l (i+1) (k+1) n
noncomputable def pq:Nat->Nat->Nat->List M7
 |_,_,0=>[]
 |i,t,n+1=>.copy i :: .dead t::pq (i+1) (t+1) n
noncomputable def Gd(i:Nat):Nat->List M7
 |0=>[]
 |n+1=>.dead (i+n)::Gd i n
theorem Lx(l:List Wy):∀n i k,(mF l i k n).filterMap Es.mK=iH l i k n
 |0,_,_=>rfl
 |n+1,i,k=>congrArg (M7.lent i (Xe l k) :: ·) (Lx l n (i+1) (k+1))
theorem Uk:∀n i t,(vW i t n).filterMap Es.mK=pq i t n
 |0,_,_=>rfl
 |n+1,i,t=>congrArg (fun z=>M7.copy i :: .dead t::z) (Uk n (i+1) (t+1))
theorem Zh(i:Nat):∀n,(Ol i n).filterMap Es.mK=Gd i n
 |0=>rfl
 |n+1=>congrArg (M7.dead (i+n) :: ·) (Zh i n)
theorem aC9{l:List Wy}{i v:Nat}(h:Nat.ble 70 v=true):(Vd l i v).filterMap Es.mK=iH l i 0 (O9 l+1) ++ .guard v::(pq i (i+(O9 l+1)+1) (O9 l+1)++Gd i (O9 l+1)):=by
 have a:(XJ (i+(O9 l+1)) v).filterMap Es.mK=[.guard v]:=by
  have z:(Es.bin (i+(O9 l+1)) 161 (bD 2) v).mK=some (.guard v):=by
   show(match Nat.ble 70 v with|true=>some (M7.guard v)|false=>none)=_
   rw [h]
  show List.filterMap Es.mK [.live (i+(O9 l+1)),.bin (i+(O9 l+1)) 161 (bD 2) v]=_
  rw [List.filterMap_cons_none rfl,List.filterMap_cons_some z];rfl
 unfold Vd
 rw [List.filterMap_append,List.filterMap_append,List.filterMap_append,Lx,Uk,Zh,a];rfl
theorem iI{l:List Wy}:∀{n i k:Nat} {e:M7},e∈iH l i k n->e.Gb=true/\i<=e.i/\e.i<i+n
 |n+1,i,k,e,h=>by
  rcases q7.mp h with rfl|h
  ·exact⟨rfl,o9 _,Nat.lt_add_of_pos_right (Nat.succ_pos _)⟩
  ·obtain⟨a,b,c⟩:=iI h
   exact⟨a,v7 b,by lia⟩
theorem zy(l:List Wy):∀(r pre:List (List Wy)) (i:Nat),O1 l=pre++r->(iH l i pre.length r.length).map M7.p=r
 | [],_,_,_=>rfl
 |p::r,pre,i,e=>by
  have ih:=zy l r (pre++[p]) (i+1) (by rw [e,j7];rfl)
  rw [d7] at ih
  show Xe l pre.length::(iH l (i+1) (pre.length+1) r.length).map M7.p=p::r
  rw [BW l e]
  exact congrArg (p :: ·) ih
theorem jO:∀{n i t:Nat} {e:M7},e∈pq i t n->e.isF=false/\e.TY=false/\e.Gb=false
 |n+1,i,t,e,h=>by
  rcases q7.mp h with rfl|h
  ·exact⟨rfl,rfl,rfl⟩
  ·rcases q7.mp h with rfl|h
   ·exact⟨rfl,rfl,rfl⟩
   ·exact jO h
theorem zB:∀{n i t j:Nat},i<=j->j<i+n->.copy j∈pq i t n
 |0,i,t,j,h1,h2=>absurd h2 (Nat.not_lt_of_le h1)
 |n+1,i,t,j,h1,h2=>by
  by_cases e:j=i
  ·rw [e];exact .head _
  ·exact .tail _ (.tail _ (zB (by lia) (by lia)))
theorem pA{i:Nat}:∀{n:Nat} {e:M7},e∈Gd i n->e.isF=false/\e.TY=false/\e.Gb=false
 |n+1,e,h=>by
  rcases q7.mp h with rfl|h
  ·exact⟨rfl,rfl,rfl⟩
  ·exact pA h
theorem Ge{i:Nat}:∀{n j:Nat},i<=j->j<i+n->.dead j∈Gd i n
 |0,j,h1,h2=>absurd h2 (Nat.not_lt_of_le h1)
 |n+1,j,h1,h2=>by
  by_cases e:j=i+n
  ·rw [e];exact .head _
  ·exact .tail _ (Ge h1 (by lia))
theorem af2(l:List Wy)(i:Nat):Grd l (iH l i 0 (O9 l+1)) (pq i (i+(O9 l+1)+1) (O9 l+1)++Gd i (O9 l+1)):=by
 refine⟨fun e he=>(iI he).1,zy l (O1 l) [] i rfl,fun e he=>(u0.mp he).elim (fun h=>(jO h).1) fun h=>(pA h).1,fun e he=>(u0.mp he).elim (fun h=>(jO h).2.1) fun h=>(pA h).2.1,fun e he=>?_,fun e he=>?_⟩
 ·obtain⟨_,a,b⟩:=iI he
  exact w6.mpr ⟨.copy e.i,List.mem_filter.mpr ⟨K5 _ (zB a b),rfl⟩,rfl⟩
 ·obtain⟨_,a,b⟩:=iI he
  exact w6.mpr ⟨.dead e.i,List.mem_filter.mpr ⟨J6 _ (Ge a b),rfl⟩,rfl⟩
theorem vY:∀{b:List Sx},Kq b=true->∃x i v,b=x++[.gd i v]/\noG x=true
 | [],h=>nomatch h
 | [s],h=>by
  cases s with
  |gd i v=>exact⟨[],i,v,rfl,rfl⟩
  |_=>cases h
 |s::t::r,h=>by
  have h:(!Y6 s&&Kq (t::r))=true:=h
  obtain⟨x,i,v,e,n⟩:=vY (n7 h).2
  refine⟨s::x,i,v,by rw [e];rfl,?_⟩
  have hs:Y6 s=false:=by have:=(n7 h).1;cases q:Y6 s with|true=>rw [q] at this;cases this|false=>rfl
  show(!(Y6 s||x.any Y6))=true
  rw [hs];exact n
theorem Ul:∀n i t,(pq i t n).length=2*n
 |0,_,_=>rfl
 |n+1,i,t=>by show(pq (i+1) (t+1) n).length+1+1=_;rw [Ul n];lia
theorem Um(l:List Wy):∀n i k,(iH l i k n).length=n
 |0,_,_=>rfl
 |n+1,i,k=>congrArg (·+ 1) (Um l n _ _)
theorem Un(i:Nat):∀n,(Gd i n).length=n
 |0=>rfl
 |n+1=>congrArg (·+ 1) (Un i n)
theorem af3{l:List Wy}{b:List Sx×Option Tx}(hl:l.length<=3)(h:vG b=true)(h2:b.1.all jy=true)(hz:b.1.length<=60){f:Bool}(hf:f=(b.2.elim false Tx.forks)):rF l (aP l b.1,f)/\(aP l b.1).length<=100:=by
 have lm:O9 l<=3:=d8 (dj l []) hl
 rcases Bool.or_eq_true_iff.mp h with h|h
 ·obtain⟨z1,z2⟩:=Cr (l:=l) h h2
  exact⟨⟨fun e he=>(z2 e he).2,.inl fun e he=>(z2 e he).1⟩,by lia⟩
 ·obtain⟨h3,h4⟩:=n7 h
  obtain⟨x,i,v,e,nx⟩:=vY h3
  have ax:x.all jy=true/\Nat.ble 70 v=true:=by
   rw [e,List.all_append] at h2
   exact⟨(n7 h2).1,(n7 (show(Nat.ble 70 v&&true)=true from(n7 h2).2)).1⟩
  obtain⟨z1,z2⟩:=Cr (l:=l) nx ax.1
  have hx:x.length<=60:=by rw [e,d7] at hz;lia
  have ee:aP l b.1=aP l x++(iH l i 0 (O9 l+1) ++ .guard v::(pq i (i+(O9 l+1)+1) (O9 l+1)++Gd i (O9 l+1))):=by
   unfold aP
   rw [e,List.flatMap_append,List.filterMap_append]
   refine congrArg (_ ++ ·) ?_
   show List.filterMap Es.mK (Vd l i v++[])=_
   rw [s7,aC9 ax.2]
  have G:=af2 l i
  have fk:f=true:=by
   rw [hf]
   cases q:b.2 with
   |none=>rw [q] at h4;cases h4
   |some t=>rw [q] at h4;exact h4
  refine⟨⟨fun y hy yl=>?_,.inr ⟨_,_,v,_,ee,fun y hy=>(z2 y hy).1,G,fk⟩⟩,?_⟩
  ·have hy:y∈aP l b.1:=hy
   rw [ee] at hy
   rcases u0.mp hy with hy|hy
   ·exact(z2 y hy).2 yl
   ·rcases u0.mp hy with hy|hy
    ·rw [<- G.pls];exact List.mem_map_of_mem hy
    ·rcases q7.mp hy with rfl|hy
     ·cases yl
     ·rcases u0.mp hy with hy|hy
      ·rw [(jO hy).2.2] at yl;cases yl
      ·rw [(pA hy).2.2] at yl;cases yl
  ·rw [ee,d7,d7,m8,d7,Um,Ul,Un]
   lia
noncomputable def Tx.tm(l:List Wy):Tx->Tm
 |.goto i=>.goto i
 |.br t bad good=>.sw (T6 (bD t)) (.bool false) bad good
 |.eq v good fail=>.sw (T6 (pC l 0)) (.int (v:Int)) good fail
 |.ret=>.ret
 |.Gu=>.Gu
theorem aD0(l:List Wy)(t:Tx):(t.tm l).v=t.pv l:=by cases t<;>rfl
theorem Yc(l:List Wy)(t:Tx):(t.tm l).succ=t.succ:=by cases t<;>rfl
noncomputable def OJ(l:List Wy)(B:lY)(i:Nat):Tm:=((R4 B i).2.map (Tx.tm l)).getD .Gu
theorem vZ(l:List Wy)(B:lY)(i:Nat):(OJ l B i).succ=aj (R4 B i).2:=by
 unfold OJ aj
 cases(R4 B i).2 with
 |none=>rfl
 |some t=>exact Yc l t
noncomputable def Zi(l:List Wy)(B:lY)(f:List Nat)(i:Nat):PV:=.lst [.lst ((R4 B i).1.flatMap (Sx.vs l)),((OJ l B i).map fun j=>V9 j f).v]
structure Ctx(B:lY)(f:List Nat)(T:List (Nat×Nat)):Prop where
 ok:∀i,i<B.length->Ks B (R4 B i)=true
 lf:∀i∈f,i<B.length
 cl:∀i∈f,∀j∈aj (R4 B i).2,j∈f
 z:f[0]? = some 0
 wt:∀i,i<B.length->1+fZ (iU T) (aj (R4 B i).2)<=iU T i
 w0:iU T 0<=400
 fz:f.length<=60
 b60:B.length<=60
inductive mG(H:AH)(b:Addr)(L:List PV):Prop
 |mk (Q8 bl:Addr) (a1 a2 a3 a5:PV) (e1:H b=some (.inst gR Q8)) (e2:H Q8=some (.attrs [(40,a1),(71,a2),(75,a3),(73,.obj bl),(74,a5)])) (e3:H bl=some (.list L)):mG H b L
theorem mG.ext{H H':AH}{b:Addr}{L:List PV}(x:mG H b L)(E:Ext H H'):mG H' b L:=by
 cases x with
 |mk Q8 bl a1 a2 a3 a5 e1 e2 e3=>exact⟨Q8,bl,a1,a2,a3,a5,E _ _ e1,E _ _ e2,E _ _ e3⟩
noncomputable abbrev Way:=List (List M7×Bool)
noncomputable def Ly(f:List Nat)(x:Nat×Way):PV:=.tup [.int (V9 x.1 f:Nat),.lst ((flat x.2).map M7.v)]
noncomputable def Ve(s:Way):PV:=.lst ((flat s).map M7.v)
section
variable{P:Params}{g:G (O4 P).T}(hg:N6 g){n:Nat}{m:Loc}{H:AH}{Q:PV->AH->Prop}{l:List Wy}{B:lY}{f:List Nat}{T:List (Nat×Nat)}{bd:Addr}
include hg
theorem Yd{fin:List PV->AH->Prop}(b:List Sx)(hz:((b.flatMap (Sx.es l)).length<=sizeLine)) (hn:1<=n) (h:fin ((aP l b).map M7.v) H):
  cR m [] (.one 28) (Ag g n []) ((X.call 405 [.loc 28]).wE g n) (kLi (cR m [] (.one 404) (Ag g n [.cmp .IsNot (.loc 404) .none]) ((X.loc 404).wE g n) fin)) (.lst (b.flatMap (Sx.vs l))) H:=by
 rw [<- Cj]
 refine iB (f:=Es.v) (w:=fun e=>e.ev.getD .none) (b.flatMap (Sx.es l)) hz (fun e he D o K O k=>j9 T8 (vV hg e hn k)) ?_
 refine eO (f:=fun e:Es=>e.ev.getD .none) (w:=fun e:Es=>e.ev.getD .none) (c:=fun e=>e.ev.isSome) (b.flatMap (Sx.es l)) hz (fun e he D o K O k=>j9 T8 ?_) (fun e he ce D o K O k=>j9 T8 k) ?_
 ·show K (!isNone (e.ev.getD .none)) _
  cases q:e.ev with
  |none=>rw [q] at k;exact k
  |some p=>
   rw [q] at k
   rw [Jh] at q
   obtain⟨y,_,rfl⟩:=z9.mp q
   have z:isNone y.v=false:=by cases y<;>rfl
   show K (!isNone y.v) _
   rw [z];exact k
 ·have z:∀es:List Es,(es.filter fun e=>e.ev.isSome).map (fun e=>e.ev.getD .none)=(es.filterMap Es.mK).map M7.v:=fun es=>by
   induction es with
   |nil=>rfl
   |cons e es ih=>
    have q:=Jh e
    cases y:e.mK with
    |none=>
     rw [y] at q
     rw [J8 (by rw [q];exact nofun),List.filterMap_cons_none y];exact ih
    |some t=>
     rw [y] at q
     rw [List.filter_cons_of_pos (by rw [q];rfl),List.filterMap_cons_some y,I7,I7,q,ih];rfl
  rw [z]
  exact h
end
theorem jP(s:Way)(x:List M7×Bool):flat (s++[x])=flat s++(x.1++zx x.2):=by
 induction s with
 |nil=>show x.1++(zx x.2++[])=_;rw [s7];rfl
 |cons y s ih=>show y.1++(zx y.2++flat (s++[x]))=(y.1++(zx y.2++flat s))++_;rw [ih,j7,j7]
theorem af4{l:List Wy}(hl:l.length<=3)(s:Sx):(s.es l).length<=100:=by
 have lm:O9 l<=3:=d8 (dj l []) hl
 have a:∀n i k,(mF l i k n).length=2*n:=fun n=>by
  induction n with
  |zero=>exact fun O O=>rfl
  |succ n ih=>exact fun i k=>by show(mF l (i+1) (k+1) n).length+1+1=_;rw [ih];lia
 have b:∀n i t,(vW i t n).length=3*n:=fun n=>by
  induction n with
  |zero=>exact fun O O=>rfl
  |succ n ih=>exact fun i k=>by show(vW (i+1) (k+1) n).length+1+1+1=_;rw [ih];lia
 have c:∀i n,(Ol i n).length=n:=fun i n=>by
  induction n with
  |zero=>rfl
  |succ n ih=>exact congrArg (·+ 1) ih
 cases s with
 |gd i v=>
  show(Vd l i v).length<=100
  unfold Vd XJ
  rw [d7,d7,d7,a,b,c]
  show 2*(O9 l+1)+(2+_)<=_
  lia
 |cmp i lo v=>cases lo<;>exact d9 rfl
 |_=>exact d9 rfl
theorem wg{l:List Wy}(hl:l.length<=3):∀b:List Sx,(b.flatMap (Sx.es l)).length<=100*b.length
 | []=>z8 _
 |s::b=>by
  have:=af4 hl s
  have:=wg hl b
  rw [List.flatMap_cons,d7,m8]
  lia
noncomputable def wsum(T:List (Nat×Nat)):List (Nat×Way)->Nat
 | []=>0
 |x::r=>iU T x.1+wsum T r
theorem Gf(T:List (Nat×Nat))(a b:List (Nat×Way)):wsum T (a++b)=wsum T a+wsum T b:=by
 induction a with
 |nil=>exact(z6 _).symm
 |cons x a ih=>show iU T x.1+wsum T (a++b)=iU T x.1+wsum T a+wsum T b;rw [ih,Nat.add_assoc]
section
variable{l:List Wy}{B:lY}{f:List Nat}{T:List (Nat×Nat)}
structure xY(l:List Wy)(f:List Nat)(T:List (Nat×Nat))(x:Nat×Way):Prop where
 mem:x.1∈f
 ok:∀y∈x.2,rF l y
 len:(flat x.2).length+101*iU T x.1<=40400
structure Ye(l:List Wy)(s:Way):Prop where
 ok:∀y∈s,rF l y
 len:(flat s).length<=40400
inductive WyI(l:List Wy)(f:List Nat)(T:List (Nat×Nat))(m0:Loc)(F W:Addr)(H:AH)(j:Nat)(m':Loc)(H':AH):Prop
 |mk (ws:List (Nat×Way)) (fs:List Way) (hm:m'=m0\/∃x y z,m'=m0++[(78,x),(403,y),(282,z)]) (e1:H' F=some (.list (fs.map Ve))) (e2:H' W=some (.list (ws.map (Ly f)))) (hw:∀x∈ws,xY l f T x) (hf:∀s∈fs,Ye l s)
  (hj:wsum T ws<=j) (hj2:j<=400) (hl:fs.length<=300) (E:Ext H H'):WyI l f T m0 F W H j m' H'
theorem Ctx.pos(c:Ctx B f T){i:Nat}(h:i∈f):1<=iU T i:=d8 (Nat.le_add_right 1 _) (c.wt i (c.lf i h))
theorem Ji(c:Ctx B f T):∀{ws:List (Nat×Way)},(∀x∈ws,xY l f T x)->ws.length<=wsum T ws
 | [],_=>o9 _
 |x::r,h=>by
  have:=c.pos (h x (.head _)).mem
  have:=Ji c fun y hy=>h y (.tail _ hy)
  show r.length+1<=iU T x.1+wsum T r
  lia
theorem aD1(ws:List (Nat×Way)):PV.V0 (ws.map (Ly f))=true:=cu fun p hp=>by
 obtain⟨x,_,rfl⟩:=w6.mp hp
 show(true&&(PV.V0 ((flat x.2).map M7.v)&&true))=true
 rw [(Ub (flat x.2)).1];rfl
theorem Ctx.fork{t:Tx}{b:Nat}(e:(R4 B b).2=some t):((R4 B b).2.elim false Tx.forks)=t.forks:=by rw [e];rfl
theorem xY.step(c:Ctx B f T){b j:Nat}{s:Way}{x:List M7×Bool}(h:xY l f T (b,s))(hx:rF l x)(hz:x.1.length<=100)(hj:j∈f)(hw:iU T j+1<=iU T b):xY l f T (j,s++[x]):=by
 refine⟨hj,fun y hy=>(u0.mp hy).elim (h.ok y) fun z=>j8.mp z▸hx,?_⟩
 have:=h.len
 have k:(zx x.2).length<=1:=by cases x.2<;>exact d9 rfl
 show(flat (s++[x])).length+101*iU T j<=40400
 rw [jP,d7,d7]
 have q:(flat s).length+101*iU T b<=40400:=this
 lia
theorem xY.stop(c:Ctx B f T){b:Nat}{s:Way}{x:List M7×Bool}(h:xY l f T (b,s))(hx:rF l x)(hz:x.1.length<=100):Ye l (s++[x]):=by
 refine⟨fun y hy=>(u0.mp hy).elim (h.ok y) fun z=>j8.mp z▸hx,?_⟩
 have q:(flat s).length+101*iU T b<=40400:=h.len
 have:=c.pos h.mem
 have k:(zx x.2).length<=1:=by cases x.2<;>exact d9 rfl
 rw [jP,d7,d7]
 lia
end
section
variable{P:Params}{g:G (O4 P).T}(hg:N6 g){n:Nat}{m:Loc}{H:AH}{Q:PV->AH->Prop}{l:List Wy}{B:lY}{f:List Nat}{T:List (Nat×Nat)}{bd:Addr}
include hg
theorem Gg{v no yes:PV}{E:List PV}{o:PV}(he:m.lookup 403=some (.lst E))(hz:E.length+1<=sizeLine)(h1:m.lookup 282=some (.tup [.str 85,o,.tup [.tup [v,no]],yes]))(h:Q (.lst [.tup [no,.lst (E++[lA])],.tup [yes,.lst (E++[lA])]]) H):
  (X.comp [403] (.one 101) (.tup [.loc 101,.bin .Add (.loc 403) (.lst [.tup [.str 275]])]) (.bin .Add (.comp [] (.one 36) (.at (.loc 36) 1) (.at (.loc 282) 2) [] [(446,.local),(36,.local)]) (.lst [.at (.loc 282) 3])) [] [(446,.local),(101,.local),(403,.free)]).wE g n m H Q:=by
 refine dD (Jd he) (j9 h1 ?_)
 refine pR (f:=fun r:PV×PV=>.tup [r.1,r.2]) (w:=fun r=>r.2) [(v,no)] (fC rfl) (fun r hr D o K O k=>j9 T8 k) ?_
 refine j9 h1 (zc rfl rfl rfl (fC rfl) ?_)
 refine iB (f:=id) (w:=fun p=>.tup [p,.lst (E++[lA])]) [no,yes] (fC rfl) (fun p hp D o K O k=>j9 T8 (j9 (Q5 (by decide) (iG rfl he)) (zc rfl rfl rfl hz k))) ?_
 exact h
noncomputable abbrev Uo:List S:=[.asg (.name 403) (.bin .Add (.loc 403) (.comp [] (.one 404) (.loc 404) (.comp [] (.one 28) (.call 405 [.loc 28]) (.at (.sub (.attr (.loc 92) 73) (.loc 78)) 0) [] [(446,.local),(28,.local),(405,.globalImplicit)]) [.cmp .IsNot (.loc 404) .none] [(446,.local),(404,.local)])),.asg (.name 282) (.at (.sub (.attr (.loc 92) 73) (.loc 78)) 1),.iff (.cmp .Eq (.at (.loc 282) 0) (.str 84)) [.expr (.S7 (.loc 93) "list" 67 "list.append" [.tup [.at (.loc 282) 1,.loc 403]])] [.iff (.cmp .Eq (.at (.loc 282) 0) (.str 85)) [.expr (.S7 (.loc 93) "list" 66 "list.extend" [.comp [403] (.one 101) (.tup [.loc 101,.bin .Add (.loc 403) (.lst [.tup [.str 275]])]) (.bin .Add (.comp [] (.one 36) (.at (.loc 36) 1) (.at (.loc 282) 2) [] [(446,.local),(36,.local)]) (.lst [.at (.loc 282) 3])) [] [(446,.local),(101,.local),(403,.free)]])] [.expr (.S7 (.loc 83) "list" 67 "list.append" [.loc 403])]]]
theorem Oo{R:Out->Loc->AH->Prop}{F W:Addr}{b:Nat}{s:Way}{ws:List (Nat×Way)}{fs:List Way}{t:Tx}(c:Ctx B f T)(hl:l.length<=3)(hx:xY l f T (b,s))(et:(R4 B b).2=some t)(sg:rF l (aP l (R4 B b).1,t.forks)) (Yg:(aP l (R4 B b).1).length<=100) (l60:(R4 B b).1.length<=60)
  (lb:m.lookup 92=some (.obj bd)) (lw:m.lookup 93=some (.obj W)) (lf:m.lookup 83=some (.obj F)) (Xh:m.lookup 78=some (.int (V9 b f:Nat))) (VH:m.lookup 403=some (.lst ((flat s).map M7.v))) (BA:mG H bd (f.map (Zi l B f))) (eF:H F=some (.list (fs.map Ve))) (eW:H W=some (.list (ws.map (Ly f)))) (fl:fs.length<300) (wl:ws.length<=400) (hB:B.length<=60) (hn:1<=n)
  (k1:∀news:List (Nat×Way),(∀x∈news,xY l f T x)->wsum T news+1<=iU T b->∀y z,R .next (w7 282 z (w7 403 y m)) (upd H W (.list ((ws++news).map (Ly f))))) (k2:∀s',Ye l s'->∀y z,R .next (w7 282 z (w7 403 y m)) (upd H F (.list ((fs++[s']).map Ve)))):O5 g n Uo m H R:=by
 have zs:sizeLine=16777216:=p7
 have bf:=hx.mem
 have sl:(flat s).length+101*iU T b<=40400:=hx.len
 have fz:V9 b f<f.length:=(v8.mp (vQ bf)).1
 have hlt:V9 b f<2 ^ 62:=G9 fz (d8 c.fz (by decide))
 obtain⟨Q8,bl,a1,a2,a3,a5,b1,b2,b3⟩:=BA
 have gb:(f.map (Zi l B f))[V9 b f]? = some (Zi l B f b):=by rw [G7,vQ bf];rfl
 have e0:((flat s).map M7.v).length=(flat s).length:=g8 _
 have e1:((aP l (R4 B b).1).map M7.v).length=(aP l (R4 B b).1).length:=g8 _
 have fle:=wg hl (R4 B b).1
 have ef:(flat (s++[(aP l (R4 B b).1,false)])).map M7.v=(flat s).map M7.v++(aP l (R4 B b).1).map M7.v:=by
  rw [jP,q8]
  show _++List.map M7.v (aP l (R4 B b).1++[])=_
  rw [s7]
 have et2:(flat (s++[(aP l (R4 B b).1,true)])).map M7.v=((flat s).map M7.v++(aP l (R4 B b).1).map M7.v)++[lA]:=by
  rw [jP,q8,j7]
  exact congrArg (_ ++ ·) q8
 refine j9 VH (j9 lb (H8.mk b1 b2 rfl rfl (j9 Xh (aB b3 hlt gb ?_))))
 refine Yd hg (l:=l) (R4 B b).1 (by lia) hn ?_
 refine zc rfl rfl rfl (by rw [e0,e1];lia) ?_
 have wt:=c.wt b (c.lf b bf)
 have cl:=c.cl b bf
 rw [et] at wt cl
 have et':OJ l B b=t.tm l:=by unfold OJ;rw [et];rfl
 refine j9 (Q5 (by decide) lb) (H8.mk b1 b2 rfl rfl (j9 (Q5 (by decide) Xh) (aB b3 hlt gb ?_)))
 show O5 g n (Uo.drop 2) (w7 282 (((OJ l B b).map fun j=>V9 j f).v) (w7 403 (.lst ((flat s).map M7.v++(aP l (R4 B b).1).map M7.v)) m)) H R
 rw [et']
 have mw:∀z y,(w7 282 z (w7 403 y m)).lookup 93=some (.obj W):=fun z y=>Q5 (by decide) (Q5 (by decide) lw)
 have mf:∀z y,(w7 282 z (w7 403 y m)).lookup 83=some (.obj F):=fun z y=>Q5 (by decide) (Q5 (by decide) lf)
 have me:∀z y,(w7 282 z (w7 403 y m)).lookup 403=some y:=fun z y=>Q5 (by decide) T8
 have wlz:(ws.map (Ly f)).length+2<=sizeLine:=by rw [g8];lia
 have flz:(fs.map Ve).length+1<=sizeLine:=by rw [g8];lia
 cases t with
 |goto i=>
  have wt:1+(iU T i+0)<=iU T b:=wt
  refine j9 T8 (j9 (mw _ _) (O8 eW (j9 T8 (j9 (me _ _) (Q0 eW (o8 wlz) ?_)))))
  have z:=k1 [(i,s++[(aP l (R4 B b).1,false)])] (fun x hx'=>by rw [j8.mp hx'];exact hx.step c sg Yg (cl i (.head _)) (by lia)) (by show iU T i+0+1<=_;lia) (.lst ((flat s).map M7.v++(aP l (R4 B b).1).map M7.v)) (((Tx.goto i).tm l).map fun j=>V9 j f).v
  rw [q8] at z
  have q:[((i,s++[(aP l (R4 B b).1,false)]):Nat×Way)].map (Ly f)=[.tup [.int (V9 i f:Nat),.lst ((flat s).map M7.v++(aP l (R4 B b).1).map M7.v)]]:=by
   show [PV.tup [.int (V9 i f:Nat),.lst ((flat (s++[(aP l (R4 B b).1,false)])).map M7.v)]]=_
   rw [ef]
  rw [q] at z
  exact z
 |br tt bad good=>
  have wt:1+(iU T bad+(iU T good+0))<=iU T b:=wt
  refine j9 T8 (j9 T8 (j9 (mw _ _) (O8 eW (Gg hg (me _ _) (by rw [d7,e0,e1];lia) T8 (cD eW (.inr rfl) wlz ?_)))))
  have z:=k1 [(bad,s++[(aP l (R4 B b).1,true)]),(good,s++[(aP l (R4 B b).1,true)])] (fun x hx'=>by
   rcases q7.mp hx' with rfl|hx'
   ·exact hx.step c sg Yg (cl bad (.head _)) (by lia)
   ·rw [j8.mp hx'];exact hx.step c sg Yg (cl good (.tail _ (.head _))) (by lia)) (by show iU T bad+(iU T good+0)+1<=_;lia) (.lst ((flat s).map M7.v++(aP l (R4 B b).1).map M7.v)) (((Tx.br tt bad good).tm l).map fun j=>V9 j f).v
  rw [q8] at z
  have q:[((bad,s++[(aP l (R4 B b).1,true)]):Nat×Way),(good,s++[(aP l (R4 B b).1,true)])].map (Ly f)=[.tup [.int (V9 bad f:Nat),.lst (((flat s).map M7.v++(aP l (R4 B b).1).map M7.v)++[lA])],.tup [.int (V9 good f:Nat),.lst (((flat s).map M7.v++(aP l (R4 B b).1).map M7.v)++[lA])]]:=by
   show [PV.tup [.int (V9 bad f:Nat),.lst ((flat (s++[(aP l (R4 B b).1,true)])).map M7.v)],PV.tup [.int (V9 good f:Nat),.lst ((flat (s++[(aP l (R4 B b).1,true)])).map M7.v)]]=_
   rw [et2]
  rw [q] at z
  exact z
 |eq v bad good=>
  have wt:1+(iU T bad+(iU T good+0))<=iU T b:=wt
  refine j9 T8 (j9 T8 (j9 (mw _ _) (O8 eW (Gg hg (me _ _) (by rw [d7,e0,e1];lia) T8 (cD eW (.inr rfl) wlz ?_)))))
  have z:=k1 [(bad,s++[(aP l (R4 B b).1,true)]),(good,s++[(aP l (R4 B b).1,true)])] (fun x hx'=>by
   rcases q7.mp hx' with rfl|hx'
   ·exact hx.step c sg Yg (cl bad (.head _)) (by lia)
   ·rw [j8.mp hx'];exact hx.step c sg Yg (cl good (.tail _ (.head _))) (by lia)) (by show iU T bad+(iU T good+0)+1<=_;lia) (.lst ((flat s).map M7.v++(aP l (R4 B b).1).map M7.v)) (((Tx.eq v bad good).tm l).map fun j=>V9 j f).v
  rw [q8] at z
  have q:[((bad,s++[(aP l (R4 B b).1,true)]):Nat×Way),(good,s++[(aP l (R4 B b).1,true)])].map (Ly f)=[.tup [.int (V9 bad f:Nat),.lst (((flat s).map M7.v++(aP l (R4 B b).1).map M7.v)++[lA])],.tup [.int (V9 good f:Nat),.lst (((flat s).map M7.v++(aP l (R4 B b).1).map M7.v)++[lA])]]:=by
   show [PV.tup [.int (V9 bad f:Nat),.lst ((flat (s++[(aP l (R4 B b).1,true)])).map M7.v)],PV.tup [.int (V9 good f:Nat),.lst ((flat (s++[(aP l (R4 B b).1,true)])).map M7.v)]]=_
   rw [et2]
  rw [q] at z
  exact z
 |ret=>
  refine j9 T8 (j9 T8 (j9 (mf _ _) (O8 eF (j9 (me _ _) (Q0 eF (v7 flz) ?_)))))
  have z:=k2 (s++[(aP l (R4 B b).1,false)]) (hx.stop c sg Yg) (.lst ((flat s).map M7.v++(aP l (R4 B b).1).map M7.v)) ((Tx.ret.tm l).map fun j=>V9 j f).v
  rw [q8,show [s++[(aP l (R4 B b).1,false)]].map Ve=[.lst ((flat s).map M7.v++(aP l (R4 B b).1).map M7.v)] by show [PV.lst ((flat (s++[(aP l (R4 B b).1,false)])).map M7.v)]=_;rw [ef]] at z
  exact z
 |Gu=>
  refine j9 T8 (j9 T8 (j9 (mf _ _) (O8 eF (j9 (me _ _) (Q0 eF (v7 flz) ?_)))))
  have z:=k2 (s++[(aP l (R4 B b).1,false)]) (hx.stop c sg Yg) (.lst ((flat s).map M7.v++(aP l (R4 B b).1).map M7.v)) ((Tx.Gu.tm l).map fun j=>V9 j f).v
  rw [q8,show [s++[(aP l (R4 B b).1,false)]].map Ve=[.lst ((flat s).map M7.v++(aP l (R4 B b).1).map M7.v)] by show [PV.lst ((flat (s++[(aP l (R4 B b).1,false)])).map M7.v)]=_;rw [ef]] at z
  exact z
theorem Yh(c:Ctx B f T)(hl:l.length<=3)(hB:B.length<=60)(BA:mG H bd (f.map (Zi l B f))) (hn:3<=n) (h:∀F (fs:List Way) H',Ext H H'->H' F=some (.list (fs.map Ve))->(∀s∈fs,Ye l s)->fs.length<=300->Q (.obj F) H'):Cl g n (.obj jm) [.obj bd] H Q:=by
 refine(Bs P).cl hg rfl hn fun n hn F hF W hW=>?_
 have ne:W≠F:=fun z=>by rw [z,p8] at hW;cases hW
 have hW':H W=none:=by rw [<- hW,w5 ne]
 have f0:0∈f:=u6 c.z
 have i0:V9 0 f=0:=by
  cases f with
  |nil=>cases c.z
  |cons x r=>have z:=G6 c.z;show(if x=0 then 0 else _)=0;rw [if_pos z]
 let m0:Loc:=[(92,.obj bd),(93,.obj W),(83,.obj F)]
 refine pO.mk (WyI l f T m0 F W H) 400 ⟨[(0,[])],[],.inl rfl,(w5 ne.symm).trans (p8 ..),?_,fun x hx=>?_,fun s hs=>(nomatch hs),?_,o9 _,z8 _,Ext.upd hW' (Ext.new hF)⟩ ?_
 ·rw [p8]
  show _=some (N7.list [.tup [.int (V9 0 f:Nat),.lst []]])
  rw [i0];rfl
 ·rw [j8.mp hx]
  exact⟨f0,fun y hy=>(nomatch hy),by have:=c.w0;show 0+101*iU T 0<=40400;lia⟩
 ·show iU T 0+0<=400;exact c.w0
 intro j m' H' z
 obtain⟨ws,fs,hm,e1,e2,hw,hf,hj,hj2,hl3,E⟩:=z
 have zs:sizeLine=16777216:=p7
 have lw:m'.lookup 93=some (.obj W):=by rcases hm with rfl|⟨x,y,z,rfl⟩<;>rfl
 have lf:m'.lookup 83=some (.obj F):=by rcases hm with rfl|⟨x,y,z,rfl⟩<;>rfl
 have lb:m'.lookup 92=some (.obj bd):=by rcases hm with rfl|⟨x,y,z,rfl⟩<;>rfl
 have wl:=Ji c hw
 refine j9 lw (JX e2 (aD1 ws) ?_)
 rcases snoc_cases ws with rfl|⟨ws,x,rfl⟩
 ·exact j9 lf (h F fs H' E e1 hf hl3)
 obtain⟨b,s⟩:=x
 refine dD (by cases ws<;>rfl) (j9 lf (S5 (k:=fs.length) ((len_list e1).trans (congrArg some (g8 _))) (G3 hl3 (by decide)) ?_))
 cases hlt:decide ((fs.length:Int)<300) with
 |false=>exact LC (b:=decide ((fs.length:Int)<300)) hlt (j9 lf (h F fs H' E e1 hf hl3))
 |true=>
 have fl:fs.length<300:=Int.ofNat_lt.mp (u9 hlt)
 refine dD (b:=decide ((fs.length:Int)<300)) hlt ?_
 have hx:=hw (b,s) (J6 _ (.head _))
 have hw':∀x∈ws,xY l f T x:=fun x hx=>hw x (K5 _ hx)
 have hs:wsum T ws+(iU T b+0)<=j:=by rw [Gf] at hj;exact hj
 have wl':=Ji c hw'
 have bf:=hx.mem
 have Zq:=c.lf b bf
 have ok:=c.ok b Zq
 obtain⟨ok1,ok⟩:=n7 (show((R4 B b).2.isSome&&(yR B.length (R4 B b)&&(vG (R4 B b)&&(Nat.ble (R4 B b).1.length 60&&(R4 B b).1.all jy))))=true from ok)
 obtain⟨ok2,ok⟩:=n7 ok
 obtain⟨ok3,ok⟩:=n7 ok
 obtain⟨ok4,ok5⟩:=n7 ok
 have l60:=d9 ok4
 obtain⟨t,et⟩:=Option.isSome_iff_exists.mp ok1
 obtain⟨sg,Yg⟩:=af3 (l:=l) hl ok3 ok5 l60 (f:=t.forks) (Ctx.fork et).symm
 have e2':H' W=some (.list (ws.map (Ly f)++[Ly f (b,s)])):=e2.trans (congrArg (fun l=>some (N7.list l)) q8)
 refine j9 lw (O8 e2 (tU e2' (by rw [g8];lia) ?_))
 have E1:Ext H (upd H' W (.list (ws.map (Ly f)))):=Ext.upd hW' E
 have e1':upd H' W (.list (ws.map (Ly f))) F=some (.list (fs.map Ve)):=(w5 ne.symm).trans e1
 generalize hH:upd H' W (.list (ws.map (Ly f)))=H1 at E1 e1' ⊢
 have eW:H1 W=some (.list (ws.map (Ly f))):=by rw [<- hH];exact p8 ..
 show O5 g n Uo (w7 403 (.lst ((flat s).map M7.v)) (w7 78 (.int (V9 b f:Nat)) m')) H1 _
 have hm2:∀y z,w7 282 z (w7 403 y (w7 403 (.lst ((flat s).map M7.v)) (w7 78 (.int (V9 b f:Nat)) m')))=m0++[(78,.int (V9 b f:Nat)),(403,y),(282,z)]:=fun y z=>by rcases hm with rfl|⟨_,_,_,rfl⟩<;>rfl
 refine Oo hg (F:=F) (W:=W) (b:=b) (s:=s) (ws:=ws) (fs:=fs) (t:=t) c hl hx et sg Yg l60 (Q5 (by decide) (Q5 (by decide) lb)) (Q5 (by decide) (Q5 (by decide) lw)) (Q5 (by decide) (Q5 (by decide) lf)) (Q5 (by decide) T8) T8 (BA.ext E1) e1' eW fl (by lia) hB (leB hn rfl) (fun news hnw hsum y z=>?_) fun s' hs' y z=>?_
 ·exact⟨j-1,by lia,ws++news,fs,.inr ⟨_,_,_,hm2 y z⟩,(w5 ne.symm).trans e1',p8 ..,fun x hx=>(u0.mp hx).elim (hw' x) (hnw x),hf,by rw [Gf];lia,by lia,hl3,Ext.upd hW' E1⟩
 ·exact⟨j-1,by have:=c.pos bf;lia,ws,fs++[s'],.inr ⟨_,_,_,hm2 y z⟩,p8 ..,(w5 ne).trans eW,hw',fun x hx=>(u0.mp hx).elim (hf x) fun h=>j8.mp h▸hs',by have:=c.pos bf;lia,by lia,by rw [d7];exact fl,Ext.upd hF E1⟩
end
theorem Cu{x:Nat}{l:List Nat}(h:rW x l=true):x∈l:=by
 obtain⟨y,hy,e⟩:=List.any_eq_true.mp h
 rw [Nat.eq_of_beq_eq_true e];exact hy
theorem Lz:∀{l:List Nat},Wu l=true->l.Nodup
 | [],_=>.nil
 |x::l,h=>by
  obtain⟨h1,h2⟩:=n7 (show(!rW x l&&Wu l)=true from h)
  refine G5.mpr ⟨fun m=>?_,Lz h2⟩
  rw [show rW x l=true from List.any_eq_true.mpr ⟨x,m,Nat.beq_refl x⟩] at h1
  cases h1
theorem wj{S:Nat->Prop}:∀{k l:List Nat},(∀i∈l,S i)->(∀i∈k,S i)->∀i∈Ih l k,S i
 | [],_,h,_,i,hi=>h i hi
 |x::k,l,h,h2,i,hi=>by
  have hk:∀i∈k,S i:=fun i hi=>h2 i (.tail _ hi)
  have hi:i∈(if rW x l then Ih l k else Ih (x::l) k):=hi
  by_cases e:rW x l=true
  ·rw [if_pos e] at hi;exact wj h hk i hi
  ·rw [if_neg e] at hi
   exact wj (fun j hj=>(q7.mp hj).elim (fun z=>z▸h2 x (.head _)) (h j)) hk i hi
theorem Yi(B:lY)(i:Nat):((B[i]?).elim none (·.2))=(R4 B i).2:=by unfold R4;cases B[i]? <;> rfl
theorem qw{B:lY}{S:Nat->Prop}(hc:∀i,S i->∀j∈aj (R4 B i).2,S j):∀{ord L:List Nat},(∀i∈L,S i)->∀i∈Kr B ord L,S i
 | [],_,h,i,hi=>h i hi
 |x::r,L,h,i,hi=>by
  have hi:i∈Kr B r (if rW x L then Ih L (aj ((B[x]?).elim none (·.2))) else L):=hi
  by_cases e:rW x L=true
  ·rw [if_pos e,Yi] at hi
   exact qw hc (wj h (hc x (h x (Cu e)))) i hi
  ·rw [if_neg e] at hi
   exact qw hc h i hi
structure Uq(B:lY)(L:List Nat)(T:List (Nat×Nat))(due bd:Nat):Prop where
 b60:B.length<=60
 all:∀b∈B,Ks B b=true
 nd:L.Nodup
 cl:∀i∈L,∀j∈aj (R4 B i).2,j∈L
 z:0∈L
 wt:∀i,i<B.length->1+fZ (iU T) (aj (R4 B i).2)<=iU T i
 w0:iU T 0<=400
 Gh:fZ (fun i=>rY (R4 B i).1) L=due
 af5:due=0->fZ (fun i=>Ii (R4 B i).1) L<=bd
theorem Yj{B:lY}{L:List Nat}{T:List (Nat×Nat)}{due bd:Nat}(h:lowOk B L T due bd=true):Uq B L T due bd:=by
 obtain⟨h1,h⟩:=n7 h
 obtain⟨h2,h⟩:=n7 h
 obtain⟨h3,h⟩:=n7 h
 obtain⟨h4,h⟩:=n7 h
 obtain⟨h5,h⟩:=n7 h
 obtain⟨h6,h⟩:=n7 h
 obtain⟨h7,h⟩:=n7 h
 obtain⟨h8,h9⟩:=n7 h
 refine⟨d9 h1,m9.mp h2,Lz h3,fun i hi j hj=>Cu (m9.mp (n7 (m9.mp h4 i hi)).2 j hj),Cu h5,fun i hi=>d9 (m9.mp h6 i (List.mem_range.mpr hi)),d9 h7,Nat.eq_of_beq_eq_true h8,fun e=>?_⟩
 rcases Bool.or_eq_true_iff.mp h9 with h|h
 ·rw [e] at h;cases h
 ·exact d9 h
theorem Uq.one{B:lY}{L:List Nat}{T:List (Nat×Nat)}{due bd:Nat}(w:Uq B L T due bd){i:Nat}(h:i<B.length):Ks B (R4 B i)=true:=by
 have e:R4 B i=B[i]:=by unfold R4;rw [o7 h];rfl
 rw [e];exact w.all _ (List.getElem_mem h)
theorem zG{f:Nat->Nat}{a b:List Nat}(p:a.Perm b):fZ f a=fZ f b:=by
 induction p with
 |nil=>rfl
 |cons x _ ih=>exact congrArg (f x + ·) ih
 |swap x y l=>show f y+(f x+fZ f l)=f x+(f y+fZ f l);lia
 |trans _ _ ih1 ih2=>exact ih1.trans ih2
noncomputable def cG(e:Es):Bool:=match e.mK with
 |some (.guard _)=>true
 |_=>false
noncomputable def cL(e:Es):Bool:=match e.mK with
 |some (.lent ..)=>true
 |_=>false
theorem jQ{c:Es->Bool}(a b:List Es):((a++b).filter c).length=(a.filter c).length+(b.filter c).length:=by rw [List.filter_append,d7]
theorem af6{l:List Wy}{i v:Nat}(h:Nat.ble 70 v=true):((Vd l i v).filter cG).length=1:=by
 have a:∀n i k,((mF l i k n).filter cG).length=0:=fun n=>by
  induction n with
  |zero=>exact fun O O=>rfl
  |succ n ih=>exact fun i k=>ih (i+1) (k+1)
 have b:∀n i t,((vW i t n).filter cG).length=0:=fun n=>by
  induction n with
  |zero=>exact fun O O=>rfl
  |succ n ih=>exact fun i k=>ih (i+1) (k+1)
 have c:∀i n,((Ol i n).filter cG).length=0:=fun i n=>by
  induction n with
  |zero=>rfl
  |succ n ih=>exact ih
 have d:((XJ (i+(O9 l+1)) v).filter cG).length=1:=by
  have z:cG (.bin (i+(O9 l+1)) 161 (bD 2) v)=true:=by
   show(match(match Nat.ble 70 v with|true=>some (M7.guard v)|false=>none) with|some (.guard _)=>true|_=>false)=true
   rw [h]
  show(List.filter cG [.live (i+(O9 l+1)),.bin (i+(O9 l+1)) 161 (bD 2) v]).length=1
  rw [J8 (show ¬(false=true) from nofun),List.filter_cons_of_pos z];rfl
 unfold Vd
 rw [jQ,jQ,jQ,a,b,c,d]
theorem Yk{l:List Wy}{s:Sx}(h2:jy s=true):((s.es l).filter cG).length=(if Y6 s then 1 else 0)/\(Y6 s=false->((s.es l).filter cL).length=if isRef s then 1 else 0):=by
 cases s with
 |live i=>exact⟨rfl,fun O=>rfl⟩
 |dead i=>exact⟨rfl,fun O=>rfl⟩
 |ref i=>exact⟨rfl,fun O=>rfl⟩
 |cst v=>exact⟨rfl,fun O=>rfl⟩
 |Ow i=>cases l<;>exact⟨rfl,fun O=>rfl⟩
 |gd i v=>exact⟨af6 h2,nofun⟩
 |cmp i lo v=>
  have lt:v<70:=d9 h2
  have nb:Nat.ble 70 v=false:=by
   cases e:Nat.ble 70 v with
   |false=>rfl
   |true=>exact absurd (d9 e) (Nat.not_le_of_lt lt)
  have no:∀op p,(Es.bin i op p v).mK=none:=fun op p=>by
   show(match Nat.ble 70 v with|true=>some (M7.guard v)|false=>none)=none
   rw [nb]
  have g:∀op p,cG (Es.bin i op p v)=false:=fun op p=>by unfold cG;rw [no]
  have k:∀op p,cL (Es.bin i op p v)=false:=fun op p=>by unfold cL;rw [no]
  cases lo<;>exact⟨congrArg List.length (J8 (by rw [g];exact nofun)),fun O=>congrArg List.length (J8 (by rw [k];exact nofun))⟩
theorem Cv{l:List Wy}:∀{b:List Sx},b.all jy=true->((b.flatMap (Sx.es l)).filter cG).length=rY b/\(rY b=0->((b.flatMap (Sx.es l)).filter cL).length=Ii b)
 | [],_=>⟨rfl,fun O=>rfl⟩
 |s::b,h=>by
  have h:(jy s&&b.all jy)=true:=h
  obtain⟨a1,a2⟩:=Yk (l:=l) (n7 h).1
  obtain⟨b1,b2⟩:=Cv (l:=l) (n7 h).2
  have gs:rY (s::b)=(if Y6 s then 1 else 0)+rY b:=by
   unfold rY
   cases e:Y6 s with
   |true=>rw [List.filter_cons_of_pos e,m8,if_pos rfl,Nat.add_comm]
   |false=>rw [J8 (by rw [e];exact nofun),if_neg nofun,z6]
  have rs:Ii (s::b)=(if isRef s then 1 else 0)+Ii b:=by
   unfold Ii
   cases e:isRef s with
   |true=>rw [List.filter_cons_of_pos e,m8,if_pos rfl,Nat.add_comm]
   |false=>rw [J8 (by rw [e];exact nofun),if_neg nofun,z6]
  rw [List.flatMap_cons]
  refine⟨by rw [jQ,a1,b1,gs],fun z=>?_⟩
  rw [gs] at z
  have g0:Y6 s=false:=by
   cases e:Y6 s with
   |false=>rfl
   |true=>rw [e,if_pos rfl] at z;lia
  rw [jQ,a2 g0,b2 (by lia),rs]
theorem Gi{f:Nat->Nat}:∀{l:List Nat},fZ f l=0->∀i∈l,f i=0
 |x::l,h,i,hi=>by
  have h:f x+fZ f l=0:=h
  rcases q7.mp hi with rfl|hi
  ·lia
  ·exact Gi (by lia) i hi
section
variable{P:Params}{g:G (O4 P).T}(hg:N6 g){n:Nat}{m:Loc}{H:AH}{Q:PV->AH->Prop}{l:List Wy}
theorem dW2:jg (O4 P).T nG 2 []:=jg.of (fd:=_) (ps:=_) rfl [] rfl fun vs h S=>by
 obtain⟨a,b,rfl⟩:=len2 h
 rfl
include hg
theorem wu{p q r t b:PV}(hn:2<=n)(h:∀a dx H',St H H' [(a,.inst cI dx),(dx,.attrs [(119,p),(75,q),(39,r),(122,t),(92,b)])]->Q (.obj a) H'):Cl g n (.obj cI) [p,q,r,t,b] H Q:=
 make hg rfl hn fun n a dx H' hn s=>(rR P).clC hg rfl hn fun n O=>s.set 0 1 rfl rfl rfl rfl fun H' s=>s.set 0 1 rfl rfl rfl rfl fun H' s=>s.set 0 1 rfl rfl rfl rfl fun H' s=>s.set 0 1 rfl rfl rfl rfl fun H' s=>s.set 0 1 rfl rfl rfl rfl fun H' s=>And.intro rfl (h a dx H' s)
theorem wz(hn:2<=n)(h:∀w Gv wl sg H',Ext H H'->H' w=some (.inst jK Gv)->H' Gv=some (.attrs wl)->wl.lookup 121=some (.obj sg)->H' sg=some (.T9 [])->Q (.obj w) H'):Cl g n (.obj jK) [.none] H Q:=
 make hg rfl hn fun n a dx H' hn s=>(xu P).Xd hg dW2 rfl hn fun n O=>s.set 0 1 rfl rfl rfl rfl fun H' s=>fun a1 h1=>(s.new h1 _).set 1 2 rfl rfl rfl rfl fun H' s=>fun a2 h2=>(s.new h2 _).set 2 3 rfl rfl rfl rfl fun H' s=>fun a3 h3=>(s.new h3 _).set 3 4 rfl rfl rfl rfl fun H' s=>
  fun a4 h4=>(s.new h4 _).set 4 5 rfl rfl rfl rfl fun H' s=>fun a5 h5=>(s.new h5 _).set 5 6 rfl rfl rfl rfl fun H' s=>fun a6 h6=>(s.new h6 _).set 6 7 rfl rfl rfl rfl fun H' s=>fun a7 h7=>(s.new h7 _).set 7 8 rfl rfl rfl rfl fun H' s=>And.intro rfl (h a dx _ a3 H' s.keep (s.at 7 rfl) (s.at 8 rfl) rfl (s.at 4 rfl))
omit hg
theorem xZ{D:Addr}{fin:List PV->AH->Prop}{it:AH->Option (List PV)}{L:List PV}(hit:∀o,it (upd H D o)=some L):∀(r pre:List Wy) (acc:List PV) (m:Loc),l=pre++r->(m=[(395,.tup (steps l))]\/∃x,m=[(395,.tup (steps l)),(181,x)])->acc.length+r.length<=10->l.length<=10->
  fin (acc++(M5 pre r).map bF) (upd H D (.list (acc++(M5 pre r).map bF)))->
  WC (.one 181) (Ag g n [.cmp .Eq (.sub (.loc 395) (.loc 181)) (.tup [.str 107])]) ((X.tup [.int 1,.UW (.loc 395) (.loc 181)]).wE g n) it L D fin (S6 (pre.length:Int) r.length) acc m (upd H D (.list acc)):=by
 intro r
 induction r with
 |nil=>
  intro pre acc m _ _ _ _ h
  rw [show(M5 pre []).map bF=[] from rfl,s7] at h
  exact h
 |cons w r Im=>
  intro pre acc m hl hm hz hz2 h
  have ih:=Im (pre++[w])
  rw [d7,I4] at ih
  have hl':l=pre++[w]++r:=by rw [hl,j7];rfl
  rw [m8] at hz
  have m2:bindC (upd H D (.list acc)) (.one 181) (.int (pre.length:Int)) m=some [(395,.tup (steps l)),(181,.int (pre.length:Int))]:=by rcases hm with rfl|⟨x,rfl⟩<;>rfl
  refine cC m2 ?_
  have lt:pre.length<l.length:=by rw [hl,d7,m8];exact Nat.lt_add_of_pos_right (Nat.succ_pos _)
  have ls:(steps l).length=l.length:=g8 _
  have sg:(steps l)[pre.length]? = some w.step:=by
   rw [hl,steps,q8,J0 (by rw [g8];exact o9 _),g8,Nat.sub_self];rfl
  have go:w.isD=true->((X.tup [.int 1,.UW (.loc 395) (.loc 181)]).wE g n) [(395,.tup (steps l)),(181,.int (pre.length:Int))] (upd H D (.list acc)) fun x aT5=>(aT5 D=some (.list acc)/\acc.length<sizeLine/\it aT5=some L)/\
    WC (.one 181) (Ag g n [.cmp .Eq (.sub (.loc 395) (.loc 181)) (.tup [.str 107])]) ((X.tup [.int 1,.UW (.loc 395) (.loc 181)]).wE g n) it L D fin (S6 ((pre.length:Int)+1) r.length) (acc++[x]) [(395,.tup (steps l)),(181,.int (pre.length:Int))] (upd aT5 D (.list (acc++[x]))):=fun hd=>by
   refine Qg.mk ⟨⟨Int.natCast_nonneg _,by rw [ls];exact Int.ofNat_lt.mpr lt,by rw [ls,p7];lia⟩,?_⟩
   rw [show(steps l).take (pre.length:Int).toNat=steps pre by rw [Int.toNat_natCast,hl,steps,q8,List.take_left' (g8 _)];rfl]
   refine⟨⟨p8 ..,by rw [p7];lia,hit _⟩,?_⟩
   rw [V2]
   have z:M5 pre (w::r)=pre::M5 (pre++[w]) r:=by show @Bool.rec (fun O=>List (List Wy)) _ _ w.isD=_;rw [hd]
   refine ih (acc++[bF pre]) _ hl' (.inr ⟨_,rfl⟩) (by rw [d7,I4];lia) hz2 ?_
   rw [z,I7] at h
   rw [j7]
   exact h
  refine aU rfl ((mZ (G9 lt (d8 hz2 (by decide)))).trans sg) ?_
  cases w with
  |fld=>exact⟨⟨p8 ..,hit _⟩,ih acc _ hl' (.inr ⟨_,rfl⟩) (by lia) hz2 h⟩
  |box=>exact go rfl
  |ref mu=>exact go rfl
theorem Cw{α β:Type}{fn:α->PV}{sub:α->List β}{fb w:β->PV}{c:β->Bool}{x0 x1:Nat}{caps:List Nat}{w1:Loc->AH->(PV->AH->Prop)->Prop}{wi:Loc->AH->(Bool->AH->Prop)->Prop}{we:Loc->AH->(PV->AH->Prop)->Prop}{fin:List PV->AH->Prop}{a:Addr}(xs:List α)(e:H a=some (.list (xs.map fn))) (hl:(xs.flatMap sub).length<=sizeLine)
  (h1:∀y∈xs,∀D o K,H D=none->K (.lst ((sub y).map fb)) (upd H D o)->w1 (w7 x0 (fn y) (R9 caps m)) (upd H D o) K)
  (hi:∀y∈xs,∀b∈sub y,∀D o K,H D=none->K (c b) (upd H D o)->wi (w7 x1 (fb b) (w7 x0 (fn y) (R9 caps m))) (upd H D o) K)
  (he:∀y∈xs,∀b∈sub y,c b=true->∀D o K,H D=none->K (w b) (upd H D o)->we (w7 x1 (fb b) (w7 x0 (fn y) (R9 caps m))) (upd H D o) K) (h:fin (((xs.flatMap sub).filter c).map w) H):
  Kf m caps (.one x0) w1 (.one x1) wi we fin (fun H=>itemsOf H (.obj a)) (xs.map fn) H:=fun D hD=>by
 have ne:a≠D:=fun z=>by rw [<- z,e] at hD;cases hD
 have it:∀o,itemsOf (upd H D o) (.obj a)=some (xs.map fn):=fun o=>K9 ((w5 ne).trans e)
 have key:∀(r:List α) (acc:List PV),(∀y∈r,y∈xs)->acc.length+(r.flatMap sub).length<=sizeLine->fin (acc++((r.flatMap sub).filter c).map w) H->YS (.one x0) w1 (.one x1) wi we (fun H=>itemsOf H (.obj a)) (xs.map fn) D (R9 caps m) (fun acc H'=>fin acc (del H' D)) (r.map fn) acc (upd H D (.list acc)):=by
  intro r
  induction r with
  |nil=>
   intro acc _ _ h
   rw [show(([]:List α).flatMap sub).filter c=[] from rfl,List.map_nil,s7] at h
   show fin acc (del (upd H D (.list acc)) D)
   rw [V3 hD]
   exact h
  |cons y r ih=>
   intro acc hm hz h
   rw [List.flatMap_cons,d7] at hz
   have hy:=hm y (.head _)
   refine h1 y hy D _ _ hD ⟨⟨p8 ..,nofun⟩,?_⟩
   have in2:∀(s:List β) (acc:List PV) (m':Loc),(∀b∈s,b∈sub y)->(∀q,w7 x1 q m'=w7 x1 q (w7 x0 (fn y) (R9 caps m)))->acc.length+(s.length+(r.flatMap sub).length)<=sizeLine->fin (acc++((s++r.flatMap sub).filter c).map w) H->
     WC (.one x1) wi we (fun H=>itemsOf H (.lst ((sub y).map fb))) ((sub y).map fb) D (fun acc' H'=>itemsOf H' (.obj a)=some (xs.map fn)/\YS (.one x0) w1 (.one x1) wi we (fun H=>itemsOf H (.obj a)) (xs.map fn) D (R9 caps m) (fun acc H'=>fin acc (del H' D)) (r.map fn) acc' H') (s.map fb) acc m' (upd H D (.list acc)):=by
    intro s
    induction s with
    |nil=>
     intro acc m' _ _ hz h
     exact⟨it _,ih acc (fun y hy=>hm y (.tail _ hy)) (by rw [List.length_nil,z6] at hz;exact hz) h⟩
    |cons b s ih2=>
     intro acc m' hs hq hz h
     have hz:acc.length+(s.length+1+(r.flatMap sub).length)<=sizeLine:=hz
     refine cC (m₁:=w7 x1 (fb b) m') rfl ?_
     rw [hq]
     have hb:=hs b (.head _)
     have hs':∀b∈s,b∈sub y:=fun b hb=>hs b (.tail _ hb)
     have hq':∀q,w7 x1 q (w7 x1 (fb b) (w7 x0 (fn y) (R9 caps m)))=w7 x1 q (w7 x0 (fn y) (R9 caps m)):=fun q=>cF ..
     refine hi y hy b hb D _ _ hD ?_
     cases ec:c b with
     |false=>
      rw [List.cons_append,J8 (by rw [ec];exact nofun)] at h
      exact⟨⟨p8 ..,rfl⟩,ih2 acc _ hs' hq' (by lia) h⟩
     |true=>
      rw [List.cons_append,List.filter_cons_of_pos ec] at h
      refine he y hy b hb ec D _ _ hD ⟨⟨p8 ..,by lia,rfl⟩,?_⟩
      rw [V2]
      refine ih2 (acc++[w b]) _ hs' hq' (by rw [d7];show acc.length+1+_<=_;lia) ?_
      rw [j7]
      exact h
   exact in2 (sub y) acc _ (fun O h=>h) (fun O=>rfl) (by lia) (by rw [List.flatMap_cons] at h;exact h)
 exact key xs [] (fun O h=>h) (by rw [List.length_nil,z6];exact hl) h
end
theorem Yl{l:List Wy}{M:GM}{due bd:Nat}{L:List Nat}{T:List (Nat×Nat)}(w:Uq M.blks L T due bd):TOk (M.mem l).fix (OJ l M.blks):=by
 intro i b e
 rw [jD,G7] at e
 obtain⟨b',e',rfl⟩:=z9.mp e
 have e':(M.blks.map (bv l))[i]? = some b':=e'
 rw [G7] at e'
 obtain⟨x,ex,rfl⟩:=z9.mp e'
 have hx:R4 M.blks i=x:=by unfold R4;rw [ex];rfl
 have ok:=w.all x (u6 ex)
 obtain⟨ok1,ok⟩:=n7 (show(x.2.isSome&&(yR M.blks.length x&&(vG x&&(Nat.ble x.1.length 60&&x.1.all jy))))=true from ok)
 obtain⟨ok2,_⟩:=n7 ok
 obtain⟨t,et⟩:=Option.isSome_iff_exists.mp ok1
 have tv:OJ l M.blks i=t.tm l:=by unfold OJ;rw [hx,et];rfl
 have nb:((M.mem l).fix).blks.length=M.blks.length:=by rw [jD,g8];exact g8 _
 refine⟨?_,?_⟩
 ·show(if isNone (opv l x.2) then _ else opv l x.2)=_
  rw [et,tv,aD0]
  have z:isNone (opv l (some t))=false:=by cases t<;>rfl
  rw [z];rfl
 ·obtain⟨f1,f2⟩:=n7 (show((aj x.2).all (fun j=>Nat.blt j M.blks.length)&&RJ (aj x.2))=true from ok2)
  have os:(OJ l M.blks i).succ=aj x.2:=by rw [vZ,hx]
  refine⟨fun j hj=>?_,?_⟩
  ·rw [os] at hj
   rw [nb]
   exact d9 (m9.mp f1 j hj)
  ·rw [os,et] at *
   cases t with
   |br a bad good=>
    have f2:(!Nat.beq bad good)=true:=f2
    refine G5.mpr ⟨fun m=>?_,G5.mpr ⟨List.not_mem_nil,.nil⟩⟩
    rw [j8.mp m,Nat.beq_refl] at f2
    cases f2
   |eq v good fail=>
    have f2:(!Nat.beq good fail)=true:=f2
    refine G5.mpr ⟨fun m=>?_,G5.mpr ⟨List.not_mem_nil,.nil⟩⟩
    rw [j8.mp m,Nat.beq_refl] at f2
    cases f2
   |goto i=>exact G5.mpr ⟨List.not_mem_nil,.nil⟩
   |ret=>exact .nil
   |Gu=>exact .nil
theorem Ym{l:List Wy}{M:GM}{f:List Nat}(i:Nat):sH (M.mem l).fix (OJ l M.blks) f i=Zi l M.blks f i:=by
 have e:(((M.mem l).fix.blks[i]?).map (·.1)).getD []=(R4 M.blks i).1.flatMap (Sx.vs l):=by
  rw [jD,G7,show(M.mem l).blks=M.blks.map (bv l) from rfl,G7]
  unfold R4
  cases M.blks[i]? <;> rfl
 unfold sH Zi
 rw [e]
structure Cx(l:List Wy)(M:GM)(T:List (Nat×Nat))(due bd:Nat)(f:List Nat)(R:AH)(b:Addr)(H':AH):Prop where
 ctx:Ctx M.blks f T
 keep:Ext R H'
 body:mG H' b (f.map (Zi l M.blks f))
 Gh:fZ (fun i=>rY (R4 M.blks i).1) f=due
 af5:due=0->fZ (fun i=>Ii (R4 M.blks i).1) f<=bd
theorem Jj{l:List Wy}{M:GM}{due bd:Nat}{L:List Nat}{T:List (Nat×Nat)}(w:Uq M.blks L T due bd)(hm:∀S:Nat->Prop,S 0->(∀i,S i->∀j∈aj (R4 M.blks i).2,S j)->∀i∈L,S i) {f:List Nat} {R H':AH} {b:Addr} (d:Done (M.mem l).fix (OJ l M.blks) f R b H'):Cx l M T due bd f R b H':=by
 have nb:((M.mem l).fix).blks.length=M.blks.length:=by rw [jD,g8];exact g8 _
 have lf:∀i∈f,i<M.blks.length:=fun i hi=>nb▸d.lf i hi
 have cl:∀i∈f,∀j∈aj (R4 M.blks i).2,j∈f:=fun i hi j hj=>d.cl i hi j (by rw [vZ];exact hj)
 have z0:0∈f:=u6 d.z
 have far:∀i,¬i<M.blks.length->aj (R4 M.blks i).2=[]:=fun i hi=>by
  unfold R4
  rw [J4 (Nat.le_of_not_lt hi)];rfl
 have fL:∀i∈f,i∈L:=d.su (·∈L) w.z fun i hi j hj=>w.cl i hi j (by rw [vZ] at hj;exact hj)
 have Lf:∀i∈L,i∈f:=hm (·∈f) z0 cl
 have pm:f.Perm L:=(List.perm_ext_iff_of_nodup d.nd w.nd).mpr fun i=>⟨fL i,Lf i⟩
 have fl:f.length<=60:=by
  have:=List.Nodup.length_le_of_subset (l₂:=List.range M.blks.length) d.nd fun i hi=>List.mem_range.mpr (lf i hi)
  rw [List.length_range] at this
  exact d8 this w.b60
 obtain⟨Q8,bl,a1,a2,a3,a5,e1,e2,e3⟩:=d.ob
 refine⟨⟨fun i hi=>w.one hi,lf,cl,d.z,w.wt,w.w0,fl,w.b60⟩,d.keep,⟨Q8,bl,a1,a2,a3,a5,e1,e2,?_⟩,(zG pm).trans w.Gh,fun e=>(zG pm).symm▸w.af5 e⟩
 rw [e3]
 exact congrArg (fun z=>some (N7.list z)) (List.map_congr_left fun i O=>Ym i)
section
variable{P:Params}{g:G (O4 P).T}(hg:N6 g){n:Nat}{m:Loc}{H:AH}{Q:PV->AH->Prop}{l:List Wy}{M:GM}{T:List (Nat×Nat)}{due bd:Nat}{f:List Nat}{R:AH}{b:Addr}
include hg
theorem Ur{tf Od w Gv sg lw:Addr}{pn:Nat}{wl:List (Nat×PV)}{rows:List (PV×PV×PV)}{as:List Z8}{tys:List jx}(hl:rows.length<=100)(hw:l.length<=3)(t1:H tf=some (.inst cI Od))
  (t2:H Od=some (.attrs [(119,.str pn),(75,.obj lw),(39,.tup []),(122,aG),(92,Oc l as)])) (t3:H lw=some (.list (rows.map gw))) (w1:H w=some (.inst jK Gv)) (w2:H Gv=some (.attrs wl)) (w3:wl.lookup 121=some (.obj sg)) (w4:H sg=some (.T9 []))
  (ht:aG::rows.map (fun r=>r.2.1)=tys.map (jx.v l)) (hx:tys[1]? = some .x) (ok:mz (RG tys) as) (ck:Wv (lowG (O9 l) as tys) due bd=true) (hP:H R3=some (.code cV)) (hn:17<=n)
  (h:∀T f b H',Cx l (lowG (O9 l) as tys) T due bd f H b H'->Q (.obj b) H'):Cl g n (.obj sX) [.obj tf,.obj w] H Q:=by
 obtain⟨c1,ck⟩:=n7 ck
 obtain⟨_,c2⟩:=n7 ck
 have lw':=Yj c2
 have zz:=d9 c1
 refine TQ hg hl hw t1 t2 t3 w1 w2 w3 w4 ht hx ok (Yl lw') lw'.b60 (by rw [p7];lia) hP hn fun f b H' d=>h _ f b H' (Jj lw' (fun S s0 sc i hi=>qw sc (fun j hj=>j8.mp hj▸s0) i hi) d)
end
noncomputable abbrev as4(t:Nat):X:=.cmp .Eq (.at (.or [.call 405 [.loc 28],.tup [.str 413]]) 0) (.str t)
section
variable{P:Params}{g:G (O4 P).T}(hg:N6 g){n:Nat}{m:Loc}{H:AH}{Q:PV->AH->Prop}{l:List Wy}{M:GM}{T:List (Nat×Nat)}{due bd:Nat}{f:List Nat}{R:AH}{b:Addr}
include hg
theorem af7{e:Es}{t:Nat}{C:Bool->AH->Prop}(h1:m.lookup 28=some e.v)(hn:1<=n)(ht:(PV.str 413).eqv (.str t)=false)(h:C (@Option.rec M7 (fun O=>Bool) false (fun y=>(PV.str y.tag).eqv (.str t)) e.mK) H):(as4 t).wT g n m H C:=by
 refine j9 h1 (vV hg e hn ?_)
 have q:=Jh e
 cases y:e.mK with
 |none=>
  rw [y] at q h
  rw [q]
  show C ((PV.str 413).eqv (.str t)) H
  rw [ht]
  exact h
 |some y'=>
  rw [y] at q h
  rw [q]
  cases y'<;>exact h
theorem Oq{K:PV->AH->Prop}(hl:l.length<=3)(h:K (.lst ((O1 l).map bF)) H) (hm:m.lookup 395=some (.tup (steps l))) (hc:R9 [395] m=[(395,.tup (steps l))]):
  (X.bin .Add (.lst [.tup [.int 1,.loc 395]]) (.comp [395] (.one 181) (.tup [.int 1,.UW (.loc 395) (.loc 181)]) (.call 69 [.call 31 [.loc 395]]) [.cmp .Eq (.sub (.loc 395) (.loc 181)) (.tup [.str 107])] [(446,.local),(181,.local),(395,.free)])).wE g n m H K:=by
 have ls:(steps l).length=l.length:=g8 _
 refine j9 hm (dD (Jd hm) (j9 hm (S5 (k:=l.length) (congrArg some ls) (G3 hl (by decide)) (fM ?_))))
 refine And.intro ⟨by decide,by decide,by lia,by lia⟩ (j9 (x:=S6 ((0:Nat):Int) l.length) (congrArg (fun k=>some (S6 0 k)) (by lia)) fun D hD=>?_)
 rw [hc]
 refine xZ (l:=l) (H:=H) (fun o=>congrArg (fun k=>some (S6 0 k)) (by lia)) l [] [] _ rfl (.inl rfl) (by show 0+l.length<=10;lia) (by lia) ?_
 have pl:=dj l []
 rw [K8,V3 hD]
 exact zc rfl rfl rfl (by rw [g8,p7];show 1+(M5 [] l).length<=_;lia) h
theorem Gj{R0:AH}{elt:X}{w:Es->PV}{x t:Nat}{c:Es->Bool}{Q':Out->Loc->AH->Prop}(d:Cx l M T due bd f R0 b H)(hl:l.length<=3)(hm:m.lookup 92=some (.obj b))(hn:1<=n)(ht:(PV.str 413).eqv (.str t)=false)(hc:∀e:Es,@Option.rec M7 (fun O=>Bool) false (fun y=>(PV.str y.tag).eqv (.str t)) e.mK=c e)
  (helt:∀(e:Es) (m':Loc) (H':AH) (K:PV->AH->Prop),c e=true->m'.lookup 28=some e.v->K (w e) H'->elt.wE g n m' H' K) (h:Q' .next (w7 x (.lst (((f.flatMap fun i=>(R4 M.blks i).1.flatMap (Sx.es l)).filter c).map w)) m) H):
  (S.Ri x [] (.one 78) (.one 28) elt (.attr (.loc 92) 73) (.at (.loc 78) 0) [as4 t] [(446,.local),(78,.local),(28,.local),(405,.globalImplicit)]).w g n m H Q':=by
 obtain⟨Q8,bl,a1,a2,a3,a5,e1,e2,e3⟩:=d.body
 have len:(f.flatMap fun i=>(R4 M.blks i).1.flatMap (Sx.es l)).length<=sizeLine:=by
  have z:∀r:List Nat,(∀i∈r,i∈f)->(r.flatMap fun i=>(R4 M.blks i).1.flatMap (Sx.es l)).length<=6000*r.length:=fun r=>by
   induction r with
   |nil=>exact fun O=>z8 _
   |cons i r ih=>
    intro hr
    have hi:=d.ctx.ok i (d.ctx.lf i (hr i (.head _)))
    obtain⟨_,ok⟩:=n7 (show((R4 M.blks i).2.isSome&&(yR M.blks.length (R4 M.blks i)&&(vG (R4 M.blks i)&&(Nat.ble (R4 M.blks i).1.length 60&&(R4 M.blks i).1.all jy))))=true from hi)
    have l60:=d9 (n7 (n7 (n7 ok).2).2).1
    have:=wg hl (R4 M.blks i).1
    have:=ih fun j hj=>hr j (.tail _ hj)
    rw [List.flatMap_cons,d7,m8]
    lia
  have:=z f fun O h=>h
  have:=d.ctx.fz
  rw [p7];lia
 refine j9 hm (H8.mk e1 e2 rfl rfl (j9 (K9 e3) ?_))
 refine Cw (α:=Nat) (β:=Es) (fn:=Zi l M.blks f) (sub:=fun i=>(R4 M.blks i).1.flatMap (Sx.es l)) (fb:=Es.v) (w:=w) (c:=c) f e3 len (fun i hi D o K O k=>j9 T8 ?_) (fun i hi e he D o K O k=>?_) (fun i hi e he ce D o K O k=>helt e _ _ K ce T8 k) h
 ·rw [Cj] at k
  exact k
 ·refine af7 hg T8 hn ht ?_
  rw [hc]
  exact k
end
theorem Cy{sub:Nat->List Es}{c:Es->Bool}{k:Nat->Nat}:∀{f:List Nat},(∀i∈f,((sub i).filter c).length=k i)->((f.flatMap sub).filter c).length=fZ k f
 | [],_=>rfl
 |x::f,h=>by
  rw [List.flatMap_cons,jQ,h x (.head _),Cy fun i hi=>h i (.tail _ hi)];rfl
theorem af8(e:Es):@Option.rec M7 (fun O=>Bool) false (fun y=>(PV.str y.tag).eqv (.str 202)) e.mK=cG e:=by
 unfold cG
 cases e.mK with
 |none=>rfl
 |some y=>cases y<;>rfl
theorem af9(e:Es):@Option.rec M7 (fun O=>Bool) false (fun y=>(PV.str y.tag).eqv (.str 205)) e.mK=cL e:=by
 unfold cL
 cases e.mK with
 |none=>rfl
 |some y=>cases y<;>rfl
theorem Us(as:List Z8):(as.filter fun a=>a.p.rZ).length=sy as:=by
 induction as with
 |nil=>rfl
 |cons a as ih=>
  show _=(if a.p.rZ then 1 else 0)+sy as
  cases e:a.p.rZ with
  |true=>rw [List.filter_cons_of_pos (p:=fun a:Z8=>a.p.rZ) e,m8,ih,if_pos rfl,Nat.add_comm]
  |false=>rw [J8 (p:=fun a:Z8=>a.p.rZ) (by rw [e];exact nofun),ih,if_neg nofun,z6]
section
variable{P:Params}{g:G (O4 P).T}(hg:N6 g){n:Nat}{m:Loc}{H:AH}{Q:PV->AH->Prop}{l:List Wy}
include hg
theorem Gk{rw:Addr}{rows:List (PV×PV×PV)}{as:List Z8}{tys:List jx}{due:Nat}(hl:rows.length<=100)(hw:l.length<=3)(h3:H rw=some (.list (rows.map gw))) (ht:aG::rows.map (fun r=>r.2.1)=tys.map (jx.v l)) (hx:tys[1]? = some .x) (ok:mz (RG tys) as) (ha:as.length<=100)
  (ck:Wv (lowG (O9 l) as tys) due (sy as)=true) (hP:H R3=some (.code cV)) (hn:18<=n) (h:∀H',Ext H H'->Q (.bool true) H'):Cl g n (.obj bT) [exV l,iZ l,.tup (steps l),.tup (as.map Z8.v),.obj rw,.int (due:Int)] H Q:=by
 refine(xH P).cl hg rfl hn fun n hn=>?_
 refine wu hg (leB hn rfl) fun tf Od H1 s=>wz hg (leB hn rfl) fun w Gv wl sg H2 E w1 w2 w3 w4=>?_
 refine Ur hg (rows:=rows) (as:=as) (l:=l) (tys:=tys) hl hw (E _ _ (s.at 0 rfl)) (E _ _ (s.at 1 rfl)) (E _ _ (s.keep _ _ h3)) w1 w2 w3 w4 ht hx ok ck (E _ _ (s.keep _ _ hP)) hn fun T f b H3 d=>?_
 have E3:Ext H H3:=(s.keep.trans E).trans d.keep
 let m3:Loc:=[(145,exV l),(6,iZ l),(395,.tup (steps l)),(408,.tup (as.map Z8.v)),(91,.obj rw),(399,.int (due:Int)),(64,Oc l as),(92,.obj b)]
 let m4:Loc:=m3++[(96,.lst ((O1 l).map bF))]
 suffices key:O5 g n (bV.drop 3) m4 H3 (mO Q) from Oq hg (n:=n) (H:=H3) (m:=m3) (l:=l) (K:=kA g n m3 (YC (mO Q) (Va (O5 g n (bV.drop 3)) (mO Q))) (.name 96)) hw key rfl rfl
 have one:∀i∈f,(R4 (lowG (O9 l) as tys).blks i).1.all jy=true:=fun i hi=>by
  have ok:=d.ctx.ok i (d.ctx.lf i hi)
  obtain⟨_,ok⟩:=n7 (show((R4 (lowG (O9 l) as tys).blks i).2.isSome&&(yR (lowG (O9 l) as tys).blks.length (R4 (lowG (O9 l) as tys).blks i)&&(vG (R4 (lowG (O9 l) as tys).blks i)&&(Nat.ble (R4 (lowG (O9 l) as tys).blks i).1.length 60&&(R4 (lowG (O9 l) as tys).blks i).1.all jy))))=true from ok)
  exact(n7 (n7 (n7 ok).2).2).2
 have cg:((f.flatMap fun i=>(R4 (lowG (O9 l) as tys).blks i).1.flatMap (Sx.es l)).filter cG).length=due:=(Cy fun i hi=>(Cv (one i hi)).1).trans d.Gh
 have dz:due<=16777216:=by
  have z:∀r:List Nat,(∀i∈r,i∈f)->fZ (fun i=>rY (R4 (lowG (O9 l) as tys).blks i).1) r<=60*r.length:=fun r=>by
   induction r with
   |nil=>exact fun O=>z8 _
   |cons i r ih=>
    intro hr
    have oki:=d.ctx.ok i (d.ctx.lf i (hr i (.head _)))
    obtain⟨_,oki⟩:=n7 (show((R4 (lowG (O9 l) as tys).blks i).2.isSome&&(yR (lowG (O9 l) as tys).blks.length (R4 (lowG (O9 l) as tys).blks i)&&(vG (R4 (lowG (O9 l) as tys).blks i)&&(Nat.ble (R4 (lowG (O9 l) as tys).blks i).1.length 60&&(R4 (lowG (O9 l) as tys).blks i).1.all jy))))=true from oki)
    have l60:=d9 (n7 (n7 (n7 oki).2).2).1
    have:=d8 (List.length_filter_le Y6 (R4 (lowG (O9 l) as tys).blks i).1) l60
    have:=ih fun j hj=>hr j (.tail _ hj)
    show rY (R4 (lowG (O9 l) as tys).blks i).1+fZ _ r<=60*(r.length+1)
    unfold rY
    unfold rY at this
    lia
  have:=z f fun O h=>h
  have:=d.ctx.fz
  have:=d.Gh
  lia
 let m5:Loc:=m4++[(410,.lst (((f.flatMap fun i=>(R4 (lowG (O9 l) as tys).blks i).1.flatMap (Sx.es l)).filter cG).map Es.v))]
 refine Gj hg (m:=m4) (w:=Es.v) (c:=cG) d hw rfl (leB hn rfl) rfl af8 (fun e m' H' K O h1 k=>j9 h1 k) ?_
 show O5 g n (bV.drop 4) m5 H3 (mO Q)
 refine S5 (k:=due) (congrArg some ((g8 _).trans cg)) (G3 dz (by decide)) ?_
 refine LC (b := !(PV.int (due:Int)).eqv (.int (due:Int))) (by rw [jF _ rfl];rfl) ?_
 show sel ((PV.int (due:Int)).eqv (.int 0)) _ _
 cases h0:(PV.int (due:Int)).eqv (.int 0) with
 |true=>
  have d0:due=0:=Int.ofNat.inj (eq_of_beq (show((due:Int)==((0:Nat):Int))=true from h0))
  have gz:=Gi (d.Gh.trans d0)
  have cl:((f.flatMap fun i=>(R4 (lowG (O9 l) as tys).blks i).1.flatMap (Sx.es l)).filter cL).length<=sy as:=d8 (Nat.le_of_eq (Cy fun i hi=>(Cv (one i hi)).2 (gz i hi))) (d.af5 d0)
  have bz:sy as<=100:=by rw [<- Us];exact d8 (List.length_filter_le ..) ha
  have bl:((as.filter fun a=>a.p.rZ).map Z8.v).length=sy as:=(g8 _).trans (Us as)
  let m6:Loc:=m5++[(205,.lst (((f.flatMap fun i=>(R4 (lowG (O9 l) as tys).blks i).1.flatMap (Sx.es l)).filter cL).map fun e=>e.ev.getD .none))]
  let m7:Loc:=m6++[(195,.lst ((as.filter fun a=>a.p.rZ).map Z8.v))]
  refine Gj hg (m:=m5) (w:=fun e=>e.ev.getD .none) (c:=cL) d hw rfl (leB hn rfl) rfl af9 (fun e m' H' K O h1 k=>j9 h1 (vV hg e (leB hn rfl) k)) ?_
  refine Ck (m:=m6) (f:=Z8.v) (w:=Z8.v) (c:=fun a=>a.p.rZ) as (d8 ha (fC rfl)) (fun a hA D o K O k=>?_) (fun a hA ca D o K O k=>k) ?_
  ·obtain⟨p,gd,num⟩:=a
   cases p with
   |bnd s rf=>cases rf<;>exact k
   |_=>exact k
  ·refine S5 (k:=((f.flatMap fun i=>(R4 (lowG (O9 l) as tys).blks i).1.flatMap (Sx.es l)).filter cL).length) (congrArg some (g8 _)) (G3 (d8 cl bz) (by decide)) (S5 (k:=sy as) (congrArg some bl) (G3 bz (by decide)) ?_)
   have z:=h H3 E3
   rw [<- show decide ((((f.flatMap fun i=>(R4 (lowG (O9 l) as tys).blks i).1.flatMap (Sx.es l)).filter cL).length:Int)<=(sy as:Int))=true from decide_eq_true (Int.ofNat_le.mpr cl)] at z
   exact z
 |false=>
  suffices key:Cl g n (.obj jm) [.obj b] H3 (cR m5 [96] (.one 314) (Ag g n [.not (.call 412 [.loc 314,.loc 96])]) ((X.loc 314).wE g n) (kLi (kCm g n .Eq m5 (kR m5 (YC (mO Q) (Va (O5 g n []) (mO Q)))) (.lst [])))) from key
  refine Yh hg d.ctx hw d.ctx.b60 d.body (leB hn rfl) fun F fs H4 E4 e1 ok4 fl=>?_
  refine Cm (fn:=Ve) (w:=Ve) (c:=fun O=>false) fs e1 (d8 fl (fC rfl)) (fun s hs D o K O k=>Cq hg hw (d8 (ok4 s hs).len (by decide)) (ok4 s hs).ok (leB hn rfl) k) (fun s hs cs=>nomatch cs) ?_
  ·rw [show fs.filter (fun O=>false)=[] from List.filter_eq_nil_iff.mpr fun O O=>nofun]
   exact h H4 (E3.trans E4)
end
section
variable{P:Params}{g:G (O4 P).T}(hg:N6 g){n:Nat}{m:Loc}{H:AH}{Q:PV->AH->Prop}{src:Addr}
include hg
theorem ag0{ts:List PV}(S:SrcAt src H)(h0:0<ts.length)(h2:ts.length<1000)(hn:2<=n)(h:∀(d:Nat) p H',ts[d]? = some p->gA src H H'->Q p H'):Cl g n (.obj uR) [.obj src,.lst ts] H Q:=by
 refine(Ek P).cl hg rfl hn fun n hn=>S5 (k:=ts.length) rfl (G9 h2 (by decide)) (oZ hg S h0 (Nat.lt_trans h2 (by decide)) (leB hn rfl) fun d H' hd T=>?_)
 exact aU rfl ((mZ (G9 (Nat.lt_trans hd h2) (by decide))).trans (o7 hd)) (h d _ H' (o7 hd) T)
theorem Jk{slot:Nat}(S:SrcAt src H)(hn:3<=n)(h:∀k H',k<6->gA src H H'->Q (Pt.nth k slot).v H'):Cl g n (.obj jl) [.obj src,.int (slot:Int)] H Q:=by
 refine(rT P).cl hg rfl hn fun n hn=>?_
 refine ag0 hg (ts:=[0,1,2,3,4,5].map fun k=>(Pt.nth k slot).v) S (d9 rfl) (d9 rfl) hn fun d p H' e T=>?_
 rw [G7] at e
 obtain⟨k,hk,rfl⟩:=z9.mp e
 exact h k H' (m9.mp (show [0,1,2,3,4,5].all (fun k=>decide (k<6))=true from rfl) k (u6 hk) |> u9) T
noncomputable abbrev scM(src:Addr)(l:List Wy):Loc:=[(308,.obj src),(395,.tup (steps l)),(6,iZ l),(145,xT aG 0)]
theorem Gl{full:List PV}{N:Int}{H0:AH}{Q':Out->Loc->AH->Prop}(hn:1<=n)(fin:∀l m' H',l.length<=3->gA src H0 H'->(m'=scM src l\/∃x y,m'=scM src l++[(359,x),(314,y)])->Q' .next m' H'):∀(k i:Nat) (l:List Wy) (m:Loc) (H:AH),i+k<=3->l.length=i->gA src H0 H->(m=scM src l\/∃x y,m=scM src l++[(359,x),(314,y)])->
  ur ((Tg.name 359).w g n) (O5 g n [.asg (.name 314) (.call 312 [.loc 308,.int 3]),.asg (.name 6) (.sub (.lst [.tup [.str 9,.tup [.glob 396,.loc 6]],.tup [.str 10,.loc 6],.tup [.str 8,.none,.cmp .Gt (.loc 359) (.int 0),.loc 6]]) (.loc 314)),.asg (.name 395) (.bin .Add (.sV (.cmp .Eq (.loc 314) (.int 0)) (.tup [.tup [.str 106,.int 1]]) (.tup [.tup [.str 107]])) (.loc 395))]) (.rng 0 N) full Q' (S6 (i:Int) k) m H:=by
 intro k
 induction k with
 |zero=>exact fun i l m H hi hl T hm=>fin l m H (by lia) T hm
 |succ k ih=>
  intro i l m H hi hl T hm
  have ls0:m.lookup 308=some (.obj src):=by rcases hm with rfl|⟨x,y,rfl⟩<;>rfl
  have m2:∀w,w7 314 w (w7 359 (.int (i:Int)) m)=scM src l++[(359,PV.int (i:Int)),(314,w)]:=fun w=>by rcases hm with rfl|⟨x,y,rfl⟩<;>rfl
  show O5 g n _ (w7 359 (.int (i:Int)) m) _ _
  refine j9 (Q5 (by decide) ls0) (oZ hg T.at_ (top:=3) (by decide) (by decide) hn fun d H1 hd T1=>?_)
  show O5 g n _ (w7 314 (.int (d:Int)) (w7 359 (.int (i:Int)) m)) _ _
  rw [m2]
  have ls:(steps l).length=l.length:=g8 _
  have zs:1+(steps l).length<=sizeLine:=by rw [ls,p7];lia
  have go:∀(w:Wy) (d:Nat),_:=fun w d=>ih (i+1) (w::l) (scM src (w::l)++[(359,PV.int (i:Int)),(314,PV.int (d:Int))]) H1 (by lia) (congrArg (·+ 1) hl) (T.trans T1) (.inr ⟨_,_,rfl⟩)
  cases d with
  |zero=>exact aU rfl rfl (yG zs (go .fld 0))
  |succ d=>
  cases d with
  |zero=>exact aU rfl rfl (yG zs (go .box 1))
  |succ d=>
  cases d with
  |zero=>exact aU rfl rfl (yG zs (go (.ref (decide ((0:Int)<(i:Int)))) 2))
  |succ d=>exact absurd hd (by lia)
noncomputable abbrev Zj:List S:=[.asg (.name 180) (.sV (.cmp .Eq (.loc 141) (.tup [.str 106,.int 1])) (.at (.at (.loc 180) 1) 1) (.sV (.cmp .Eq (.at (.loc 180) 0) (.str 8)) (.at (.loc 180) 3) (.at (.loc 180) 1))),.asg (.name 145) (.sV (.cmp .Eq (.loc 141) (.tup [.str 106,.int 1])) (.tup [.str 106,.loc 180,.int 0,.loc 145,.int 1]) (.tup [.str 107,.loc 180,.int 0,.loc 145]))]
omit hg in
theorem Jl{full:List PV}{Q':Out->Loc->AH->Prop}:∀(r:List Wy) (e:PV) (m:Loc),m.lookup 180=some (iZ r)->m.lookup 145=some e->(∀m',m'.lookup 6=m.lookup 6->m'.lookup 395=m.lookup 395->m'.lookup 145=some (exF e r)->Q' .next m' H)->
  ur ((Tg.name 141).w g n) (O5 g n Zj) (.tup full) full Q' (r.map Wy.step) m H:=by
 intro r
 induction r with
 |nil=>exact fun e m O h2 h=>h m rfl rfl h2
 |cons w r Im=>
  intro e m h1 h2 h
  have l1:(w7 141 w.step m).lookup 180=some (w.ty (iZ r)):=Q5 (by decide) h1
  have go:∀m1:Loc,m1=w7 145 (w.ex (iZ r) e) (w7 180 (iZ r) (w7 141 w.step m))->ur ((Tg.name 141).w g n) (O5 g n Zj) (.tup full) full Q' (r.map Wy.step) m1 H:=fun m1 q=>by
   subst q
   refine Im _ _ (Q5 (by decide) T8) T8 fun m' a b c=>h m' (a.trans ?_) (b.trans ?_) c
   ·rw [M9,if_neg (by decide),M9,if_neg (by decide),M9,if_neg (by decide)]
   ·rw [M9,if_neg (by decide),M9,if_neg (by decide),M9,if_neg (by decide)]
  have l2:∀v,(w7 180 v (w7 141 w.step m)).lookup 141=some w.step:=fun v=>Q5 (by decide) T8
  have l3:∀v,(w7 180 v (w7 141 w.step m)).lookup 145=some e:=fun v=>Q5 (by decide) (Q5 (by decide) h2)
  cases w with
  |fld=>exact j9 T8 (j9 l1 (j9 (l2 _) (j9 T8 (j9 (l3 _) (go _ rfl)))))
  |box=>exact j9 T8 (j9 l1 (j9 l1 (j9 (l2 _) (j9 T8 (j9 (l3 _) (go _ rfl))))))
  |ref mu=>exact j9 T8 (j9 l1 (j9 l1 (j9 (l2 _) (j9 T8 (j9 (l3 _) (go _ rfl))))))
theorem Ut(S:SrcAt src H)(hn:2<=n)(h:∀(l:List Wy) H',l.length<=3->gA src H H'->Q (.tup [exV l,iZ l,.tup (steps l)]) H'):Cl g n (.obj fV) [.obj src] H Q:=by
 refine(oh P).cl hg rfl hn fun n hn=>?_
 refine oZ hg S (top:=4) (by decide) (by decide) (leB hn rfl) fun d H1 hd T=>fM ?_
 refine And.intro ⟨by decide,by decide,by lia,by lia⟩ (j9 (x:=S6 ((0:Nat):Int) d) (congrArg (fun k=>some (S6 0 k)) (by lia)) ?_)
 refine Gl hg (src:=src) (H0:=H) hn (fun l m' H' hl T' hm=>?_) d 0 [] _ H1 (by lia) rfl T (.inl rfl)
 have Xh:m'.lookup 6=some (iZ l):=by rcases hm with rfl|⟨x,y,rfl⟩<;>rfl
 have VH:m'.lookup 395=some (.tup (steps l)):=by rcases hm with rfl|⟨x,y,rfl⟩<;>rfl
 refine j9 Xh (j9 (Q5 (by decide) Xh) ?_)
 refine j9 (Q5 (by decide) (Q5 (by decide) VH)) ?_
 refine Jl l (xT (iZ l) 0) _ (Q5 (by decide) T8) T8 fun m2 a b c=>?_
 refine j9 c (j9 (a.trans (Q5 (by decide) (Q5 (by decide) Xh))) (j9 (b.trans (Q5 (by decide) (Q5 (by decide) VH))) (h l H' hl T')))
end
noncomputable def Jm(a:Z8)(o:Bool):Nat:=match a.gd with
 |some _=>if o then(if a.p.Et then 2 else 1) else 0
 |none=>0
noncomputable def opS(a:Z8)(o:Bool):Bool:=match a.gd with
 |some _=>o
 |none=>o && !a.p.shuts
theorem mH(a:Z8)(r:List Z8)(o:Bool):qZ (a::r) o=Jm a o+qZ r (opS a o):=by
 obtain⟨p,gd,num⟩:=a
 cases gd with
 |some v=>rfl
 |none=>exact(z6 _).symm
theorem Uu{i:Nat}(hi:i<6)(b:Bool):(i,b)∈all1:=by
 revert i
 cases b<;>decide
noncomputable def pB(p:Pt):PV×PV×PV:=(.str 327,p.ty.v [],.bool false)
structure Ws(src rw fa:Addr)(H0 H:AH)(as:List Z8)(rs:List (PV×PV×PV)):Prop where
 s:SrcAt src H
 r:H rw=some (.list (rs.map gw))
 f:H fa=some (.list (as.map Z8.v))
 keep:∀b,b≠src->b≠rw->b≠fa->H b=H0 b
structure Ms(src rw fa:Addr)(D:Nat)(o:Bool)(m:Loc):Prop where
 l1:m.lookup 308=some (.obj src)
 l2:m.lookup 91=some (.obj rw)
 l3:m.lookup 83=some (.obj fa)
 l4:m.lookup 399=some (.int (D:Int))
 l5:m.lookup 400=some (.bool o)
theorem Ms.set{src rw fa:Addr}{D:Nat}{o:Bool}{m:Loc}{x:Nat}{v:PV}(M:Ms src rw fa D o m)(h:x≠308/\x≠91/\x≠83/\x≠399/\x≠400):Ms src rw fa D o (w7 x v m):=
 ⟨Q5 h.1.symm M.l1,Q5 h.2.1.symm M.l2,Q5 h.2.2.1.symm M.l3,Q5 h.2.2.2.1.symm M.l4,Q5 h.2.2.2.2.symm M.l5⟩
section
variable{P:Params}{g:G (O4 P).T}(hg:N6 g){n:Nat}{m:Loc}{H:AH}{Q:PV->AH->Prop}{src rw fa:Addr}
omit hg in
theorem Yn{K:PV->AH->Prop}(p:Pt)(lp:m.lookup 25=some p.v)(h:K (p.ty.v []) H):(X.sV (.and [.cmp .Eq (.at (.loc 25) 0) (.str 177),.cmp .Eq (.at (.loc 25) 3) (.str 8)]) (.tup [.str 8,.none,.gK false,.glob 396]) (.glob 396)).wE g n m H K:=by
 cases p with
 |bnd s rf=>cases rf<;>exact j9 lp (j9 lp h)
 |_=>exact j9 lp h
omit hg in
theorem ag1{K:PV->AH->Prop}{D v num:Nat}{o:Bool}(p:Pt)(l4:m.lookup 399=some (.int (D:Int))) (l5:m.lookup 400=some (.bool o)) (lp:m.lookup 25=some p.v) (h:K (.int ((D+Jm ⟨p,some v,num⟩ o:Nat):Int)) H):(X.bin .Add (.loc 399) (.bin .Mult (.loc 400) (.sV (.cmp .Eq (.at (.loc 25) 0) (.str 175)) (.int 2) (.int 1)))).wE g n m H K:=by
 refine j9 l4 (j9 l5 (j9 lp ?_))
 cases o<;>cases p<;>exact .Jw h
omit hg in
theorem Yo{C:Bool->AH->Prop}(p:Pt)(lp:m.lookup 25=some p.v)(h:C p.shuts H):(X.cmp .In (.at (.loc 25) 0) (.lst [.str 398,.str 177])).wT g n m H C:=by
 refine j9 lp ?_
 cases p<;>exact h
noncomputable abbrev Yp:List S:=[.swap [25,202] [.call 401 [.loc 308,.call 31 [.loc 91]],.none],.asg (.name 6) (.sV (.and [.cmp .Eq (.at (.loc 25) 0) (.str 177),.cmp .Eq (.at (.loc 25) 3) (.str 8)]) (.tup [.str 8,.none,.gK false,.glob 396]) (.glob 396)),.expr (.S7 (.loc 91) "list" 67 "list.append" [.tup [.str 327,.loc 6,.gK false]]),.iff (.cmp .Gt (.call 312 [.loc 308,.int 3]) (.int 0)) [.asg (.name 202) (.tup [.str 160,.glob 402,.int 0,.str 161,.tup [.str 77,.glob 396,.int 0,.int 1],.tup [.str 156,.glob 396,.int 0,.bin .Add (.int 70) (.loc 301)]]),.asg (.name 399) (.bin .Add (.loc 399) (.bin .Mult (.loc 400) (.sV (.cmp .Eq (.at (.loc 25) 0) (.str 175)) (.int 2) (.int 1))))] [.iff (.cmp .In (.at (.loc 25) 0) (.lst [.str 398,.str 177])) [.asg (.name 400) (.gK false)] []],.expr (.S7 (.loc 83) "list" 67 "list.append" [.tup [.loc 25,.loc 202,.tup [.str 156,.glob 396,.int 0,.loc 301]]])]
include hg
theorem wA{R:Out->Loc->AH->Prop}{j D:Nat}{o:Bool}{H0:AH}{as:List Z8}{rs:List (PV×PV×PV)}(hj:j<=1)(hD:D<=100)(W:Ws src rw fa H0 H as rs)(n1:src≠rw)(n2:src≠fa)(n3:rw≠fa)(hr:rs.length=2+j)(ha:as.length<=2)(M:Ms src rw fa D o m)(l6:m.lookup 301=some (.int (j:Int))) (hn:3<=n)
  (k:∀a∈all1,∀m' H',Ws src rw fa H0 H' (as++[Y7 j a]) (rs++[pB (Y7 j a).p])->Ms src rw fa (D+Jm (Y7 j a) o) (opS (Y7 j a) o) m'->R .next m' H'):O5 g n Yp m H R:=by
 have e0:(rs.map gw).length=2+j:=(g8 _).trans hr
 have e1:(as.map Z8.v).length=as.length:=g8 _
 have zs:sizeLine=16777216:=p7
 refine j9 M.l1 (j9 M.l2 (S5 (k:=2+j) ((len_list W.r).trans (congrArg some e0)) (G3 (Nat.add_le_add_left hj 2) (by decide)) ?_))
 refine Jk hg W.s (slot:=2+j) hn fun i H1 hi T=>?_
 have M1:Ms src rw fa D o (w7 25 (Pt.nth i (2+j)).v (w7 202 .none m)):=(M.set (by decide)).set (by decide)
 have lp:(w7 25 (Pt.nth i (2+j)).v (w7 202 .none m)).lookup 25=some (Pt.nth i (2+j)).v:=T8
 have lg:(w7 25 (Pt.nth i (2+j)).v (w7 202 .none m)).lookup 202=some .none:=Q5 (by decide) T8
 have ln:(w7 25 (Pt.nth i (2+j)).v (w7 202 .none m)).lookup 301=some (.int (j:Int)):=Q5 (by decide) (Q5 (by decide) l6)
 show O5 g n (Yp.drop 1) (w7 25 (Pt.nth i (2+j)).v (w7 202 .none m)) H1 R
 generalize w7 25 (Pt.nth i (2+j)).v (w7 202 .none m)=m1 at M1 lp lg ln ⊢
 refine Yn (Pt.nth i (2+j)) lp ?_
 have W1:H1 rw=some (.list (rs.map gw)):=(T.keep _ n1.symm).trans W.r
 have M2:Ms src rw fa D o (w7 6 ((Pt.nth i (2+j)).ty.v []) m1):=M1.set (by decide)
 refine j9 M2.l2 (O8 W1 (j9 T8 (Q0 W1 (by rw [e0];lia) ?_)))
 have lp:(w7 6 ((Pt.nth i (2+j)).ty.v []) m1).lookup 25=some (Pt.nth i (2+j)).v:=Q5 (by decide) lp
 have lg:(w7 6 ((Pt.nth i (2+j)).ty.v []) m1).lookup 202=some .none:=Q5 (by decide) lg
 have ln:(w7 6 ((Pt.nth i (2+j)).ty.v []) m1).lookup 301=some (.int (j:Int)):=Q5 (by decide) ln
 have q:rs.map gw++[.tup [.str 327,(Pt.nth i (2+j)).ty.v [],.bool false]]=(rs++[pB (Pt.nth i (2+j))]).map gw:=by rw [q8];rfl
 rw [q]
 show O5 g n (Yp.drop 3) (w7 6 ((Pt.nth i (2+j)).ty.v []) m1) (upd H1 rw (.list ((rs++[pB (Pt.nth i (2+j))]).map gw))) R
 generalize w7 6 ((Pt.nth i (2+j)).ty.v []) m1=m2 at M2 lp lg ln ⊢
 have S2:SrcAt src (upd H1 rw (.list ((rs++[pB (Pt.nth i (2+j))]).map gw))):=by
  obtain⟨x,y,a,b⟩:=T.at_
  exact⟨x,y,(w5 n1).trans a,b⟩
 refine j9 M2.l1 (oZ hg S2 (top:=3) (by decide) (by decide) (leB hn rfl) fun d H3 hd T3=>?_)
 have W3:H3 rw=some (.list ((rs++[pB (Pt.nth i (2+j))]).map gw)):=(T3.keep _ n1.symm).trans (p8 ..)
 have F3:H3 fa=some (.list (as.map Z8.v)):=(T3.keep _ n2.symm).trans ((w5 n3.symm).trans ((T.keep _ n2.symm).trans W.f))
 have K3:∀b,b≠src->b≠rw->b≠fa->H3 b=H0 b:=fun b x y z=>(T3.keep b x).trans ((w5 y).trans ((T.keep b x).trans (W.keep b x y z)))
 have last:∀(gg:Bool) (m3:Loc),m3.lookup 25=some (Pt.nth i (2+j)).v->m3.lookup 202=some (gdv (Y7 j (i,gg)).gd)->m3.lookup 301=some (.int (j:Int))->Ms src rw fa (D+Jm (Y7 j (i,gg)) o) (opS (Y7 j (i,gg)) o) m3->O5 g n (Yp.drop 4) m3 H3 R:=fun gg m3 a b c M3=>by
  refine j9 M3.l3 (O8 F3 (j9 a (j9 b (j9 c (Q0 F3 (by rw [e1];lia) ?_)))))
  refine k (i,gg) (Uu hi gg) m3 _ ⟨?_,(w5 n3).trans W3,?_,fun b x y z=>(w5 z).trans (K3 b x y z)⟩ M3
  ·obtain⟨x,y,a,b⟩:=T3.at_
   exact⟨x,y,(w5 n2).trans a,b⟩
  ·rw [p8,q8];rfl
 cases d with
 |zero=>
  refine Yo (Pt.nth i (2+j)) lp ?_
  cases hs:(Pt.nth i (2+j)).shuts with
  |true=>exact last false (w7 400 (.bool false) m2) (Q5 (by decide) lp) (Q5 (by decide) lg) (Q5 (by decide) ln) ⟨Q5 (by decide) M2.l1,Q5 (by decide) M2.l2,Q5 (by decide) M2.l3,Q5 (by decide) M2.l4,T8.trans (congrArg (fun b=>some (PV.bool b)) (show false=(o && !(Pt.nth i (2+j)).shuts) by rw [hs];cases o<;>rfl))⟩
  |false=>exact last false m2 lp lg ln ⟨M2.l1,M2.l2,M2.l3,M2.l4,M2.l5.trans (congrArg (fun b=>some (PV.bool b)) (show o=(o && !(Pt.nth i (2+j)).shuts) by rw [hs];cases o<;>rfl))⟩
 |succ d=>
  refine dD (decide_eq_true (by lia)) (j9 ln (ag1 (v:=70+j) (num:=j) (Pt.nth i (2+j)) (Q5 (by decide) M2.l4) (Q5 (by decide) M2.l5) (Q5 (by decide) lp) ?_))
  exact last true (w7 399 (.int ((D+Jm (Y7 j (i,true)) o:Nat):Int)) (w7 202 (xV (70+j)) m2)) (Q5 (by decide) (Q5 (by decide) lp)) (Q5 (by decide) T8) (Q5 (by decide) (Q5 (by decide) ln)) ⟨Q5 (by decide) (Q5 (by decide) M2.l1),Q5 (by decide) (Q5 (by decide) M2.l2),Q5 (by decide) (Q5 (by decide) M2.l3),T8,Q5 (by decide) (Q5 (by decide) M2.l5)⟩
inductive Drawn:List Z8->Prop
 |one (a:Nat×Bool) (h:a∈all1):Drawn [Y7 0 a]
 |two (a b:Nat×Bool) (h:a∈all1) (h':b∈all1):Drawn [Y7 0 a,Y7 1 b]
theorem Yq{rs:List (PV×PV×PV)}(S:SrcAt src H)(e:H rw=some (.list (rs.map gw))) (hr:rs.length=2) (ne:src≠rw) (hn:4<=n)
  (h:∀as H',Drawn as->H' rw=some (.list ((rs++as.map fun a=>pB a.p).map gw))->(∀b,b≠src->b≠rw->H b≠none->H' b=H b)->Q (.tup [.tup ((as++[oG]).map Z8.v),.int (qZ as true:Nat)]) H'):Cl g n (.obj qR) [.obj src,.obj rw] H Q:=by
 refine(Br P).cl hg rfl hn fun n hn fa hf=>?_
 have n2:src≠fa:=fun z=>by obtain⟨x,y,a,_⟩:=S;rw [z,hf] at a;cases a
 have n3:rw≠fa:=fun z=>by rw [z,hf] at e;cases e
 have S1:SrcAt src (upd H fa (.list [])):=by
  obtain⟨x,y,a,b⟩:=S
  exact⟨x,y,(w5 n2).trans a,b⟩
 refine oZ hg S1 (top:=2) (by decide) (by decide) (leB hn rfl) fun d H1 hd T=>fM ?_
 have W:Ws src rw fa (upd H fa (.list [])) H1 [] rs:=⟨T.at_,(T.keep _ ne.symm).trans ((w5 n3).trans e),(T.keep _ n2.symm).trans (p8 ..),fun b x y z=>T.keep b x⟩
 have fin:∀(as:List Z8) m' H',Drawn as->Ws src rw fa (upd H fa (.list [])) H' as (rs++as.map fun a=>pB a.p)->m'.lookup 83=some (.obj fa)->m'.lookup 399=some (.int (qZ as true:Nat))->O5 g n (qU.drop 2) m' H' (mO Q):=fun as m' H' dr w l3 l4=>by
  have al:as.length<=2:=by cases dr<;>exact d9 rfl
  have e1:(as.map Z8.v).length=as.length:=g8 _
  refine j9 l3 (Df (.inr (K9 w.f)) (by rw [e1,p7];lia) (yG (by rw [e1,p7];show as.length+1<=_;lia) (j9 l4 ?_)))
  have z:=h as H' dr w.r fun b x y z=>(w.keep b x y fun q=>z (q▸hf)).trans (w5 fun q=>z (q▸hf))
  rw [q8] at z
  exact z
 have m0:Ms src rw fa 0 true [(308,.obj src),(91,.obj rw),(400,.bool true),(399,.int 0),(83,.obj fa)]:=⟨rfl,rfl,rfl,rfl,rfl⟩
 refine And.intro ⟨by decide,by decide,by lia,by lia⟩ (j9 (x:=S6 ((0:Nat):Int) (1+d)) (congrArg (fun k=>some (S6 0 k)) (by lia)) ?_)
 match d,hd with
 |0,_=>
  refine wA hg (j:=0) (D:=0) (o:=true) (by decide) (by decide) W ne n2 n3 hr (by decide) (m0.set (by decide)) T8 (leB hn rfl) fun a ha m' H' w M=>?_
  refine fin [Y7 0 a] m' H' (.one a ha) w M.l3 ?_
  rw [mH]
  exact M.l4.trans (congrArg (fun k:Nat=>some (PV.int (k:Int))) (z6 _))
 |1,_=>
  refine wA hg (j:=0) (D:=0) (o:=true) (by decide) (by decide) W ne n2 n3 hr (by decide) (m0.set (by decide)) T8 (leB hn rfl) fun a ha m' H' w M=>?_
  have dz:0+Jm (Y7 0 a) true<=100:=by
   unfold Jm
   cases(Y7 0 a).gd with
   |none=>exact z8 _
   |some v=>cases q:(Y7 0 a).p.Et<;>exact d9 rfl
  refine wA hg (j:=1) (by decide) dz w ne n2 n3 (by rw [d7,hr];rfl) (d9 rfl) (M.set (by decide)) T8 (leB hn rfl) fun b hb m2 H2 w2 M2=>?_
  have w3:Ws src rw fa (upd H fa (.list [])) H2 [Y7 0 a,Y7 1 b] (rs++[pB (Y7 0 a).p,pB (Y7 1 b).p]):=by
   have q:=j7 rs [pB (Y7 0 a).p] [pB (Y7 1 b).p]
   rw [q] at w2
   exact w2
  refine fin [Y7 0 a,Y7 1 b] m2 H2 (.two a b ha hb) w3 M2.l3 ?_
  rw [mH,mH]
  exact M2.l4.trans (congrArg (fun k:Nat=>some (PV.int (k:Int))) (by rw [z6];rfl))
end
theorem Yr(m:Nat):aB6 m=true:=by kernel_rfl
theorem ag2(m:Nat):bB m (0,false)=true:=by kernel_rfl
theorem ag3(m:Nat):bB m (0,true)=true:=by kernel_rfl
theorem ag4(m:Nat):bB m (1,false)=true:=by kernel_rfl
theorem ag5(m:Nat):bB m (1,true)=true:=by kernel_rfl
theorem ag6(m:Nat):bB m (2,false)=true:=by kernel_rfl
theorem ag7(m:Nat):bB m (2,true)=true:=by kernel_rfl
theorem ag8(m:Nat):bB m (3,false)=true:=by kernel_rfl
theorem ag9(m:Nat):bB m (3,true)=true:=by kernel_rfl
theorem ah0(m:Nat):bB m (4,false)=true:=by kernel_rfl
theorem ah1(m:Nat):bB m (4,true)=true:=by kernel_rfl
theorem ah2(m:Nat):bB m (5,false)=true:=by kernel_rfl
theorem ah3(m:Nat):bB m (5,true)=true:=by kernel_rfl
noncomputable abbrev Z9:List Z8:=[⟨.cst 3,some 70,1⟩,⟨.wild,none,2⟩]
theorem Ys:Wv (lowG 1 Z9 [.u8,.x,.u8]) 1 0=true:=by kernel_rfl
theorem Yt(m:Nat):∀a∈all1,bB m a=true:=by
 have z:all1.all (bB m)=true:=by
  show(bB m (0,false)&&(bB m (0,true)&&(bB m (1,false)&&(bB m (1,true)&&(bB m (2,false)&&(bB m (2,true)&&(bB m (3,false)&&(bB m (3,true)&&(bB m (4,false)&&(bB m (4,true)&&(bB m (5,false)&&(bB m (5,true)&&true))))))))))))=true
  rw [ag2,ag3,ag4,ag5,ag6,ag7,ag8,ag9,ah0,ah1,ah2,ah3];rfl
 exact m9.mp z
theorem Drawn.chk{as:List Z8}(d:Drawn as)(m:Nat):RK m as=true:=by
 cases d with
 |one a h=>exact m9.mp (show all1.all (fun a=>RK m [Y7 0 a])=true from Yr m) a h
 |two a b h h'=>exact m9.mp (show all1.all (fun b=>RK m [Y7 0 a,Y7 1 b])=true from Yt m a h) b h'
theorem Ot{C:Pt->Prop}(k s:Nat)(h0:C .wild)(h1:C (.cst 3))(h2:C (.rng 2 5))(h3:C (.bnd s false))(h4:C .Er)(h5:C (.bnd s true)):C (Pt.nth k s):=by
 match k with
 |0=>exact h0
 |1=>exact h1
 |2=>exact h2
 |3=>exact h3
 |4=>exact h4
 |_+5=>exact h5
noncomputable def aD6(o:Option jx):Prop := ∃t,o=some t/\(t = .u8\/t = .Nk)
theorem Uv(p:Pt):aD6 (some p.ty):=by
 refine⟨_,rfl,?_⟩
 unfold Pt.ty
 cases p.rZ with
 |true=>exact .inr rfl
 |false=>exact .inl rfl
theorem Uw{k s x:Nat}(h:x∈(Pt.nth k s).ls):x=1+s:=by
 revert h
 refine Ot (C:=fun p=>x∈p.ls->x=1+s) k s ?_ ?_ ?_ ?_ ?_ ?_<;>intro h
 ·cases h
 ·cases h
 ·cases h
 ·exact j8.mp h
 ·cases h
 ·exact j8.mp h
theorem Drawn.ok{as:List Z8}(d:Drawn as):mz (RG (Ku as)) (as++[oG]):=by
 intro a ha x hx
 cases d with
 |one b h=>
  rcases q7.mp ha with rfl|ha
  ·rw [Uw hx];exact Uv (Y7 0 b).p
  ·rw [j8.mp ha] at hx;cases hx
 |two b c h h'=>
  rcases q7.mp ha with rfl|ha
  ·rw [Uw hx];exact Uv (Y7 0 b).p
  rcases q7.mp ha with rfl|ha
  ·rw [Uw hx];exact Uv (Y7 1 c).p
  ·rw [j8.mp ha] at hx;cases hx
theorem aD7(p:Pt)(l:List Wy):p.ty.v []=p.ty.v l:=by
 unfold Pt.ty
 cases p.rZ<;>rfl
theorem Drawn.tys{as:List Z8}(l:List Wy):aG::(([(.str 409,iZ l,.bool true),(.str 418,aG,.bool true)]:List (PV×PV×PV))++as.map fun a=>pB a.p).map (fun r=>r.2.1)=(Ku as).map (jx.v l):=by
 show aG::iZ l::aG::(as.map fun a=>pB a.p).map (fun r=>r.2.1)=aG::iZ l::aG::(as.map fun a=>a.p.ty).map (jx.v l)
 rw [List.map_map,List.map_map]
 exact congrArg (fun z=>aG::iZ l::aG::z) (List.map_congr_left fun a O=>aD7 a.p l)
section
variable{P:Params}{g:G (O4 P).T}(hg:N6 g){n:Nat}{m:Loc}{H:AH}{Q:PV->AH->Prop}{l:List Wy}
include hg
theorem Gm{rw:Addr}{as:List Z8}(d:Drawn as)(hl:l.length<=3)(e:H rw=some (.list ((([(.str 409,iZ l,.bool true),(.str 418,aG,.bool true)]:List (PV×PV×PV))++as.map fun a=>pB a.p).map gw))) (hP:H R3=some (.code cV)) (hn:18<=n) (h:∀H',Ext H H'->Q (.bool true) H'):
  Cl g n (.obj bT) [exV l,iZ l,.tup (steps l),.tup ((as++[oG]).map Z8.v),.obj rw,.int (qZ as true:Nat)] H Q:=by
 have al:as.length<=2:=by cases d<;>exact d9 rfl
 have bz:sy (as++[oG])=sy as:=by cases d<;>rfl
 refine Gk hg (tys:=Ku as) ?_ hl e (Drawn.tys l) rfl d.ok ?_ ?_ hP hn h
 ·rw [d7,g8];show 2+as.length<=100;lia
 ·rw [d7];show as.length+1<=100;lia
 ·rw [bz];exact d.chk (O9 l)
theorem Gn{rw:Addr}(e:H rw=some (.list (([(.str 409,iZ [.ref true],.bool true),(.str 418,aG,.bool true)]:List (PV×PV×PV)).map gw))) (hP:H R3=some (.code cV)) (hn:18<=n) (h:∀H',Ext H H'->Q (.bool true) H'):
  Cl g n (.obj bT) [exV [.ref true],iZ [.ref true],.tup (steps [.ref true]),.tup (Z9.map Z8.v),.obj rw,.int 1] H Q:=
 Gk hg (l:=[.ref true]) (as:=Z9) (tys:=[.u8,.x,.u8]) (due:=1) (by decide) (by decide) e rfl rfl (fun a ha x hx=>by
  rcases q7.mp ha with rfl|ha
  ·cases hx
  ·rw [j8.mp ha] at hx;cases hx) (by decide) Ys hP hn h
end
theorem qx(P:Params):ExcAt (O4 P).T Q7 aO:=
 ⟨⟨_,_,_,_,_,_,_,_,_,_,_,_,_,_,_,rfl,⟨by kernel_rfl,by kernel_rfl,by kernel_rfl,by kernel_rfl⟩,by kernel_rfl,fun x=>rfl⟩,by kernel_rfl,by kernel_rfl,by kernel_rfl,by kernel_rfl⟩
noncomputable abbrev Yu:PV:=Nx true aG
noncomputable abbrev gdM:PV:=.tup [.str 160,jA,.int 0,.str 161,.tup [.str 107,aG,.int 0,xT Yu 1],kE 70]
noncomputable abbrev Ou:PV:=.tup [.str 177,aG,.int 1,.str 172,.none]
noncomputable abbrev ah4:PV:=.tup [Ou,gdM,kE 1]
noncomputable abbrev as6:List PV:=[ah4,.tup [.tup [.str 398,aG],.none,kE 2]]
noncomputable abbrev ah5:PV:=.tup [.str 253,aG,.int 0,xT aG 0,.tup as6]
noncomputable abbrev aD8(D bd Q8:Addr):List (Addr×N7):=[(D,.list [.obj bd]),(bd,.inst U4 Q8),(Q8,.attrs [(77,.int 1),(170,.str 172),(111,bD 1)])]
theorem Yv:jB [.int 1] 60 [gdM]=some true:=rfl
section
variable{P:Params}{g:G (O4 P).T}{n k:Nat}{H:AH}{C:Addr}{z:Zk}
theorem O2.clZ{f:Addr}{ps:List Nat}{body:List S}{l:List PV}(o:O2 (O4 P).T f ps body)(hg:N6 g)(hk':yJ z)(hl:l.length=ps.length)(hn:k+1<=n)(h:∀n,k<=n->SZ g n C z body (ps.zip l) H):Gs g n C (.obj f) l H:=by
 cases n with
 |zero=>exact absurd hn (Nat.not_succ_le_zero k)
 |succ n=>exact o.ao7 hg hk' hl (h n (J3 hn))
end
section
variable{P:Params}{g:G (O4 P).T}(hg:N6 g){n:Nat}{m:Loc}{c:Fix}(hfu:c.fu=1){M:Mem}{R R' H:AH}{Q:PV->AH->Prop}{self D bd Q8:Addr}{fail:Nat}
theorem dL3:jg (O4 P).T aO 3 []:=jg.of (fd:=_) (ps:=_) rfl [] rfl fun vs h S=>by
 cases vs with
 |nil=>cases h
 |cons a vs=>
 obtain⟨b,c,rfl⟩:=len2 (Nat.succ.inj h)
 rfl
include hg
theorem Jo{p q:PV}(hn:3<=n)(h:∀a d H',H a=none->H' a=some (.exc Q7 d)->Q (.obj a) H'):Cl g n (.obj Q7) [p,q] H Q:=by
 cases n with
 |zero=>exact absurd hn (Nat.not_succ_le_zero 2)
 |succ n=>
 refine ac5 hg (qx P) (fC rfl) fun a ha=>(nQ P).Xd (k:=1) hg dL3 rfl (J3 hn) fun n hn=>?_
 refine And.intro rfl (Dz hg (qx P) (p8 ..) ?_)
 refine Hz.new (p8 ..) (qx P) (by kernel_rfl) fun dx hx=>?_
 have ne:dx≠a:=fun z=>by rw [z,p8] at hx;cases hx
 refine Hz.old (p8 ..) ((w5 ne).trans (p8 ..)) (qx P) (by kernel_rfl) (d9 rfl) ?_
 exact And.intro rfl (h a (some dx) _ ha ((w5 ne.symm).trans (p8 ..)))
theorem Ux(e1:H D=some (.list [.obj bd]))(e2:H bd=some (.inst U4 Q8))(e3:H Q8=some (.attrs [(77,.int 1),(170,.str 172),(111,bD 1)])) (B:M6 c self M R H) (hn:4<=n):
  Gs g n Q7 (.obj V6) [.obj self,gdM,.obj D,bD 1,.int (fail:Int)] H:=by
 refine(Z7 P).clZ hg @Ra rfl hn fun n hn=>SZ.cons hg (B.Fj (hg:=hg) fun a ha=>SZ.iff hg ?_)
 have ne:∀{x o H'},(H':AH) x=some o->∀{y},H' y=none->x≠y:=fun k y z h=>by subst h;rw [k] at z;cases z
 have f1:(upd H a (.N5 [])) D=some (.list [.obj bd]):=(w5 (ne e1 ha)).trans e1
 have f2:(upd H a (.N5 [])) bd=some (.inst U4 Q8):=(w5 (ne e2 ha)).trans e2
 have f3:(upd H a (.N5 [])) Q8=some (.attrs [(77,.int 1),(170,.str 172),(111,bD 1)]):=(w5 (ne e3 ha)).trans e3
 generalize upd H a (.N5 [])=H1 at f1 f2 f3 ⊢
 refine j9 (K9 f1) fun D2 h2=>?_
 refine cC rfl (H8.mk ((w5 (ne f2 h2)).trans f2) ((w5 (ne f3 h2)).trans f3) rfl rfl ?_)
 refine H8.mk ((w5 (ne f2 h2)).trans f2) ((w5 (ne f3 h2)).trans f3) rfl rfl ?_
 refine And.intro ⟨p8 ..,fC rfl,K9 ((w5 (ne f1 h2)).trans f1)⟩ ?_
 refine rD hg (e:=gdM) (L:=[.int 1]) (k0:=60) rfl rfl rfl Yv (by decide) (leB hn rfl) fun H' E=>?_
 show SZ g n Q7 Kc _ _ H'
 exact SZ.Wa hg (qx P) (Jo hg hn fun a d H' x y=>⟨a,d,rfl,x,y⟩)
end
noncomputable abbrev M0:Mem:=Tz [aG,aG,Yu]
noncomputable abbrev M1:Mem:=M0.push.push.R6
noncomputable abbrev M2:Mem:=M1.R6.push
section
variable{P:Params}{g:G (O4 P).T}(hg:N6 g){n:Nat}{m:Loc}{c:Fix}(hfu:c.fu=1){M:Mem}{R R' H:AH}{Q:PV->AH->Prop}{self D bd Q8:Addr}{fail behind:Nat}
include hg
theorem Uy(hn:1<=n)(h:Q (.lst []) H):Cl g n (.obj lK) [Ou,bD 1] H Q:=(qX P).cl hg rfl hn fun n O=>h
theorem testM(hn:2<=n)(h:Q .none H):Cl g n (.obj X6) [.obj self,Ou,bD 1,.int (fail:Int)] H Q:=(bx P).cl hg rfl hn fun n hn=>Uy hg (leB hn rfl) h
theorem bindM(hn:3<=n)(h:∀D bd Q8 H',St H H' (aD8 D bd Q8)->Q (.obj D) H'):Cl g n (.obj eY) [Ou,bD 1] H Q:=by
 refine(jr P).cl hg rfl hn fun n hn=>?_
 exact make hg rfl hn fun n bd Q8 H' hn s=>(iT P).clC hg rfl hn fun n O=>s.set 0 1 rfl rfl rfl rfl fun H' s=>s.set 0 1 rfl rfl rfl rfl fun H' s=>s.set 0 1 rfl rfl rfl rfl fun H' s=>And.intro rfl fun D hD=>
   Uy hg (leB ‹2<=_› rfl) (h D bd Q8 _ (s.new hD _))
theorem ah6(B:M6 c self M R H)(hn:5<=n):Gs g n Q7 (.obj U7) [.obj self,Ou,gdM,bD 1,.int (fail:Int)] H:=by
 refine(U3 P).clZ hg @Aw rfl hn fun n hn=>SZ.cons hg (B.me rfl rfl (testM hg (leB hn rfl) ?_))
 refine SZ.cons hg (bindM hg (leB hn rfl) fun D bd Q8 H' s=>?_)
 obtain⟨R',B,K⟩:=B.kept s
 refine SZ.iff hg ?_
 exact SZ.meth hg (B.me rfl rfl (Ux hg (K.at_ B (D,_) (.head _)) (K.at_ B (bd,_) (.tail _ (.head _))) (K.at_ B (Q8,_) (.tail _ (.tail _ (.head _)))) B hn))
include hfu
theorem ah7(B:M6 c self M1 R H)(hn:6<=n):Gs g n Q7 (.obj V1) [.obj self,bD 0,ah4,bD 1,.int (behind:Int)] H:=by
 refine(Y5 P).clZ hg @DG rfl hn fun n hn=>SZ.cons hg (SZ.cons hg ?_)
 refine(bJ P).cl (k:=0) hg rfl (leB hn rfl) fun O O=>?_
 refine B.me rfl rfl (cj hg B (fC rfl) (leB hn rfl) fun H B=>?_)
 refine SZ.cons hg (B.me rfl rfl (oK hg B (fC rfl) (leB hn rfl) fun H B=>?_))
 refine SZ.cons hg (bindM hg (leB hn rfl) fun D bd Q8 H' s=>?_)
 obtain⟨R',B,K⟩:=B.kept s
 have e1:=K.at_ B (D,.list [.obj bd]) (.head _)
 have e2:=K.at_ B (bd,.inst U4 Q8) (.tail _ (.head _))
 have e3:=K.at_ B (Q8,_) (.tail _ (.tail _ (.head _)))
 refine j9 (K9 e1) fun D2 h2=>?_
 have ne:∀{x o},H' x=some o->x≠D2:=fun k z=>by rw [z,h2] at k;cases k
 have B2:=B.ext (Ext.new (o:=.list []) h2)
 refine cC rfl (B2.me rfl rfl (H8.mk ((w5 (ne e2)).trans e2) ((w5 (ne e3)).trans e3) rfl rfl (tB hg hfu (i:=1) B2 (leB hn rfl) ?_)))
 refine And.intro ⟨p8 ..,fC rfl,K9 ((w5 (ne e1)).trans e1)⟩ ?_
 have B:M6 c self M2 R' (del (upd (upd H' D2 (.list [])) D2 (.list ([]++[.int ((1+1:Nat):Int)]))) D2):=by rw [V2,V3 h2];exact B
 refine SZ.cons hg (B.me rfl rfl (vI hg (i:=2) B ⟨Yu,rfl,.ref true⟩ nofun (fC rfl) (leB hn rfl) fun H B=>?_))
 refine SZ.for hg ⟨Ou,[],rfl,?_⟩
 refine SZ.cons hg (B.me rfl rfl (cj hg B (fC rfl) (leB hn rfl) fun H B=>?_))
 exact SZ.meth hg (B.me rfl rfl (ah6 hg B hn))
theorem ah8(B:M6 c self M0.push.push R H)(hn:7<=n):Gs g n Q7 (.obj U0) [.obj self,bD 0,ah5] H:=by
 refine(W5 P).clZ hg @DG rfl hn fun n hn=>SZ.cons hg (B.me rfl rfl (qm hg hfu (i:=0) B (leB hn rfl) (B.me rfl rfl (cj hg B (fC rfl) (leB hn rfl) fun H B=>?_))))
 refine SZ.for hg ⟨ah4,_,rfl,?_⟩
 refine SZ.cons hg (B.bZ fun H B=>?_)
 exact SZ.meth hg (B.me rfl rfl (ah7 hg hfu B hn))
theorem as7(B:M6 c self M0.push.push R H)(hn:8<=n):Gs g n Q7 (.obj T5) [.obj self,bD 0,ah5] H:=by
 refine(U9 P).clZ hg @Aw rfl hn fun n hn=>SZ.cons hg (B.spot fun q=>B.bZ fun H B=>?_)
 refine SZ.iff hg ?_
 refine SZ.iff hg ?_
 refine SZ.iff hg ?_
 refine SZ.iff hg ?_
 refine SZ.iff hg ?_
 refine SZ.iff hg ?_
 refine SZ.iff hg ?_
 refine SZ.iff hg ?_
 exact SZ.meth hg (B.me rfl rfl (ah8 hg hfu B hn))
omit hfu
noncomputable abbrev Uz:List (PV×PV×PV):=[(.str 409,aG,.bool true),(.str 327,Yu,.bool false)]
theorem ah9{tf Od w Gv sg lw:Addr}{pn:Nat}{wl:List (Nat×PV)}(t1:H tf=some (.inst cI Od))(t2:H Od=some (.attrs [(119,.str pn),(75,.obj lw),(39,.tup []),(122,aG),(92,ah5)])) (t3:H lw=some (.list (Uz.map gw)))
  (w1:H w=some (.inst jK Gv)) (w2:H Gv=some (.attrs wl)) (w3:wl.lookup 121=some (.obj sg)) (w4:H sg=some (.T9 [])) (hn:9<=n):Gs g n Q7 (.obj sX) [.obj tf,.obj w] H:=by
 refine(Ej P).clZ hg @Aw rfl hn fun n hn=>SZ.cons hg (oY hg rfl (rows:=Uz) (by decide) t1 t2 t3 w1 w2 w3 w4 (leB hn rfl) fun a dx b Q8 lc bl sp fr al d1 d2 rw st0 OD H1 s=>?_)
 have B:M6 _ a M0 H H1:=TF (rows:=Uz) (by decide) s
 refine SZ.cons hg (B.me rfl rfl (oK hg B (fC rfl) (leB hn rfl) fun H2 B=>?_))
 refine SZ.cons hg (B.attr rfl fun O O O O O=>⟨_,rfl,?_⟩)
 refine SZ.cons hg (B.me rfl rfl (oK hg B (fC rfl) (leB hn rfl) fun H3 B=>?_))
 refine SZ.cons hg (B.me rfl rfl (H8.mk (B.keep t1) (B.keep t2) rfl rfl (vU hg (leB hn rfl) ?_)))
 exact SZ.meth hg (B.me rfl rfl (H8.mk (B.keep t1) (B.keep t2) rfl rfl (as7 hg rfl B hn)))
theorem Jp(hn:9<=n):SK g n eE [] H:=by
 refine SK.cons hg (SK.cons hg (SK.cons hg (SK.cons hg ?_)))
 refine SK.Wb hg (qx P) rfl ?_
 refine fun lw hlw=>wu hg (leB hn rfl) fun tf Od H1 s=>wz hg (leB hn rfl) fun w Gv wl sg H2 E w1 w2 w3 w4=>?_
 exact ah9 hg (E _ _ (s.at 0 rfl)) (E _ _ (s.at 1 rfl)) (E _ _ (s.keep _ _ (p8 ..))) w1 w2 w3 w4 hn
end
section
variable{P:Params}{g:G (O4 P).T}(hg:N6 g){n:Nat}{m:Loc}{H:AH}{Q:PV->AH->Prop}
include hg
theorem UG{xs:List Int}(hx:xs.length<=63)(hP:H R3=some (.code cV))(hn:19<=n)(h:∀H',H' R3=some (.code cV)->Q (.bool true) H'):O5 g n (Ro.drop 1) [(304,.lst (xs.map .int))] H (mO Q):=by
 intro rw0 as8
 have n0:R3≠rw0:=fun z=>by rw [<- z,hP] at as8;cases as8
 refine Gn hg (p8 ..) ((w5 n0).trans hP) (leB hn rfl) fun H1 E1=>?_
 have hP1:H1 R3=some (.code cV):=E1 _ _ ((w5 n0).trans hP)
 refine XF hg hx (leB hn rfl) fun src o ha S1=>?_
 have n1:R3≠src:=fun z=>by rw [<- z,hP1] at ha;cases ha
 have hP2:upd H1 src o R3=some (.code cV):=(w5 n1).trans hP1
 refine Ut hg S1.at_ (leB hn rfl) fun l H2 hl S2=>?_
 have hP3:H2 R3=some (.code cV):=(S2.keep _ n1).trans hP2
 intro rw hrw
 have n2:R3≠rw:=fun z=>by rw [<- z,hP3] at hrw;cases hrw
 have ne:src≠rw:=fun z=>by
  obtain⟨x,y,e,_⟩:=S2.at_
  rw [z,hrw] at e;cases e
 have S3:SrcAt src (upd H2 rw (.list ([(.str 409,iZ l,.bool true),(.str 418,aG,.bool true)].map gw))):=by
  obtain⟨x,y,e,z⟩:=S2.at_
  exact⟨x,y,(w5 ne).trans e,z⟩
 refine Yq hg (rs:=[(.str 409,iZ l,.bool true),(.str 418,aG,.bool true)]) S3 (p8 ..) rfl ne (leB hn rfl) fun as H3 dr e3 keep=>?_
 have hP4:H3 R3=some (.code cV):=(keep R3 n1 n2 (by rw [w5 n2,hP3];exact nofun)).trans ((w5 n2).trans hP3)
 exact Gm hg dr hl e3 hP4 (leB hn rfl) fun H' E=>h H' (E _ _ hP4)
end
section
variable{τ:T}{g:G τ}{m:Loc}{H:AH}{env:Env}{A:Around}{s:Shared}
theorem Jq{f:Nat}{fa:Addr}{fp cpos npos ipos:Pos}{a b:List Stmt}{Q:Flow->Shared->Prop}{E:Value->Shared->Prop}{K:Shared->Prop}(hg:N6 g)(hf:g.glob f=some (.obj fa))(kf:env.kindOf (g.tab f)=some .globalImplicit)(hp:Plain g (.obj fa))(S:M4 g s H)(F:N8 g env m s.heap H)
  (h:∀t,codeAny (model g.prog g.w) A (.call (.ref fa) ⟨[],[]⟩) (fun r s'=>r = .ok (.ret (.bool true))/\K s') {s with toks:=t})
  (k:∀s' t,K s'->wpAny (model g.prog g.w) A (execs b env) Q E {s' with toks:=t}):
  wpAny (model g.prog g.w) A (exec (.If (.UnaryOp .Not (.Call (.Name (g.tab f) fp) [] [] cpos) npos) a b ipos) env) Q E s:=by
 refine wpAny_If (isTrue_not (isTrue_plain ?_ rfl))
 rw [show eval (.Call (.Name (g.tab f) fp) [] [] cpos) env=(eval (.Name (g.tab f) fp) env >>= fun v=>callWith cpos v [] (backTo cpos (starEach [] env)) []) from rfl]
 refine c7 (HD hg hf kf S F fun v t r=>?_)
 cases r
 refine callWith_of (P:=fun hh => ∀b o,g.h₀.get? b=some o->hh.get? b=some o) rfl (fun hh k=>hp _ hh H _ k rfl) (bG (spliced_nil ⟨S.keep,wpAny_call (codeAny_mono (h t) fun r s' x=>?_)⟩))
 obtain⟨rfl,x⟩:=x
 show wpAny _ _ (truthy (.bool true)) _ _ _
 exact je (g:=g) (H:=H) (p:=.bool true) rfl (B:=fun b=>b=true) rfl fun b t hb=>by subst hb;exact k _ t x
theorem N8.over{g':G τ}{h h':Heap}{H':AH}(F:N8 g' env m h (fun O=>none))(ke:∀b o,h.get? b=some o->b≠env.locals->h'.get? b=some o)(fr:∀o,h.get? env.locals=some o->∃sl,h'.get? env.locals=some {o with slots:=sl})
  (own:∀b,g'.h₀.get? b=none->H' b=none/\g.h₀.get? b=none) (pr:T7 h (fun O=>none) h' H'):N8 g env m h' H':=by
 obtain⟨mv,⟨o,es,ep,e1,e2,e3⟩,r⟩:=F.ns
 obtain⟨sl,h5⟩:=fr o e1
 have nl:∀c v o,h.get? c=some o->o.data = .cell v->c≠env.locals:=fun c v o' y2 y3 z=>by
  subst z
  cases y2.symm.trans e1
  rw [e2] at y3;cases y3
 refine⟨F.kind,F.globs,F.zL,⟨mv,⟨_,es,ep,h5,e2,e3⟩,fun x p q k=>(r x p q k).imp fun v z=>⟨z.1,z.2.keeps pr⟩⟩,fun x p q k=>?_,F.kinds,(own _ F.zM).1,(own _ F.zM).2,fun x c q=>?_,F.inj,F.has⟩
 ·obtain⟨c,v,y1,⟨o',y2,y3⟩,y4⟩:=F.cell x p q k
  exact⟨c,v,y1,⟨o',ke c o' y2 (nl _ _ _ y2 y3),y3⟩,y4.keeps pr⟩
 ·obtain⟨_,y2,v,o',y3,y4⟩:=F.cells x c q
  have z:=own c y2
  exact⟨z.1,z.2,v,o',ke c o' y3 (nl _ _ _ y3 y4),y4⟩
end
noncomputable abbrev HP:AH:=upd (fun O=>none) R3 (.code cV)
section
variable{P:Params}{g:G (O4 P).T}
theorem UJ{A:Around}{s:Shared}{v:Value}{xs:List Int}(hg:N6 g)(hg':N6 (⟨g.w,s.heap,g.os⟩:G (O4 P).T)) (hx:xs.length<=63) (R:R8 150 A) (hfr:A.frames=some []) (S:M4 g s HP) (tb:s.heap.get? R3=some (tabObj #[])) (r:Rep g.tab s.heap (fun O=>none) (.lst (xs.map .int)) v):
  codeAny (model g.prog g.w) A (.call (.ref Kl) ⟨[v],[]⟩) (CK g s HP fun r H'=>r = .bool true/\H' R3=some (.code cV)) s:=by
 have o:=ad3 P
 have nd':=o.nd
 have S':M4 (⟨g.w,s.heap,g.os⟩:G (O4 P).T) s fun O=>none:=⟨fun O O e=>e,fun O h=>absurd rfl h,(fun O O h=>nomatch h),S.gens,S.os⟩
 cases o.ok with
 |mk fd x e hb hc h1 h2 h3 h4 h5 nd hk ok p1 p2 p3 p4 p5 lm=>
 have z:fd.params=⟨[],fd.params.args,none,[],fd.params.kw_defaults,none,fd.params.defaults⟩:=JW p1 p2 p3 p4
 refine yg.enter (g:=(⟨g.w,s.heap,g.os⟩:G (O4 P).T)) (n:=149) (H:=fun O=>none) (ps:=[304]) (l:=[.lst (xs.map .int)]) (l':=[.lst (xs.map .int)]) (vs:=[v]) hg' e hb hc h1 h2 h3 h4 h5 nd (fun x hx=>mY (hk x hx)) (o9 _) (fun s vs S r=>⟨vs,r,by
  have k:=cT (vs:=vs) z (nd' fd _ e) (by rw [p5];exact pQ hg.inj nd) (by have:=congrArg List.length p5;rw [g8,g8] at this;rw [r.length];exact this.symm)
  rw [p5] at k
  exact BindsTo.of_eq k⟩) R S' (K4.one r) fun env s₁ e1 e2 e3 e4 aT7 aU1 fresh C0 aW8=>?_
 have fe:iM (O4 P).T fd.scope.names env:=⟨by rw [e1];exact h3,by rw [e1],fun c e=>⟨e2.trans (lm c e).1,by rw [e3];exact(lm c e).2⟩⟩
 have hf':(A.deeper env).frames=some (env::[]):=Around.frames_deeper hfr
 have fs:frs [env]=[env.locals]:=by unfold frs;rw [List.filterMap_cons,e4];rfl
 have own:∀b,s.heap.get? b=none->HP b=none/\g.h₀.get? b=none:=fun b hb=>by
  refine⟨w5 fun z=>(by rw [z,tb] at hb;cases hb),?_⟩
  cases q:g.h₀.get? b with
  |none=>rfl
  |some o=>exact nomatch (hb.symm.trans (S.keep b o q))
 have ok1:((Mine.Internal.X.not (X.call 417 [])).ok (O4 P).T fd.scope.names (O7 (hdS x) 0)&&_)=true:=(n7 ok).1
 have ok2:((qK .globalImplicit fd.scope.names ((O4 P).T.tab 417)&&Vv (O4 P).T 417)&&_)=true:=(n7 ok1).1
 have ok3:=n7 (n7 ok2).1
 have nn:=aU1.ns
 refine wpAny_execs_cons (Jq (K:=fun s'=>M4 (⟨g.w,s.heap,g.os⟩:G (O4 P).T) s' (fun O=>none)/\(∀b o,s₁.heap.get? b=some o->b≠env.locals->s'.heap.get? b=some o)/\∀o,s₁.heap.get? env.locals=some o->∃sl,s'.heap.get? env.locals=some {o with slots:=sl}) (fa:=dZ) hg' rfl (fe.ok.look _ _ (R7 ok3.1) nofun) (JK hg' rfl ok3.2) aT7 aU1 (fun t=>?_) fun aU0 t K=>?_)
 ·refine codeAny_mono ((lX P).ao8 hg' (Jp hg' (n:=148) (by decide)) aW8 hf' (aU1.zs e4 ⟨fun O h=>nomatch h⟩) (aT7.tok t)) fun r s' q=>⟨q.1,q.2.1,fun x o k ne=>q.2.2.1 x o k rfl fun z=>ne (j8.mp (fs▸z)),fun o k=>q.2.2.2 _ o (by rw [fs];exact .head _) k⟩
 obtain⟨aT6,ke,fr⟩:=K
 obtain⟨mv,⟨ol,es,ep,l1,l2,l3⟩,_⟩:=nn
 have dn:∀b ob,s₁.heap.get? b=some ob->(∀es ep,ob.data≠.dict es ep)->b≠env.locals:=fun b ob q d z=>by
  subst z
  cases q.symm.trans l1
  exact d es ep l2
 have t1:s₁.heap.get? R3=some (tabObj #[]):=aT7.keep _ _ tb
 have pr:T7 s₁.heap (fun O=>none) aU0.heap HP:=⟨fun b ob ys k q d c=>ke b ob q (dn b ob q fun es ep z=>nomatch d.symm.trans z),fun b ob ys k q d c O=>⟨ke b ob q (dn b ob q fun es ep z=>nomatch d.symm.trans z),w5 fun z=>by
  rw [z,t1] at q
  cases q
  cases c⟩,fun b ob ys q d c=>ke b ob q (dn b ob q fun es ep z=>nomatch d.symm.trans z)⟩
 have aU8:N8 g env [(304,.lst (xs.map .int))] aU0.heap HP:=aU1.over ke fr own pr
 have aU3:M4 g aU0 HP:=by
  refine⟨fun b o e=>aT6.keep b o (S.keep b o e),S.fresh,fun b o e=>?_,aT6.gens,aT6.os⟩
  have e:upd (fun O=>none) R3 (.code cV) b=some o:=e
  by_cases z:b=R3
  ·rw [z,p8] at e
   cases e
   rw [z]
   exact⟨#[],aT6.keep _ _ tb,trivial,fun O O h=>nomatch h⟩
  ·rw [w5 z] at e;cases e
 have C1:Calm s.heap HP aU0.heap HP:=⟨fun b o e O O=>aT6.keep b o e,fun b h1 h2=>absurd h1 h2,fun b o e=>⟨o,aT6.keep b o e⟩,⟨fun b o O O e O O=>aT6.keep b o e,fun b o O O e O O q=>⟨aT6.keep b o e,q⟩,fun b o O e O O=>aT6.keep b o e⟩⟩
 refine j4 ?_
 refine j6 (uq hg fe (Ro.drop 1) x.tail (n7 ok).2 (UG hg hx (p8 ..) (by decide) (Q:=fun r H'=>r = .bool true/\H' R3=some (.code cV)) fun H' e=>⟨rfl,e⟩) (A.deeper env) _ aW8 (aU3.tok t) aU8) (fun f s' z=>?_) fun O O z=>z.elim
 obtain⟨o,m',H',r,S',F',c,q⟩:=z
 have C:Calm s.heap HP s'.heap H':=(C1.weak fun O z=>z.elim).trans c |>.drop fun b z=>.inl (fresh b z)
 cases o with
 |next=>exact nomatch q.1
 |brk=>exact q.elim
 |cont=>exact q.elim
 |ret p=>obtain⟨v,rfl,r⟩:=r;exact⟨v,rfl,p,H',r,S',C,q⟩
end
theorem UL{w:World}{p:Program}{loose:List Str}{mean:ExcName->Option Value}{mg mb:Str->Option Value}{h:Heap}(T:Top p loose mean mg mb h)(X:(KT w.params).In h):(K w.params).In h/\Base mg mb h:=by
 refine⟨fun a o e=>?_,T.g,T.b,T.nolimit,T.builtins,T.bmain⟩
 have ne:a≠R3:=fun z=>by rw [z,Ep] at e;cases e
 refine X a o ?_
 show List.lookup a ((R3,tabObj #[])::K w.params)=some o
 rw [u5,s8.mpr ne]
 exact e
theorem Jr:J9.Holds:=by
 refine holds_law aq1 fun said=>⟨said,YZ,open_anyG (r:=J9.row.toRowW) (run:=fun f vs=>PySem.call f vs) (tree:=fun vs=>do match <- nsGet mainNs J9.row.name with
   |some f=>do ret (<- PySem.call f vs)
   |none=>unsupported "claim.caller:no-such-global") (Xt:=Xt) (XP:=fun O O=>True) (Yf:=vp.obs) (Ya:=vp.val) (YP:=vp.says) ap9 vp.of vp.keeps (fun O O=>trivial) (fun O O O O O=>trivial) (fun O O=>recFacts_nil rfl) rfl ok_ aq3 YZ
  (fun vs w s mg f Q E hg hf h=>c7 (wpAny_nsGet hg (by rw [hf];exact c7 (j6 h (fun O O x=>j4 x) fun O O x=>x))))
  (fun w s hg G n hn=>?_) fun w aV5 s₁ mg mb G Y args vs as hpre hlay L low=>?_⟩
 ·obtain rfl:n=J9.row.name:=j8.mp hn
  exact pinned_of_view hg G Wm Wn kw_
 ·have X:(KT w.params).In s₁.heap:=kIn_of Y
  have XB:=Wt G.T X
  refine⟨.ref Kl,mg_of XB.1 XB.2.g (Wq w.params),?_⟩
  obtain⟨p1,p2⟩:=n7 (show(WShape.hasAll [] args [.list .int]&&J9.row.pre.holds [] {args:=args})=true from hpre)
  cases args with
  |nil=>cases p1
  |cons d r=>
  obtain⟨q1,q2⟩:=n7 (show(WShape.has [] d (.list .int)&&WShape.hasAll [] r [])=true from p1)
  cases r with
  |cons _ _=>cases q2
  |nil=>
  obtain⟨xs,rfl⟩:∃xs,d = .list xs:=by
   cases d with
   |list xs=>exact⟨xs,rfl⟩
   |_=>exact nomatch (show false=true from q1)
  have q3:WShape.hasItems [] xs .int=true:=by
   have:(WShape.hasItems [] xs .int||false)=true:=q1
   rwa [Bool.or_false] at this
  obtain⟨is,rfl⟩:=lq q3
  have hlen:is.length<=63:=by have:=Wr p2;rwa [g8] at this
  obtain⟨ord,_,hl⟩:=L.laid
  obtain⟨ws,t,e,rp⟩:=lay_ints (R:=[]) (cl:=classAt aV5.heap) (P:=w.params) (ord:=ord) is aV5
  have hl':(match(match layAllW [] (classAt aV5.heap) w.params ord (is.map WData.int) aV5 with
   |some r=>some (Value.ref r.2.heap.objs.size,({r.2 with heap:=r.2.heap.push {cls:=.type "list",data:=.seq r.1.toArray}}:Shared))
   |Option.none=>Option.none) with
   |some a=>some ([a.1],a.2)
   |Option.none=>Option.none)=some (vs,s₁):=hl
  rw [e] at hl'
  obtain⟨rfl,rfl⟩:[Value.ref aV5.heap.objs.size]=vs/\({aV5 with heap:=aV5.heap.push {cls:=.type "list",data:=.seq ws.toArray},toks:=t}:Shared)=s₁:=by simpa using hl'
  let hh:Heap:=aV5.heap.push {cls:=.type "list",data:=.seq ws.toArray}
  let g:Mine.Internal.G (O4 w.params).T:=⟨w,erase hh R3,aV5.os⟩
  have hg:N6 g:=N6.of (Rp w.params) ok1 qW XB.1 XB.2 (Za w.params)
  have XA:=UL G.T X
  have hg':N6 (⟨g.w,hh,g.os⟩:Mine.Internal.G (O4 w.params).T):=N6.of (Rp w.params) ok1 qW XA.1 XA.2 (Za w.params)
  have tb:hh.get? R3=some (tabObj #[]):=X R3 _ rfl
  have lst:hh.get? aV5.heap.objs.size=some {cls:=.type "list",data:=.seq ws.toArray}:=s6 _ rfl
  have ne:aV5.heap.objs.size≠R3:=fun z=>by rw [z,tb] at lst;cases lst
  have S:M4 g {aV5 with heap:=hh,toks:=t} H0:=by
   refine⟨fun b o e=>vD e,fun b e=>?_,fun b o e=>?_,L.gens,rfl⟩
   ·by_cases z:b=R3
    ·rw [z];exact vC hh R3
    ·exact absurd (w5 z) e
   ·have e:upd (fun O=>none) R3 (.code cV) b=some o:=e
    by_cases z:b=R3
    ·rw [z,p8] at e
     cases e
     rw [z]
     exact⟨#[],tb,trivial,fun O O h=>nomatch h⟩
    ·rw [w5 z] at e;cases e
  have R:R8 150 callerA:=⟨rfl,by decide,by decide⟩
  refine wpAny_call (codeAny_mono (UJ hg hg' hlen R rfl S tb ⟨aV5.heap.objs.size,ws,0,rfl,lst,rfl,rp _ _ _⟩) fun r s' w=>?_)
  obtain⟨u,eu,p,H',y,z,c,q,qt⟩:=w
  subst eu q
  cases y
  have old:OldK hh s'.heap:=by
   obtain⟨ps,k1,k2,k3⟩:=z.obj _ _ qt
   refine⟨fun b o e=>?_,fun b o e=>?_⟩
   ·by_cases q:b=R3
    ·subst q
     rw [tb] at e
     cases e
     obtain⟨oc,vs,c1,c2,c3,c4⟩:=Rz w.params
     exact .inr (.inl ⟨⟨223,oc,vs,vD (XB.1 _ _ c1),c2,c3,c4⟩,rfl,#[],ps,rfl,by rw [Array.empty_append];exact k1⟩)
    ·exact .inl (z.keep b o (((I6 hh R3 _).2 b q).trans e))
   ·by_cases q:b=R3
    ·subst q;exact⟨_,k1⟩
    ·exact⟨o,z.keep b o (((I6 hh R3 _).2 b q).trans e)⟩
  exact⟨.inl ⟨_,.bool true,[],rfl,fun O=>rfl,ReadsW.bool _,post_ _,fun O=>⟨List.nodup_nil,fun O h=>(nomatch h)⟩⟩,old,z.os,.of_eq z.gens⟩
end Mine.Internal
theorem PySem.Challenge.cw_ot0049_01_holds : PySem.Challenge.rw_ot0049_01.Holds := by
 exact Mine.Internal.Jr
