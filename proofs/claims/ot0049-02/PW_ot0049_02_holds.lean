import PyProof.Rows.All
import Wide.All
import OpenK.AllK
import Wide.FinOn
import PySem.Challenge.RW_ot0049_02
set_option maxRecDepth 100000
set_option Elab.async false
set_option linter.all false
set_option tactic.hygienic false
set_option genSizeOf false
set_option genInjectivity false
namespace Mine.Internal
open PySem PySem.W PySem.Calls PyProof.Rows
theorem leP{a k n:Nat}(h:a+k≤n):a≤n:=Nat.le_of_add_right_le h
theorem eqs{x y z:Nat}(h:x+(y+1)=z):x<z:=h▸Nat.lt_add_of_pos_right (Nat.succ_pos y)
theorem eqt{x y z:Nat}(h:x+(y+1)=z):x+1+y=z:=by lia
theorem rm2{x y z:Nat}(h:x+20*(y+1)+100<z):x+3+20*y+100<z:=by lia
theorem rm3{x y z:Nat}(h:x+2*(y+1)<z):x<z:=by lia
theorem qh1{x z u:Nat}(h:x+(z+1)≤u):u-1<u:=by lia
theorem qh2{x z u:Nat}(h:x+(z+1)≤u):x+z≤u-1:=by lia
theorem bQ{P:Nat→Prop}{n k:Nat}(h:k<n+1)(p:P 0)(q:∀j,j<n→P (j+1)):P k:=by
 cases k with
 |zero=>exact p
 |succ k=>exact q k (Nat.lt_of_succ_lt_succ h)
theorem UL{P:Nat→Prop}(k:Nat)(h:k<0):P k:=absurd h (Nat.not_lt_zero k)
@[elab_as_elim] theorem lt2{P:Nat→Prop}{k:Nat}(h:k<2)(p0:P 0)(p1:P 1):P k:=bQ h p0 fun O h=>bQ (P:=fun j=>P (j+1)) h p1 UL
@[elab_as_elim] theorem YZ{P:Nat→Prop}{k:Nat}(h:k<3)(p0:P 0)(p1:P 1)(p2:P 2):P k:=bQ h p0 fun O h=>bQ (P:=fun j=>P (j+1)) h p1 fun O h=>bQ (P:=fun j=>P (j+2)) h p2 UL
@[elab_as_elim] theorem lt4{P:Nat→Prop}{k:Nat}(h:k<4)(p0:P 0)(p1:P 1)(p2:P 2)(p3:P 3):P k:=bQ h p0 fun O h=>bQ (P:=fun j=>P (j+1)) h p1 fun O h=>bQ (P:=fun j=>P (j+2)) h p2 fun O h=>bQ (P:=fun j=>P (j+3)) h p3 UL
@[elab_as_elim] theorem lt5{P:Nat→Prop}{k:Nat}(h:k<5)(p0:P 0)(p1:P 1)(p2:P 2)(p3:P 3)(p4:P 4):P k:=bQ h p0 fun O h=>bQ (P:=fun j=>P (j+1)) h p1 fun O h=>bQ (P:=fun j=>P (j+2)) h p2 fun O h=>bQ (P:=fun j=>P (j+3)) h p3 fun O h=>bQ (P:=fun j=>P (j+4)) h p4 UL
@[elab_as_elim] theorem lt6{P:Nat→Prop}{k:Nat}(h:k<6)(p0:P 0)(p1:P 1)(p2:P 2)(p3:P 3)(p4:P 4)(p5:P 5):P k:=bQ h p0 fun O h=>bQ (P:=fun j=>P (j+1)) h p1 fun O h=>bQ (P:=fun j=>P (j+2)) h p2 fun O h=>bQ (P:=fun j=>P (j+3)) h p3 fun O h=>bQ (P:=fun j=>P (j+4)) h p4 fun O h=>bQ (P:=fun j=>P (j+5)) h p5 UL
@[elab_as_elim] theorem lt7{P:Nat→Prop}{k:Nat}(h:k<7)(p0:P 0)(p1:P 1)(p2:P 2)(p3:P 3)(p4:P 4)(p5:P 5)(p6:P 6):P k:=bQ h p0 fun O h=>bQ (P:=fun j=>P (j+1)) h p1 fun O h=>bQ (P:=fun j=>P (j+2)) h p2 fun O h=>bQ (P:=fun j=>P (j+3)) h p3 fun O h=>bQ (P:=fun j=>P (j+4)) h p4 fun O h=>bQ (P:=fun j=>P (j+5)) h p5 fun O h=>bQ (P:=fun j=>P (j+6)) h p6 UL
@[elab_as_elim] theorem lt8{P:Nat→Prop}{k:Nat}(h:k<8)(p0:P 0)(p1:P 1)(p2:P 2)(p3:P 3)(p4:P 4)(p5:P 5)(p6:P 6)(p7:P 7):P k:=bQ h p0 fun O h=>bQ (P:=fun j=>P (j+1)) h p1 fun O h=>bQ (P:=fun j=>P (j+2)) h p2 fun O h=>bQ (P:=fun j=>P (j+3)) h p3 fun O h=>bQ (P:=fun j=>P (j+4)) h p4 fun O h=>bQ (P:=fun j=>P (j+5)) h p5 fun O h=>bQ (P:=fun j=>P (j+6)) h p6 fun O h=>bQ (P:=fun j=>P (j+7)) h p7 UL
@[elab_as_elim] theorem lt9{P:Nat→Prop}{k:Nat}(h:k<9)(p0:P 0)(p1:P 1)(p2:P 2)(p3:P 3)(p4:P 4)(p5:P 5)(p6:P 6)(p7:P 7)(p8:P 8):P k:=bQ h p0 fun O h=>bQ (P:=fun j=>P (j+1)) h p1 fun O h=>bQ (P:=fun j=>P (j+2)) h p2 fun O h=>bQ (P:=fun j=>P (j+3)) h p3 fun O h=>bQ (P:=fun j=>P (j+4)) h p4 fun O h=>bQ (P:=fun j=>P (j+5)) h p5 fun O h=>bQ (P:=fun j=>P (j+6)) h p6 fun O h=>bQ (P:=fun j=>P (j+7)) h p7 fun O h=>bQ (P:=fun j=>P (j+8)) h p8 UL
noncomputable abbrev lk{α:Type}(o:Option α)(Q:α→Prop):Prop:=@Option.rec α (fun O=>Prop) False Q o
noncomputable abbrev sel(b:Bool)(P R:Prop):Prop:=@Bool.rec (fun O=>Prop) R P b
noncomputable def KN{α:Type}(f:α→Bool)(g:List α→Bool)(l:List α):Bool:=@List.rec α (fun O=>Bool) false (fun v vs O=>f v&&g vs) l
theorem d7{α:Type}{o:Option α}{x:α}{Q:α→Prop}(e:o=some x)(h:Q x):lk o Q:=by subst e;exact h
theorem M4{α:Type}{o:Option α}{Q:α→Prop}(h:lk o Q):∃x,o=some x∧Q x:=by
 cases o with
 |none=>exact h.elim
 |some x=>exact⟨x,rfl,h⟩
theorem cB{b:Bool}{P R:Prop}(e:b=true)(h:P):sel b P R:=by subst e;exact h
theorem xH{b:Bool}{P R:Prop}(e:b=false)(h:R):sel b P R:=by subst e;exact h
theorem nQ{b:Bool}{P:Prop}(h:sel b P False):b=true∧P:=by
 cases b with
 |true=>exact⟨rfl,h⟩
 |false=>exact h.elim
theorem xJ{b:Bool}{P P' R R':Prop}(h:sel b P R)(k:P→P')(z:R→R'):if b=true then P' else R':=by
 cases b with
 |true=>exact k h
 |false=>exact z h
set_option genInjectivity true in
inductive PV where
 |none|bool (b:Bool)|int (i:Int)|str (n:Nat)
 |tup (l:List PV)|lst (l:List PV)|obj (a:Addr)
 |blt (n:String)|typ (n:String)|rng (lo hi:Int)
 deriving Inhabited
inductive q7 where
 |list (l:List PV)
 |m6 (l:List (Int×PV))
 |u0 (l:List (Nat×PV))
 |z6 (l:List ((Int×Int)×PV))
 |inst (C dx:Addr)
 |attrs (l:List (Nat×PV))
 |code (q:Str)
noncomputable abbrev AH:=Addr→Option q7
noncomputable def upd(H:AH)(a:Addr)(o:q7):AH:=fun b=>if b=a then some o else H b
theorem c7(H:AH)(a:Addr)(o:q7):upd H a o a=some o:=if_pos rfl
theorem d8{H:AH}{a b:Addr}{o:q7}(h:b≠a):upd H a o b=H b:=if_neg h
noncomputable abbrev Za(vs:List Value)(n:Nat):Obj:=⟨.type "tuple",none,.seq vs.toArray n,#[]⟩
noncomputable abbrev Aa(vs:List Value)(n:Nat):Obj:=⟨.type "list",none,.seq vs.toArray n,#[]⟩
inductive Zb(h:Heap)(v:Value)(R:List Value→Prop):Prop
 |mk (a:Addr) (vs:List Value) (n:Nat) (e:v = .ref a) (o:h.get? a=some (Za vs n)) (r:R vs)
inductive ai1(h:Heap)(H:AH)(v:Value)(R:List Value→Prop):Prop
 |mk (a:Addr) (vs:List Value) (n:Nat) (e:v = .ref a) (o:h.get? a=some (Aa vs n)) (q:H a=none) (r:R vs)
inductive ai2(h:Heap)(lo hi:Int)(v:Value):Prop
 |mk (a:Addr) (t u w:Tok) (e:v = .ref a) (o:IsRange h a lo hi 1 t u w)
inductive ai3(vs:List Value)(P:Value→Prop)(R:List Value→Prop):Prop
 |mk (v:Value) (r:List Value) (e:vs=v::r) (p:P v) (z:R r)
section
variable(tab:Nat→Str)
mutual
noncomputable def Rep(h:Heap)(H:AH):PV→Value→Prop
 |.none,v=>v = .none
 |.bool b,v=>v = .bool b
 |.int i,v => ∃t,v = .int i t
 |.str n,v => ∃t,v = .str (tab n) t
 |.tup l,v=>Zb h v (m8 h H l)
 |.lst l,v=>ai1 h H v (m8 h H l)
 |.obj a,v=>v = .ref a
 |.blt n,v=>v = .builtin n∧handedIn (.builtin n)=true
 |.typ n,v=>v = .type n
 |.rng lo hi,v=>ai2 h lo hi v
noncomputable def m8(h:Heap)(H:AH):List PV→List Value→Prop
 | [],vs=>vs=[]
 |x::xs,vs=>ai3 vs (Rep h H x) (m8 h H xs)
end
end
noncomputable abbrev KQ(v:Value):Prop:=v = .type "range"∨v = .type "code"
structure O5(h:Heap)(H:AH)(h':Heap)(H':AH):Prop where
 tup:∀b o xs k,h.get? b=some o→o.data = .seq xs k→o.cls = .type "tuple"→h'.get? b=some o
 lst:∀b o xs k,h.get? b=some o→o.data = .seq xs k→o.cls = .type "list"→H b=none→h'.get? b=some o∧H' b=none
 rng:∀b o xs,h.get? b=some o→o.data = .fields xs→KQ o.cls→h'.get? b=some o
theorem O5.refl(h:Heap)(H:AH):O5 h H h H:=⟨fun O O O O e O O=>e,fun O O O O e O O q=>⟨e,q⟩,fun O O O e O O=>e⟩
theorem O5.trans{h h' h'':Heap}{H H' xK:AH}(a:O5 h H h' H')(b:O5 h' H' h'' xK):O5 h H h'' xK:=
 ⟨fun x o xs k e d c=>b.tup x o xs k (a.tup x o xs k e d c) d c,fun x o xs k e d c q=>let⟨e',q'⟩:=a.lst x o xs k e d c q;b.lst x o xs k e' d c q',fun x o xs e d c=>b.rng x o xs (a.rng x o xs e d c) d c⟩
section
variable{tab:Nat→Str}{h h':Heap}{H H':AH}
mutual
theorem Rep.keeps(P:O5 h H h' H'):∀{p:PV} {v:Value},Rep tab h H p v→Rep tab h' H' p v
 |.none,_,r=>r
 |.bool _,_,r=>r
 |.int _,_,r=>r
 |.str _,_,r=>r
 |.tup _,_,⟨a,vs,n,e,o,r⟩=>⟨a,vs,n,e,P.tup _ _ _ _ o rfl rfl,m8.keeps P r⟩
 |.lst _,_,⟨a,vs,n,e,o,q,r⟩=>⟨a,vs,n,e,(P.lst _ _ _ _ o rfl rfl q).1,(P.lst _ _ _ _ o rfl rfl q).2,m8.keeps P r⟩
 |.obj _,_,r=>r
 |.blt _,_,r=>r
 |.typ _,_,r=>r
 |.rng _ _,_,⟨a,t,u,w,e,o⟩=>⟨a,t,u,w,e,P.rng _ _ _ o rfl (.inl rfl)⟩
theorem m8.keeps(P:O5 h H h' H'):∀{l:List PV} {vs:List Value},m8 tab h H l vs→m8 tab h' H' l vs
 | [],_,r=>r
 |_::_,_,⟨v,r,e,q,z⟩=>⟨v,r,e,Rep.keeps P q,m8.keeps P z⟩
end
theorem m8.length:∀{l:List PV} {vs:List Value},m8 tab h H l vs→vs.length=l.length
 | [],_,r=>by cases r;rfl
 |_::_,_,⟨v,r,e,_,z⟩=>by rw [e,List.length_cons,List.length_cons,m8.length z]
theorem m8.append:∀{l m:List PV} {vs ws:List Value},m8 tab h H l vs→m8 tab h H m ws→m8 tab h H (l++m) (vs++ws)
 | [],_,_,_,r,q=>by cases r;exact q
 |_::_,_,_,_,⟨v,r,e,p,z⟩,q=>⟨v,r++_,by rw [e];rfl,p,m8.append z q⟩
theorem m8.one{p:PV}{v:Value}(r:Rep tab h H p v):m8 tab h H [p] [v]:=⟨v,[],rfl,r,rfl⟩
theorem m8.get:∀{l:List PV} {vs:List Value} {k:Nat} {p:PV},m8 tab h H l vs→l[k]? = some p→∃v,vs[k]? = some v∧Rep tab h H p v
 | [],_,_,_,_,e=>by simp at e
 |x::xs,_,0,_,⟨v,r,e,q,z⟩,e'=>by
  rw [List.getElem?_cons_zero] at e';cases e'
  exact⟨v,by rw [e];rfl,q⟩
 |x::xs,_,k+1,p,⟨v,r,e,q,z⟩,e'=>by
  rw [List.getElem?_cons_succ] at e'
  obtain⟨u,a,b⟩:=m8.get z e'
  exact⟨u,by rw [e,List.getElem?_cons_succ];exact a,b⟩
theorem m8.set:∀{l:List PV} {vs:List Value} {p:PV} {v:Value} (k:Nat),m8 tab h H l vs→Rep tab h H p v→m8 tab h H (l.set k p) (vs.set k v)
 | [],_,_,_,_,r,_=>by cases r;exact rfl
 |x::xs,_,_,v',0,⟨v,r,e,q,z⟩,q'=>⟨v',r,by rw [e];rfl,q',z⟩
 |x::xs,_,_,v',k+1,⟨v,r,e,q,z⟩,q'=>⟨v,r.set k v',by rw [e];rfl,q,m8.set k z q'⟩
theorem m8.drop:∀{l:List PV} {vs:List Value} (k:Nat),m8 tab h H l vs→m8 tab h H (l.drop k) (vs.drop k)
 |_,_,0,r=>r
 | [],_,k+1,r=>by cases r;exact rfl
 |x::xs,_,k+1,⟨v,r,e,q,z⟩=>by rw [e];exact m8.drop k z
theorem m8.take:∀{l:List PV} {vs:List Value} (k:Nat),m8 tab h H l vs→m8 tab h H (l.take k) (vs.take k)
 |_,_,0,r=>rfl
 | [],_,k+1,r=>by cases r;exact rfl
 |x::xs,_,k+1,⟨v,r,e,q,z⟩=>by rw [e];exact⟨v,_,rfl,q,m8.take k z⟩
theorem m8.reverse:∀{l:List PV} {vs:List Value},m8 tab h H l vs→m8 tab h H l.reverse vs.reverse
 | [],_,r=>by cases r;exact rfl
 |x::xs,_,⟨v,r,e,q,z⟩=>by rw [e,List.reverse_cons,List.reverse_cons];exact m8.append (m8.reverse z) (.one q)
theorem Rep.handed{p:PV}{v:Value}(r:Rep tab h H p v):handedIn v=true:=by
 cases p
 case int=>obtain⟨_,e⟩:=r;subst e;rfl
 case str=>obtain⟨_,e⟩:=r;subst e;rfl
 case tup=>obtain⟨_,_,_,e,_⟩:=r;subst e;rfl
 case lst=>obtain⟨_,_,_,e,_⟩:=r;subst e;rfl
 case blt=>obtain⟨e,h⟩:=r;subst e;exact h
 case rng=>obtain⟨_,_,_,_,e,_⟩:=r;subst e;rfl
 all_goals (cases r;rfl)
end
structure Fn where
 fd:FuncData
 ps:List Nat
structure T where
 prog:Program
 tab:Nat→Str
 K:Frag
 glob:Nat→Option PV
 u0:Addr→Nat→Option PV
 fld:Addr→Nat→Bool
 meth:Addr→Nat→Option Addr
 rC:Addr→Nat→Option Addr
 init:Addr→Option Addr
 fn:Addr→Option Fn
 cat:Nat→Nat→Option Nat
 lam:List (Str×NameKind)→Option (Addr×Addr×Str)
structure G(τ:T) where
 w:World
 h₀:Heap
 os:OsState
noncomputable abbrev G.prog{τ:T}(_:G τ):Program:=τ.prog
noncomputable abbrev G.tab{τ:T}(_:G τ):Nat→Str:=τ.tab
noncomputable abbrev G.K{τ:T}(_:G τ):Frag:=τ.K
noncomputable abbrev G.glob{τ:T}(_:G τ):Nat→Option PV:=τ.glob
noncomputable abbrev G.fld{τ:T}(_:G τ):Addr→Nat→Bool:=τ.fld
noncomputable abbrev G.meth{τ:T}(_:G τ):Addr→Nat→Option Addr:=τ.meth
noncomputable abbrev G.rC{τ:T}(_:G τ):Addr→Nat→Option Addr:=τ.rC
noncomputable abbrev G.init{τ:T}(_:G τ):Addr→Option Addr:=τ.init
noncomputable abbrev G.fn{τ:T}(_:G τ):Addr→Option Fn:=τ.fn
noncomputable def gD(tab:Nat→Str)(h:Heap)(H:AH):Option PV→Option Value→Prop
 |none,v=>v=none
 |some p,v => ∃u,v=some u∧Rep tab h H p u
theorem gD.keeps{tab:Nat→Str}{h h':Heap}{H H':AH}(P:O5 h H h' H'):∀{p:Option PV} {v:Option Value},gD tab h H p v→gD tab h' H' p v
 |none,_,r=>r
 |some _,_,⟨u,e,r⟩=>⟨u,e,r.keeps P⟩
inductive cC{K J:Type}(f:K→J)(tab:Nat→Str)(h:Heap)(H:AH):List (K×PV)→List (J×Value)→Prop
 |nil:cC f tab h H [] []
 |cons {k:K} {p:PV} {v:Value} {l:List (K×PV)} {r:List (J×Value)} (q:Rep tab h H p v) (z:cC f tab h H l r):cC f tab h H ((k,p)::l) ((f k,v)::r)
theorem cC.keeps{K J:Type}{f:K→J}{tab:Nat→Str}{h h':Heap}{H H':AH}(P:O5 h H h' H'){l:List (K×PV)}{kvs:List (J×Value)}(r:cC f tab h H l kvs):cC f tab h' H' l kvs:=by
 induction r with
 |nil=>exact .nil
 |cons q _ ih=>exact .cons (q.keeps P) ih
inductive J2(tab:Nat→Str)(h:Heap)(H:AH):List ((Int×Int)×PV)→List (List Int×Addr×Value)→Prop
 |nil:J2 tab h H [] []
 |cons {i j:Int} {p:PV} {c:Addr} {v:Value} {l:List ((Int×Int)×PV)} {r:List (List Int×Addr×Value)} (q:Rep tab h H p v) (z:J2 tab h H l r):J2 tab h H (((i,j),p)::l) (([i,j],c,v)::r)
theorem J2.keeps{tab:Nat→Str}{h h':Heap}{H H':AH}(P:O5 h H h' H'){l:List ((Int×Int)×PV)} {xs:List (List Int×Addr×Value)} (r:J2 tab h H l xs):J2 tab h' H' l xs:=by
 induction r with
 |nil=>exact .nil
 |cons q _ ih=>exact .cons (q.keeps P) ih
inductive ai4(h:Heap)(a:Addr)(R:List Value→Prop):Prop
 |mk (vs:List Value) (n:Nat) (o:h.get? a=some (Aa vs n)) (r:R vs)
section
variable{τ:T}(g:G τ)
noncomputable def jf(h:Heap)(H:AH)(a:Addr):q7→Prop
 |.list l=>ai4 h a (m8 g.tab h H l)
 |.m6 l => ∃kvs,h.DictOf (intKind g.prog g.w) a kvs∧cC id g.tab h H l kvs
 |.u0 l => ∃kvs,h.DictOf (strKind g.prog g.w) a kvs∧cC g.tab g.tab h H l kvs
 |.z6 l => ∃xs,h.DictOfH (tupleKind (intKind g.prog g.w)) a xs∧J2 g.tab h H l xs
 |.inst C dx=>h.get? a=some (instObj C dx)
 |.code q => ∃ps:Array Value,h.get? a=some (tabObj ps)∧TriplesOk ps.toList∧∀pos v,codeAmong pos ps.toList=some v→∃c o vs t,v = .ref c∧h.get? c=some o∧o.cls = .type "code"∧o.data = .fields vs∧vs[1]? = some (.str q t)
 |.attrs l => ∃m,h.Ns1 a m∧Within m (l.map fun p=>g.tab p.1)∧∀x,gD g.tab h H (l.lookup x) (m (g.tab x))
end
theorem KR{α β:Type}{h h':Heap}{a:Addr}{P:Obj→α→β→Prop}(e:∀x,h.get? a=some x→h'.get? a=some x)(z:∃o b c,h.get? a=some o∧P o b c):∃o b c,h'.get? a=some o∧P o b c:=
 z.imp fun O=>Exists.imp fun O=>Exists.imp fun O z=>⟨e _ z.1,z.2⟩
theorem jf.keeps{τ:T}{g:G τ}{h h':Heap}{H H':AH}(P:O5 h H h' H'){a:Addr}{o:q7}(r:jf g h H a o)(e:∀x,h.get? a=some x→h'.get? a=some x):jf g h' H' a o:=by
 cases o with
 |list l=>obtain⟨vs,n,e1,r⟩:=r;exact⟨vs,n,e _ e1,r.keeps P⟩
 |m6 l=>exact r.imp fun O z=>⟨KR e z.1,z.2.keeps P⟩
 |u0 l=>exact r.imp fun O z=>⟨KR e z.1,z.2.keeps P⟩
 |z6 l=>
  refine r.imp fun xs z=>⟨z.1.imp fun o=>Exists.imp fun es=>Exists.imp fun ep w=>⟨e _ w.1,w.2.1,w.2.2.1,w.2.2.2.1,fun x hx=>?_,w.2.2.2.2.2⟩,z.2.keeps P⟩
  exact(w.2.2.2.2.1 x hx).imp fun o'=>Exists.imp fun its=>Exists.imp fun n' q=>⟨P.tup _ _ _ _ q.1 q.2.2.1 q.2.1,q.2⟩
 |inst C dx=>exact e _ r
 |code q=>obtain⟨ps,e1,e2,r⟩:=r;exact⟨ps,e _ e1,e2,fun pos v k=>(r pos v k).imp fun c=>Exists.imp fun o=>Exists.imp fun vs=>Exists.imp fun t z=>⟨z.1,P.rng _ _ _ z.2.1 z.2.2.2.1 (.inr z.2.2.1),z.2.2⟩⟩
 |attrs l=>exact r.imp fun O z=>⟨KR e z.1,z.2.1,fun x=>(z.2.2 x).keeps P⟩
structure n8{τ:T}(g:G τ)(s:Shared)(H:AH):Prop where
 keep:∀b o,g.h₀.get? b=some o→s.heap.get? b=some o
 fresh:∀a,H a≠none→g.h₀.get? a=none
 obj:∀a o,H a=some o→jf g s.heap H a o
 gens:s.gens = #[]
 os:s.os=g.os
structure Goes(F:Addr→Prop)(h:Heap)(H:AH)(h':Heap)(H':AH):Prop where
 keep:∀b o,h.get? b=some o→H b=none→¬F b→h'.get? b=some o
 new:∀b,H b=none→H' b≠none→h.get? b=none
 ex:∀b o,h.get? b=some o→∃o',h'.get? b=some o'
 q9:O5 h H h' H'
theorem Goes.refl(F:Addr→Prop)(h:Heap)(H:AH):Goes F h H h H:=⟨fun O O e O O=>e,fun O a b=>absurd a b,fun O o e=>⟨o,e⟩,.refl ..⟩
theorem Goes.trans{F:Addr→Prop}{h h' h'':Heap}{H H' xK:AH}(a:Goes F h H h' H')(b:Goes F h' H' h'' xK):Goes F h H h'' xK:=by
 have un:∀x,h.get? x≠none→H x=none→H' x=none:=fun x q e=>Classical.byContradiction fun z=>q (a.new x e z)
 refine⟨fun x o e q f=>b.keep x o (a.keep x o e q f) (un x (by rw [e];simp) q) f,fun x q z=>?_,fun x o e=>let⟨o',e'⟩:=a.ex x o e;b.ex x o' e',a.q9.trans b.q9⟩
 by_cases y:H' x=none
 ·have:=b.new x y z
  cases c:h.get? x with
  |none=>rfl
  |some o=>obtain⟨o',e'⟩:=a.ex x o c;rw [e'] at this;cases this
 ·exact a.new x q y
theorem Goes.weak{F F':Addr→Prop}{h h':Heap}{H H':AH}(a:Goes F h H h' H')(k:∀x,F x→F' x):Goes F' h H h' H':=
 ⟨fun b o e q f=>a.keep b o e q fun z=>f (k b z),a.new,a.ex,a.q9⟩
noncomputable abbrev Calm:=Goes (fun O=>False)
theorem Calm.push(h:Heap)(H:AH)(o:Obj):Calm h H (h.push o) H:=
 ⟨fun O O e O O=>Heap.get?_push_of_some _ e,fun O a b=>absurd a b,fun O O e=>⟨_,Heap.get?_push_of_some _ e⟩,⟨fun O O O O e O O=>Heap.get?_push_of_some _ e,fun O O O O e O O q=>⟨Heap.get?_push_of_some _ e,q⟩,fun O O O e O O=>Heap.get?_push_of_some _ e⟩⟩
section
variable{τ:T}{g:G τ}{s:Shared}{H:AH}
theorem jf.has{h:Heap}{a:Addr}{o:q7}(r:jf g h H a o):∃x,h.get? a=some x:=by
 cases o with
 |list l=>cases r with|mk _ _ o _=>exact⟨_,o⟩
 |m6 l=>exact r.elim fun O z=>z.1.elim fun O z=>z.elim fun O z=>z.elim fun O z=>⟨_,z.1⟩
 |u0 l=>exact r.elim fun O z=>z.1.elim fun O z=>z.elim fun O z=>z.elim fun O z=>⟨_,z.1⟩
 |z6 l=>exact r.elim fun O z=>z.1.elim fun O z=>z.elim fun O z=>z.elim fun O z=>⟨_,z.1⟩
 |inst C dx=>exact⟨_,r⟩
 |attrs l=>exact r.elim fun O z=>z.1.elim fun O z=>z.elim fun O z=>z.elim fun O z=>⟨_,z.1⟩
 |code q=>exact r.elim fun O z=>⟨_,z.1⟩
theorem n8.off(S:n8 g s H){a:Addr}(h:s.heap.objs.size≤a):H a=none:=by
 cases e:H a with
 |none=>rfl
 |some o=>exact((S.obj a o e).has.elim fun O e=>absurd (Nat.lt_of_lt_of_le (Heap.lt_size e) h) (Nat.lt_irrefl _))
theorem n8.push(S:n8 g s H)(o:Obj)(t:Nat):n8 g {s with heap:=s.heap.push o,toks:=t} H:=
 ⟨fun b o' e=>Heap.get?_push_of_some _ (S.keep b o' e),S.fresh,fun a o' e=>(S.obj a o' e).keeps (Calm.push s.heap H o).q9 fun O e=>Heap.get?_push_of_some _ e,S.gens,S.os⟩
theorem n8.tok(S:n8 g s H)(t:Nat):n8 g {s with toks:=t} H:=⟨S.keep,S.fresh,S.obj,S.gens,S.os⟩
theorem n8.static(S:n8 g s H):O5 g.h₀ (fun O=>none) s.heap H:=by
 refine⟨fun b o O O e O O=>S.keep b o e,fun b o O O e O O O=>⟨S.keep b o e,?_⟩,fun b o O e O O=>S.keep b o e⟩
 exact Classical.byContradiction fun z=>by have:=S.fresh b z;rw [e] at this;cases this
end
structure v9{τ:T}(g:G τ):Prop where
 inj:∀i j,g.tab i=g.tab j→i=j
 Zc:∀i,(g.tab i==("__debug__" : Str))=false
 X:g.K.In g.h₀
 nolimit:g.h₀.NoLimit
 names:∃mg mb,g.h₀.Ns mainGlobals mg∧g.h₀.Ns builtinsNs mb∧∀x p,g.glob x=some p→
  ∃v,(mg (g.tab x)=some v∨(mg (g.tab x)=none∧mb (g.tab x)=some v))∧Rep g.tab g.h₀ (fun O=>none) p v
 mods:g.h₀.get? sysModules≠none
 bm:∃mg,g.h₀.Ns mainGlobals mg∧∀P,(∀o,g.h₀.get? P≠some o)→g.h₀.BuiltinsAt mg P
 lam:∀ns c P q,τ.lam ns=some (c,P,q)→CodeHd g.h₀ c P∧P≠mainGlobals
 aL:∀x,PySem.PyData.strOk (g.tab x)=true
 Gy:∀x,(g.tab x==("__classdict__" : Str))=false
 fld:∀C x,g.fld C x=true→plainGet g.K C (g.tab x)=true∧hasDictIn g.K C=true∧findIn g.K (.ref C) (g.tab x)=some none∧plainOver g.K C=true∧findIn g.K (.ref C) "__setattr__" = some (some (.builtin "object.__setattr__"))
 meth:∀C x f,g.meth C x=some f→plainGet g.K C (g.tab x)=true∧findIn g.K (.ref C) (g.tab x)=some (some (.ref f))∧isFn g.K (.ref f)=true∧keepIn g.K (.ref f)=true
 fn:∀f d,g.fn f=some d→∃oc od osl,g.K.lookup f=some ⟨oc,od,.func d.fd,osl⟩∧keepIn g.K (.ref f)=true∧codeIn g.K d.fd.code d.fd.qualname=true
 rC:∀C x f,g.rC C x=some f→∃mc,specialIn g.K (.ref C) "__getattribute__" = some (some (.builtin "type.__getattribute__"))∧readsIn g.K C mc=true∧findCls g.K (.ref C) mc (g.tab x)=some (.val (.ref f))∧keepIn g.K (.ref f)=true
 sd:∀a x p,τ.u0 a x=some p→∃m v,g.h₀.MapOf (strKind g.prog g.w) a m∧m (g.tab x)=some v∧Rep g.tab g.h₀ (fun O=>none) p v
 init:∀C f,g.init C=some f→makesIn g.K C=true∧findIn g.K (.ref C) "__init__" = some (some (.ref f))∧isFn g.K (.ref f)=true∧keepIn g.K (.ref C)=true
noncomputable abbrev Loc:=List (Nat×PV)
noncomputable def m5(x:Nat)(p:PV):Loc→Loc
 | []=>[(x,p)]
 |q::r=>@Bool.rec (fun O=>Loc) (q::m5 x p r) ((x,p)::r) (Nat.beq q.1 x)
theorem lq{α:Type}{y q:Nat}{p:α}{r:List (Nat×α)}(h:y=q):((q,p)::r).lookup y=some p:=by rw [List.lookup_cons,h,beq_self_eq_true]
theorem gF{α:Type}{y q:Nat}{p:α}{r:List (Nat×α)}(h:y≠q):((q,p)::r).lookup y=r.lookup y:=by rw [List.lookup_cons,beq_eq_false_iff_ne.mpr h]
theorem qL{x:Nat}{p:PV}{q:Nat×PV}{r:Loc}{b:Bool}(e:Nat.beq q.1 x=b):m5 x p (q::r) = @Bool.rec (fun O=>Loc) (q::m5 x p r) ((x,p)::r) b:=by
 subst e;rfl
theorem s7(x:Nat)(p:PV)(y:Nat)(m:Loc):(m5 x p m).lookup y=if y=x then some p else m.lookup y:=by
 induction m with
 |nil=>
  by_cases h:y=x
  ·rw [if_pos h];exact lq h
  ·rw [if_neg h];exact gF h
 |cons q r ih=>
  obtain⟨q1,q2⟩:=q
  cases e:Nat.beq q1 x with
  |true=>
   rw [qL e]
   by_cases h:y=x
   ·rw [if_pos h];exact lq h
   ·rw [if_neg h,gF fun w=>h (w.trans (Nat.eq_of_beq_eq_true e))];exact gF h
  |false=>
   rw [qL e]
   by_cases w:y=q1
   ·rw [lq w,if_neg fun h=>Nat.ne_of_beq_eq_false e (w.symm.trans h)];exact(lq w).symm
   ·rw [gF w,ih];exact congrArg (ite _ _) (gF w).symm
structure z9{τ:T}(g:G τ)(env:Env)(m:Loc)(h:Heap)(H:AH):Prop where
 kind:env.scope.kind = .function
 globs:env.globals=mainGlobals
 KY:env.builtins=builtinsNs
 ns:∃mv,h.Ns env.locals mv∧∀x p,m.lookup x=some p→env.kindOf (g.tab x)=some .local→∃v,mv (g.tab x)=some v∧Rep g.tab h H p v
 cell:∀x p,m.lookup x=some p→(env.kindOf (g.tab x)=some .cell∨env.kindOf (g.tab x)=some .free)→∃c v,env.cells.lookup (g.tab x)=some c∧h.IsCell c (some v)∧Rep g.tab h H p v
 kinds:∀x p,m.lookup x=some p→env.kindOf (g.tab x)=some .local∨env.kindOf (g.tab x)=some .cell∨env.kindOf (g.tab x)=some .free
 Je:H env.locals=none
 QM:g.h₀.get? env.locals=none
 cells:∀x c,env.cells.lookup x=some c→H c=none∧g.h₀.get? c=none∧∃v,h.IsCell c v
 inj:∀x y c,env.cells.lookup x=some c→env.cells.lookup y=some c→x=y
 has:∀x,env.kindOf x=some .cell→∃c,env.cells.lookup x=some c
theorem z9.Gz{τ:T}{g:G τ}{env:Env}{m:Loc}{h h':Heap}{H H':AH}(F:z9 g env m h H)
  (k:∀b o,h.get? b=some o→H b=none→(b=env.locals∨∃x,env.cells.lookup x=some b)→h'.get? b=some o) (un:∀x,h.get? x≠none→H x=none→(x=env.locals∨∃y,env.cells.lookup y=some x)→H' x=none) (P:O5 h H h' H'):z9 g env m h' H':=by
 have cl:∀x c v,env.cells.lookup x=some c→h.IsCell c v→H c=none→h'.IsCell c v∧H' c=none:=fun x c v z ⟨o,e,d⟩ q=>⟨⟨o,k c o e q (.inr ⟨x,z⟩),d⟩,un c (by rw [e];simp) q (.inr ⟨x,z⟩)⟩
 obtain⟨mv,⟨o,es,ep,e,d⟩,r⟩:=F.ns
 refine⟨F.kind,F.globs,F.KY,⟨mv,⟨o,es,ep,k _ _ e F.Je (.inl rfl),d⟩,fun x p q k=>?_⟩,fun x p q k=>?_,F.kinds,un _ (by rw [e];simp) F.Je (.inl rfl),F.QM,fun x c q=>?_,F.inj,F.has⟩
 ·obtain⟨v,z,y⟩:=r x p q k;exact⟨v,z,y.keeps P⟩
 ·obtain⟨c,v,z,y,w⟩:=F.cell x p q k
  exact⟨c,v,z,(cl _ c _ z y (F.cells _ _ z).1).1,w.keeps P⟩
 ·obtain⟨z,y,v,w⟩:=F.cells x c q
  exact⟨(cl _ c v q w z).2,y,v,(cl _ c v q w z).1⟩
theorem z9.KZ{τ:T}{g:G τ}{env:Env}{m:Loc}{h h':Heap}{H H':AH}{P:Addr→Prop}(F:z9 g env m h H)(a:Goes P h H h' H')(np:∀b,(b=env.locals∨∃x,env.cells.lookup x=some b)→¬P b):z9 g env m h' H':=
 F.Gz (fun b o e q w=>a.keep b o e q (np b w)) (fun x q e O=>Classical.byContradiction fun z=>q (a.new x e z)) a.q9
theorem z9.goes{τ:T}{g:G τ}{env:Env}{m:Loc}{h h':Heap}{H H':AH}(F:z9 g env m h H)(a:Calm h H h' H'):z9 g env m h' H':=F.KZ a fun O O=>id
structure J5(n:Nat)(A:Around):Prop where
 handled:A.handled=none
 depth:A.depth+2*n<recursionLimit
 units:A.units+20*n+100<cLine
inductive Z2{τ:T}(g:G τ)(s:Shared)(H:AH)(Q:PV→AH→Prop)(v:Value)(s':Shared):Prop
 |mk (p:PV) (H':AH) (r:Rep g.tab s'.heap H' p v) (S:n8 g s' H') (c:Calm s.heap H s'.heap H') (q:Q p H')
noncomputable def W{τ:T}(g:G τ)(A:Around)(t:Sem Value)(s:Shared)(H:AH)(Q:PV→AH→Prop):Prop:=wpAny (model g.prog g.w) A t (Z2 g s H Q) (fun O O=>False) s
noncomputable def Ev{τ:T}(g:G τ)(n:Nat)(env:Env)(m:Loc)(H:AH)(e:PySem.Expr)(Q:PV→AH→Prop):Prop:=
 ∀A s,J5 n A→n8 g s H→z9 g env m s.heap H→W g A (eval e env) s H Q
theorem Z2.step{τ:T}{g:G τ}{s s₁:Shared}{H H₁:AH}{Q:PV→AH→Prop}(c:Calm s.heap H s₁.heap H₁){v:Value}{s':Shared}(x:Z2 g s₁ H₁ Q v s'):Z2 g s H Q v s':=
 let⟨p,H',r,S,c',q⟩:=x;⟨p,H',r,S,c.trans c',q⟩
theorem Ev.then{τ:T}{g:G τ}{n:Nat}{env:Env}{m:Loc}{H:AH}{e:PySem.Expr}{Q:PV→AH→Prop}(h:Ev g n env m H e Q){A:Around}{s:Shared}{P:Value→Shared→Prop}{E:Value→Shared→Prop}
  (R:J5 n A) (S:n8 g s H) (F:z9 g env m s.heap H)
  (k:∀v s' p H',Rep g.tab s'.heap H' p v→n8 g s' H'→Calm s.heap H s'.heap H'→z9 g env m s'.heap H'→Q p H'→P v s'):wpAny (model g.prog g.w) A (eval e env) P E s:=
 wpAny_mono (h A s R S F) (fun v s' ⟨p,H',r,S',c,q⟩=>k v s' p H' r S' c (F.goes c) q) fun O O x=>x.elim
theorem Ev.mono{τ:T}{g:G τ}{n:Nat}{env:Env}{m:Loc}{H:AH}{e:PySem.Expr}{Q Q':PV→AH→Prop}(h:Ev g n env m H e Q)(k:∀p H',Q p H'→Q' p H'):Ev g n env m H e Q':=
 fun A s R S F=>h.then R S F fun O O p H' r S' c O q=>⟨p,H',r,S',c,k p H' q⟩
section
variable{τ:T}{g:G τ}{n:Nat}{env:Env}{m:Loc}{H:AH}{Q:PV→AH→Prop}
theorem n6{s:Shared}{v:Value}{p:PV}(S:n8 g s H)(r:Rep g.tab s.heap H p v)(q:Q p H)(t:Nat):Z2 g s H Q v {s with toks:=t}:=
 ⟨p,H,r,S.tok t,.refl ..,q⟩
theorem Ev.Zd{k:Nat}{pos:Pos}(q:Q .none H):Ev g n env m H (.Constant .none k pos) Q:=fun A s R S F=>(wpAny_pure (n6 (p:=.none) S rfl q s.toks):wpAny _ A (Sem.pure Value.none) _ _ s)
theorem Ev.Ze{b:Bool}{k:Nat}{pos:Pos}(q:Q (.bool b) H):Ev g n env m H (.Constant (.bool b) k pos) Q:=fun A s R S F=>(wpAny_pure (n6 (p:=.bool b) S rfl q s.toks):wpAny _ A (Sem.pure (Value.bool b)) _ _ s)
theorem Ev.QS{i:Int}{k:Nat}{pos:Pos}(q:Q (.int i) H):Ev g n env m H (.Constant (.int i) k pos) Q:=fun A s R S F=>wpAny_Constant_int (n6 (p:=.int i) S ⟨_,rfl⟩ q _)
theorem Ev.Zf{x k:Nat}{pos:Pos}(q:Q (.str x) H):Ev g n env m H (.Constant (.str (g.tab x)) k pos) Q:=fun A s R S F=>Constant_str (n6 (p:=.str x) S ⟨_,rfl⟩ q _)
theorem Ev.loc{x:Nat}{pos:Pos}{p:PV}(hg:v9 g)(e:m.lookup x=some p)(q:Q p H):Ev g n env m H (.Name (g.tab x) pos) Q:=fun A s R S F=>by
 have hd:=hg.Zc x
 rcases F.kinds x p e with k|k
 ·obtain⟨mv,hN,r⟩:=F.ns
  obtain⟨v,hv,hr⟩:=r x p e k
  exact wpAny_Name (wpAny_loadName_local F.kind k hN hv (n6 S hr q s.toks)) hd
 ·obtain⟨c,v,hc,hv,hr⟩:=F.cell x p e k
  rcases k with k|k
  ·exact wpAny_Name (wpAny_loadName_cell F.kind k hc hv (n6 S hr q s.toks)) hd
  ·exact wpAny_Name (wpAny_loadName_free F.kind k hc hv (n6 S hr q s.toks) (hg.Gy x)) hd
theorem Ev.glob{x:Nat}{pos:Pos}{p:PV}(hg:v9 g)(e:g.glob x=some p)(k:env.kindOf (g.tab x)=some .globalImplicit)(q:Q p H):Ev g n env m H (.Name (g.tab x) pos) Q:=fun A s R S F=>by
 obtain⟨mg,mb,hG,hB,r⟩:=hg.names
 obtain⟨v,hv,hr⟩:=r x p e
 refine Name_function_global F.kind k ?_ (hg.Zc x)
 have hG':s.heap.Ns env.globals mg:=by rw [F.globs];exact hG.keeps S.keep
 have hB':s.heap.Ns env.builtins mb:=by rw [F.KY];exact hB.keeps S.keep
 have z:Z2 g s H Q v s:=n6 S (hr.keeps S.static) q s.toks
 rcases hv with hv|⟨h1,h2⟩
 ·exact loadGlobal_global hG' hv z
 ·exact loadGlobal_builtin hG' h1 hB' h2 z
inductive ai5{τ:T}(g:G τ)(s:Shared)(H:AH)(k:Nat)(Q:List PV→AH→Prop)(vs:List Value)(s':Shared):Prop
 |mk (l:List PV) (H':AH) (e:l.length=k) (r:m8 g.tab s'.heap H' l vs) (S:n8 g s' H') (c:Calm s.heap H s'.heap H') (q:Q l H')
noncomputable def pC{τ:T}(g:G τ)(n:Nat)(env:Env)(m:Loc)(H:AH)(pos:Pos)(es:List PySem.Expr)(Q:List PV→AH→Prop):Prop:=
 ∀A s,J5 n A→n8 g s H→z9 g env m s.heap H→wpAny (model g.prog g.w) A (spliced (backTo pos (starEach es env))) (ai5 g s H es.length Q) (fun O O=>False) s
noncomputable def cD(e:PySem.Expr):Prop := ∀rest env,starEach (e::rest) env=(false,eval e env)::starEach rest env
theorem pC.nil{pos:Pos}{Q:List PV→AH→Prop}(q:Q [] H):pC g n env m H pos [] Q:=fun A s R S F=>spliced_nil ⟨[],H,rfl,rfl,S,.refl ..,q⟩
theorem pC.cons{pos:Pos}{e:PySem.Expr}{es:List PySem.Expr}{Q:List PV→AH→Prop}(hp:cD e)(h:Ev g n env m H e fun p H₁=>pC g n env m H₁ pos es fun l H₂=>Q (p::l) H₂):pC g n env m H pos (e::es) Q:=fun A s R S F=>by
 show wpAny _ _ (spliced (backTo pos (starEach (e::es) env))) _ _ _
 rw [hp]
 refine spliced_cons (h.then R S F fun v s₁ p H₁ r S₁ c F₁ k=>?_)
 refine wpAny_mono (k A s₁ R S₁ F₁) (fun vs s₂ ⟨l,H₂,z,rl,S₂,c₂,q⟩=>?_) fun O O x=>x
 exact⟨p::l,H₂,by rw [List.length_cons,z,List.length_cons],⟨v,vs,rfl,r.keeps c₂.q9,rl⟩,S₂,c.trans c₂,q⟩
theorem pC.then{pos:Pos}{es:List PySem.Expr}{Q:List PV→AH→Prop}(h:pC g n env m H pos es Q){A:Around}{s:Shared}{P:List Value→Shared→Prop}{E:Value→Shared→Prop}
  (R:J5 n A) (S:n8 g s H) (F:z9 g env m s.heap H)
  (k:∀vs s' l H',m8 g.tab s'.heap H' l vs→n8 g s' H'→Calm s.heap H s'.heap H'→z9 g env m s'.heap H'→l.length=es.length→Q l H'→P vs s'):wpAny (model g.prog g.w) A (spliced (backTo pos (starEach es env))) P E s:=
 wpAny_mono (h A s R S F) (fun v s' ⟨p,H',z,r,S',c,q⟩=>k v s' p H' r S' c (F.goes c) z q) fun O O x=>x.elim
theorem eE{s:Shared}{o:Obj}{p:PV}(S:n8 g s H)(r:Rep g.tab (s.heap.push o) H p (.ref s.heap.objs.size))(q:Q p H):Z2 g s H Q (.ref s.heap.objs.size) {s with heap:=s.heap.push o}:=
 ⟨p,H,r,S.push o s.toks,Calm.push ..,q⟩
theorem untracked{s:Shared}(S:n8 g s H):H s.heap.objs.size=none:=S.off (Nat.le_refl _)
theorem Ab{A:Around}{s:Shared}{l:List PV}{vs:List Value}(S:n8 g s H)(r:m8 g.tab s.heap H l vs)(hz:l.length≤sizeLine)(q:Q (.tup l) H):W g A (newTuple vs) s H Q:=
 wpAny_newObj_type (eE (p:=.tup l) S ⟨_,vs,0,rfl,Heap.get?_push_size _ rfl,r.keeps (Calm.push ..).q9⟩ q) (by show vs.toArray.size≤sizeLine;rw [List.size_toArray,r.length];exact hz)
theorem DN{A:Around}{s:Shared}{l:List PV}{vs:List Value}(S:n8 g s H)(r:m8 g.tab s.heap H l vs)(hz:l.length≤sizeLine)(q:Q (.lst l) H):W g A (newList vs) s H Q:=
 wpAny_newObj_type (eE (p:=.lst l) S ⟨_,vs,0,rfl,Heap.get?_push_size _ rfl,untracked S,r.keeps (Calm.push ..).q9⟩ q) (by show vs.toArray.size≤sizeLine;rw [List.size_toArray,r.length];exact hz)
theorem Z2.calm{s s₁:Shared}{H₁:AH}(c:Calm s.heap H s₁.heap H₁){A:Around}{t:Sem Value}(h:wpAny (model g.prog g.w) A t (Z2 g s₁ H₁ Q) (fun O O=>False) s₁):wpAny (model g.prog g.w) A t (Z2 g s H Q) (fun O O=>False) s₁:=
 wpAny_mono h (fun O O x=>x.step c) fun O O x=>x
theorem Ev.tuple{pos:Pos}{k:Nat}{es:List PySem.Expr}(hz:es.length≤sizeLine)(h:pC g n env m H pos es fun l H'=>Q (.tup l) H'):Ev g n env m H (.Tuple es k pos) Q:=fun A s R S F=>
 Tuple_ (h.then R S F fun vs s' l H' r S' c F' z q=>Z2.calm c (Ab S' r (z▸hz) q))
theorem Ev.list{pos:Pos}{es:List PySem.Expr}(hz:es.length≤sizeLine)(h:pC g n env m H pos es fun l H'=>Q (.lst l) H'):Ev g n env m H (.List es pos) Q:=fun A s R S F=>
 List_ (h.then R S F fun vs s' l H' r S' c F' z q=>Z2.calm c (DN S' r (z▸hz) q))
theorem n8.track{s:Shared}{o:q7}{x:Obj}(S:n8 g s H)(hf:x.isFreed=false)(r:jf g (s.heap.push x) (upd H s.heap.objs.size o) s.heap.objs.size o):
  n8 g {s with heap:=s.heap.push x} (upd H s.heap.objs.size o)∧Calm s.heap H (s.heap.push x) (upd H s.heap.objs.size o):=by
 have P:O5 s.heap H (s.heap.push x) (upd H s.heap.objs.size o):=⟨fun O O O O e O O=>Heap.get?_push_of_some _ e,fun b O O O e O O q=>⟨Heap.get?_push_of_some _ e,by rw [d8 (Nat.ne_of_lt (Heap.lt_size e))];exact q⟩,fun O O O e O O=>Heap.get?_push_of_some _ e⟩
 refine⟨⟨fun b o' e=>Heap.get?_push_of_some _ (S.keep b o' e),fun a q=>?_,fun a o' e=>?_,S.gens,S.os⟩,fun O O e O O=>Heap.get?_push_of_some _ e,fun b a q=>?_,fun O O e=>⟨_,Heap.get?_push_of_some _ e⟩,P⟩
 ·by_cases h:a=s.heap.objs.size
  ·cases e:g.h₀.get? a with
   |none=>rfl
   |some o'=>exact absurd (Heap.lt_size (S.keep _ _ e)) (by rw [h];exact Nat.lt_irrefl _)
  ·rw [d8 h] at q;exact S.fresh a q
 ·by_cases h:a=s.heap.objs.size
  ·subst h;rw [c7] at e;cases e;exact r
  ·rw [d8 h] at e;exact(S.obj a o' e).keeps P fun O e=>Heap.get?_push_of_some _ e
 ·by_cases h:b=s.heap.objs.size
  ·cases e:s.heap.get? b with
   |none=>rfl
   |some o'=>exact absurd (Heap.lt_size e) (by rw [h];exact Nat.lt_irrefl _)
  ·rw [d8 h] at q;exact absurd a q
theorem aJ{s:Shared}{h':Heap}{a:Addr}{o o':q7}(S:n8 g s H)(e:H a=some o)(B:Heap.SameBut a s.heap h'):O5 s.heap H h' (upd H a o'):=by
 have ne:∀b,H b=none→b≠a:=fun b q z=>by rw [z,e] at q;cases q
 have key:∀b x,s.heap.get? b=some x→((∃xs k,x.data = .seq xs k)∧x.cls = .type "tuple"∨(∃xs,x.data = .fields xs)∧KQ x.cls)→b≠a:=by
  intro b x q w z
  subst z
  have r:=S.obj _ _ e
  cases o with
  |list l=>obtain⟨vs,n,e1,_⟩:=r;rw [q] at e1;cases e1;rcases w with⟨_,c⟩|⟨_,c⟩<;>exact absurd c (by simp)
  |m6 l=>obtain⟨_,⟨o,_,_,e1,_,d1,_⟩,_⟩:=r;rw [q] at e1;cases e1;rcases w with⟨⟨_,_,d⟩,_⟩|⟨⟨_,d⟩,_⟩<;>rw [d] at d1<;>cases d1
  |u0 l=>obtain⟨_,⟨o,_,_,e1,_,d1,_⟩,_⟩:=r;rw [q] at e1;cases e1;rcases w with⟨⟨_,_,d⟩,_⟩|⟨⟨_,d⟩,_⟩<;>rw [d] at d1<;>cases d1
  |z6 l=>obtain⟨_,⟨o,_,_,e1,_,d1,_⟩,_⟩:=r;rw [q] at e1;cases e1;rcases w with⟨⟨_,_,d⟩,_⟩|⟨⟨_,d⟩,_⟩<;>rw [d] at d1<;>cases d1
  |inst C dx=>have e1:s.heap.get? _=_:=r;rw [q] at e1;cases e1;rcases w with⟨_,c⟩|⟨_,c⟩<;>exact absurd c (by simp)
  |code nm=>obtain⟨_,e1,_⟩:=r;rw [q] at e1;cases e1;rcases w with⟨_,c⟩|⟨_,c⟩<;>exact absurd c (by simp)
  |attrs l=>obtain⟨_,⟨o,_,_,e1,d1,_⟩,_⟩:=r;rw [q] at e1;cases e1;rcases w with⟨⟨_,_,d⟩,_⟩|⟨⟨_,d⟩,_⟩<;>rw [d] at d1<;>cases d1
 exact⟨fun b x xs k q d c=>(B.2 b (key b x q (.inl ⟨⟨xs,k,d⟩,c⟩))).trans q,fun b x xs k q d c z=>⟨(B.2 b (ne b z)).trans q,by rw [d8 (ne b z)];exact z⟩,fun b x xs q d c=>(B.2 b (key b x q (.inr ⟨⟨xs,d⟩,c⟩))).trans q⟩
theorem n8.turn{s:Shared}{h':Heap}{a:Addr}{o o':q7}(S:n8 g s H)(e:H a=some o)(B:Heap.SameBut a s.heap h')(r:jf g h' (upd H a o') a o')(t:Nat):
  n8 g {s with heap:=h',toks:=t} (upd H a o')∧Calm s.heap H h' (upd H a o'):=by
 have ne:∀b,H b=none→b≠a:=fun b q z=>by rw [z,e] at q;cases q
 have P:=aJ (o':=o') S e B
 have un:∀b,upd H a o' b≠none→H b≠none:=fun b q z=>by rw [d8 (ne b z)] at q;exact q z
 refine⟨⟨fun b x q=>(B.2 b fun z=>?_).trans (S.keep b x q),fun b q=>S.fresh b (un b q),fun b x q=>?_,S.gens,S.os⟩,fun b x q z O=>(B.2 b (ne b z)).trans q,fun b z q=>absurd z (un b q),fun b x q=>?_,P⟩
 ·subst z
  have:=S.fresh b (by rw [e];simp)
  rw [this] at q;cases q
 ·by_cases z:b=a
  ·subst z;rw [c7] at q;cases q;exact r
  ·rw [d8 z] at q;exact(S.obj b x q).keeps P fun O y=>(B.2 b z).trans y
 ·by_cases z:b=a
  ·subst z
   exact r.has
  ·exact⟨x,(B.2 b z).trans q⟩
theorem Ev.Zg{pos:Pos}{es:List PySem.Expr}(hz:es.length≤sizeLine)(h:pC g n env m H pos es fun l H' => ∀a,H' a=none→Q (.obj a) (upd H' a (.list l))):Ev g n env m H (.List es pos) Q:=fun A s R S F=>
 List_ (h.then R S F fun vs s' l H' r S' c F' z q=>Z2.calm c (by
  obtain⟨S₂,c₂⟩:=S'.track (o:=.list l) (x:={cls:=.type "list",data:=.seq vs.toArray}) rfl ⟨vs,0,Heap.get?_push_size _ rfl,r.keeps (O5.mk (fun O O O O e O O=>Heap.get?_push_of_some _ e) (fun b O O O e O O q=>⟨Heap.get?_push_of_some _ e,by rw [d8 (Nat.ne_of_lt (Heap.lt_size e))];exact q⟩) fun O O O e O O=>Heap.get?_push_of_some _ e)⟩
  refine wpAny_newObj_type ⟨.obj s'.heap.objs.size,_,rfl,S₂,c₂,q _ (untracked S')⟩ (by show vs.toArray.size≤sizeLine;rw [List.size_toArray,r.length,z];exact hz)))
end
end Mine.Internal
namespace Mine.Internal
open PySem PySem.W PySem.Calls PyProof.Rows Builtin Builtin.ObjectAttr
theorem jM{h:Heap}{a:Addr}{m:Str→Option Value}(N:h.Ns1 a m)(name:Str):∃o,h.get? a=some o∧lookIn name o=some (m name):=by
 obtain⟨o,es,ep,e,d,k,_,f⟩:=N
 refine⟨o,e,?_⟩
 unfold lookIn
 rw [d]
 dsimp only
 have:=f name
 unfold nsFind findBy at this
 rw [← Array.find?_toList] at this
 rw [← this]
 cases q:es.toList.find? (fun x=>x.key.isStr name) with
 |some x=>rfl
 |none=>
  have:(es.toList.any fun x=>x.refKey)=false:=by
   rw [List.any_eq_false]
   intro x hx
   obtain⟨n,t,z⟩:=k x (Array.mem_toList_iff.mp hx)
   simp [DictEntry.refKey,z]
  simp only [this,Option.map_none,Bool.false_eq_true,if_false]
section
variable{τ:T}{g:G τ}{n:Nat}{env:Env}{m:Loc}{H:AH}{Q:PV→AH→Prop}
theorem GC{s:Shared}{a C dx:Addr}{l:List (Nat×PV)}(S:n8 g s H)(e1:H a=some (.inst C dx))(e2:H dx=some (.attrs l))(x:Nat):
  ∃(od:Obj) (mA:Str→Option Value),InstAt s.heap a (instObj C dx) C (some od)∧s.heap.get? dx=some od∧lookIn (g.tab x) od=some (mA (g.tab x))∧gD g.tab s.heap H (l.lookup x) (mA (g.tab x)):=by
 have r1:=S.obj _ _ e1
 obtain⟨mA,N,_,r⟩:=S.obj _ _ e2
 obtain⟨od,e,q⟩:=jM N (g.tab x)
 exact⟨od,mA,⟨r1,rfl,rfl,e⟩,e,q,r x⟩
theorem DP{A:Around}{s:Shared}{a C dx:Addr}{l:List (Nat×PV)}{x:Nat}{p:PV}{ex:Bool}(hg:v9 g)(S:n8 g s H)(e1:H a=some (.inst C dx))(e2:H dx=some (.attrs l))(hf:g.fld C x=true)(hl:l.lookup x=some p)(q:Q p H):
  W g A (getAttr (.ref a) (g.tab x) ex) s H Q:=by
 obtain⟨od,mA,I,_,hk,r⟩:=GC S e1 e2 x
 rw [hl] at r
 obtain⟨u,hu,ru⟩:=r
 obtain⟨f1,f2,f3,_⟩:=hg.fld C x hf
 rw [hu] at hk
 exact get_value (hg.X.keeps S.keep) I (plainGet_of f1).1 (findObj_own f2 f3 rfl hk) ru.handed (n6 S ru q _)
inductive j9{τ:T}(g:G τ)(x:Nat)(Q:PV→AH→Prop):PV→AH→Prop
 |mk {a C dx:Addr} {l:List (Nat×PV)} {q:PV} {H:AH} (e1:H a=some (.inst C dx)) (e2:H dx=some (.attrs l)) (hf:τ.fld C x=true) (hl:l.lookup x=some q) (h:Q q H):j9 g x Q (.obj a) H
noncomputable def wA(e:PySem.Expr):Prop := ∀attr env,attributeBase e attr env (eval e env)=eval e env
theorem Ev.attr{e:PySem.Expr}{x:Nat}{pos:Pos}(hg:v9 g)(hb:wA e)(h:Ev g n env m H e (j9 g x Q)):Ev g n env m H (.Attribute e (g.tab x) pos) Q:=fun A s R S F=>by
 refine Attribute_any_ (h.then R S F fun v s' p H' r S' c F' q=>?_) (by rw [arm_eval_Attribute,hb])
 cases q with | @mk a C dx l y H' e1 e2 hf hl q=>?_
 cases r
 exact Z2.calm c (DP hg S' e1 e2 hf hl q)
theorem pD{tab:Nat→Str}{l:List (Nat×PV)}{m:Str→Option Value}(w:Within m (l.map fun p=>tab p.1))(x:Nat)(p:PV)(v:Value):Within (fun y=>if y=tab x then some v else m y) ((m5 x p l).map fun p=>tab p.1):=by
 have a:∀l:List (Nat×PV),tab x∈(m5 x p l).map fun p=>tab p.1:=by
  intro l
  induction l with
  |nil=>exact .head _
  |cons q r ih=>
   unfold m5
   cases e:Nat.beq q.1 x with
   |true=>exact .head _
   |false=>exact .tail _ ih
 have b:∀(l:List (Nat×PV)) y,y∈(l.map fun p=>tab p.1)→y∈(m5 x p l).map fun p=>tab p.1:=by
  intro l
  induction l with
  |nil=>intro y h;cases h
  |cons q r ih=>
   intro y h
   unfold m5
   cases e:Nat.beq q.1 x with
   |true=>
    have:q.1=x:=Nat.eq_of_beq_eq_true e
    rw [List.map_cons] at h ⊢
    rcases List.mem_cons.mp h with h|h
    ·rw [h,this];exact .head _
    ·exact .tail _ h
   |false=>
    rw [List.map_cons] at h ⊢
    rcases List.mem_cons.mp h with h|h
    ·rw [h];exact .head _
    ·exact .tail _ (ih y h)
 intro y h
 by_cases e:y=tab x
 ·rw [e];exact a l
 ·simp only [e,if_false] at h;exact b l y (w y h)
theorem pF(x:Nat)(p:PV):∀l:List (Nat×PV),(m5 x p l).length≤l.length+1
 | []=>Nat.le_refl _
 |q::r=>by
  unfold m5
  cases Nat.beq q.1 x with
  |true=>exact Nat.le_succ _
  |false=>exact Nat.succ_le_succ (pF x p r)
theorem Jf{h':Heap}{s:Shared}{dx:Addr}{l:List (Nat×PV)}{mA:Str→Option Value}{x:Nat}{p:PV}{v:Value}(hg:v9 g)(S:n8 g s H)(e:H dx=some (.attrs l))
  (w:Within mA (l.map fun p=>g.tab p.1)) (r:∀x,gD g.tab s.heap H (l.lookup x) (mA (g.tab x))) (rv:Rep g.tab s.heap H p v)
  (hn:h'.Ns1 dx fun y=>if y=g.tab x then some v else mA y) (B:Heap.SameBut dx s.heap h'):jf g h' (upd H dx (.attrs (m5 x p l))) dx (.attrs (m5 x p l)):=by
 have P:O5 s.heap H h' (upd H dx (.attrs (m5 x p l))):=aJ S e B
 refine⟨_,hn,pD w x p v,fun y=>?_⟩
 rw [s7]
 by_cases h:y=x
 ·subst h;simp only [if_true];exact⟨v,rfl,rv.keeps P⟩
 ·have:¬g.tab y=g.tab x:=fun z=>h (hg.inj _ _ z)
  simp only [h,this,if_false]
  exact(r y).keeps P
theorem Wa{prog:Program}{w:World}{A:Around}{K:Frag}{R:Result→Shared→Prop}{s:Shared}{a C dx:Addr}{mA:Str→Option Value}{ns:List Str}{name:Str}{tk:Tok}{v:Value}(X:K.In s.heap)
  (r1:s.heap.get? a=some (instObj C dx)) (N:s.heap.Ns1 dx mA) (w':Within (fun y=>if y=name then some v else mA y) ns) (hz:ns.length≤1000)
  (f2:hasDictIn K C=true) (f3:findIn K (.ref C) name=some none) (f4:plainOver K C=true)
  (h:∀h',h'.Ns1 dx (fun y=>if y=name then some v else mA y)→Heap.SameBut dx s.heap h'→R (.ok (.ret .none)) {s with heap:=h',toks:=s.toks+1}):
  codeAny (model prog w) A (.call (.builtin "object.__setattr__") ⟨[.ref a,.str name tk,v],[]⟩) R s:=by
 obtain⟨od,e,_⟩:=jM N name
 have I:InstAt s.heap a (instObj C dx) C (some od):=⟨r1,rfl,rfl,e⟩
 refine osa_open X I f4 (by unfold takerIn;rw [f3];rfl) fun b=>?_
 obtain⟨cd,hc,hd⟩:=any_some f2
 refine wpAny_bind (wpAny_pure (wpAny_bind (wpAny_bind (wpAny_loadPart r1 (wpAny_bind ((looks_clsIn X hc).here ?_))))))
 rw [hd]
 refine wpAny_pure (a:=some dx) (wpAny_bind (wpAny_pure (wpAny_bind ?_)))
 refine wpAny_nsSet1 N fun h' hn B=>?_
 obtain⟨o',es,ep,g1,g2,g3⟩:=hn.count w'
 refine wpAny_bind (wpAny_lookBehind g1 (by rw [g2];refine pastItsLine_dict (Nat.le_trans g3 ?_);rw [sizeLine_eq];exact Nat.le_trans ‹_› (by decide)) ?_)
 exact wpAny_pure (h h' hn B)
theorem DQ{A:Around}{s:Shared}{a C dx:Addr}{l:List (Nat×PV)}{x:Nat}{p:PV}{v:Value}(hg:v9 g)(S:n8 g s H)(e1:H a=some (.inst C dx))(e2:H dx=some (.attrs l))(hf:g.fld C x=true)(hz:l.length<900)(rv:Rep g.tab s.heap H p v):
  wpAny (model g.prog g.w) A (setAttr (.ref a) (g.tab x) v) (fun O s'=>n8 g s' (upd H dx (.attrs (m5 x p l)))∧Calm s.heap H s'.heap (upd H dx (.attrs (m5 x p l)))) (fun O O=>False) s:=by
 obtain⟨f1,f2,f3,f4,f5⟩:=hg.fld C x hf
 have r1:s.heap.get? a=some (instObj C dx):=S.obj _ _ e1
 obtain⟨mA,N,w,r⟩:=S.obj _ _ e2
 obtain⟨od,e,_⟩:=jM N (g.tab x)
 have I:InstAt s.heap a (instObj C dx) C (some od):=⟨r1,rfl,rfl,e⟩
 have X:=hg.X.keeps S.keep
 refine set_plain X I f5 (Wa (s:={s with toks:=s.toks+1}) X r1 N (pD w x p v) (by rw [List.length_map];have:=pF x p l;lia) f2 f3 f4 fun h' hn B=>?_)
 exact S.turn e2 B (Jf hg S e2 w r rv hn B) (s.toks+1+1)
end
section
variable{τ:T}{g:G τ}{n:Nat}{env:Env}{m:Loc}{H:AH}{Q:PV→AH→Prop}
inductive UW{τ:T}(g:G τ)(s:Shared)(H:AH)(Q:PV→AH→Prop)(r:Result)(s':Shared):Prop
 |mk (v:Value) (e:r = .ok (.ret v)) (x:Z2 g s H Q v s')
noncomputable def Cl{τ:T}(g:G τ)(n:Nat)(p:PV)(l:List PV)(H:AH)(Q:PV→AH→Prop):Prop:=
 ∀A s v vs,J5 n A→n8 g s H→Rep g.tab s.heap H p v→m8 g.tab s.heap H l vs→W g A (call v vs) s H Q
theorem Cl.call{p:PV}{l:List PV}(h:Cl g n p l H Q){A:Around}{s:Shared}{v:Value}{vs:List Value}(R:J5 n A)(S:n8 g s H)(a:Rep g.tab s.heap H p v)(b:m8 g.tab s.heap H l vs):
  W g A (call v vs) s H Q:=h A s v vs R S a b
theorem Cl.b1{x:String}{p:PV}(h:∀A s v,J5 n A→n8 g s H→Rep g.tab s.heap H p v→W g A (PySem.call (.builtin x) [v]) s H Q):Cl g n (.blt x) [p] H Q:=fun A s v vs R S rv rl=>by
 obtain⟨rfl,_⟩:=rv
 obtain⟨v1,r1,rfl,h1,rfl⟩:=rl
 exact h A s v1 R S h1
theorem Cl.b2{x:String}{p q:PV}(h:∀A s v u,J5 n A→n8 g s H→Rep g.tab s.heap H p v→Rep g.tab s.heap H q u→W g A (PySem.call (.builtin x) [v,u]) s H Q):Cl g n (.blt x) [p,q] H Q:=fun A s v vs R S rv rl=>by
 obtain⟨rfl,_⟩:=rv
 obtain⟨v1,r1,rfl,h1,v2,r2,rfl,h2,rfl⟩:=rl
 exact h A s v1 v2 R S h1 h2
theorem Cl.b3{x:String}{p q r:PV}(h:∀A s v u w,J5 n A→n8 g s H→Rep g.tab s.heap H p v→Rep g.tab s.heap H q u→Rep g.tab s.heap H r w→W g A (PySem.call (.builtin x) [v,u,w]) s H Q):Cl g n (.blt x) [p,q,r] H Q:=fun A s v vs R S rv rl=>by
 obtain⟨rfl,_⟩:=rv
 obtain⟨v1,r1,rfl,h1,v2,r2,rfl,h2,v3,r3,rfl,h3,rfl⟩:=rl
 exact h A s v1 v2 v3 R S h1 h2 h3
theorem Cl.t1{x:String}{p:PV}(h:∀A s v,J5 n A→n8 g s H→Rep g.tab s.heap H p v→W g A (PySem.call (.type x) [v]) s H Q):Cl g n (.typ x) [p] H Q:=fun A s v vs R S rv rl=>by
 cases rv
 obtain⟨v1,r1,rfl,h1,rfl⟩:=rl
 exact h A s v1 R S h1
theorem Cl.t2{x:String}{p q:PV}(h:∀A s v u,J5 n A→n8 g s H→Rep g.tab s.heap H p v→Rep g.tab s.heap H q u→W g A (PySem.call (.type x) [v,u]) s H Q):Cl g n (.typ x) [p,q] H Q:=fun A s v vs R S rv rl=>by
 cases rv
 obtain⟨v1,r1,rfl,h1,v2,r2,rfl,h2,rfl⟩:=rl
 exact h A s v1 v2 R S h1 h2
noncomputable def Dy{τ:T}(g:G τ)(n:Nat)(p:PV)(l:List PV)(H:AH)(Q:PV→AH→Prop):Prop:=
 ∀A s v vs,J5 n A→n8 g s H→Rep g.tab s.heap H p v→m8 g.tab s.heap H l vs→codeAny (model g.prog g.w) A (.call v ⟨vs,[]⟩) (UW g s H Q) s
theorem Dy.cl{p:PV}{l:List PV}(h:Dy g n p l H Q):Cl g n p l H Q:=fun A s v vs R S a b=>wpAny_call (codeAny_mono (h A s v vs R S a b) fun r s' ⟨u,e,x⟩=>by subst e;exact x)
noncomputable def Plain{τ:T}(g:G τ)(p:PV):Prop := ∀(M:Model) (h:Heap) (H:AH) (v:Value),(∀b o,g.h₀.get? b=some o→h.get? b=some o)→Rep g.tab h H p v→
 ∃k,(k=Keeper.frame∨k=Keeper.machine∨k=Keeper.boundFrame)∧Looks M h (keeperOf v) k
theorem qN{f:Addr}(hg:v9 g)(h:keepIn g.K (.ref f)=true):Plain g (.obj f):=fun M hp H v k r=>by cases r;exact keeps_K h hp (hg.X.keeps k)
theorem wB{x:String}:Plain g (.blt x):=fun M hp H v k r=>by obtain⟨rfl,_⟩:=r;exact⟨.machine,.inr (.inl rfl),.now⟩
theorem Jg{x:String}:Plain g (.typ x):=fun M hp H v k r=>by cases r;exact⟨.machine,.inr (.inl rfl),.now⟩
theorem noStar{pos:Pos}{env:Env}:∀{es:List PySem.Expr},(∀e∈es,cD e)→((backTo pos (starEach es env)).any (·.1))=false
 | [],_=>rfl
 |e::es,h=>by rw [h e (.head _)];exact noStar fun x hx=>h x (.tail _ hx)
theorem qg{M:Model}{A:Around}{E:Value→Shared→Prop}{s:Shared}{f:Value}{Q:Args→Shared→Prop}(h:wpAny M A (spliced []) (fun vs s'=>Q ⟨vs,[]⟩ s') E s):wpAny M A (evalArgs f true [] []) Q E s:=by
 unfold evalArgs
 show wpAny M A (spliced [] >>= _) Q E s
 refine wpAny_bind (wpAny_mono h (fun vs s' h'=>wpAny_bind (wpAny_pure ?_)) fun O O x=>x)
 refine wpAny_holding ?_
 exact wpAny_bind (wpAny_pure (wpAny_bind (wpAny_pure (wpAny_pure h'))))
theorem bR{pos:Pos}{p:PV}{fv:Value}{fl:List PV}{fs:List Value}{es:List PySem.Expr}{A:Around}{s:Shared}(hg:v9 g)(R:J5 n A)(S:n8 g s H)(F:z9 g env m s.heap H)(hs:∀e∈es,cD e)
  (hp:Plain g p) (rp:Rep g.tab s.heap H p fv) (rf:m8 g.tab s.heap H fl fs) (h:pC g n env m H pos es fun l H'=>Cl g n p (fl++l) H' Q):
  W g A (callWith pos fv fs (backTo pos (starEach es env)) []) s H Q:=by
 refine callWith_of (P:=fun hh => ∃H':AH,(∀b o,g.h₀.get? b=some o→hh.get? b=some o)∧Rep g.tab hh H' p fv) (by rw [noStar hs];rfl) (fun hh ⟨H',k,r⟩=>hp _ hh H' fv k r) ?_
 have key:wpAny (model g.prog g.w) A (spliced (backTo pos (starEach es env))) (fun vs s₁=>(∃H':AH,(∀b o,g.h₀.get? b=some o→s₁.heap.get? b=some o)∧Rep g.tab s₁.heap H' p fv)∧
   wpAny (model g.prog g.w) A (call fv (fs++vs) []) (Z2 g s H Q) (fun O O=>False) s₁) (fun O O=>False) s:=
  h.then R S F fun vs s' l H' r S' c F' z q=>⟨⟨H',S'.keep,rp.keeps c.q9⟩,Z2.calm c (q.call R S' (rp.keeps c.q9) (m8.append (m8.keeps c.q9 rf) r))⟩
 cases es with
 |nil=>exact qg key
 |cons e es=>
  have hx:backTo pos (starEach (e::es) env)=(false,eval e env)::backTo pos (starEach es env):=by rw [hs e (.head _) es env];rfl
  rw [hx] at key ⊢
  exact evalArgs_plain key
theorem Ev.call{f:PySem.Expr}{es:List PySem.Expr}{pos:Pos}(hg:v9 g)(hf:eval (.Call f es [] pos) env=(eval f env >>= fun v=>callWith pos v [] (backTo pos (starEach es env)) []))
  (hs:∀e∈es,cD e) (h:Ev g n env m H f fun p H₁=>Plain g p∧pC g n env m H₁ pos es fun l H₂=>Cl g n p l H₂ Q):Ev g n env m H (.Call f es [] pos) Q:=fun A s R S F=>by
 rw [hf]
 refine wpAny_bind (h.then R S F fun v s' p H' r S' c F' q=>Z2.calm c ?_)
 exact bR hg R S' F' hs q.1 r (fl:=[]) rfl q.2
inductive MethP{τ:T}(g:G τ)(x:Nat)(k:Addr→Addr→AH→Prop):PV→AH→Prop
 |mk {a C dx:Addr} {l:List (Nat×PV)} {f:Addr} {H:AH} (e1:H a=some (.inst C dx)) (e2:H dx=some (.attrs l)) (e3:τ.meth C x=some f) (e4:l.lookup x=none) (h:k a f H):MethP g x k (.obj a) H
theorem MethP.mono{x:Nat}{k k':Addr→Addr→AH→Prop}{p:PV}{H:AH}(h:MethP g x k p H)(z:∀a f H,k a f H→k' a f H):MethP g x k' p H:=by
 cases h with
 |mk e1 e2 e3 e4 h=>exact .mk e1 e2 e3 e4 (z _ _ _ h)
theorem Ev.meth{o:PySem.Expr}{x:Nat}{es:List PySem.Expr}{apos pos:Pos}(hg:v9 g)(hb:wA o)(hline:(apos.endLine==pos.line)=true)(hlen:es.length<30)(hs:∀e∈es,cD e)
  (h:Ev g n env m H o (MethP g x fun a f H₁=>pC g n env m H₁ pos es fun l H₂=>Cl g n (.obj f) (.obj a::l) H₂ Q)):Ev g n env m H (.Call (.Attribute o (g.tab x) apos) es [] pos) Q:=fun A s R S F=>by
 rw [arm_eval_Call,hb]
 refine wpAny_bind (h.then R S F fun v s' p H' r S' c F' q=>Z2.calm c (wpAny_bind (wpAny_standAt ?_)))
 cases q with | @mk a C dx l f H' e1 e2 hm hl q=>?_
 cases r
 obtain⟨od,mA,I,_,hk,r⟩:=GC S' e1 e2 x
 rw [hl] at r
 obtain⟨f1,f2,f3,f4⟩:=hg.meth C x f hm
 have few:methodCallForm (es.length+([]:List Keyword).length) (backTo pos (starEach es env)) (backToKw pos (keywordEach [] env))=true:=by
  have:(backTo pos (starEach es env)).all (fun y => !y.1)=true:=by
   have:=noStar (pos:=pos) (env:=env) hs
   rw [List.any_eq_false] at this
   rw [List.all_eq_true]
   intro y hy
   have:=this y hy
   simpa using this
  unfold methodCallForm
  rw [this]
  show(true&&true&&decide (es.length+0+0<30))=true
  simp [hlen]
 unfold methodCall
 rw [few]
 refine wpAny_bind (wpAny_holding ?_)
 show wpAny _ _ (getMethod (.ref a) (g.tab x) _) _ _ _
 refine method_fn (hg.X.keeps S'.keep) I (plainGet_of f1).1 (plainGet_of f1).2 f2 (beq_iff_eq.mp f3) (by
  have r':mA (g.tab x)=none:=r
  show Option.map _ (lookIn (g.tab x) od)=_
  rw [hk,r'];rfl) ?_
 refine wpAny_bind ?_
 unfold methodCallPos
 rw [hline]
 refine wpAny_pure ?_
 exact bR hg R S' F' hs (qN hg f4) (rfl:Rep g.tab s'.heap H' (.obj f) (.ref f)) (fl:=[.obj a]) (m8.one (rfl:Rep g.tab s'.heap H' (.obj a) (.ref a))) q
end
inductive Out where
 |next|brk|cont|ret (p:PV)
noncomputable def Wb(tab:Nat→Str)(h:Heap)(H:AH):Out→Flow→Prop
 |.next,f=>f = .next
 |.brk,f=>f = .brk
 |.cont,f=>f = .cont
 |.ret p,f => ∃v,f = .ret v∧Rep tab h H p v
noncomputable def Own(env:Env)(b:Addr):Prop:=b=env.locals∨∃x,env.kindOf x=some .cell∧env.cells.lookup x=some b
inductive KJ{τ:T}(g:G τ)(env:Env)(s:Shared)(H:AH)(Q:Out→Loc→AH→Prop)(f:Flow)(s':Shared):Prop
 |mk (o:Out) (m':Loc) (H':AH) (r:Wb g.tab s'.heap H' o f) (S:n8 g s' H') (F:z9 g env m' s'.heap H') (c:Goes (Own env) s.heap H s'.heap H') (q:Q o m' H')
noncomputable def Ex{τ:T}(g:G τ)(n:Nat)(env:Env)(m:Loc)(H:AH)(ss:List Stmt)(Q:Out→Loc→AH→Prop):Prop:=
 ∀A s,J5 n A→n8 g s H→z9 g env m s.heap H→wpAny (model g.prog g.w) A (execs ss env) (KJ g env s H Q) (fun O O=>False) s
noncomputable def dZ{τ:T}(g:G τ)(n:Nat)(env:Env)(m:Loc)(H:AH)(st:Stmt)(Q:Out→Loc→AH→Prop):Prop:=
 ∀A s,J5 n A→n8 g s H→z9 g env m s.heap H→wpAny (model g.prog g.w) A (exec st env) (KJ g env s H Q) (fun O O=>False) s
section
variable{τ:T}{g:G τ}{n:Nat}{env:Env}{m:Loc}{H:AH}
theorem KJ.step{s s₁:Shared}{H₁:AH}{Q:Out→Loc→AH→Prop}(c:Goes (Own env) s.heap H s₁.heap H₁){f:Flow}{s':Shared}(x:KJ g env s₁ H₁ Q f s'):KJ g env s H Q f s':=
 let⟨o,m',H',r,S,F,c',q⟩:=x;⟨o,m',H',r,S,F,c.trans c',q⟩
theorem Goes.own{h h':Heap}{H H':AH}(c:Calm h H h' H'):Goes (Own env) h H h' H':=c.weak fun O z=>z.elim
theorem Ex.nil{Q:Out→Loc→AH→Prop}(q:Q .next m H):Ex g n env m H [] Q:=fun A s R S F=>wpAny_execs_nil ⟨.next,m,H,rfl,S,F,.refl ..,q⟩
theorem Ex.cons{st:Stmt}{rest:List Stmt}{Q:Out→Loc→AH→Prop}(h:dZ g n env m H st fun o m' H'=>match o with | .next=>Ex g n env m' H' rest Q|o=>Q o m' H'):Ex g n env m H (st::rest) Q:=fun A s R S F=>by
 refine wpAny_execs_cons (wpAny_mono (h A s R S F) (fun f s' x=>?_) fun O O x=>x.elim)
 obtain⟨o,m',H',r,S',F',c,q⟩:=x
 cases o with
 |next=>cases r;exact wpAny_mono (q A s' R S' F') (fun O O x=>x.step c) fun O O x=>x
 |brk=>cases r;exact⟨.brk,m',H',rfl,S',F',c,q⟩
 |cont=>cases r;exact⟨.cont,m',H',rfl,S',F',c,q⟩
 |ret p=>obtain⟨v,rfl,r⟩:=r;exact⟨.ret p,m',H',⟨v,rfl,r⟩,S',F',c,q⟩
theorem nR{kindOf:Str→Option NameKind}{y:Str}:∀(bs:List (Str×Value)) (m:Str→Option Value),(∀x∈bs,x.1≠y)→bindL kindOf bs m y=m y∧bindC kindOf bs m y=m y
 | [],_,_=>⟨rfl,rfl⟩
 | (x,v)::r,m,h=>by
  have ne:y≠x:=fun e=>h (x,v) (.head _) e.symm
  have ih:=fun m'=>nR (kindOf:=kindOf) (y:=y) r m' fun z hz=>h z (.tail _ hz)
  unfold bindL bindC
  constructor
  ·rw [(ih _).1];split
   ·simp [ne]
   ·rfl
  ·rw [(ih _).2];split
   ·rfl
   ·simp [ne]
theorem xM(tab:Nat→Str)(inj:∀i j,tab i=tab j→i=j){kindOf:Str→Option NameKind}{h:Heap}{H:AH}:∀{ps:List Nat} {l:List PV} {vs:List Value} {x:Nat} {p:PV} (mL mC:Str→Option Value),ps.Nodup→m8 tab h H l vs→(ps.zip l).lookup x=some p→
  ∃v,Rep tab h H p v∧(kindOf (tab x)=some .local→bindL kindOf ((ps.map tab).zip vs) mL (tab x)=some v)∧(kindOf (tab x)≠some .local→bindC kindOf ((ps.map tab).zip vs) mC (tab x)=some v)
 | [],_,_,_,_,_,_,_,_,e=>by simp at e
 |_::_,[],_,_,_,_,_,_,_,e=>by simp at e
 |y::ps,q::l,_,x,p,mL,mC,nd,⟨v,r,e,hq,hr⟩,el=>by
  subst e
  rw [List.zip_cons_cons,List.lookup_cons] at el
  obtain⟨n1,n2⟩:=List.nodup_cons.mp nd
  by_cases hx:x=y
  ·subst hx
   rw [beq_self_eq_true] at el
   cases el
   have nin:∀z∈(ps.map tab).zip r,z.1≠tab x:=by
    intro z hz e
    have:=(List.of_mem_zip hz).1
    obtain⟨i,hi,hi'⟩:=List.mem_map.mp this
    rw [e] at hi'
    exact n1 (inj _ _ hi'▸hi)
   refine⟨v,hq,fun k=>?_,fun k=>?_⟩
   ·show bindL kindOf ((tab x,v)::(ps.map tab).zip r) mL (tab x)=_
    unfold bindL
    rw [(nR _ _ nin).1,if_pos k];simp
   ·show bindC kindOf ((tab x,v)::(ps.map tab).zip r) mC (tab x)=_
    unfold bindC
    rw [(nR _ _ nin).2,if_neg k];simp
  ·have:(x==y)=false:=beq_eq_false_iff_ne.mpr hx
   rw [this] at el
   exact xM tab inj (kindOf:=kindOf) (if kindOf (tab y)=some .local then fun z=>if z=tab y then some v else mL z else mL) (if kindOf (tab y)=some .local then mC else fun z=>if z=tab y then some v else mC z) n2 hr el
noncomputable abbrev Ac(Q:PV→AH→Prop)(o:Out)(_:Loc)(H':AH):Prop:=@Out.rec (fun O=>Prop) (Q .none H') False False (fun p=>Q p H') o
theorem Dy.body{f:Addr}{fd:FuncData}{ps:List Nat}{body:List Stmt}{l l':List PV}{Q:PV→AH→Prop}(hg:v9 g)(hf:g.fn f=some ⟨fd,ps⟩)(hb:fd.body = .stmts body)(hcl:fd.closure=[])
  (hco:fd.scope.isCoroutine=false) (hgen:fd.scope.isGenerator=false) (hk:fd.scope.kind = .function) (hgl:fd.globals=mainGlobals) (hbl:fd.builtins=builtinsNs) (nd:ps.Nodup)
  (hkind:∀x∈ps,fd.scope.names.lookup (g.tab x)=some .local∨fd.scope.names.lookup (g.tab x)=some .cell)
  (hlen:l'.length≤ps.length)
  (hbind:∀s vs,n8 g s H→m8 g.tab s.heap H l vs→∃vs',m8 g.tab s.heap H l' vs'∧BindsTo s fd ⟨vs,[]⟩ ((ps.map g.tab).zip vs'))
  (h:∀env,env.scope=fd.scope→env.code=fd.code→env.qual=fd.qualname ++ ".<locals>."→Ex g n env (ps.zip l') H body (Ac Q)):Dy g (n+1) (.obj f) l H Q:=fun A s v vs R S rv rl=>by
 cases rv
 obtain⟨oc,od,osl,hK,_,hcd⟩:=hg.fn f _ hf
 have X:=hg.X.keeps S.keep
 obtain⟨vs',rl',hbd⟩:=hbind s vs S rl
 refine codeAny_call_function (by have:=R.depth;exact Mine.Internal.rm3 ‹_›) (X _ _ hK) rfl hco hgen hb (codeRec_of X hcd) (hbd _ _ _ _ ?_)
 rw [hcl]
 refine wpAny_newFunctionEnv_cells hk (fun x hx=>?_) fun env he s₁ x=>?_
 ·obtain⟨y,hy⟩:=x
  obtain⟨i,hi,rfl⟩:=List.mem_map.mp (List.of_mem_zip hx).1
  rcases hkind i hi with k|k
  ·exact .inl k
  ·exact .inr ⟨k,cellsFrom_some _ _ _ (.inl k)⟩
 have hL:env.locals=s.heap.objs.size:=by rw [he];rfl
 have hsc:env.scope=fd.scope:=by rw [he];rfl
 have hcs:env.cells=cellsFrom (s.heap.objs.size+1) fd.scope.names []:=by rw [he];rfl
 obtain⟨h₁,tk,hs₁,hk₁⟩:=x.done
 have C0:Calm s.heap H h₁ H:=⟨fun b o e O O=>hk₁ b o e,fun O a b=>absurd a b,fun b o e=>⟨o,hk₁ b o e⟩,⟨fun b o O O e O O=>hk₁ b o e,fun b o O O e O O q=>⟨hk₁ b o e,q⟩,fun b o O e O O=>hk₁ b o e⟩⟩
 have S₁:n8 g s₁ H:=by rw [hs₁];exact⟨fun b o e=>hk₁ b o (S.keep b o e),S.fresh,fun a o e=>(S.obj a o e).keeps C0.q9 fun x e=>hk₁ _ x e,S.gens,S.os⟩
 have big:∀c,s.heap.objs.size≤c→H c=none∧g.h₀.get? c=none:=fun c hc=>by
  constructor
  ·exact S.off hc
  ·cases e:g.h₀.get? c with
   |none=>rfl
   |some o=>exact absurd (Nat.lt_of_lt_of_le (Heap.lt_size (S.keep c o e)) hc) (Nat.lt_irrefl _)
 have cb:∀y c,env.cells.lookup y=some c→s.heap.objs.size≤c:=fun y c e=>by
  have:=x.above y c (mem_of_lookup e)
  rw [hL] at this;exact Nat.le_of_lt this
 have F₁:z9 g env (ps.zip l') s₁.heap H:=by
  have kd:∀z p,(ps.zip l').lookup z=some p→env.kindOf (g.tab z)=some .local∨env.kindOf (g.tab z)=some .cell:=fun z p e=>by
   have:z∈ps:=by
    have:∀(ps:List Nat) (l:List PV),(ps.zip l).lookup z=some p→z∈ps:=by
     intro ps
     induction ps with
     |nil=>intro l e;simp at e
     |cons y ps ih=>
      intro l e
      cases l with
      |nil=>simp at e
      |cons q l=>
       rw [List.zip_cons_cons,List.lookup_cons] at e
       by_cases hz:z=y
       ·rw [hz];exact .head _
       ·have:(z==y)=false:=beq_eq_false_iff_ne.mpr hz
        rw [this] at e;exact .tail _ (ih l e)
    exact this ps l' e
   unfold Env.kindOf;rw [hsc]
   exact hkind z this
  refine⟨by rw [hsc];exact hk,by rw [he];exact hgl,by rw [he];exact hbl,⟨_,x.toInCall.ns,fun z p e k=>?_⟩,fun z p e k=>?_,fun z p e=>(kd z p e).imp id .inl,hL▸(big _ (Nat.le_refl _)).1,hL▸(big _ (Nat.le_refl _)).2,fun y c e=>?_,fun y z c e1 e2=>?_,fun y k=>?_⟩
  ·obtain⟨v,r,b,_⟩:=xM g.tab hg.inj (kindOf:=env.kindOf) (fun O=>none) (fun O=>none) nd rl' e
   exact⟨v,b k,by rw [hs₁];exact r.keeps C0.q9⟩
  ·obtain⟨v,r,_,b⟩:=xM g.tab hg.inj (kindOf:=env.kindOf) (fun O=>none) (fun O=>none) nd rl' e
   have kc:env.kindOf (g.tab z)=some .cell:=by
    rcases kd z p e with q|q
    ·rcases k with k|k<;>rw [q] at k<;>cases k
    ·exact q
   obtain⟨c,hc⟩:=Option.isSome_iff_exists.mp (cellsFrom_some (x:=g.tab z) fd.scope.names (s.heap.objs.size+1) [] (.inl (by have:=kc;unfold Env.kindOf at this;rwa [hsc] at this)))
   have:=x.cell (g.tab z) c (by rw [hcs];exact hc)
   rw [b (by rw [kc];simp)] at this
   exact⟨c,v,by rw [hcs];exact hc,this,by rw [hs₁];exact r.keeps C0.q9⟩
  ·have:=big c (cb y c e)
   exact⟨this.1,this.2,_,x.cell y c e⟩
  ·exact name_of_addr x.apart (mem_of_lookup e1) (mem_of_lookup e2)
  ·obtain⟨c,hc⟩:=Option.isSome_iff_exists.mp (cellsFrom_some (x:=y) fd.scope.names (s.heap.objs.size+1) [] (.inl (by have:=k;unfold Env.kindOf at this;rwa [hsc] at this)))
   exact⟨c,by rw [hcs];exact hc⟩
 refine⟨(hg.nolimit.keeps S.keep).keeps x.toInCall.keep,codeAny_func ?_⟩
 have R₁:J5 n (A.deeper env):=⟨R.handled,by have:=R.depth;show A.depth+1+2*n<_;lia,by have:=R.units;show A.units+3+20*n+100<_;exact Mine.Internal.rm2 ‹_›⟩
 refine wpAny_mono (h env hsc (by rw [he];rfl) (by rw [he];rfl) (A.deeper env) s₁ R₁ S₁ F₁) (fun fl s' z=>?_) fun O O z=>z.elim
 obtain⟨o,m',H',r,S',F',c,q⟩:=z
 have C:Calm s.heap H s'.heap H':=by
  refine⟨fun b ob e qn O=>?_,fun b qn z=>?_,fun b ob e=>c.ex b ob (by rw [hs₁];exact hk₁ b ob e),?_⟩
  ·refine c.keep b ob (by rw [hs₁];exact hk₁ b ob e) qn fun ow=>?_
   rcases ow with ow|⟨y,_,hy⟩
   ·rw [ow,hL] at e;exact absurd (Heap.lt_size e) (Nat.lt_irrefl _)
   ·exact absurd (Nat.lt_of_lt_of_le (Heap.lt_size e) (cb y b hy)) (Nat.lt_irrefl _)
  ·have:=c.new b qn z
   cases e:s.heap.get? b with
   |none=>rfl
   |some ob=>rw [hs₁] at this;rw [hk₁ b ob e] at this;cases this
  ·have:=c.q9
   rw [hs₁] at this
   exact C0.q9.trans this
 cases o with
 |next=>cases r;exact⟨.none,rfl,.none,H',rfl,S',C,q⟩
 |brk=>exact q.elim
 |cont=>exact q.elim
 |ret p=>obtain⟨v,rfl,r⟩:=r;exact⟨v,rfl,p,H',r,S',C,q⟩
end
section
variable{τ:T}{g:G τ}{n:Nat}{env:Env}{m:Loc}{H:AH}
theorem lu{s:Shared}{h':Heap}{c:Addr}{x:Obj}(S:n8 g s H)(e:s.heap.get? c=some x)(nd:(∀xs k,x.data≠.seq xs k)∧∀xs,x.data = .fields xs→¬KQ x.cls)(hc:H c=none)(hb:g.h₀.get? c=none)(B:Heap.SameBut c s.heap h')
  (ex:∃y,h'.get? c=some y) (t:Nat):n8 g {s with heap:=h',toks:=t} H∧Goes (fun b=>b=c) s.heap H h' H:=by
 have P:O5 s.heap H h' H:=by
  refine⟨fun b o xs k q d cc=>?_,fun b o xs k q d cc z=>⟨?_,z⟩,fun b o xs q d cc=>?_⟩
  all_goals
   refine(B.2 b fun z=>?_).trans q
   subst z
   rw [e] at q;cases q;first|exact nd.1 _ _ d|exact nd.2 _ d cc
 refine⟨⟨fun b o q=>(B.2 b fun z=>?_).trans (S.keep b o q),S.fresh,fun a o q=>(S.obj a o q).keeps P fun y z=>(B.2 a fun w=>?_).trans z,S.gens,S.os⟩,fun b o q O f=>(B.2 b f).trans q,fun O a b=>absurd a b,fun b o q=>?_,P⟩
 ·subst z;rw [hb] at q;cases q
 ·subst w;rw [hc] at q;cases q
 ·by_cases z:b=c
  ·subst z;exact ex
  ·exact⟨o,(B.2 b z).trans q⟩
theorem iG{A:Around}{s:Shared}{x:Nat}{p:PV}{v:Value}(hg:v9 g)(S:n8 g s H)(F:z9 g env m s.heap H)(k:env.kindOf (g.tab x)=some .local)(r:Rep g.tab s.heap H p v):
  wpAny (model g.prog g.w) A (storeName env (g.tab x) v) (fun O s'=>n8 g s' H∧z9 g env (m5 x p m) s'.heap H∧Goes (fun b=>b=env.locals) s.heap H s'.heap H) (fun O O=>False) s:=by
 have inj:∀y,g.tab y=g.tab x→y=x:=fun y e=>hg.inj _ _ e
 obtain⟨mv,N,rl⟩:=F.ns
 obtain⟨oL,es,ep,eL,dL,_⟩:=id N
 refine wpAny_storeName_local k N (fun h' hn B=>?_) (by rw [F.kind];rfl)
 obtain⟨oL',es',ep',eL',_⟩:=id hn
 obtain⟨S',c⟩:=lu S eL ⟨fun xs k e=>(by rw [dL] at e;cases e),fun xs e=>(by rw [dL] at e;cases e)⟩ F.Je F.QM B ⟨_,eL'⟩ (s.toks+1)
 have cc:∀c v,s.heap.IsCell c v→c≠env.locals:=fun c v ⟨o,e,d⟩ z=>by rw [z,eL] at e;cases e;rw [dL] at d;cases d
 refine⟨S',⟨F.kind,F.globs,F.KY,⟨_,hn,fun y q e ky=>?_⟩,fun y q e ky=>?_,fun y q e=>?_,F.Je,F.QM,fun y d e=>?_,F.inj,F.has⟩,c⟩
 ·rw [s7] at e
  by_cases z:y=x
  ·subst z;simp only [if_true] at e ⊢;cases e;exact⟨v,rfl,r.keeps c.q9⟩
  ·simp only [z,if_false] at e
   obtain⟨u,a,b⟩:=rl y q e ky
   exact⟨u,by rw [if_neg fun w=>z (inj y w)];exact a,b.keeps c.q9⟩
 ·rw [s7] at e
  by_cases z:y=x
  ·subst z;rcases ky with ky|ky<;>rw [k] at ky<;>cases ky
  ·simp only [z,if_false] at e
   obtain⟨d,u,a,b,w⟩:=F.cell y q e ky
   exact⟨d,u,a,b.sameBut B (cc _ _ b),w.keeps c.q9⟩
 ·rw [s7] at e
  by_cases z:y=x
  ·subst z;exact .inl k
  ·simp only [z,if_false] at e;exact F.kinds y q e
 ·obtain⟨a,b,u,w⟩:=F.cells y d e
  exact⟨a,b,u,w.sameBut B (cc _ _ w)⟩
theorem Ad{A:Around}{s:Shared}{x:Nat}{p:PV}{v:Value}(hg:v9 g)(S:n8 g s H)(F:z9 g env m s.heap H)(k:env.kindOf (g.tab x)=some .local∨env.kindOf (g.tab x)=some .cell)(r:Rep g.tab s.heap H p v):
  wpAny (model g.prog g.w) A (storeName env (g.tab x) v) (fun O s'=>n8 g s' H∧z9 g env (m5 x p m) s'.heap H∧Goes (Own env) s.heap H s'.heap H) (fun O O=>False) s:=by
 have inj:∀y,g.tab y=g.tab x→y=x:=fun y e=>hg.inj _ _ e
 obtain⟨mv,N,rl⟩:=F.ns
 rcases k with k|k
 ·exact wpAny_mono (iG hg S F k r) (fun O O ⟨a,b,c⟩=>⟨a,b,c.weak fun O z=>.inl z⟩) fun O O x=>x
 ·obtain⟨d,hd⟩:=F.has _ k
  obtain⟨a,b,u,w⟩:=F.cells _ _ hd
  obtain⟨oc,ec,dc⟩:=id w
  refine wpAny_storeName_cell F.kind k hd w fun h' hv B=>?_
  obtain⟨oc',ec',_⟩:=id hv
  obtain⟨S',c⟩:=lu S ec ⟨fun xs k e=>(by rw [dc] at e;cases e),fun xs e=>(by rw [dc] at e;cases e)⟩ a b B ⟨_,ec'⟩ s.toks
  have nL:env.locals≠d:=fun z=>by
   obtain⟨oL,es,ep,eL,dL,_⟩:=id N
   rw [z,ec] at eL;cases eL;rw [dc] at dL;cases dL
  refine⟨S',⟨F.kind,F.globs,F.KY,⟨_,N.sameBut B nL,fun y q e ky=>?_⟩,fun y q e ky=>?_,fun y q e=>?_,F.Je,F.QM,fun y d' e=>?_,F.inj,F.has⟩,c.weak fun b z=>.inr ⟨_,k,by rw [z];exact hd⟩⟩
  ·rw [s7] at e
   by_cases z:y=x
   ·subst z;rw [k] at ky;cases ky
   ·simp only [z,if_false] at e
    obtain⟨u,a,b⟩:=rl y q e ky
    exact⟨u,a,b.keeps c.q9⟩
  ·rw [s7] at e
   by_cases z:y=x
   ·subst z;simp only [if_true] at e;cases e;exact⟨d,v,hd,hv,r.keeps c.q9⟩
   ·simp only [z,if_false] at e
    obtain⟨d',u',a',b',w'⟩:=F.cell y q e ky
    refine⟨d',u',a',b'.sameBut B fun zz=>?_,w'.keeps c.q9⟩
    subst zz
    exact z (inj y (F.inj _ _ _ a' hd))
  ·rw [s7] at e
   by_cases z:y=x
   ·subst z;exact .inr (.inl k)
   ·simp only [z,if_false] at e;exact F.kinds y q e
  ·obtain⟨a',b',u',w'⟩:=F.cells y d' e
   by_cases z:d'=d
   ·subst z;exact⟨a',b',_,hv⟩
   ·exact⟨a',b',u',w'.sameBut B z⟩
theorem dZ.ret{e:PySem.Expr}{pos:Pos}{Q:Out→Loc→AH→Prop}(h:Ev g n env m H e fun p H'=>Q (.ret p) m H'):dZ g n env m H (.Return (some e) pos) Q:=fun A s R S F=>
 wpAny_Return_some (h.then R S F fun v s' p H' r S' c F' q=>⟨.ret p,m,H',⟨v,rfl,r⟩,S',F',c.own,q⟩)
theorem dZ.QT{pos:Pos}{Q:Out→Loc→AH→Prop}(q:Q (.ret .none) m H):dZ g n env m H (.Return none pos) Q:=fun A s R S F=>
 wpAny_Return_none ⟨.ret .none,m,H,⟨.none,rfl,rfl⟩,S,F,.refl ..,q⟩
theorem dZ.expr{e:PySem.Expr}{pos:Pos}{Q:Out→Loc→AH→Prop}(hi:interactive env=false)(hs:swapsWith e none pos.line env=pure false)(h:Ev g n env m H e fun O H'=>Q .next m H'):dZ g n env m H (.Expr e pos) Q:=fun A s R S F=>
 wpAny_Expr_any (h.then R S F fun v s' p H' r S' c F' q=>⟨.next,m,H',rfl,S',F',c.own,q⟩) hi hs
theorem dZ.brk{pos:Pos}{Q:Out→Loc→AH→Prop}(q:Q .brk m H):dZ g n env m H (.Break pos) Q:=fun A s R S F=>wpAny_Break ⟨.brk,m,H,rfl,S,F,.refl ..,q⟩
inductive Zh{τ:T}(g:G τ)(s:Shared)(H:AH)(Q:Bool→AH→Prop)(b:Bool)(s':Shared):Prop
 |mk (H':AH) (S:n8 g s' H') (c:Calm s.heap H s'.heap H') (q:Q b H')
noncomputable def Ts{τ:T}(g:G τ)(n:Nat)(env:Env)(m:Loc)(H:AH)(e:PySem.Expr)(Q:Bool→AH→Prop):Prop:=
 ∀A s,J5 n A→n8 g s H→z9 g env m s.heap H→wpAny (model g.prog g.w) A (isTrue e env (eval e env)) (Zh g s H Q) (fun O O=>False) s
theorem Ts.then{e:PySem.Expr}{Q:Bool→AH→Prop}(h:Ts g n env m H e Q){A:Around}{s:Shared}{P:Bool→Shared→Prop}{E:Value→Shared→Prop}(R:J5 n A)(S:n8 g s H)(F:z9 g env m s.heap H)
  (k:∀b s' H',n8 g s' H'→Calm s.heap H s'.heap H'→z9 g env m s'.heap H'→Q b H'→P b s'):wpAny (model g.prog g.w) A (isTrue e env (eval e env)) P E s:=
 wpAny_mono (h A s R S F) (fun b s' ⟨H',S',c,q⟩=>k b s' H' S' c (F.goes c) q) fun O O x=>x.elim
theorem Zh.step{s s₁:Shared}{H₁:AH}{Q:Bool→AH→Prop}(c:Calm s.heap H s₁.heap H₁){b:Bool}{s':Shared}(x:Zh g s₁ H₁ Q b s'):Zh g s H Q b s':=
 let⟨H',S,c',q⟩:=x;⟨H',S,c.trans c',q⟩
theorem dZ.iff{t:PySem.Expr}{a b:List Stmt}{pos:Pos}{Q:Out→Loc→AH→Prop}(h:Ts g n env m H t fun c H'=>if c then Ex g n env m H' a Q else Ex g n env m H' b Q):dZ g n env m H (.If t a b pos) Q:=fun A s R S F=>by
 refine wpAny_If (h.then R S F fun c s' H' S' z F' q=>?_)
 cases c with
 |true=>exact wpAny_mono (q A s' R S' F') (fun O O x=>x.step z.own) fun O O x=>x
 |false=>exact wpAny_mono (q A s' R S' F') (fun O O x=>x.step z.own) fun O O x=>x
theorem Ev.ifx{t a b:PySem.Expr}{pos:Pos}{Q:PV→AH→Prop}(h:Ts g n env m H t fun c H'=>if c then Ev g n env m H' a Q else Ev g n env m H' b Q):Ev g n env m H (.IfExp t a b pos) Q:=fun A s R S F=>by
 refine wpAny_IfExp (h.then R S F fun c s' H' S' z F' q=>?_)
 cases c with
 |true=>exact Z2.calm z (q A s' R S' F')
 |false=>exact Z2.calm z (q A s' R S' F')
theorem Ts.not{e:PySem.Expr}{pos:Pos}{Q:Bool→AH→Prop}(h:Ts g n env m H e fun b H'=>Q (!b) H'):Ts g n env m H (.UnaryOp .Not e pos) Q:=fun A s R S F=>
 isTrue_not (h.then R S F fun b s' H' S' c F' q=>⟨H',S',c,q⟩)
theorem Ts.Wc{pos:Pos}{Q:Bool→AH→Prop}(q:Q true H):Ts g n env m H (.BoolOp .And [] pos) Q:=fun A s R S F=>isTrue_and_nil ⟨H,S,.refl ..,q⟩
theorem Ts.Zi{pos:Pos}{Q:Bool→AH→Prop}(q:Q false H):Ts g n env m H (.BoolOp .Or [] pos) Q:=fun A s R S F=>isTrue_or_nil ⟨H,S,.refl ..,q⟩
theorem Ts.and{e:PySem.Expr}{es:List PySem.Expr}{pos:Pos}{Q:Bool→AH→Prop}(h:Ts g n env m H e fun b H'=>if b then Ts g n env m H' (.BoolOp .And es pos) Q else Q false H'):Ts g n env m H (.BoolOp .And (e::es) pos) Q:=fun A s R S F=>by
 refine isTrue_and (h.then R S F fun b s' H' S' c F' q=>?_)
 cases b with
 |true=>exact wpAny_mono (q A s' R S' F') (fun O O x=>x.step c) fun O O x=>x
 |false=>exact⟨H',S',c,q⟩
theorem Ts.or{e:PySem.Expr}{es:List PySem.Expr}{pos:Pos}{Q:Bool→AH→Prop}(h:Ts g n env m H e fun b H'=>if b then Q true H' else Ts g n env m H' (.BoolOp .Or es pos) Q):Ts g n env m H (.BoolOp .Or (e::es) pos) Q:=fun A s R S F=>by
 refine isTrue_or (h.then R S F fun b s' H' S' c F' q=>?_)
 cases b with
 |true=>exact⟨H',S',c,q⟩
 |false=>exact wpAny_mono (q A s' R S' F') (fun O O x=>x.step c) fun O O x=>x
end
end Mine.Internal
namespace Mine.Internal
open PySem PySem.W PySem.Calls PyProof.Rows PySem.SeqAt
noncomputable def PV.isD:PV→Bool:=PV.rec (motive_1:=fun O=>Bool) (motive_2:=fun O=>Bool) true (fun O=>true) (fun O=>true) (fun O=>true) (fun O b=>b) (fun O b=>b) (fun O=>false) (fun O=>false) (fun O=>false) (fun O O=>false) true fun O O a b=>a&&b
noncomputable def PV.W2:List PV→Bool:=PV.rec_1 (motive_1:=fun O=>Bool) (motive_2:=fun O=>Bool) true (fun O=>true) (fun O=>true) (fun O=>true) (fun O b=>b) (fun O b=>b) (fun O=>false) (fun O=>false) (fun O=>false) (fun O O=>false) true fun O O a b=>a&&b
noncomputable def PV.toD(tab:Nat→Str):PV→PyData:=PV.rec (motive_1:=fun O=>PyData) (motive_2:=fun O=>List PyData) .none .bool .int (fun n=>.str (tab n)) (fun O=>.tuple) (fun O=>.list) (fun O=>.none) (fun O=>.none) (fun O=>.none) (fun O O=>.none) [] fun O O a b=>a::b
noncomputable def PV.nT(tab:Nat→Str):List PV→List PyData:=PV.rec_1 (motive_1:=fun O=>PyData) (motive_2:=fun O=>List PyData) .none .bool .int (fun n=>.str (tab n)) (fun O=>.tuple) (fun O=>.list) (fun O=>.none) (fun O=>.none) (fun O=>.none) (fun O O=>.none) [] fun O O a b=>a::b
noncomputable def PV.depth:PV→Nat:=PV.rec (motive_1:=fun O=>Nat) (motive_2:=fun O=>Nat) 0 (fun O=>0) (fun O=>0) (fun O=>0) (fun O n=>n+1) (fun O n=>n+1) (fun O=>0) (fun O=>0) (fun O=>0) (fun O O=>0) 0 fun O O a b=>max a b
noncomputable def PV.depths:List PV→Nat:=PV.rec_1 (motive_1:=fun O=>Nat) (motive_2:=fun O=>Nat) 0 (fun O=>0) (fun O=>0) (fun O=>0) (fun O n=>n+1) (fun O n=>n+1) (fun O=>0) (fun O=>0) (fun O=>0) (fun O O=>0) 0 fun O O a b=>max a b
noncomputable def nIs:PV→Bool
 |.none=>true
 |_=>false
noncomputable def bIs(a:Bool):PV→Bool
 |.bool b=>a==b
 |.int j=>(if a then 1 else 0)==j
 |_=>false
noncomputable def iIs(i:Int):PV→Bool
 |.bool b=>i==(if b then 1 else 0)
 |.int j=>i==j
 |_=>false
noncomputable def sIs(m:Nat):PV→Bool
 |.str n=>Nat.beq m n
 |_=>false
noncomputable def tIs(f:List PV→Bool):PV→Bool
 |.tup l=>f l
 |_=>false
noncomputable def lIs(f:List PV→Bool):PV→Bool
 |.lst l=>f l
 |_=>false
noncomputable def PV.eqv:PV→PV→Bool:=PV.rec (motive_1:=fun O=>PV→Bool) (motive_2:=fun O=>List PV→Bool) nIs bIs iIs sIs (fun O=>tIs) (fun O=>lIs) (fun O O=>false) (fun O O=>false) (fun O O=>false) (fun O O O=>false) List.isEmpty fun O O=>KN
noncomputable def PV.eqvs:List PV→List PV→Bool:=PV.rec_1 (motive_1:=fun O=>PV→Bool) (motive_2:=fun O=>List PV→Bool) nIs bIs iIs sIs (fun O=>tIs) (fun O=>lIs) (fun O O=>false) (fun O O=>false) (fun O O=>false) (fun O O O=>false) List.isEmpty fun O O=>KN
theorem iH(tab:Nat→Str):∀p:PV,(p.toD tab).depth=p.depth:=
 PV.rec (motive_1:=fun p=>(p.toD tab).depth=p.depth) (motive_2:=fun l=>PyData.depthAll (PV.nT tab l)=PV.depths l) rfl (fun O=>rfl) (fun O=>rfl) (fun O=>rfl) (fun O e=>congrArg (·+ 1) e) (fun O e=>congrArg (·+ 1) e) (fun O=>rfl) (fun O=>rfl) (fun O=>rfl) (fun O O=>rfl)
  rfl fun O O a b=>congr (congrArg max a) b
theorem DR(tab:Nat→Str)(l:List PV):PyData.depthAll (PV.nT tab l)=PV.depths l:=Nat.succ.inj (iH tab (.tup l))
theorem Z8{tab:Nat→Str}(h:∀x,PyData.strOk (tab x)=true):∀p:PV,(p.toD tab).canLay0=true:=
 PV.rec (motive_1:=fun p=>(p.toD tab).canLay0=true) (motive_2:=fun l=>PyData.canLayAll0 (PV.nT tab l)=true) rfl (fun O=>rfl) (fun O=>rfl) h (fun O e=>e) (fun O e=>e) (fun O=>rfl) (fun O=>rfl) (fun O=>rfl) (fun O O=>rfl)
  rfl fun O O a b=>Bool.and_eq_true_iff.mpr ⟨a,b⟩
theorem lA{tab:Nat→Str}(h:∀x,PyData.strOk (tab x)=true)(l:List PV):PyData.canLayAll0 (PV.nT tab l)=true:=Z8 h (.tup l)
noncomputable abbrev EqD(tab:Nat→Str)(p:PV):Prop := ∀q,p.isD=true→q.isD=true→PyData.eqv (p.toD tab) (q.toD tab)=p.eqv q
noncomputable abbrev ai8(tab:Nat→Str)(l:List PV):Prop := ∀k,PV.W2 l=true→PV.W2 k=true→PyData.eqvAll (PV.nT tab l) (PV.nT tab k)=PV.eqvs l k
section
variable{tab:Nat→Str}(inj:∀i j,tab i=tab j→i=j)
include inj
theorem QV(m n:Nat):(tab m==tab n)=Nat.beq m n:=by
 cases e:Nat.beq m n with
 |false=>exact beq_eq_false_iff_ne.mpr fun z=>absurd (inj _ _ z) (Nat.ne_of_beq_eq_false e)
 |true=>exact beq_iff_eq.mpr (congrArg tab (Nat.eq_of_beq_eq_true e))
theorem xO:∀p,EqD tab p:=
 PV.rec (motive_1:=EqD tab) (motive_2:=ai8 tab) (fun q O b=>by cases q<;>first|rfl|cases b) (fun O q O b=>by cases q<;>first|rfl|cases b) (fun O q O b=>by cases q<;>first|rfl|cases b)
  (fun m q O b=>by
   cases q with
   |str n=>exact QV inj m n
   |_=>first|rfl|cases b)
  (fun l z q a b=>by
   cases q with
   |tup k=>exact z k a b
   |_=>first|rfl|cases b)
  (fun l z q a b=>by
   cases q with
   |lst k=>exact z k a b
   |_=>first|rfl|cases b)
  (fun O O a=>nomatch (show false=true from a)) (fun O O a=>nomatch (show false=true from a)) (fun O O a=>nomatch (show false=true from a)) (fun O O O a=>nomatch (show false=true from a))
  (fun k O O=>by cases k<;>rfl) fun p l x y k a b=>by
   cases k with
   |nil=>rfl
   |cons q k=>exact congr (congrArg and (x q (Bool.and_eq_true_iff.mp a).1 (Bool.and_eq_true_iff.mp b).1)) (y k (Bool.and_eq_true_iff.mp a).2 (Bool.and_eq_true_iff.mp b).2)
theorem GD{p:PV}(hp:p.isD=true):∀l:List PV,PV.W2 l=true→(PV.nT tab l).any (fun y=>PyData.eqv y (p.toD tab))=l.any fun y=>y.eqv p
 | [],_=>rfl
 |q::l,a=>congr (congrArg or (xO inj q p (Bool.and_eq_true_iff.mp a).1 hp)) (GD hp l (Bool.and_eq_true_iff.mp a).2)
end
noncomputable abbrev RdP(tab:Nat→Str)(h:Heap)(H:AH)(p:PV):Prop := ∀v,p.isD=true→Rep tab h H p v→∃as,Reads h v (p.toD tab) as
noncomputable abbrev RdL(tab:Nat→Str)(h:Heap)(H:AH)(l:List PV):Prop := ∀vs,PV.W2 l=true→m8 tab h H l vs→∃as,ReadsAll h vs (PV.nT tab l) as
section
variable{tab:Nat→Str}{h:Heap}{H:AH}
theorem Wd{l:List PV}(z:RdL tab h H l):RdP tab h H (.tup l):=fun v d r=>by
 obtain⟨a,vs,k,e,o,r⟩:=r
 subst e
 exact(z vs d r).imp fun as z=>.tuple o rfl rfl z
theorem Wf{l:List PV}(z:RdL tab h H l):RdP tab h H (.lst l):=fun v d r=>by
 obtain⟨a,vs,k,e,o,_,r⟩:=r
 subst e
 exact(z vs d r).elim fun as z=>⟨_,.list o rfl rfl z⟩
theorem xP{p:PV}{l:List PV}{q:PV}{k:List PV}(x:∀v,q.isD=true→Rep tab h H p v→∃as,Reads h v (q.toD tab) as)(y:∀vs,PV.W2 k=true→m8 tab h H l vs→∃as,ReadsAll h vs (PV.nT tab k) as):∀vs,PV.W2 (q::k)=true→m8 tab h H (p::l) vs→∃as,ReadsAll h vs (PV.nT tab (q::k)) as:=fun vs d r=>by
 obtain⟨v,r,e,u,z⟩:=r
 subst e
 have d':=Bool.and_eq_true_iff.mp d
 exact(x v d'.1 u).elim fun as x=>(y r d'.2 z).elim fun bs y=>⟨_,.cons x y⟩
theorem DW{l:List PV}(e:l=[]):∀vs,PV.W2 l=true→m8 tab h H [] vs→∃as,ReadsAll h vs (PV.nT tab l) as:=fun vs O r=>by subst e;cases r;exact⟨_,.nil⟩
theorem aM(p:PV):RdP tab h H p:=
 PV.rec (motive_1:=RdP tab h H) (motive_2:=RdL tab h H) (fun v O r=>by cases r;exact⟨_,.none⟩) (fun b v O r=>by cases r;exact⟨_,.bool b⟩) (fun i v O r=>r.elim fun t e=>e▸⟨_,.int i t⟩) (fun n v O r=>r.elim fun t e=>e▸⟨_,.str _ t⟩)
  (fun O=>Wd) (fun O=>Wf) (fun O O d=>nomatch (show false=true from d)) (fun O O d=>nomatch (show false=true from d)) (fun O O d=>nomatch (show false=true from d)) (fun O O O d=>nomatch (show false=true from d)) (DW rfl) (fun O O x y=>xP x y) p
theorem Ae(l:List PV):RdL tab h H l:=by
 induction l with
 |nil=>exact DW rfl
 |cons p l ih=>exact xP (aM p) ih
end
mutual
noncomputable def res(H:AH):PV→PV
 |.obj a=>match H a with
  |some (.list l)=>.lst l
  |_=>.obj a
 |.tup l=>.tup (vf H l)
 |.none=>.none | .bool b=>.bool b | .int i=>.int i | .str n=>.str n | .lst l=>.lst l | .blt n=>.blt n | .typ n=>.typ n | .rng a b=>.rng a b
noncomputable def vf(H:AH):List PV→List PV
 | []=>[]
 |p::l=>res H p::vf H l
end
section
variable{τ:T}{g:G τ}{n:Nat}{env:Env}{m:Loc}{H:AH}
theorem qO(a:Addr):res H (.obj a)=match H a with
  |some (.list l)=>.lst l
  |_=>.obj a:=rfl
noncomputable abbrev RsP(g:G τ)(h:Heap)(H:AH)(p:PV):Prop := ∀v,(res H p).isD=true→Rep g.tab h H p v→∃as,Reads h v ((res H p).toD g.tab) as
noncomputable abbrev RsL(g:G τ)(h:Heap)(H:AH)(l:List PV):Prop := ∀vs,PV.W2 (vf H l)=true→m8 g.tab h H l vs→∃as,ReadsAll h vs (PV.nT g.tab (vf H l)) as
theorem Wg{s:Shared}(S:n8 g s H)(a:Addr):RsP g s.heap H (.obj a):=fun v d r=>by
 rw [qO] at d ⊢
 cases e:H a with
 |none=>rw [e] at d;cases d
 |some o=>
  rw [e] at d
  cases o with
  |list l=>
   cases r
   obtain⟨vs,k,e1,r⟩:=S.obj _ _ e
   exact(Ae l vs d r).elim fun as z=>⟨_,.list e1 rfl rfl z⟩
  |_=>cases d
theorem Wh{h:Heap}{l:List PV}(z:RsL g h H l):RsP g h H (.tup l):=fun v d r=>by
 obtain⟨a,vs,k,e,o,r⟩:=r
 subst e
 exact(z vs d r).imp fun as z=>.tuple o rfl rfl z
theorem cT{s:Shared}(S:n8 g s H)(p:PV):RsP g s.heap H p:=
 PV.rec (motive_1:=RsP g s.heap H) (motive_2:=RsL g s.heap H) (aM .none) (fun b=>aM (.bool b)) (fun i=>aM (.int i)) (fun n=>aM (.str n)) (fun O=>Wh) (fun l O=>aM (.lst l)) (Wg S)
  (fun O O d=>nomatch (show false=true from d)) (fun O O d=>nomatch (show false=true from d)) (fun O O O d=>nomatch (show false=true from d)) (DW rfl) (fun O O x y=>xP x y) p
theorem Af{A:Around}(R:J5 n A){p q:PV}(h:p.depth≤60∨q.depth≤60)(tab:Nat→Str):A.units+min (p.toD tab).depth (q.toD tab).depth<cLine:=by
 rw [iH,iH]
 have:=R.units
 have h1:=Nat.min_le_left p.depth q.depth
 have h2:=Nat.min_le_right p.depth q.depth
 rcases h with h|h<;>lia
noncomputable def Ag(H:AH)(p q:PV):Prop:=(res H p).isD=true∧(res H q).isD=true∧((res H q).depth≤60∨(res H p).depth≤60)
theorem Zj{A:Around}{s:Shared}{p q:PV}{u v:Value}{P:Value→Shared→Prop}{E:Value→Shared→Prop}(hg:v9 g)(R:J5 n A)(S:n8 g s H)(ru:Rep g.tab s.heap H p u)(rv:Rep g.tab s.heap H q v)(ok:Ag H p q)
  (h:P (.bool ((res H p).eqv (res H q))) s):wpAny (model g.prog g.w) A (compareOp .Eq u v) P E s:=by
 obtain⟨as,a⟩:=cT S _ _ ok.1 ru
 obtain⟨bs,b⟩:=cT S _ _ ok.2.1 rv
 exact compareEq_reads a b (Z8 hg.aL _) (Z8 hg.aL _) (Af R ok.2.2.symm g.tab) (by rw [xO hg.inj _ _ ok.1 ok.2.1];exact h)
theorem Zk{A:Around}{s:Shared}{p q:PV}{u v:Value}{P:Value→Shared→Prop}{E:Value→Shared→Prop}(hg:v9 g)(R:J5 n A)(S:n8 g s H)(ru:Rep g.tab s.heap H p u)(rv:Rep g.tab s.heap H q v)(ok:Ag H p q)
  (h:P (.bool (!(res H p).eqv (res H q))) s):wpAny (model g.prog g.w) A (compareOp .NotEq u v) P E s:=by
 obtain⟨as,a⟩:=cT S _ _ ok.1 ru
 obtain⟨bs,b⟩:=cT S _ _ ok.2.1 rv
 exact compareNe_reads a b (Z8 hg.aL _) (Z8 hg.aL _) (Af R ok.2.2.symm g.tab) (by rw [xO hg.inj _ _ ok.1 ok.2.1];exact h)
theorem room_in{A:Around}(R:J5 n A){l:List PV}{q:PV}(h:PV.depths l≤60∨q.depth≤60)(tab:Nat→Str):A.units+1+min (PyData.depthAll (PV.nT tab l)) (q.toD tab).depth<cLine:=by
 rw [DR,iH]
 have:=R.units
 have h1:=Nat.min_le_left (PV.depths l) q.depth
 have h2:=Nat.min_le_right (PV.depths l) q.depth
 rcases h with h|h<;>lia
noncomputable def La(p:PV)(l:List PV):Prop:=p.isD=true∧PV.W2 l=true∧(PV.depths l≤60∨p.depth≤60)
theorem Lb{A:Around}{s:Shared}{p q:PV}{l:List PV}{u v:Value}{P:Value→Shared→Prop}{E:Value→Shared→Prop}(hg:v9 g)(R:J5 n A)(S:n8 g s H)(ru:Rep g.tab s.heap H p u)(rv:Rep g.tab s.heap H q v)
  (hq:res H q = .tup l∨res H q = .lst l) (ok:La p l):
  (P (.bool (l.any fun y=>y.eqv p)) s→wpAny (model g.prog g.w) A (compareOp .In u v) P E s)∧(P (.bool (!l.any fun y=>y.eqv p)) s→wpAny (model g.prog g.w) A (compareOp .NotIn u v) P E s):=by
 obtain⟨as,a⟩:=aM _ _ ok.1 ru
 have dq:(res H q).isD=true:=by rcases hq with e|e<;>rw [e]<;>exact ok.2.1
 obtain⟨bs,b⟩:=cT S _ _ dq rv
 have rm:=room_in R ok.2.2 g.tab
 have an:=GD hg.inj ok.1 l ok.2.1
 rcases hq with e|e<;>rw [e] at b
 ·exact⟨fun h=>in_tuple_reads b a (lA hg.aL _) (Z8 hg.aL _) rm ((congrArg (fun b=>P (.bool b) s) an).mpr h),fun h=>notIn_tuple_reads b a (lA hg.aL _) (Z8 hg.aL _) rm ((congrArg (fun b=>P (.bool !b) s) an).mpr h)⟩
 ·exact⟨fun h=>in_list_reads b a (lA hg.aL _) (Z8 hg.aL _) rm ((congrArg (fun b=>P (.bool b) s) an).mpr h),fun h=>notIn_list_reads b a (lA hg.aL _) (Z8 hg.aL _) rm ((congrArg (fun b=>P (.bool !b) s) an).mpr h)⟩
end
noncomputable def nU:PySem.Operator→Int→Int→Option Int
 |.Add,a,b=>some (a+b)
 |.Sub,a,b=>some (a-b)
 |.Mult,a,b=>if a.natAbs<2 ^ 62∨b.natAbs<2 ^ 62 then some (a*b) else none
 |.FloorDiv,a,b=>if b≠0∧b.natAbs<1073741824 then some (a.fdiv b) else none
 |.Mod,a,b=>if b=0 then none else some (a.fmod b)
 |.Pow,a,b=>if 0≤b∧b≤1000000∧a.natAbs<2 ^ 64 then some (a ^ b.toNat) else none
 |_,_,_=>none
section
variable{τ:T}{g:G τ}{n:Nat}{env:Env}{m:Loc}{H:AH}{Q:PV→AH→Prop}{A:Around}{s:Shared}
theorem aN{α:Type}{c:Prop} [Decidable c]{x y:α}(h:(if c then some x else none)=some y):c∧x=y:=by
 by_cases k:c
 ·rw [if_pos k] at h;exact⟨k,Option.some.inj h⟩
 ·rw [if_neg k] at h;cases h
theorem Ld{α:Type}{c:Prop} [Decidable c]{x y:α}(h:(if c then none else some x)=some y):¬c∧x=y:=by
 by_cases k:c
 ·rw [if_pos k] at h;cases h
 ·rw [if_neg k] at h;exact⟨k,Option.some.inj h⟩
theorem GF{a:Int}(h:a.natAbs<2 ^ 62):Builtin.Int.intBits a≤64:=intBits_le_64 (by lia) (by lia)
theorem QW{op:PySem.Operator}{a b c:Int}{t u:Tok}(S:n8 g s H)(h:nU op a b=some c)(q:Q (.int c) H):
  W g A (binaryOp op (.int a t) (.int b u)) s H Q:=by
 have z:∀k,Z2 g s H Q (.int c k) {s with toks:=s.toks+1}:=fun k=>n6 (p:=.int c) S ⟨_,rfl⟩ q _
 cases op<;>first|exact nomatch (show none=some c from h)|skip
 case Add=>cases h;exact PySem.P.add_int (z _)
 case Sub=>cases h;exact PySem.P.sub_int (z _)
 case Mult=>obtain⟨hc,rfl⟩:=aN h;exact PySem.P.mul_int (z _) (hc.elim (fun x=>.of_left (GF x)) fun x=>.of_right (GF x))
 case FloorDiv=>obtain⟨hc,rfl⟩:=aN h;exact floordiv_int hc.1 (z _) (.inl (PyProof.noPylong_small hc.2))
 case Mod=>obtain⟨hc,rfl⟩:=Ld h;exact mod_int hc (z _)
 case Pow=>obtain⟨hc,rfl⟩:=aN h;exact pow_int_small hc.1 hc.2.1 hc.2.2 (z _)
theorem U5{h:Heap}{p:PV}{v:Value}{l:List PV}(S:n8 g s H)(r:Rep g.tab s.heap H p v)(e:p = .lst l∨∃a,p = .obj a∧H a=some (.list l)):
  ∃a vs k,v = .ref a∧s.heap.get? a=some (Aa vs k)∧m8 g.tab s.heap H l vs:=by
 rcases e with rfl|⟨a,rfl,e⟩
 ·obtain⟨a,vs,k,e,o,_,r⟩:=r;exact⟨a,vs,k,e,o,r⟩
 ·cases r
  obtain⟨vs,k,o,r⟩:=S.obj _ _ e
  exact⟨a,vs,k,rfl,o,r⟩
noncomputable def q7.Ah : q7→Option (List PV)
 |.list l=>some l
 |_=>none
noncomputable def v7(H:AH):PV→Option (List PV)
 |.lst l=>some l
 |.obj a=>(H a).bind q7.Ah
 |_=>none
theorem G5{a:Addr}{l:List PV}(o:H a=some (.list l)):v7 H (.obj a)=some l:=congrArg (fun o=>Option.bind o q7.Ah) o
set_option tactic.hygienic true in
theorem v8{p:PV}{l:List PV}(h:v7 H p=some l):p = .lst l∨∃a,p = .obj a∧H a=some (.list l):=by
 cases p<;>first|exact nomatch (show none=some l from h)|skip
 case lst=>cases h;exact .inl rfl
 case obj a=>
  cases e:H a with
  |none=>rw [show v7 H (.obj a)=(H a).bind q7.Ah from rfl,e] at h;cases h
  |some o=>
   rw [show v7 H (.obj a)=(H a).bind q7.Ah from rfl,e] at h
   cases o<;>first|exact nomatch (show none=some l from h)|(cases h;exact .inr ⟨a,rfl,e⟩)
theorem nW{vs:List Value}{l:List PV}(S:n8 g s H)(r:m8 g.tab s.heap H l vs)(q:Q (.lst l) H):Z2 g s H Q (.ref s.heap.objs.size) {s with heap:=s.heap.push {cls:=.type "list",data:=.seq vs.toArray}}:=
 eE (p:=.lst l) S ⟨_,vs,0,rfl,Heap.get?_push_size _ rfl,untracked S,r.keeps (Calm.push ..).q9⟩ q
theorem DX{vs:List Value}{l:List PV}(S:n8 g s H)(r:m8 g.tab s.heap H l vs)(q:∀a,H a=none→Q (.obj a) (upd H a (.list l))):Z2 g s H Q (.ref s.heap.objs.size) {s with heap:=s.heap.push {cls:=.type "list",data:=.seq vs.toArray}}:=by
 obtain⟨S₂,c₂⟩:=S.track (o:=.list l) (x:={cls:=.type "list",data:=.seq vs.toArray}) rfl ⟨vs,0,Heap.get?_push_size _ rfl,r.keeps (O5.mk (fun O O O O e O O=>Heap.get?_push_of_some _ e) (fun b O O O e O O q=>⟨Heap.get?_push_of_some _ e,by rw [d8 (Nat.ne_of_lt (Heap.lt_size e))];exact q⟩) fun O O O e O O=>Heap.get?_push_of_some _ e)⟩
 exact⟨.obj s.heap.objs.size,_,rfl,S₂,c₂,q _ (untracked S)⟩
theorem GJ{l k:List PV}{p q:PV}{u v:Value}(S:n8 g s H)(ru:Rep g.tab s.heap H p u)(rv:Rep g.tab s.heap H q v)(ep:v7 H p=some l)(eq:v7 H q=some k)(hz:l.length+k.length≤sizeLine)
  {P:Value→Shared→Prop} {E:Value→Shared→Prop}
  (h:∀vs:List Value,m8 g.tab s.heap H (l++k) vs→P (.ref s.heap.objs.size) {s with heap:=s.heap.push {cls:=.type "list",data:=.seq vs.toArray}}):
  wpAny (model g.prog g.w) A (binaryOp .Add u v) P E s:=by
 obtain⟨a,vs,n1,rfl,o1,r1⟩:=U5 (h:=s.heap) S ru (v8 ep)
 obtain⟨b,ws,n2,rfl,o2,r2⟩:=U5 (h:=s.heap) S rv (v8 eq)
 refine PySem.P.add_list o1 o2 ?_ (by rw [List.size_toArray,List.size_toArray,r1.length,r2.length];exact hz)
 have e:vs.toArray++ws.toArray=(vs++ws).toArray:=by simp
 rw [e]
 exact h _ (r1.append r2)
theorem QX{l k:List PV}{u v:Value}(S:n8 g s H)(ru:Rep g.tab s.heap H (.tup l) u)(rv:Rep g.tab s.heap H (.tup k) v)(hz:l.length+k.length≤sizeLine)(q:Q (.tup (l++k)) H):
  W g A (binaryOp .Add u v) s H Q:=by
 obtain⟨a,vs,n1,rfl,o1,r1⟩:=id ru
 obtain⟨b,ws,n2,rfl,o2,r2⟩:=id rv
 have e:vs.toArray++ws.toArray=(vs++ws).toArray:=by simp
 by_cases hv:vs=[]
 ·subst hv
  have hl:l=[]:=List.eq_nil_of_length_eq_zero (by rw [← r1.length];rfl)
  subst hl
  exact concat_meets ⟨_,o1,rfl⟩ ⟨_,o2,rfl⟩ noFill_tuple_add seq_tuple_add PySem.F.slot_tuple_add PySem.F.entry_tuple_add (PySem.F.args_tuple_add_2 _ _)
   (tuple_addW0 a b _ _ n1 n2 none none #[] #[] (by simp)) ⟨o1,o2,n6 S rv q s.toks⟩
 ·by_cases hw:ws=[]
  ·subst hw
   have hk:k=[]:=List.eq_nil_of_length_eq_zero (by rw [← r2.length];rfl)
   subst hk
   rw [List.append_nil] at q
   exact concat_meets ⟨_,o1,rfl⟩ ⟨_,o2,rfl⟩ noFill_tuple_add seq_tuple_add PySem.F.slot_tuple_add PySem.F.entry_tuple_add (PySem.F.args_tuple_add_2 _ _)
    (tuple_addW1 a b _ _ n1 n2 none none #[] #[] (by simpa using hv) (by simp)) ⟨o1,o2,n6 S ru q s.toks⟩
  ·refine PySem.P.add_tuple o1 o2 (by simpa using hv) (by simpa using hw) ?_ (by rw [List.size_toArray,List.size_toArray,r1.length,r2.length];exact hz)
   rw [e]
   exact eE (p:=.tup (l++k)) S ⟨_,_,0,rfl,Heap.get?_push_size _ rfl,(r1.append r2).keeps (Calm.push ..).q9⟩ q
noncomputable def Jh(l:List PV):Nat→List PV
 |0=>[]
 |k+1=>l++Jh l k
theorem m8.rep{h:Heap}{tab:Nat→Str}{l:List PV}{vs:List Value}(r:m8 tab h H l vs):∀k,m8 tab h H (Jh l k) (List.replicate k vs).flatten
 |0=>rfl
 |k+1=>by rw [List.replicate_succ,List.flatten_cons];exact r.append (m8.rep r k)
theorem QZ{l:List PV}{p:PV}{u:Value}{x:Int}{t:Tok}(S:n8 g s H)(ru:Rep g.tab s.heap H p u)(ep:v7 H p=some l)(hlo : -(2 ^ 63:Int)≤x)(hhi:x<2 ^ 63)(hz:l.length*x.toNat≤2 ^ 24)
  (q:Q (.lst (Jh l x.toNat)) H):W g A (binaryOp .Mult u (.int x t)) s H Q:=by
 obtain⟨a,vs,n1,rfl,o1,r1⟩:=U5 (h:=s.heap) S ru (v8 ep)
 have e2:vs.toArray.size=l.length:=by rw [List.size_toArray,r1.length]
 have Zm:¬(!Builtin.List.listFitsIndex x)=true:=by simp [Builtin.List.listFitsIndex];lia
 have Zn:¬Builtin.List.listTooLong (vs.toArray.size*x.toNat)=true:=by
  rw [e2];unfold Builtin.List.listTooLong;rw [sizeLine_eq,decide_eq_true_eq];exact Nat.not_lt.mpr ‹_›
 have Zo:¬vs.toArray.size*x.toNat > (2 ^ 63-1) / 8:=by rw [e2];lia
 refine wpAny_binaryOp_repeat_ref (T := "list") (U := "int") (by decide) ⟨_,o1,rfl⟩ (fun s'=>typeIs_int s' x t) noFill_list_mul F.fills_int_mul F.slot_int_rmul repeat_list F.slot_int_index.lookup
  (call_meets F.slot_int_rmul (typeIs_int s x t) F.entry_int_rmul (F.args_int_rmul_2 _ _) (int___rmul___int_list x t a vs.toArray n1)
   ⟨o1,rfl,⟨_,o1,rfl⟩,call_meets F.slot_list_mul ⟨_,o1,rfl⟩ F.entry_list_mul (F.args_list_mul_2 _ _)
    (AutoListH.list___mul___list_int_3 a vs.toArray n1 x t Zm Zo Zn)
    ⟨o1,?_⟩⟩)
 rw [listMul_foldl]
 have e:(#[]:Array Value).toList++(List.replicate (if vs.toArray.isEmpty=true then 0 else x.toNat) vs.toArray.toList).flatten=(List.replicate x.toNat vs).flatten:=by
  by_cases hv:vs=[]
  ·subst hv;simp
  ·have:vs.toArray.isEmpty=false:=by simpa using hv
   simp [this]
 rw [e]
 exact nW S (r1.rep _) q
inductive DY{τ:T}(g:G τ)(H:AH)(Q:PV→AH→Prop):PySem.Operator→PV→PV→Prop
 |int {op:PySem.Operator} {a b c:Int} (e:nU op a b=some c) (h:Q (.int c) H):DY g H Q op (.int a) (.int b)
 |tup {l k:List PV} (e:l.length+k.length≤sizeLine) (h:Q (.tup (l++k)) H):DY g H Q .Add (.tup l) (.tup k)
 |str {a b c:Nat} (t:g.tab c=g.tab a++g.tab b∧(g.tab a).length+(g.tab b).length≤sizeLine) (h:Q (.str c) H):DY g H Q .Add (.str a) (.str b)
 |seq {p q:PV} {l k:List PV} (e1:v7 H p=some l) (e2:v7 H q=some k) (z:l.length+k.length≤sizeLine) (h:Q (.lst (l++k)) H):DY g H Q .Add p q
 |rep {p:PV} {l:List PV} {x:Int} (e:v7 H p=some l) (h1 : -(2 ^ 63:Int)≤x) (h2:x<2 ^ 63) (h3:l.length*x.toNat≤2 ^ 24) (h:Q (.lst (Jh l x.toNat)) H):DY g H Q .Mult p (.int x)
noncomputable abbrev Wi(g:G τ)(op:PySem.Operator)(p q:PV)(H:AH)(Q:PV→AH→Prop):Prop:=DY g H Q op p q
theorem Wj{op:PySem.Operator}{p q:PV}{u v:Value}(S:n8 g s H)(ru:Rep g.tab s.heap H p u)(rv:Rep g.tab s.heap H q v)(h:Wi g op p q H Q):
  W g A (binaryOp op u v) s H Q:=by
 cases h with
 |int e h=>obtain⟨t,rfl⟩:=ru;obtain⟨t',rfl⟩:=rv;exact QW S e h
 |tup e h=>exact QX S ru rv e h
 |str t h=>obtain⟨_,rfl⟩:=ru;obtain⟨_,rfl⟩:=rv;exact add_str (fun t' tk=>n6 (p:=.str _) S ⟨t',by rw [t.1]⟩ h _) t.2
 |seq e1 e2 z h=>exact GJ S ru rv e1 e2 z fun vs r=>nW S r h
 |rep e h1 h2 h3 h=>obtain⟨t',rfl⟩:=rv;exact QZ S ru e h1 h2 h3 h
theorem Ev.bin{a b:PySem.Expr}{op:PySem.Operator}{pos:Pos}(h:Ev g n env m H a fun p H₁=>Ev g n env m H₁ b fun q H₂=>Wi g op p q H₂ Q):Ev g n env m H (.BinOp a op b pos) Q:=fun A s R S F=>by
 refine wpAny_BinOp (h.then R S F fun u s₁ p H₁ ru S₁ c₁ F₁ k=>?_)
 refine Ev.then k R S₁ F₁ fun v s₂ q H₂ rv S₂ c₂ F₂ k=>?_
 exact Z2.calm (c₁.trans c₂) (Wj S₂ (ru.keeps c₂.q9) rv k)
theorem Ev.Wm{a b:PySem.Expr}{pos:Pos}(h:Ev g n env m H a fun p H₁=>Ev g n env m H₁ b fun q H₂ => ∃l k,v7 H₂ p=some l∧v7 H₂ q=some k∧l.length+k.length≤sizeLine∧∀a,H₂ a=none→Q (.obj a) (upd H₂ a (.list (l++k)))):Ev g n env m H (.BinOp a .Add b pos) Q:=fun A s R S F=>by
 refine wpAny_BinOp (h.then R S F fun u s₁ p H₁ ru S₁ c₁ F₁ k=>?_)
 refine Ev.then k R S₁ F₁ fun v s₂ q H₂ rv S₂ c₂ F₂ k=>?_
 obtain⟨l,k,e1,e2,hz,h⟩:=k
 exact Z2.calm (c₁.trans c₂) (GJ S₂ (ru.keeps c₂.q9) rv e1 e2 hz fun vs r=>DX S₂ r h)
set_option tactic.hygienic true in
theorem Ev.neg{a:PySem.Expr}{pos:Pos}(h:Ev g n env m H a fun p H₁=>match p with | .int i=>Q (.int (-i)) H₁|_=>False):Ev g n env m H (.UnaryOp .USub a pos) Q:=fun A s R S F=>by
 refine UnaryOp_ (h.then R S F fun u s₁ p H₁ ru S₁ c₁ F₁ k=>?_)
 cases p<;>first|exact(show False from k).elim|skip
 case int i=>obtain⟨t,rfl⟩:=ru;exact Z2.calm c₁ (PySem.P.neg_int (n6 (p:=.int _) S₁ ⟨_,rfl⟩ k _))
end
theorem qj(slice:PySem.Expr)(o i:Value):∃ops,subscripted slice false o i=operate ops (getItem o i):=by
 cases slice with
 |Slice _ _ c _=>cases c<;>exact⟨_,rfl⟩
 |_=>exact⟨_,rfl⟩
section
variable{K:Type} [DecidableEq K]
noncomputable def J7(k:K)(p:PV):List (K×PV)→List (K×PV)
 | []=>[(k,p)]
 |q::r=>if q.1=k then(k,p)::r else q::J7 k p r
noncomputable def jg(k:K):List (K×PV)→List (K×PV)
 | []=>[]
 |q::r=>if q.1=k then r else q::jg k r
noncomputable def g8(k:K):List (K×PV)→Option PV
 | []=>none
 |q::r=>if q.1=k then some q.2 else g8 k r
variable{k:K}{p:PV}{q:K×PV}{r:List (K×PV)}
theorem gG(e:q.1=k):J7 k p (q::r)=(k,p)::r:=if_pos e
theorem cU(e:¬q.1=k):J7 k p (q::r)=q::J7 k p r:=if_neg e
theorem Le(e:q.1=k):jg k (q::r)=r:=if_pos e
theorem Ai(e:¬q.1=k):jg k (q::r)=q::jg k r:=if_neg e
theorem aO(e:q.1=k):g8 k (q::r)=some q.2:=if_pos e
theorem U6(e:¬q.1=k):g8 k (q::r)=g8 k r:=if_neg e
theorem gH(k:K)(p:PV)(l:List (K×PV)):(J7 k p l).length≤l.length+1:=by
 induction l with
 |nil=>exact Nat.le_refl _
 |cons q r ih=>
  by_cases e:q.1=k
  ·rw [gG e];exact Nat.le_succ _
  ·rw [cU e];exact Nat.succ_le_succ ih
end
section
variable{J β:Type} [DecidableEq J]{j k:J}{b:β}{l:List (J×β)}
theorem xQ(e:j=k):(((j,b)::l).find? fun x=>decide (x.1=k)).map (·.2)=some b:=by rw [List.find?_cons_of_pos (p:=fun x:J×β=>decide (x.1=k)) (decide_eq_true e)];rfl
theorem qP(e:¬j=k):(((j,b)::l).find? fun x=>decide (x.1=k)).map (·.2)=(l.find? fun x=>decide (x.1=k)).map (·.2):=by rw [List.find?_cons_of_neg (p:=fun x:J×β=>decide (x.1=k)) fun h=>e (of_decide_eq_true h)]
variable{u v:Value}{kvs:List (J×Value)}
theorem Ea(n:k∉kvs.map (·.1)):stored ((k,u)::kvs) k v=(k,v)::kvs:=by
 refine(if_pos (congrArg (·|| kvs.any fun x=>decide (x.1=k)) (decide_eq_true rfl))).trans ?_
 rw [List.map_cons,if_pos rfl,map_store_of_not_mem kvs k v n]
theorem Eb(e:¬j=k):stored ((j,u)::kvs) k v=(j,u)::stored kvs k v:=by
 have z:((j,u)::kvs).any (fun x=>decide (x.1=k))=kvs.any fun x=>decide (x.1=k):=congrArg (·|| kvs.any fun x=>decide (x.1=k)) (decide_eq_false e)
 by_cases h:kvs.any (fun x=>decide (x.1=k))=true
 ·rw [show stored kvs k v=_ from if_pos h]
  refine(if_pos (z.trans h)).trans ?_
  rw [List.map_cons,if_neg e]
 ·rw [show stored kvs k v=_ from if_neg h]
  exact if_neg fun w=>h (z.symm.trans w)
end
section
variable{K J:Type} [DecidableEq K] [DecidableEq J]{f:K→J}(inj:∀a b,f a=f b→a=b){tab:Nat→Str}{h:Heap}{H:AH}{k:K}{l:List (K×PV)}{kvs:List (J×Value)}
theorem cC.length(r:cC f tab h H l kvs):kvs.length=l.length:=by
 induction r with
 |nil=>rfl
 |cons _ _ ih=>exact congrArg Nat.succ ih
include inj
theorem cC.get(k:K)(r:cC f tab h H l kvs):gD tab h H (g8 k l) (valueAt kvs (f k)):=by
 induction r with
 |nil=>rfl
 |@cons i p v _ _ q z ih=>
  by_cases e:i=k
  ·rw [aO e];exact⟨v,xQ (congrArg f e),q⟩
  ·rw [U6 e,show valueAt (_::_) (f k)=valueAt _ (f k) from qP fun w=>e (inj _ _ w)];exact ih
theorem cC.set(k:K){p:PV}{v:Value}(rv:Rep tab h H p v)(r:cC f tab h H l kvs)(nd:(kvs.map (·.1)).Nodup):cC f tab h H (J7 k p l) (stored kvs (f k) v):=by
 induction r with
 |nil=>exact .cons rv .nil
 |@cons i _ _ _ _ q z ih=>
  have n:=List.nodup_cons.mp nd
  by_cases e:i=k
  ·subst e;rw [gG (q:=(i,_)) rfl,Ea n.1];exact .cons rv z
  ·rw [cU e,Eb fun w=>e (inj _ _ w)];exact .cons q (ih n.2)
theorem cC.del(k:K)(r:cC f tab h H l kvs)(nd:(kvs.map (·.1)).Nodup):cC f tab h H (jg k l) (without kvs (f k)):=by
 induction r with
 |nil=>exact .nil
 |@cons i _ v _ r q z ih=>
  have n:=List.nodup_cons.mp nd
  by_cases e:i=k
  ·subst e
   rw [Le (q:=(i,_)) rfl,show without ((f i,v)::r) (f i)=without r (f i) from List.filter_cons_of_neg (p:=fun x:J×Value=>decide (x.1≠f i)) fun h=>(of_decide_eq_true h:f i≠f i) rfl,without_of_not_mem r _ n.1]
   exact z
  ·rw [Ai e,show without ((f i,v)::r) (f k)=(f i,v)::without r (f k) from List.filter_cons_of_pos (p:=fun x:J×Value=>decide (x.1≠f k)) (decide_eq_true fun w=>e (inj _ _ w))]
   exact .cons q (ih n.2)
end
set_option genInjectivity false in
set_option genSizeOf false in
structure KD{τ:T}(g:G τ)(K J:Type) [DecidableEq K] [DecidableEq J] where
 knd:KeyKind g.prog g.w J
 f:K→J
 inj:v9 g→∀a b,f a=f b→a=b
 ob:List (K×PV)→q7
 key:K→PV
 Wo:∀h H a l,jf g h H a (ob l) ↔ ∃kvs,h.DictOf knd a kvs∧cC f g.tab h H l kvs
 is:∀h H k v,Rep g.tab h H (key k) v→knd.is (f k) v=true
noncomputable def KD.int{τ:T}(g:G τ):KD g Int Int:=⟨intKind g.prog g.w,id,fun O O O e=>e,.m6,.int,fun O O O O=>.rfl,fun O O k v ⟨t,e⟩=>by subst e;simp [intKind,Value.isInt]⟩
noncomputable def KD.str{τ:T}(g:G τ):KD g Nat Str:=⟨PySem.strKind g.prog g.w,g.tab,fun hg=>hg.inj,.u0,.str,fun O O O O=>.rfl,fun O O k v ⟨t,e⟩=>by subst e;simp [PySem.strKind,Value.isStrOf]⟩
section
variable{τ:T}{g:G τ}{n:Nat}{env:Env}{m:Loc}{H:AH}{Q:PV→AH→Prop}{A:Around}{s:Shared}
theorem nY{a:Addr}{o:q7}(hg:v9 g)(S:n8 g s H)(e:H a=some o):(a==sysModules)=false:=by
 rw [beq_eq_false_iff_ne]
 intro z
 exact hg.mods (z▸S.fresh a (by rw [e];simp))
section
variable{K J:Type} [DecidableEq K] [DecidableEq J](D:KD g K J)
theorem KD.rep{a:Addr}{l:List (K×PV)}(S:n8 g s H)(e:H a=some (D.ob l)):∃kvs,s.heap.DictOf D.knd a kvs∧cC D.f g.tab s.heap H l kvs:=(D.Wo _ _ _ _).mp (S.obj _ _ e)
theorem KD.getItem(hg:v9 g){a:Addr}{l:List (K×PV)}{k:K}{r:PV}{kv:Value}(S:n8 g s H)(e:H a=some (D.ob l))(rk:Rep g.tab s.heap H (D.key k) kv)(hk:g8 k l=some r)(q:Q r H):
  W g A (getItem (.ref a) kv) s H Q:=by
 obtain⟨kvs,hd,hr⟩:=D.rep S e
 have:=hr.get (D.inj hg) k
 rw [hk] at this
 obtain⟨u,hu,ru⟩:=this
 exact wpAny_getItem_of (D.is _ _ _ _ rk) hd.mapOf hu (n6 S ru q _)
theorem KD.isIn(hg:v9 g){a:Addr}{l:List (K×PV)}{k:K}{kv:Value}{P:Value→Shared→Prop}{E:Value→Shared→Prop}(S:n8 g s H)(e:H a=some (D.ob l))(rk:Rep g.tab s.heap H (D.key k) kv):
  (P (.bool (g8 k l).isSome) {s with toks:=s.toks+1}→wpAny (model g.prog g.w) A (compareOp .In kv (.ref a)) P E s)∧(P (.bool (!(g8 k l).isSome)) {s with toks:=s.toks+1}→wpAny (model g.prog g.w) A (compareOp .NotIn kv (.ref a)) P E s):=by
 obtain⟨kvs,hd,hr⟩:=D.rep S e
 have:=hr.get (D.inj hg) k
 have eq:(valueAt kvs (D.f k)).isSome=(g8 k l).isSome:=by
  cases z:g8 k l with
  |none=>rw [z] at this;rw [show valueAt kvs (D.f k)=none from this];rfl
  |some r=>rw [z] at this;obtain⟨u,hu,_⟩:=this;rw [hu];rfl
 exact⟨fun h=>wpAny_in_of (D.is _ _ _ _ rk) (nY hg S e) hd.mapOf (by rw [eq];exact h),fun h=>wpAny_notIn_of (D.is _ _ _ _ rk) (nY hg S e) hd.mapOf (by rw [eq];exact h)⟩
theorem KD.setItem(hg:v9 g){a:Addr}{l:List (K×PV)}{k:K}{p:PV}{kv v:Value}(S:n8 g s H)(e:H a=some (D.ob l))(rk:Rep g.tab s.heap H (D.key k) kv)(rv:Rep g.tab s.heap H p v)(hz:l.length≤sizeLine):
  wpAny (model g.prog g.w) A (setItem (.ref a) kv v) (fun O s'=>n8 g s' (upd H a (D.ob (J7 k p l)))∧Calm s.heap H s'.heap (upd H a (D.ob (J7 k p l)))) (fun O O=>False) s:=by
 obtain⟨kvs,hd,hr⟩:=D.rep S e
 have nd:(kvs.map (·.1)).Nodup:=hd.elim fun O z=>z.elim fun O z=>z.elim fun O z=>z.2.2.2.2.2
 refine wpAny_setItem_pairs (D.is _ _ _ _ rk) hd (fun h' hd' B=>?_) (by rw [hr.length];exact hz)
 exact S.turn e B ((D.Wo _ _ _ _).mpr ⟨_,hd',(hr.set (D.inj hg) k rv nd).keeps (aJ S e B)⟩) (s.toks+1)
end
end
section
variable{τ:T}{g:G τ}{n:Nat}{env:Env}{m:Loc}{H:AH}{Q:PV→AH→Prop}{A:Around}{s:Shared}
theorem rE(R:J5 n A):A.in1.units<cLine:=by
 have:=R.units
 show A.units+1<cLine
 lia
theorem Ec{i j:Int}{v:Value}(r:Rep g.tab s.heap H (.tup [.int i,.int j]) v):∃a,v = .ref a∧IsTupleKey (intKind g.prog g.w) s.heap [i,j] a:=by
 obtain⟨a,vs,k,rfl,o,v1,r1,rfl,⟨t1,rfl⟩,v2,r2,rfl,⟨t2,rfl⟩,rfl⟩:=r
 exact⟨a,rfl,_,_,_,o,rfl,rfl,.cons (by simp [intKind,Value.isInt]) (.cons (by simp [intKind,Value.isInt]) .nil)⟩
theorem GK{i j i' j':Int}(e:¬(i',j')=(i,j)):¬ [i',j']=[i,j]:=fun w=>by cases w;exact e rfl
theorem Ed{k:List Int}{v:Value}{xs:List (List Int×Addr×Value)}(h:k∉xs.map (·.1)):xs.map (putAt k v)=xs:=by
 induction xs with
 |nil=>rfl
 |cons x xs ih=>
  have h':k∉x.1::xs.map (·.1):=h
  rw [List.map_cons,ih fun z=>h' (.tail _ z),show putAt k v x=x from if_neg fun(e:x.1=k)=>h' (e▸.head _)]
section
variable{h:Heap}{tab:Nat→Str}{l:List ((Int×Int)×PV)} {xs:List (List Int×Addr×Value)}
theorem J2.get(i j:Int)(r:J2 tab h H l xs):gD tab h H (g8 (i,j) l) ((atKey xs [i,j]).map (·.2)):=by
 induction r with
 |nil=>rfl
 |@cons i' j' _ c v _ _ q z ih=>
  by_cases e:(i',j')=(i,j)
  ·cases e;rw [aO (q:=((_,_),_)) rfl];exact⟨v,congrArg (Option.map fun x:Addr×Value=>x.2) (xQ rfl),q⟩
  ·rw [U6 e,show atKey (_::_) [i,j]=atKey _ [i,j] from qP (GK e)];exact ih
theorem J2.length(r:J2 tab h H l xs):xs.length=l.length:=by
 induction r with
 |nil=>rfl
 |cons _ _ ih=>exact congrArg Nat.succ ih
theorem J2.set(i j:Int)(a:Addr){p:PV}{v:Value}(rv:Rep tab h H p v)(r:J2 tab h H l xs)(nd:(xs.map (·.1)).Nodup):J2 tab h H (J7 (i,j) p l) (storedH xs [i,j] a v):=by
 induction r with
 |nil=>exact .cons rv .nil
 |@cons i' j' _ c u _ r q z ih=>
  have n:=List.nodup_cons.mp nd
  by_cases e:(i',j')=(i,j)
  ·cases e
   rw [gG (q:=((_,_),_)) rfl,storedH_old (xQ rfl),List.map_cons,show putAt [i,j] v ([i,j],c,u)=([i,j],c,v) from if_pos rfl,Ed n.1]
   exact .cons rv z
  ·have ih:=ih n.2
   have e':=GK e
   rw [cU e]
   cases k:atKey r [i,j] with
   |none=>rw [storedH_new k] at ih;rw [storedH_new ((qP e').trans k)];exact .cons q ih
   |some x=>rw [storedH_old k] at ih;rw [storedH_old ((qP e').trans k),List.map_cons,show putAt [i,j] v ([i',j'],c,u)=([i',j'],c,u) from if_neg e'];exact .cons q ih
end
theorem ai9(hg:v9 g){a:Addr}{l:List ((Int×Int)×PV)} {i j:Int} {r:PV} {kv:Value} (R:J5 n A) (S:n8 g s H) (e:H a=some (.z6 l)) (rk:Rep g.tab s.heap H (.tup [.int i,.int j]) kv) (hk:g8 (i,j) l=some r) (q:Q r H):
  W g A (getItem (.ref a) kv) s H Q:=by
 obtain⟨xs,hd,hr⟩:=S.obj _ _ e
 obtain⟨b,rfl,hkey⟩:=Ec rk
 have:=hr.get i j
 rw [hk] at this
 obtain⟨u,hu,ru⟩:=this
 obtain⟨pr,hp,rfl⟩:=Option.map_eq_some_iff.mp hu
 exact wpAny_getItem_heap (knd:=tupleKind (intKind g.prog g.w)) (rE R) hkey hd hp (n6 S ru q _)
theorem tin(hg:v9 g){a:Addr}{l:List ((Int×Int)×PV)} {i j:Int} {kv:Value} {P:Value→Shared→Prop} {E:Value→Shared→Prop} (R:J5 n A) (S:n8 g s H) (e:H a=some (.z6 l)) (rk:Rep g.tab s.heap H (.tup [.int i,.int j]) kv)
  (h:∀t,P (.bool (g8 (i,j) l).isSome) {s with toks:=t}):wpAny (model g.prog g.w) A (compareOp .In kv (.ref a)) P E s:=by
 obtain⟨xs,hd,hr⟩:=S.obj _ _ e
 obtain⟨b,rfl,hkey⟩:=Ec rk
 have:=hr.get i j
 have eq:(atKey xs [i,j]).isSome=(g8 (i,j) l).isSome:=by
  cases z:g8 (i,j) l with
  |none=>rw [z] at this;have t:(atKey xs [i,j]).map (·.2)=none:=this;rw [Option.map_eq_none_iff] at t;rw [t];rfl
  |some r=>rw [z] at this;obtain⟨u,hu,_⟩:=this;obtain⟨pr,hp,rfl⟩:=Option.map_eq_some_iff.mp hu;rw [hp];rfl
 exact wpAny_in_heap (knd:=tupleKind (intKind g.prog g.w)) (rE R) hkey (nY hg S e) hd (by rw [eq];exact h _)
theorem aj0(hg:v9 g){a:Addr}{l:List ((Int×Int)×PV)} {i j:Int} {p:PV} {kv v:Value} (R:J5 n A) (S:n8 g s H) (e:H a=some (.z6 l)) (rk:Rep g.tab s.heap H (.tup [.int i,.int j]) kv) (rv:Rep g.tab s.heap H p v) (hz:l.length≤sizeLine):
  wpAny (model g.prog g.w) A (setItem (.ref a) kv v) (fun O s'=>n8 g s' (upd H a (.z6 (J7 (i,j) p l)))∧Calm s.heap H s'.heap (upd H a (.z6 (J7 (i,j) p l)))) (fun O O=>False) s:=by
 obtain⟨xs,hd,hr⟩:=S.obj _ _ e
 obtain⟨b,rfl,hkey⟩:=Ec rk
 have nd:(xs.map (·.1)).Nodup:=hd.elim fun O z=>z.elim fun O z=>z.elim fun O z=>z.2.2.2.2.2
 refine wpAny_setItem_heap (knd:=tupleKind (intKind g.prog g.w)) (rE R) hkey hd (fun h' hd' B=>?_) (by rw [hr.length];exact hz)
 exact S.turn (o':=.z6 (J7 (i,j) p l)) e B ⟨_,hd',(hr.set i j b rv nd).keeps (aJ S e B)⟩ _
noncomputable def Ef(l:List PV)(i:Int):Option PV:=
 if 0≤i then(if i<2 ^ 62 then l[i.toNat]? else none)
 else if 0≤i+l.length∧ -(2 ^ 62)<i then l[(i+l.length).toNat]? else none
theorem wC(i:Int)(n:Nat):seqIndex? i n=if i<0 then(if 0≤i+n then some (i+n).toNat else none) else if i<n then some i.toNat else none:=by
 unfold seqIndex?
 by_cases h:i<0
 ·simp only [h,if_true,Bool.and_eq_true,decide_eq_true_eq]
  by_cases h2:0≤i+n
  ·rw [if_pos ⟨h2,by lia⟩,if_pos h2]
  ·rw [if_neg (fun z=>h2 z.1),if_neg h2]
 ·simp only [h,if_false,Bool.and_eq_true,decide_eq_true_eq]
  by_cases h2:i<n
  ·rw [if_pos ⟨by lia,h2⟩,if_pos h2]
  ·rw [if_neg (fun z=>h2 z.2),if_neg h2]
theorem GP{α:Type}{c:Prop} [Decidable c]{x:Option α}{y:α}(h:(if c then x else none)=some y):c∧x=some y:=by
 by_cases k:c
 ·rw [if_pos k] at h;exact⟨k,h⟩
 ·rw [if_neg k] at h;cases h
theorem GQ{l:List PV}{i:Int}{p:PV}(h:Ef l i=some p) : -(2 ^ 63)≤i∧i<2 ^ 63∧∃k,seqIndex? i l.length=some k∧l[k]? = some p:=by
 rw [wC]
 by_cases q:0≤i
 ·obtain⟨h2,h⟩:=GP ((if_pos q).symm.trans h)
  have hk:=(List.getElem?_eq_some_iff.mp h).1
  exact⟨by lia,by lia,i.toNat,by rw [if_neg (by lia),if_pos (by lia)],h⟩
 ·obtain⟨h2,h⟩:=GP ((if_neg q).symm.trans h)
  exact⟨by lia,by lia,_,by rw [if_pos (by lia),if_pos h2.1],h⟩
noncomputable def intOf:PV→Option Int
 |.int i=>some i
 |_=>none
noncomputable def Zq:List PV→Option (Int×Int)
 | [a,b]=>(intOf a).bind fun i=>(intOf b).map (Prod.mk i)
 |_=>none
noncomputable def pairOf:PV→Option (Int×Int)
 |.tup l=>Zq l
 |_=>none
theorem rF{p:PV}{i:Int}(h:intOf p=some i):p = .int i:=by
 cases p<;>first|(cases h;done)|skip
 cases h;rfl
set_option tactic.hygienic true in
theorem Aj{p:PV}{ij:Int×Int}(h:pairOf p=some ij):p = .tup [.int ij.1,.int ij.2]:=by
 cases p<;>first|exact nomatch (show none=some ij from h)|skip
 case tup l=>
  rcases l with _|⟨a,_|⟨b,_|⟨c,l⟩⟩⟩<;>first|exact nomatch (show none=some ij from h)|skip
  obtain⟨i,h1,h⟩:=Option.bind_eq_some_iff.mp (show((intOf a).bind fun i=>(intOf b).map (Prod.mk i))=some ij from h)
  obtain⟨j,h2,rfl⟩:=Option.map_eq_some_iff.mp h
  rw [rF h1,rF h2]
inductive xR{τ:T}(g:G τ)(H:AH)(Q:PV→AH→Prop):PV→PV→Prop
 |tup {l:List PV} {i:Int} {r:PV} (e:Ef l i=some r) (h:Q r H):xR g H Q (.tup l) (.int i)
 |lst {l:List PV} {i:Int} {r:PV} (e:Ef l i=some r) (h:Q r H):xR g H Q (.lst l) (.int i)
 |sd {a:Addr} {k:Nat} {r:PV} (e:τ.u0 a k=some r) (h:Q r H):xR g H Q (.obj a) (.str k)
 |ol {a:Addr} {l:List PV} {i:Int} {r:PV} (o:H a=some (.list l)) (e:Ef l i=some r) (h:Q r H):xR g H Q (.obj a) (.int i)
 |od {a:Addr} {l:List (Int×PV)} {k:Int} {r:PV} (o:H a=some (.m6 l)) (e:g8 k l=some r) (h:Q r H):xR g H Q (.obj a) (.int k)
 |os {a:Addr} {l:List (Nat×PV)} {k:Nat} {r:PV} (o:H a=some (.u0 l)) (e:g8 k l=some r) (h:Q r H):xR g H Q (.obj a) (.str k)
 |ot {a:Addr} {l:List ((Int×Int)×PV)} {i j:Int} {r:PV} (o:H a=some (.z6 l)) (e:g8 (i,j) l=some r) (h:Q r H):xR g H Q (.obj a) (.tup [.int i,.int j])
noncomputable abbrev Ra(g:G τ)(p q:PV)(H:AH)(Q:PV→AH→Prop):Prop:=xR g H Q p q
theorem Z9{value slice:PySem.Expr}{o i:Value}{T id:String}{P:Value→Shared→Prop}{E:Value→Shared→Prop}(hT:s.TypeIs o T)(hl:typeLookup (.type T) "__getitem__" = pure (some (.builtin id)))
  (h:wpAny (model g.prog g.w) A (getItem o i) P E s):wpAny (model g.prog g.w) A (subscriptTail value slice o i) P E s:=
 let⟨_,e⟩:=qj slice o i
 tail_any hT hl h e
theorem Ak{l:List PV}{i:Int}{r:PV}{u:Value}{value slice:PySem.Expr}(S:n8 g s H){p:PV}(ru:Rep g.tab s.heap H p u)(e:p = .lst l∨∃a,p = .obj a∧H a=some (.list l)){t:Tok}(hr:Ef l i=some r)(q:Q r H):
  W g A (subscriptTail value slice u (.int i t)) s H Q:=by
 obtain⟨a,vs,k,rfl,o,rl⟩:=U5 (h:=s.heap) S ru e
 obtain⟨lo,hi,j,hj,hj'⟩:=GQ hr
 obtain⟨x,hx,rx⟩:=rl.get hj'
 have hl:s.heap.IsList a vs.toArray:=⟨_,o,rfl,_,rfl⟩
 refine Z9 hl.typeIs slot_list_getitem.lookup ?_
 have z:Z2 g s H Q x s:=n6 S rx q s.toks
 rw [wC] at hj
 by_cases h0:i<0
 ·rw [if_pos h0] at hj
  have e2:=rl.length
  have e3:vs.toArray.size=l.length:=by rw [List.size_toArray,e2]
  obtain⟨h1,rfl⟩:=aN hj
  exact wpAny_getItem_list_neg hl h0 (by lia) (by lia) (by rw [e3];simpa using hx) z
 ·rw [if_neg h0] at hj
  obtain⟨h1,rfl⟩:=aN hj
  exact wpAny_getItem_list hl (by lia) hi (by simpa using hx) z
theorem Wq{p q:PV}{u v:Value}{value slice:PySem.Expr}(hg:v9 g)(R:J5 n A)(S:n8 g s H)(ru:Rep g.tab s.heap H p u)(rv:Rep g.tab s.heap H q v)(h:Ra g p q H Q):
  W g A (subscriptTail value slice u v) s H Q:=by
 cases h with
 |@tup l i r hr h=>
  obtain⟨t,rfl⟩:=rv
  obtain⟨a,vs,k,rfl,o,rl⟩:=ru
  obtain⟨lo,hi,j,hj,hj'⟩:=GQ hr
  obtain⟨x,hx,rx⟩:=rl.get hj'
  have hT:IsTup s.heap a vs.toArray:=⟨_,o,rfl,_,rfl⟩
  exact Z9 hT.typeIs slot_tuple_getitem.lookup (getItem_tuple hT lo hi (by rw [List.size_toArray,rl.length];exact hj) (by simpa using hx) (n6 S rx h s.toks))
 |lst hr h=>obtain⟨t,rfl⟩:=rv;exact Ak (t:=t) S ru (.inl rfl) hr h
 |@sd a k r hr h=>
  cases ru
  obtain⟨mm,x,hm,hx,rx⟩:=hg.sd _ _ _ hr
  have hm':s.heap.MapOf (PySem.strKind g.prog g.w) a mm:=let⟨o,es,ep,e1,e2⟩:=hm;⟨o,es,ep,S.keep _ _ e1,e2⟩
  obtain⟨t,rfl⟩:=rv
  exact Z9 hm'.typeIs slot_dict_getitem.lookup (wpAny_getItem_of (strKind_is g.prog g.w (g.tab k) t) hm' hx (n6 S (rx.keeps S.static) h _))
 |ol o hr h=>obtain⟨t,rfl⟩:=rv;exact Ak (t:=t) S ru (.inr ⟨_,rfl,o⟩) hr h
 |od o hr h=>cases ru;obtain⟨kvs,hd,_⟩:=(KD.int g).rep S o;exact Z9 hd.typeIs slot_dict_getitem.lookup ((KD.int g).getItem hg S o rv hr h)
 |os o hr h=>cases ru;obtain⟨kvs,hd,_⟩:=(KD.str g).rep S o;exact Z9 hd.typeIs slot_dict_getitem.lookup ((KD.str g).getItem hg S o rv hr h)
 |ot o hr h=>cases ru;obtain⟨xs,hd,_⟩:=S.obj _ _ o;exact Z9 hd.typeIs slot_dict_getitem.lookup (ai9 hg R S o rv hr h)
theorem Ev.sub{a b:PySem.Expr}{pos:Pos}(hg:v9 g)(h:Ev g n env m H a fun p H₁=>Ev g n env m H₁ b fun q H₂=>Ra g p q H₂ Q):Ev g n env m H (.Subscript a b pos) Q:=fun A s R S F=>by
 refine Subscript_ (h.then R S F fun u s₁ p H₁ ru S₁ c₁ F₁ k=>?_)
 refine Ev.then k R S₁ F₁ fun v s₂ q H₂ rv S₂ c₂ F₂ k=>?_
 exact Z2.calm (c₁.trans c₂) (Wq hg R S₂ (ru.keeps c₂.q9) rv k)
end
noncomputable def Wr:PySem.CmpOp→Int→Int→Option Bool
 |.Lt,a,b=>some (decide (a<b))
 |.LtE,a,b=>some (decide (a≤b))
 |.Gt,a,b=>some (decide (b<a))
 |.GtE,a,b=>some (decide (b≤a))
 |_,_,_=>none
noncomputable def isNone:PV→Bool
 |.none=>true
 |_=>false
inductive Ws(H:AH)(Q:Bool→Prop):PV→PV→Prop
 |tup {p:PV} {l:List PV} (o:La p (vf H l)) (h:Q ((vf H l).any fun y=>y.eqv p)):Ws H Q p (.tup l)
 |lst {p:PV} {l:List PV} (o:La p l) (h:Q (l.any fun y=>y.eqv p)):Ws H Q p (.lst l)
 |ol {p:PV} {a:Addr} {l:List PV} (e:H a=some (.list l)) (o:La p l) (h:Q (l.any fun y=>y.eqv p)):Ws H Q p (.obj a)
 |od {k:Int} {a:Addr} {l:List (Int×PV)} (e:H a=some (.m6 l)) (h:Q (g8 k l).isSome):Ws H Q (.int k) (.obj a)
 |os {k:Nat} {a:Addr} {l:List (Nat×PV)} (e:H a=some (.u0 l)) (h:Q (g8 k l).isSome):Ws H Q (.str k) (.obj a)
 |ot {i j:Int} {a:Addr} {l:List ((Int×Int)×PV)} (e:H a=some (.z6 l)) (h:Q (g8 (i,j) l).isSome):Ws H Q (.tup [.int i,.int j]) (.obj a)
noncomputable abbrev InP(p q:PV)(H:AH)(Q:Bool→Prop):Prop:=Ws H Q p q
noncomputable def NoT(q:PV)(H:AH):Prop := ∀a l,q = .obj a→H a=some (.z6 l)→False
inductive xT(H:AH)(Q:Bool→Prop):PySem.CmpOp→PV→PV→Prop
 |eq {p q:PV} (o:Ag H p q) (h:Q ((res H p).eqv (res H q))):xT H Q .Eq p q
 |ne {p q:PV} (o:Ag H p q) (h:Q (!(res H p).eqv (res H q))):xT H Q .NotEq p q
 |is {p:PV} (h:Q (isNone p)):xT H Q .Is p .none
 |isn {p:PV} (h:Q (!isNone p)):xT H Q .IsNot p .none
 |mem {p q:PV} (h:InP p q H Q):xT H Q .In p q
 |nmem {p q:PV} (n:NoT q H) (h:InP p q H fun b=>Q (!b)):xT H Q .NotIn p q
 |ord {op:PySem.CmpOp} {a b:Int} {c:Bool} (e:Wr op a b=some c) (h:Q c):xT H Q op (.int a) (.int b)
noncomputable abbrev Al(op:PySem.CmpOp)(p q:PV)(H:AH)(Q:Bool→Prop):Prop:=xT H Q op p q
section
variable{τ:T}{g:G τ}{n:Nat}{env:Env}{m:Loc}{H:AH}{A:Around}{s:Shared}
theorem Am{p:PV}{v:Value}(r:Rep g.tab s.heap H p v):(v == .none)=isNone p:=by
 cases p
 case none=>cases r;rfl
 case bool=>cases r;rfl
 case int=>obtain⟨_,rfl⟩:=r;rfl
 case str=>obtain⟨_,rfl⟩:=r;rfl
 case tup=>obtain⟨_,_,_,rfl,_⟩:=r;rfl
 case lst=>obtain⟨_,_,_,rfl,_⟩:=r;rfl
 case obj=>cases r;rfl
 case blt=>obtain⟨rfl,_⟩:=r;rfl
 case typ=>cases r;rfl
 case rng=>obtain⟨_,_,_,_,rfl,_⟩:=r;rfl
theorem Va{p q:PV}{u v:Value}{P:Value→Shared→Prop}{E:Value→Shared→Prop}{B:Bool→Prop}(hg:v9 g)(R:J5 n A)(S:n8 g s H)(ru:Rep g.tab s.heap H p u)(rv:Rep g.tab s.heap H q v)(h:InP p q H B):
  ((∀b,B b→∀t,P (.bool b) {s with toks:=t})→wpAny (model g.prog g.w) A (compareOp .In u v) P E s)∧
  (NoT q H→(∀b,B b→∀t,P (.bool (!b)) {s with toks:=t})→wpAny (model g.prog g.w) A (compareOp .NotIn u v) P E s):=by
 cases h with
 |@tup _ l o h=>have c:=Lb (P:=P) (E:=E) hg R S ru rv (.inl (show res H (.tup l) = .tup (vf H l) from rfl)) o;exact⟨fun k=>c.1 (k _ h s.toks),fun O k=>c.2 (k _ h s.toks)⟩
 |lst o h=>have c:=Lb (P:=P) (E:=E) hg R S ru rv (.inr rfl) o;exact⟨fun k=>c.1 (k _ h s.toks),fun O k=>c.2 (k _ h s.toks)⟩
 |@ol _ a l e o h=>have c:=Lb (P:=P) (E:=E) hg R S ru rv (.inr (show res H (.obj a) = .lst l by rw [qO,e])) o;exact⟨fun k=>c.1 (k _ h s.toks),fun O k=>c.2 (k _ h s.toks)⟩
 |od e h=>cases rv;have c:=(KD.int g).isIn (A:=A) (P:=P) (E:=E) hg S e ru;exact⟨fun z=>c.1 (z _ h _),fun O z=>c.2 (z _ h _)⟩
 |os e h=>cases rv;have c:=(KD.str g).isIn (A:=A) (P:=P) (E:=E) hg S e ru;exact⟨fun z=>c.1 (z _ h _),fun O z=>c.2 (z _ h _)⟩
 |ot e h=>cases rv;exact⟨fun z=>tin hg R S e ru fun t=>z _ h t,fun z=>(z _ _ rfl e).elim⟩
theorem xU{op:PySem.CmpOp}{p q:PV}{u v:Value}{P:Value→Shared→Prop}{E:Value→Shared→Prop}{B:Bool→Prop}(hg:v9 g)(R:J5 n A)(S:n8 g s H)(ru:Rep g.tab s.heap H p u)(rv:Rep g.tab s.heap H q v)(h:Al op p q H B)
  (k:∀b,B b→∀t,P (.bool b) {s with toks:=t}):wpAny (model g.prog g.w) A (compareOp op u v) P E s:=by
 cases h with
 |eq o h=>exact Zj hg R S ru rv o (k _ h s.toks)
 |ne o h=>exact Zk hg R S ru rv o (k _ h s.toks)
 |is h=>cases rv;exact is_none_gen (by rw [Am ru];exact k _ h s.toks)
 |isn h=>cases rv;exact isnot_none_gen (by rw [Am ru];exact k _ h s.toks)
 |mem h=>exact(Va hg R S ru rv h).1 k
 |nmem n h=>exact(Va (B:=fun b=>B (!b)) hg R S ru rv h).2 n fun b hb t=>k (!b) hb t
 |ord e h=>
  obtain⟨t,rfl⟩:=ru;obtain⟨t',rfl⟩:=rv
  cases op<;>cases e
  ·exact PySem.P.lt_int (k _ h s.toks)
  ·exact PySem.P.le_int (k _ h s.toks)
  ·exact PySem.P.gt_int (k _ h s.toks)
  ·exact PySem.P.ge_int (k _ h s.toks)
theorem Ev.cmp{a b:PySem.Expr}{op:PySem.CmpOp}{pos:Pos}{Q:PV→AH→Prop}(hg:v9 g)(hm:behindInMarks op b=false)(h:Ev g n env m H a fun p H₁=>Ev g n env m H₁ b fun q H₂=>Al op p q H₂ fun c=>Q (.bool c) H₂):Ev g n env m H (.Compare a [op] [b] pos) Q:=fun A s R S F=>by
 refine wpAny_Compare1 (h.then R S F fun u s₁ p H₁ ru S₁ c₁ F₁ k=>?_) hm
 refine Ev.then k R S₁ F₁ fun v s₂ q H₂ rv S₂ c₂ F₂ k=>?_
 exact xU hg R S₂ (ru.keeps c₂.q9) rv k fun c hc t=>(n6 (p:=.bool c) S₂ rfl hc t).step (c₁.trans c₂)
theorem Ts.cmp{a b:PySem.Expr}{op:PySem.CmpOp}{pos:Pos}{Q:Bool→AH→Prop}(hg:v9 g)(hm:behindInMarks op b=false)(h:Ev g n env m H a fun p H₁=>Ev g n env m H₁ b fun q H₂=>Al op p q H₂ fun c=>Q c H₂):Ts g n env m H (.Compare a [op] [b] pos) Q:=fun A s R S F=>by
 refine wpAny_isTrue_Compare1 (h.then R S F fun u s₁ p H₁ ru S₁ c₁ F₁ k=>?_) hm
 refine Ev.then k R S₁ F₁ fun v s₂ q H₂ rv S₂ c₂ F₂ k=>?_
 exact xU hg R S₂ (ru.keeps c₂.q9) rv k fun c hc t=>wpAny_truthy_bool ⟨H₂,S₂.tok t,c₁.trans c₂,hc⟩
theorem Ev.Rb{a b c:PySem.Expr}{o1 o2:PySem.CmpOp}{pos:Pos}{Q:PV→AH→Prop}(hg:v9 g)(hm:lastMarks [o1,o2] [b,c]=false)(h:Ev g n env m H a fun p H₁=>Ev g n env m H₁ b fun q H₂=>Al o1 p q H₂ fun x=>if x then Ev g n env m H₂ c fun r H₃=>Al o2 q r H₃ fun y=>Q (.bool y) H₃ else Q (.bool false) H₂):Ev g n env m H (.Compare a [o1,o2] [b,c] pos) Q:=fun A s R S F=>by
 refine Compare_chain (h.then R S F fun u s₁ p H₁ ru S₁ c₁ F₁ k=>?_) hm
 refine chain_link (Ev.then k R S₁ F₁ fun v s₂ q H₂ rv S₂ c₂ F₂ k=>?_)
 refine xU hg R S₂ (ru.keeps c₂.q9) rv k fun x hx t=>wpAny_truthy_bool ?_
 cases x with
 |false=>exact(n6 (p:=.bool false) S₂ rfl hx t).step (c₁.trans c₂)
 |true=>
  refine chain_last (Ev.then (H:=H₂) hx R (S₂.tok t) F₂ fun w s₃ r H₃ vg S₃ c₃ F₃ k=>?_)
  have rv':Rep g.tab s₃.heap H₃ q v:=rv.keeps c₃.q9
  exact xU hg R S₃ rv' vg k fun y hy t'=>(n6 (p:=.bool y) S₃ rfl hy t').step ((c₁.trans c₂).trans c₃)
noncomputable def aP(p:PV)(Q:Bool→Prop):Prop:=
 match p with
 |.none=>Q false
 |.bool b=>Q b
 |.int i=>Q (i != 0)
 |_=>False
theorem lC{p:PV}{v:Value}{B:Bool→Prop}{P:Bool→Shared→Prop}{E:Value→Shared→Prop}(r:Rep g.tab s.heap H p v)(h:aP p B)(k:∀b,B b→P b s):wpAny (model g.prog g.w) A (truthy v) P E s:=by
 cases p<;>first|exact(show False from h).elim|skip
 case none=>cases r;exact wpAny_pure (k _ h)
 case bool=>cases r;exact wpAny_truthy_bool (k _ h)
 case int=>obtain⟨t,rfl⟩:=r;exact PySem.P.truthy_int (k _ h)
noncomputable def plainT(e:PySem.Expr):Prop := ∀env whole,isTrue e env whole=(do let v ← whole;standAt e.pos;holding [v] (truthy v))
theorem Ts.plain{e:PySem.Expr}{Q:Bool→AH→Prop}(hp:plainT e)(h:Ev g n env m H e fun p H'=>aP p fun b=>Q b H'):Ts g n env m H e Q:=fun A s R S F=>by
 refine isTrue_plain (h.then R S F fun v s' p H' r S' c F' q=>?_) (hp _ _)
 exact lC r q fun b hb=>⟨H',S',c,hb⟩
theorem Ev.not{e:PySem.Expr}{pos:Pos}{Q:PV→AH→Prop}(h:Ev g n env m H e fun p H'=>aP p fun b=>Q (.bool (!b)) H'):Ev g n env m H (.UnaryOp .Not e pos) Q:=fun A s R S F=>by
 refine UnaryOp_ (h.then R S F fun u s₁ p H₁ ru S₁ c₁ F₁ k=>?_)
 unfold unaryOp
 refine wpAny_holding ?_
 show wpAny _ _ (do return Value.bool (!(← truthy u))) _ _ _
 exact wpAny_bind (lC ru k fun b q=>wpAny_pure ⟨.bool (!b),H₁,rfl,S₁,c₁,q⟩)
theorem Ev.aj2{e:PySem.Expr}{pos:Pos}{Q:PV→AH→Prop}(h:Ev g n env m H e Q):Ev g n env m H (.BoolOp .And [e] pos) Q:=fun A s R S F=>BoolOp_one (h A s R S F)
theorem Ev.or1{e:PySem.Expr}{pos:Pos}{Q:PV→AH→Prop}(h:Ev g n env m H e Q):Ev g n env m H (.BoolOp .Or [e] pos) Q:=fun A s R S F=>BoolOp_one (h A s R S F)
theorem Ev.aj3{e e2:PySem.Expr}{es:List PySem.Expr}{pos:Pos}{Q:PV→AH→Prop}(h:Ev g n env m H e fun p H'=>aP p fun b=>if b then Ev g n env m H' (.BoolOp .And (e2::es) pos) Q else Q p H'):Ev g n env m H (.BoolOp .And (e::e2::es) pos) Q:=fun A s R S F=>by
 refine BoolOp_and (h.then R S F fun u s₁ p H₁ ru S₁ c₁ F₁ k=>lC ru k fun b q=>?_)
 cases b with
 |false=>exact⟨p,H₁,ru,S₁,c₁,q⟩
 |true=>exact Z2.calm c₁ (q A s₁ R S₁ F₁)
theorem Ev.orS{e e2:PySem.Expr}{es:List PySem.Expr}{pos:Pos}{Q:PV→AH→Prop}(h:Ev g n env m H e fun p H'=>aP p fun b=>if b then Q p H' else Ev g n env m H' (.BoolOp .Or (e2::es) pos) Q):Ev g n env m H (.BoolOp .Or (e::e2::es) pos) Q:=fun A s R S F=>by
 refine BoolOp_or (h.then R S F fun u s₁ p H₁ ru S₁ c₁ F₁ k=>lC ru k fun b q=>?_)
 cases b with
 |true=>exact⟨p,H₁,ru,S₁,c₁,q⟩
 |false=>exact Z2.calm c₁ (q A s₁ R S₁ F₁)
end
theorem Ji(b n:Nat)(hb:b≤n):Builtin.Slice.sliceAdjust none (some (b:Int)) 1 (n:Int)=(0,(b:Int)):=by
 unfold Builtin.Slice.sliceAdjust
 have h1:¬((1:Int)<0):=by lia
 have h2:¬((b:Int)<0):=by lia
 simp only [h1,h2,if_false]
 congr 1
 lia
theorem Jj(b:Nat):Builtin.Slice.slicePlaces 0 (b:Int) 1=b:=by
 unfold Builtin.Slice.slicePlaces
 have h1:(1:Int) > 0:=by exact Int.le_refl _
 simp only [h1,if_true,Int.ediv_one]
 split<;>lia
theorem W3{α β:Type}{f k:α→Option β}:∀{l:List α},(∀x∈l,f x=k x)→l.filterMap f=l.filterMap k
 | [],_=>rfl
 |x::l,h=>by rw [List.filterMap_cons,List.filterMap_cons,h x (.head _),W3 fun y hy=>h y (.tail _ hy)]
theorem Lf(items:Array Value):slicePick items none none (some (-1))=items.reverse:=by
 have hb:sliceBounds none none (some (-1)) items.size=((items.size:Int)-1,-1,-1):=by
  unfold sliceBounds
  simp
 unfold slicePick
 rw [hb]
 dsimp only
 have hr:sliceRange ((items.size:Int)-1) (-1) (-1)=(List.range items.size).map fun k=>items.size-1-k:=by
  unfold sliceRange
  have h1:¬((-1:Int) > 0):=by lia
  rw [if_neg h1]
  have hc:(if(items.size:Int)-1 > -1 then((items.size:Int)-1 - -1 - -1-1) / (- -1) else 0).toNat=items.size:=by
   split
   ·have:(- -1:Int)=1:=by lia
    rw [this,Int.ediv_one];lia
   ·lia
  dsimp only
  rw [hc]
  refine List.map_congr_left fun k hk=>?_
  have:=List.mem_range.mp hk
  lia
 rw [hr,List.filterMap_map]
 have e:=pick_run items.reverse 0 items.size
 rw [List.filterMap_map] at e
 have e2:(List.range items.size).filterMap ((fun x=>items[x]?) ∘ fun k=>items.size-1-k)=(List.range items.size).filterMap ((fun x=>items.reverse[x]?) ∘ fun x=>0+x):=by
  refine W3 fun k hk=>?_
  have hk':=List.mem_range.mp hk
  simp only [Function.comp_apply,Nat.zero_add]
  rw [Array.getElem?_reverse (by simpa using hk')]
 rw [e2,e,List.drop_zero,List.take_of_length_le (by simp)]
section
variable{τ:T}{g:G τ}{n:Nat}{env:Env}{m:Loc}{H:AH}{Q:PV→AH→Prop}{A:Around}{s:Shared}
theorem ql{sl:Addr}{b k:Nat}{u:Tok}{P:Int×Int×Nat→Shared→Prop}{E:Value→Shared→Prop}(hs:s.heap.IsSliceOf sl .none (.int b u) .none)(hb:b≤k)(h:P (0,1,b) s):
  wpAny (model g.prog g.w) A (Builtin.Slice.sliceApplied (.ref sl) (pure (k:Int))) P E s:=by
 obtain⟨os,hos,hcs,hds⟩:=id hs
 unfold Builtin.Slice.sliceApplied Builtin.Slice.sliceFields
 refine wpAny_bind (wpAny_bind (wpAny_field hos hds (x:=.none) rfl (wpAny_bind (wpAny_field hos hds (x:=.int b u) rfl (wpAny_bind (wpAny_field hos hds (x:=.none) rfl (wpAny_pure ?_)))))))
 refine wpAny_bind (slicePart_none ?_)
 show wpAny _ _ (if((1:Int)==0)=true then _ else _) _ _ s
 rw [if_neg (by decide)]
 refine wpAny_bind (slicePart_none (wpAny_bind (slicePart_int (wpAny_bind (wpAny_pure ?_)))))
 show wpAny _ _ (match Builtin.Slice.sliceAdjust none (some (b:Int)) 1 (k:Int) with|(lo,hi)=>pure (lo,(1:Int),Builtin.Slice.slicePlaces lo hi 1)) _ _ s
 rw [Ji b k hb]
 show wpAny _ _ (pure (0,(1:Int),Builtin.Slice.slicePlaces 0 (b:Int) 1)) _ _ s
 rw [Jj]
 exact wpAny_pure h
theorem nZ{t sl:Addr}{items:Array Value}{b:Nat}{u:Tok}{P:Value→Shared→Prop}{E:Value→Shared→Prop}(ht:IsTup s.heap t items)(hs:s.heap.IsSliceOf sl .none (.int b u) .none)(hb:b<items.size)
  (h:P (.ref s.heap.objs.size) {s with heap:=s.heap.push {cls:=.type "tuple",data:=.seq (items.toList.take b).toArray}})
  (hsz:items.size≤sizeLine):wpAny (model g.prog g.w) A (getItem (.ref t) (.ref sl)) P E s:=by
 have hdrop:sizeOk (.seq (items.toList.take b).toArray):=by
  show(items.toList.take b).toArray.size≤sizeLine
  rw [List.size_toArray,List.length_take,Array.length_toList]
  lia
 obtain⟨os,hos,hcs,hds⟩:=id hs
 have hTs:s.TypeIs (.ref sl) "slice" := ⟨os,hos,hcs⟩
 unfold getItem
 try with_reducible refine wpAny_holding ?_
 first|refine wpAny_bind (wpAny_pure ?_)|skip
 refine wpAny_bind (wpAny_sequenceKey ht.typeIs (by decide) ?_)
 refine wpAny_bind (wpAny_callSpecial?_slot (name:=Str.ofString "__getitem__") ht.typeIs slot_tuple_getitem
  (wpAny_call_entry slot_tuple_getitem ht.typeIs entry_tuple_getitem ?_ (args_tuple_getitem _ _)))
 show wpAny _ _ (Builtin.Tuple.tupleItemsOf (.ref t) >>= _) _ _ s
 refine wpAny_bind (tupleItemsOf_ ht ?_)
 refine wpAny_bind (wpAny_typeOf hTs ?_)
 rw [if_pos (by decide)]
 refine wpAny_bind (ql hs (Nat.le_of_lt hb) ?_)
 have hno:¬(((0:Int)==0&&(1:Int)==1&&b==items.size)=true):=by
  have:(b==items.size)=false:=by rw [beq_eq_false_iff_ne];exact Nat.ne_of_lt ‹_›
  rw [this];simp
 show wpAny _ _ (if((0:Int)==0&&(1:Int)==1&&b==items.size)=true then _ else _) _ _ s
 have pk:((List.range b).filterMap fun(k:Nat)=>items[((0:Int)+(k:Int)*1).toNat]?).toArray=(items.toList.take b).toArray:=by
  have e:(fun(k:Nat)=>items[((0:Int)+(k:Int)*1).toNat]?)=fun k=>items[0+k]? := by
   funext k
   have:((0:Int)+(k:Int)*1).toNat=0+k:=by exact Nat.add_comm ..
   rw [this]
  rw [e]
  have:=pick_run items 0 b
  rw [List.filterMap_map] at this
  have e2:((fun x=>items[x]?) ∘ fun x=>0+x)=fun k=>items[0+k]? := rfl
  rw [e2] at this
  rw [this,List.drop_zero]
 rw [if_neg hno,pk]
 first
  |exact wpAny_bind (m:=Builtin.Tuple.tupleExact _) (wpAny_newObj_type (wpAny_pure ⟨_,rfl,wpAny_pure h⟩) hdrop)
  |exact wpAny_bind (m:=Builtin.Tuple.tupleExact _) (wpAny_newObj_type (wpAny_bind (wpAny_pure (wpAny_pure ⟨_,rfl,wpAny_pure h⟩))) hdrop)
  |exact wpAny_bind (wpAny_bind (m:=Builtin.Tuple.tupleExact _) (wpAny_newObj_type (wpAny_pure (wpAny_pure ⟨_,rfl,wpAny_pure h⟩)) hdrop))
  |exact wpAny_bind (wpAny_bind (m:=Builtin.Tuple.tupleExact _) (wpAny_newObj_type (wpAny_pure ⟨_,rfl,wpAny_pure h⟩) hdrop))
noncomputable def YM(from_:Bool)(p:PV)(i:Int)(H:AH)(Q:PV→AH→Prop):Prop:=
 match p with
 |.tup l=>if from_ then(1≤i∧i≤l.length∧l.length≤sizeLine)∧Q (.tup (l.drop i.toNat)) H else(0≤i∧i<l.length∧l.length≤sizeLine)∧Q (.tup (l.take i.toNat)) H
 |p=>match v7 H p with
  |some l=>l.length≤sizeLine∧(if from_ then 0≤i∧Q (.lst (l.drop i.toNat)) H else if 0≤i then Q (.lst (l.take i.toNat)) H else Q (.lst (l.take (l.length-(-i).toNat))) H)
  |none=>False
theorem jN{x:Obj}(S:n8 g s H):n8 g {s with heap:=s.heap.push x} H∧Calm s.heap H (s.heap.push x) H:=⟨S.push x s.toks,Calm.push ..⟩
theorem iI{p:PV}{l:List PV}{u vl vu vs:Value}{lo hi st:Option Int}{l':List PV}{value slice:PySem.Expr}(S:n8 g s H)(ru:Rep g.tab s.heap H p u)(e:v7 H p=some l)(hz:l.length≤sizeLine)
  (pl:IsPart vl lo) (pu:IsPart vu hi) (ps:IsPart vs st) (h0:st≠some 0)
  (hp:∀{vs:List Value} {h:Heap},m8 g.tab h H l vs→∃ws,slicePick vs.toArray lo hi st=ws.toArray∧m8 g.tab h H l' ws) (q:Q (.lst l') H):
  wpAny (model g.prog g.w) A (subscriptTail value slice u (.ref s.heap.objs.size)) (Z2 g s H Q) (fun O O=>False) {s with heap:=s.heap.push {cls:=.type "slice",data:=.fields #[vl,vu,vs]}}:=by
 obtain⟨S',c⟩:=jN (x:={cls:=.type "slice",data:=.fields #[vl,vu,vs]}) S
 obtain⟨a,ws,k,rfl,o,rl⟩:=U5 (h:=s.heap) S ru (v8 e)
 obtain⟨zs,e1,rz⟩:=hp (rl.keeps c.q9)
 have hl:Heap.IsList (s.heap.push {cls:=.type "slice",data:=.fields #[vl,vu,vs]}) a ws.toArray:=⟨_,Heap.get?_push_of_some _ o,rfl,_,rfl⟩
 refine Z2.calm (s₁:={s with heap:=s.heap.push {cls:=.type "slice",data:=.fields #[vl,vu,vs]}}) c ?_
 refine Z9 (s:={s with heap:=s.heap.push {cls:=.type "slice",data:=.fields #[vl,vu,vs]}}) hl.typeIs slot_list_getitem.lookup (wpAny_getItem_list_slice hl (Heap.IsSliceOf.new ..) pl pu ps h0 ?_ (by rw [List.size_toArray,rl.length];exact hz))
 rw [e1]
 exact nW (s:={s with heap:=s.heap.push {cls:=.type "slice",data:=.fields #[vl,vu,vs]}}) S' rz q
set_option tactic.hygienic true in
theorem Ev.Wt{a b:PySem.Expr}{p pos:Pos}{Q:PV→AH→Prop}(hg:v9 g)(h:Ev g n env m H a fun p H₁=>Ev g n env m H₁ b fun q H₂=>match q with | .int i=>YM true p i H₂ Q|_=>False):Ev g n env m H (.Subscript a (.Slice (some b) none none p) pos) Q:=fun A s R S F=>by
 refine Subscript_ (h.then R S F fun u s₁ p H₁ ru S₁ c₁ F₁ k=>wpAny_Slice (Ev.then k R S₁ F₁ fun v s₂ q H₂ rv S₂ c₂ F₂ k=>?_))
 rw [evalPart_none]
 refine wpAny_pure (wpAny_pure ?_)
 refine wpAny_mono (Q:=Z2 g s₂ H₂ Q) (E:=fun O O=>False) ?_ (fun O O x=>x.step (c₁.trans c₂)) fun O O x=>x
 split at k
 ·next i=>
  obtain⟨t,rfl⟩:=rv
  have ru:=ru.keeps c₂.q9
  unfold YM at k
  split at k
  ·next l=>
   rw [if_pos rfl] at k
   obtain⟨⟨h1,h2,h3⟩,q⟩:=k
   obtain⟨a,vs,j,rfl,o,rl⟩:=ru
   obtain⟨S',c⟩:=jN (x:={cls:=.type "slice",data:=.fields #[.int i t,.none,.none]}) S₂
   have hT:IsTup (s₂.heap.push {cls:=.type "slice",data:=.fields #[.int i t,.none,.none]}) a vs.toArray:=⟨_,Heap.get?_push_of_some _ o,rfl,_,rfl⟩
   have ei:(i.toNat:Int)=i:=by lia
   refine Z2.calm (s₁:={s₂ with heap:=s₂.heap.push {cls:=.type "slice",data:=.fields #[.int i t,.none,.none]}}) c ?_
   refine Z9 (s:={s₂ with heap:=s₂.heap.push {cls:=.type "slice",data:=.fields #[.int i t,.none,.none]}}) hT.typeIs slot_tuple_getitem.lookup (getItem_tuple_from (a:=i.toNat) (u:=t) hT (by rw [ei];exact Heap.IsSliceOf.new ..) (by lia) (by rw [List.size_toArray,rl.length];lia) ?_ (by rw [List.size_toArray,rl.length];exact h3))
   exact eE (s:={s₂ with heap:=s₂.heap.push {cls:=.type "slice",data:=.fields #[.int i t,.none,.none]}}) (p:=.tup (List.drop i.toNat _)) S' ⟨_,_,0,rfl,Heap.get?_push_size _ rfl,((rl.drop i.toNat).keeps c.q9).keeps (Calm.push ..).q9⟩ q
  ·next p _=>
   split at k
   ·next l e=>
    obtain⟨hz,k⟩:=k
    rw [if_pos rfl] at k
    refine iI S₂ ru e hz (.int i t) .none .none (by simp) (fun{vs h} r=>?_) k.2
    have ei:(i.toNat:Int)=i:=by lia
    refine⟨vs.drop i.toNat,?_,r.drop _⟩
    have:=slicePick_from' vs.toArray i.toNat
    rw [ei] at this
    rw [this]
   ·exact k.elim
 ·exact k.elim
set_option tactic.hygienic true in
theorem Ev.aj4{a b:PySem.Expr}{p pos:Pos}{Q:PV→AH→Prop}(hg:v9 g)(h:Ev g n env m H a fun p H₁=>Ev g n env m H₁ b fun q H₂=>match q with | .int i=>YM false p i H₂ Q|_=>False):Ev g n env m H (.Subscript a (.Slice none (some b) none p) pos) Q:=fun A s R S F=>by
 refine Subscript_ (h.then R S F fun u s₁ p H₁ ru S₁ c₁ F₁ k=>wpAny_Slice ?_)
 rw [evalPart_none]
 refine wpAny_pure (Ev.then k R S₁ F₁ fun v s₂ q H₂ rv S₂ c₂ F₂ k=>?_)
 refine wpAny_pure ?_
 refine wpAny_mono (Q:=Z2 g s₂ H₂ Q) (E:=fun O O=>False) ?_ (fun O O x=>x.step (c₁.trans c₂)) fun O O x=>x
 split at k
 ·next i=>
  obtain⟨t,rfl⟩:=rv
  have ru:=ru.keeps c₂.q9
  unfold YM at k
  split at k
  ·next l=>
   rw [if_neg (by simp)] at k
   obtain⟨⟨h1,h2,h3⟩,q⟩:=k
   obtain⟨a,vs,j,rfl,o,rl⟩:=ru
   obtain⟨S',c⟩:=jN (x:={cls:=.type "slice",data:=.fields #[.none,.int i t,.none]}) S₂
   have hT:IsTup (s₂.heap.push {cls:=.type "slice",data:=.fields #[.none,.int i t,.none]}) a vs.toArray:=⟨_,Heap.get?_push_of_some _ o,rfl,_,rfl⟩
   have ei:(i.toNat:Int)=i:=by lia
   refine Z2.calm (s₁:={s₂ with heap:=s₂.heap.push {cls:=.type "slice",data:=.fields #[.none,.int i t,.none]}}) c ?_
   refine Z9 (s:={s₂ with heap:=s₂.heap.push {cls:=.type "slice",data:=.fields #[.none,.int i t,.none]}}) hT.typeIs slot_tuple_getitem.lookup (nZ (b:=i.toNat) (u:=t) hT (by rw [ei];exact Heap.IsSliceOf.new ..) (by rw [List.size_toArray,rl.length];lia) ?_ (by rw [List.size_toArray,rl.length];exact h3))
   exact eE (s:={s₂ with heap:=s₂.heap.push {cls:=.type "slice",data:=.fields #[.none,.int i t,.none]}}) (p:=.tup (List.take i.toNat _)) S' ⟨_,_,0,rfl,Heap.get?_push_size _ rfl,((rl.take i.toNat).keeps c.q9).keeps (Calm.push ..).q9⟩ q
  ·next p _=>
   split at k
   ·next l e=>
    obtain⟨hz,k⟩:=k
    rw [if_neg (by simp)] at k
    by_cases hi:0≤i
    ·rw [if_pos hi] at k
     refine iI S₂ ru e hz .none (.int i t) .none (by simp) (fun{vs h} r=>?_) k
     have ei:(i.toNat:Int)=i:=by lia
     refine⟨vs.take i.toNat,?_,r.take _⟩
     have:=slicePick_upto' vs.toArray i.toNat
     rw [ei] at this
     rw [this]
    ·rw [if_neg hi] at k
     refine iI S₂ ru e hz .none (.int i t) .none (by simp) (fun{vs h} r=>?_) k
     have ei : -((-i).toNat:Int)=i:=by lia
     refine⟨vs.take (l.length-(-i).toNat),?_,r.take _⟩
     have:=slicePick_butLast vs.toArray (-i).toNat (by lia)
     rw [ei] at this
     rw [this,List.size_toArray,r.length]
   ·exact k.elim
 ·exact k.elim
theorem Ev.Zr{a b:PySem.Expr}{p pos:Pos}{Q:PV→AH→Prop}(hg:v9 g)(h:Ev g n env m H a fun p H₁=>Ev g n env m H₁ b fun q H₂=>q = .int (-1)∧match v7 H₂ p with|some l=>l.length≤sizeLine∧Q (.lst l.reverse) H₂|none=>False):Ev g n env m H (.Subscript a (.Slice none none (some b) p) pos) Q:=fun A s R S F=>by
 refine Subscript_ (h.then R S F fun u s₁ p H₁ ru S₁ c₁ F₁ k=>wpAny_Slice ?_)
 rw [evalPart_none]
 refine wpAny_pure (wpAny_pure (Ev.then k R S₁ F₁ fun v s₂ q H₂ rv S₂ c₂ F₂ k=>?_))
 refine wpAny_mono (Q:=Z2 g s₂ H₂ Q) (E:=fun O O=>False) ?_ (fun O O x=>x.step (c₁.trans c₂)) fun O O x=>x
 obtain⟨rfl,k⟩:=k
 obtain⟨t,rfl⟩:=rv
 split at k
 ·next l e=>
  refine iI S₂ (ru.keeps c₂.q9) e k.1 .none .none (.int (-1) t) (by simp) (fun{vs h} r=>⟨vs.reverse,?_,r.reverse⟩) k.2
  rw [Lf];simp
 ·exact k.elim
end
section
variable{τ:T}{g:G τ}{n:Nat}{env:Env}{m:Loc}{H:AH}{Q:PV→AH→Prop}{A:Around}{s:Shared}
theorem n8.kept{h':Heap}(S:n8 g s H)(k:∀b o,s.heap.get? b=some o→h'.get? b=some o)(t:Nat):n8 g {s with heap:=h',toks:=t} H∧Calm s.heap H h' H:=by
 have P:O5 s.heap H h' H:=⟨fun b o O O e O O=>k b o e,fun b o O O e O O q=>⟨k b o e,q⟩,fun b o O e O O=>k b o e⟩
 exact⟨⟨fun b o e=>k b o (S.keep b o e),S.fresh,fun a o e=>(S.obj a o e).keeps P fun x z=>k _ _ z,S.gens,S.os⟩,fun b o e O O=>k b o e,fun O a b=>absurd a b,fun b o e=>⟨o,k b o e⟩,P⟩
theorem lD{h':Heap}{a:Addr}{l l':List PV}{vs':List Value}{k:Nat}(S:n8 g s H)(e:H a=some (.list l))(B:Heap.SameBut a s.heap h')(ho:h'.get? a=some (Aa vs' k))(r:m8 g.tab s.heap H l' vs')(t:Nat):
  n8 g {s with heap:=h',toks:=t} (upd H a (.list l'))∧Calm s.heap H h' (upd H a (.list l')):=
 S.turn (o':=.list l') e B ⟨vs',k,ho,r.keeps (aJ S e B)⟩ t
theorem Lg{h':Heap}{H':AH}{t:Nat}(S:n8 g {s with heap:=h',toks:=t} H')(c:Calm s.heap H h' H')(q:Q .none H'):Z2 g s H Q .none {s with heap:=h',toks:=t}:=⟨.none,H',rfl,S,c,q⟩
theorem w5{a:Addr}{l:List PV}{p:PV}(e:H a=some (.list l))(hz:l.length≤sizeLine)(q:Q .none (upd H a (.list (l++[p])))):Cl g n (.blt "list.append") [.obj a,p] H Q:=.b2 fun A s v1 v2 R S h1 h2=>by
 cases h1
 obtain⟨ws,k,o,vg⟩:=S.obj _ _ e
 refine call_meets (self:=.ref a) (rest:=[v2]) PySem.F.slot_list_append (⟨_,o,rfl⟩:s.TypeIs (.ref a) "list") PySem.F.entry_list_append (PySem.F.args_list_append_2 _ _) (list_append a ws.toArray k v2 (by rw [List.size_toArray,vg.length];exact hz)) ⟨o,?_⟩
 have hu:=Heap.get?_update_self (Obj.mapSeq fun x=>x.push v2) o rfl
 obtain⟨S',c⟩:=lD (l':=l++[p]) (vs':=ws++[v2]) S e (Heap.SameBut.update ..) (by
  rw [hu]
  simp only [Obj.mapSeq,List.push_toArray]
  rfl) (vg.append (.one h2)) s.toks
 exact Lg S' c q
theorem oh{a:Addr}{l k:List PV}{p:PV}(e:H a=some (.list l))(ep:p = .tup k∨v7 H p=some k)(hz:l.length+k.length≤sizeLine)(q:Q .none (upd H a (.list (l++k)))):Cl g n (.blt "list.extend") [.obj a,p] H Q:=.b2 fun A s v1 v2 R S h1 h2=>by
 cases h1
 obtain⟨ws,j,o,vg⟩:=S.obj _ _ e
 have e1:ws.toArray.size=l.length:=by rw [List.size_toArray,vg.length]
 have fin:∀(b:Addr) (zs:List Value),v2 = .ref b→m8 g.tab s.heap H k zs→Z2 g s H Q .none {s with heap:=s.heap.update a (Obj.mapSeq fun x=>x++zs.toArray)}:=by
  intro b zs _ rz
  have hu:=Heap.get?_update_self (Obj.mapSeq fun x=>x++zs.toArray) o rfl
  obtain⟨S',c⟩:=lD (l':=l++k) (vs':=ws++zs) S e (Heap.SameBut.update ..) (by
   rw [hu]
   simp only [Obj.mapSeq,List.append_toArray]
   rfl) (vg.append rz) s.toks
  exact Lg S' c q
 have d1:∀zs:List Value,zs.length=k.length→¬(!ws.toArray.isEmpty&&Builtin.List.listTooLong (ws.toArray.size+zs.toArray.size))=true:=fun zs ez=>by
  have:Builtin.List.listTooLong (ws.toArray.size+zs.toArray.size)=false:=by
   unfold Builtin.List.listTooLong;rw [decide_eq_false_iff_not,e1,List.size_toArray,ez];exact Nat.not_lt.mpr ‹_›
  rw [this];simp
 rcases ep with rfl|ep
 ·obtain⟨b,zs,i,rfl,o2,rz⟩:=h2
  have ez:zs.toArray.size=k.length:=by rw [List.size_toArray,rz.length]
  exact call_meets (self:=.ref a) (rest:=[.ref b]) PySem.F.slot_list_extend (⟨_,o,rfl⟩:s.TypeIs (.ref a) "list") PySem.F.entry_list_extend (PySem.F.args_list_extend_2 _ _)
   (AutoSeq1.list_extend_list_tuple_0 a ws.toArray j b zs.toArray i (d1 zs rz.length) (by lia) (by lia)) ⟨o,o2,fin b zs rfl rz⟩
 ·obtain⟨b,zs,i,rfl,o2,rz⟩:=U5 (h:=s.heap) S h2 (v8 ep)
  have ez:zs.toArray.size=k.length:=by rw [List.size_toArray,rz.length]
  exact call_meets (self:=.ref a) (rest:=[.ref b]) PySem.F.slot_list_extend (⟨_,o,rfl⟩:s.TypeIs (.ref a) "list") PySem.F.entry_list_extend (PySem.F.args_list_extend_2 _ _)
   (AutoSeq1.list_extend_list_list_0 a ws.toArray j b zs.toArray i (d1 zs rz.length) (by lia) (by lia)) ⟨o,o2,fin b zs rfl rz⟩
theorem xV{a:Addr}{l:List PV}{p:PV}(e:H a=some (.list (l++[p]))) (hz:l.length+1≤sizeLine) (q:Q p (upd H a (.list l))):Cl g n (.blt "list.pop") [.obj a] H Q:=.b1 fun A s v1 R S h1=>by
 cases h1
 obtain⟨ws,j,o,vg⟩:=S.obj _ _ e
 have el:=vg.length
 rw [List.length_append,List.length_singleton] at el
 obtain⟨y,hy,ry⟩:=vg.get (k:=l.length) (p:=p) (by simp)
 have e1:ws.toArray.size=l.length+1:=by rw [List.size_toArray,el]
 refine call_meets (self:=.ref a) (rest:=[]) PySem.F.slot_list_pop (⟨_,o,rfl⟩:s.TypeIs (.ref a) "list") PySem.F.entry_list_pop (PySem.F.args_list_pop_1 _) (MeetsSeq.list_pop_last a ws.toArray j y (by rw [e1];simpa using hy) (by lia)) ⟨o,?_⟩
 have hu:=Heap.get?_update_self (Obj.mapSeq fun xs=>xs.eraseIdxIfInBounds (ws.toArray.size-1)) o rfl
 have ee:ws.toArray.eraseIdxIfInBounds (ws.toArray.size-1)=(ws.take l.length).toArray:=by
  rw [e1]
  simp only [Nat.add_sub_cancel,List.eraseIdxIfInBounds_toArray]
  rw [List.eraseIdx_eq_take_drop_succ,List.drop_of_length_le (by lia),List.append_nil]
 have rt:=vg.take l.length
 rw [List.take_left'] at rt
 ·obtain⟨S',c⟩:=lD (l':=l) (vs':=ws.take l.length) S e (Heap.SameBut.update ..) (by
   rw [hu]
   simp only [Obj.mapSeq,ee]
   rfl) rt s.toks
  exact⟨p,_,ry.keeps c.q9,S',c,q⟩
 ·rfl
noncomputable def Wu(p:PV)(H:AH):Option Nat:=
 match p with
 |.tup l=>some l.length
 |.rng a b=>some (b-a).toNat
 |p=>(v7 H p).map List.length
theorem GR{i:Int}{t k:Nat}{p:Prop}(S:n8 g s H)(q:Q (.int i) H):Z2 g s H Q (.int i t) {s with toks:=k}:=n6 (p:=.int i) S ⟨_,rfl⟩ q k
theorem jO(a b:Int):Builtin.Range.rangeSize a b 1=((b-a).toNat:Int):=PyProof.Rows.rangeSize_nat a b
theorem Lh{p:PV}{k:Nat}(e:Wu p H=some k):(∃l,p = .tup l∧l.length=k)∨(∃a b,p = .rng a b∧(b-a).toNat=k)∨∃l,v7 H p=some l∧l.length=k:=by
 cases p with
 |tup l=>exact .inl ⟨l,rfl,Option.some.inj e⟩
 |rng a b=>exact .inr (.inl ⟨a,b,rfl,Option.some.inj e⟩)
 |lst l=>exact .inr (.inr ⟨l,rfl,Option.some.inj e⟩)
 |obj a=>exact .inr (.inr (Option.map_eq_some_iff.mp e))
 |_=>cases e
theorem T4{p:PV}{k:Nat}(e:Wu p H=some k)(hz:k<2 ^ 62)(q:Q (.int k) H):Cl g n (.blt "len") [p] H Q:=.b1 fun A s v1 R S h1=>by
 rcases Lh e with⟨l,rfl,rfl⟩|⟨a,b,rfl,rfl⟩|⟨l,el,rfl⟩
 ·obtain⟨a,ws,j,rfl,o,vg⟩:=h1
  have e1:ws.toArray.size=l.length:=by rw [List.size_toArray,vg.length]
  exact len_tuple (⟨_,o,rfl,_,rfl⟩:IsTup s.heap a ws.toArray) (by rw [e1];lia) (e1▸GR (p:=True) S q)
 ·obtain⟨c,t,u,x,rfl,o⟩:=h1
  exact call_len_range o (jO a b) (by lia) (GR (p:=True) S q)
 ·obtain⟨a,ws,j,rfl,o,vg⟩:=U5 (h:=s.heap) S h1 (v8 el)
  have e1:ws.toArray.size=l.length:=by rw [List.size_toArray,vg.length]
  exact call_len_list (⟨_,o,rfl,_,rfl⟩:s.heap.IsList a ws.toArray) (by rw [e1];lia) (e1▸GR (p:=True) S q)
theorem Wv{p:PV}{k:List PV}{v:Value}(S:n8 g s H)(r:Rep g.tab s.heap H p v)(e:p = .tup k∨v7 H p=some k):∃(b:Addr) (ob:Obj) (zs:List Value) (i:Nat) (T:String),(T = "list"∨T = "tuple")∧v = .ref b∧s.heap.get? b=some ob∧ob.cls = .type T∧ob.data = .seq zs.toArray i∧m8 g.tab s.heap H k zs:=by
 rcases e with rfl|e
 ·obtain⟨b,zs,i,rfl,o,rz⟩:=r;exact⟨b,_,zs,i,"tuple",.inr rfl,rfl,o,rfl,rfl,rz⟩
 ·obtain⟨b,zs,i,rfl,o,rz⟩:=U5 (h:=s.heap) S r (v8 e);exact⟨b,_,zs,i,"list",.inl rfl,rfl,o,rfl,rfl,rz⟩
theorem GX{h':Heap}{c:Nat}{vs:List Value}{l:List PV}{t:Nat}(S:n8 g s H)(k:∀b o,s.heap.get? b=some o→h'.get? b=some o)(e:h'.get? s.heap.objs.size=some (Aa vs c))(r:m8 g.tab s.heap H l vs):
  (Q (.lst l) H→Z2 g s H Q (.ref s.heap.objs.size) {s with heap:=h',toks:=t})∧((∀a,H a=none→Q (.obj a) (upd H a (.list l)))→Z2 g s H Q (.ref s.heap.objs.size) {s with heap:=h',toks:=t}):=by
 obtain⟨S',c'⟩:=S.kept k t
 refine⟨fun q=>⟨.lst l,H,⟨_,vs,c,rfl,e,untracked S,r.keeps c'.q9⟩,S',c',q⟩,fun q=>?_⟩
 have un:=untracked S
 have ne:∀b o,s.heap.get? b=some o→b≠s.heap.objs.size:=fun b o z w=>Nat.lt_irrefl _ (w▸Heap.lt_size z)
 have P:O5 s.heap H h' (upd H s.heap.objs.size (.list l)):=⟨fun b o O O e O O=>k b o e,fun b o O O e O O q=>⟨k b o e,by rw [d8 (ne b o e)];exact q⟩,fun b o O e O O=>k b o e⟩
 have C:Calm s.heap H h' (upd H s.heap.objs.size (.list l)):=⟨fun b o e O O=>k b o e,fun b a z=>by
  by_cases w:b=s.heap.objs.size
  ·rw [w];cases y:s.heap.get? s.heap.objs.size with
   |none=>rfl
   |some o=>exact absurd rfl (ne _ o y)
  ·rw [d8 w] at z;exact absurd a z,fun b o e=>⟨o,k b o e⟩,P⟩
 refine⟨.obj _,_,rfl,⟨fun b o e=>k b o (S.keep b o e),fun a z=>?_,fun a o z=>?_,S.gens,S.os⟩,C,q _ un⟩
 ·by_cases w:a=s.heap.objs.size
  ·rw [w];cases y:g.h₀.get? s.heap.objs.size with
   |none=>rfl
   |some o=>exact absurd rfl (ne _ o (S.keep _ _ y))
  ·rw [d8 w] at z;exact S.fresh a z
 ·by_cases w:a=s.heap.objs.size
  ·subst w;rw [c7] at z;cases z;exact⟨vs,c,e,r.keeps P⟩
  ·rw [d8 w] at z;exact(S.obj a o z).keeps P fun O y=>k _ _ y
theorem xW{p:PV}{k:List PV}(e:p = .tup k∨v7 H p=some k)(hz:k.length≤sizeLine)(q:Q (.lst k) H∨∀a,H a=none→Q (.obj a) (upd H a (.list k))):Cl g n (.typ "list") [p] H Q:=.t1 fun A s v1 R S h1=>by
 obtain⟨b,ob,zs,i,T,hT,rfl,ho,hc,hd,rz⟩:=Wv S h1 e
 refine call_list_seq b hT ho hc hd (fun h' c' kp e'=>?_) (by rw [List.size_toArray,rz.length];exact hz)
 have z:=GX (Q:=Q) (t:=s.toks) S kp e' rz
 exact q.elim z.1 z.2
noncomputable def H9(a:Int):Nat→List PV
 |0=>[]
 |k+1=>.int a::H9 (a+1) k
theorem W8(k:Nat):∀a,(H9 a k).length=k:=by
 induction k with
 |zero=>intro a;rfl
 |succ k ih=>intro a;rw [H9,List.length_cons,ih]
theorem rG(k:Nat):∀(a:Int) (j:Nat),j<k→(H9 a k)[j]? = some (.int (a+j)):=by
 induction k with
 |zero=>intro a j h;exact absurd ‹_› (Nat.not_lt_zero _)
 |succ k ih=>
  intro a j h
  cases j with
  |zero=>rw [H9,List.getElem?_cons_zero];simp
  |succ j=>rw [H9,List.getElem?_cons_succ,ih _ _ (by exact Nat.le_of_succ_le_succ ‹_›)];congr 2;lia
theorem GZ{h:Heap}{tab:Nat→Str}:∀{l:List PV} {vs:List Value},vs.length=l.length→(∀(j:Nat) (p:PV),l[j]? = some p→∃v,vs[j]? = some v∧Rep tab h H p v)→m8 tab h H l vs
 | [],[],_,_=>rfl
 | [],_::_,e,_=>by simp at e
 |_::_,[],e,_=>by simp at e
 |p::l,v::vs,e,k=>by
  obtain⟨v',hv,r⟩:=k 0 p rfl
  cases hv
  exact⟨v,vs,rfl,r,GZ (by simpa using e) fun j q hq=>by
   obtain⟨x,hx,rx⟩:=k (j+1) q (by rw [List.getElem?_cons_succ];exact hq)
   exact⟨x,by rw [List.getElem?_cons_succ] at hx;exact hx,rx⟩⟩
theorem cV{b:Int}(q:Q (.rng 0 b) H):Cl g n (.typ "range") [.int b] H Q:=.t1 fun A s v1 R S r1=>by
 obtain⟨t,rfl⟩:=r1
 refine call_range_1 ?_
 have c:=Calm.push s.heap H {cls:=.type "range",data:=.fields #[.int 0 s.toks,.int b t,.int 1 (s.toks+1)]}
 exact⟨.rng 0 b,H,⟨_,_,_,_,rfl,Heap.get?_push_size _ rfl⟩,S.push _ _,c,q⟩
theorem Jk{a b:Int}(q:Q (.rng a b) H):Cl g n (.typ "range") [.int a,.int b] H Q:=.t2 fun A s v1 v2 R S r1 r2=>by
 obtain⟨t,rfl⟩:=r1
 obtain⟨t',rfl⟩:=r2
 refine call_range_2 ?_
 exact⟨.rng a b,H,⟨_,_,_,_,rfl,Heap.get?_push_size _ rfl⟩,S.push _ _,Calm.push ..,q⟩
noncomputable def Eh(a b:Int):Prop := -(2 ^ 60)≤a∧a<2 ^ 60∧ -(2 ^ 60)≤b∧b<2 ^ 60
theorem Ei{a b:Int}(hs:Eh a b)(hz:(b-a).toNat≤2 ^ 24)(q:Q (.lst (H9 a (b-a).toNat)) H∨∀x,H x=none→Q (.obj x) (upd H x (.list (H9 a (b-a).toNat)))):Cl g n (.typ "list") [.rng a b] H Q:=.t1 fun A s v1 R S r1=>by
 obtain⟨c,t,u,x,rfl,o⟩:=r1
 refine call_list_range R.handled o (small_one (by have:=hs.1;lia) (by have:=hs.2.1;lia) (by have:=hs.2.2.1;lia) (by have:=hs.2.2.2;lia)) (jO a b) hz fun h' tk acc' c' kp e' it=>?_
 have rz:m8 g.tab s.heap H (H9 a (b-a).toNat) acc'.toList:=by
  refine GZ ?_ fun j p hp=>?_
  ·rw [W8,Array.length_toList];exact it.1
  ·have hj:j<(b-a).toNat:=by have:=(List.getElem?_eq_some_iff.mp hp).1;rwa [W8] at this
   rw [rG _ _ _ hj] at hp
   cases hp
   have hj':j<acc'.size:=by rw [it.1];exact hj
   obtain⟨t',e'⟩:=it.2 j _ (Array.getElem?_eq_getElem hj')
   exact⟨_,by rw [Array.getElem?_toList];exact Array.getElem?_eq_getElem hj',t',by rw [e',Int.mul_one]⟩
 have e2:h'.get? s.heap.objs.size=some (Aa acc'.toList c'):=by rw [e']
 have z:=GX (Q:=Q) (t:=tk) S kp e2 rz
 exact q.elim z.1 z.2
end
section
variable{τ:T}{g:G τ}{n:Nat}{env:Env}{m:Loc}{H:AH}{Q:PV→AH→Prop}{A:Around}{s:Shared}
theorem KD.getD{K J:Type} [DecidableEq K] [DecidableEq J](D:KD g K J)(hg:v9 g){a:Addr}{l:List (K×PV)}{k:K}{kv dv:Value}{d:PV}(S:n8 g s H)(e:H a=some (D.ob l))(rk:Rep g.tab s.heap H (D.key k) kv)(rd:Rep g.tab s.heap H d dv)(q:Q ((g8 k l).getD d) H):
  W g A (call (.builtin "dict.get") [.ref a,kv,dv]) s H Q∧(d = .none→W g A (call (.builtin "dict.get") [.ref a,kv]) s H Q):=by
 obtain⟨kvs,hd,hr⟩:=D.rep S e
 have r:=hr.get (D.inj hg) k
 have key:∀t,Z2 g s H Q ((valueAt kvs (D.f k)).getD dv) {s with toks:=t}:=fun t=>by
  cases z:g8 k l with
  |none=>rw [z] at r q;rw [show valueAt kvs (D.f k)=none from r];exact n6 S rd q t
  |some x=>rw [z] at r q;obtain⟨u,hu,ru⟩:=r;rw [hu];exact n6 S ru q t
 refine⟨call_meetsIn (self:=.ref a) (rest:=[kv,dv]) PySem.F.slot_dict_get hd.typeIs PySem.F.entry_dict_get (PySem.F.args_dict_get_3 _ _ _) (meets_dict_get_default D.knd a (D.is _ _ _ _ rk) (nY hg S e) dv) ⟨_,hd.mapOf,key _⟩,fun h=>?_⟩
 subst h
 cases rd
 exact call_meetsIn (self:=.ref a) (rest:=[kv]) PySem.F.slot_dict_get hd.typeIs PySem.F.entry_dict_get (PySem.F.args_dict_get_2 _ _) (meets_dict_get D.knd a (D.is _ _ _ _ rk) (nY hg S e)) ⟨_,hd.mapOf,key _⟩
theorem Rf{a:Addr}{l:List (Int×PV)}{i:Int}{d:PV}(hg:v9 g)(e:H a=some (.m6 l))(q:Q ((g8 i l).getD d) H):Cl g n (.blt "dict.get") [.obj a,.int i,d] H Q:=.b3 fun A s v1 v2 v3 R S h1 h2 h3=>by
 cases h1
 exact((KD.int g).getD hg S e h2 h3 q).1
theorem xX{prog:Program}{w:World}{K:Type} [DecidableEq K]{knd:PySem.KeyKind prog w K}{k:K}{key dv:Value}{a:Addr}{kvs:List (K×Value)}(hkey:knd.is k key=true)(hd:(a==sysModules)=false)(hpart:(keyPart key).isSome=true):
  MeetsIn prog w (Builtin.«dict.pop» ⟨[.ref a,key,dv],[]⟩) (fun O R s=>s.heap.DictOf knd a kvs∧valueAt kvs k=none∧R (.ok (.ret dv)) {s with toks:=s.toks+1}):=
 .of_wp fun A R s ⟨hm,hv,h⟩=>by
  unfold Builtin.«dict.pop»
  refine wpAny_bind ?_
  unfold Builtin.Dict.keyAndDefault
  refine wpAny_bind (wpAny_notOrdered_dict hm.typeIs ?_)
  show wpAny _ _ (pure (a,key,some dv)) _ _ s
  refine wpAny_pure ?_
  simp only [hpart,if_true]
  refine wpAny_bind (wpAny_pure ?_)
  simp only [Bool.false_eq_true,if_false]
  refine wpAny_bind (wpAny_takeOut_pairs_none hkey hm hv ?_)
  simp only [Option.isNone_none,if_true]
  refine wpAny_bind (wpAny_missedRemoval_other hd ?_)
  exact wpAny_bind (wpAny_rule (wpAny_pure ⟨dv,rfl,h⟩))
theorem wF{K:Type} [DecidableEq K]{k:K}:∀{l:List (K×PV)},g8 k l=none→jg k l=l
 | [],_=>rfl
 |q::r,h=>by
  by_cases hk:q.1=k
  ·rw [aO hk] at h;cases h
  ·rw [U6 hk] at h;rw [Ai hk,wF h]
theorem Rg{a:Addr}{l:List (Int×PV)}{k:Int}{d:PV}(hg:v9 g)(e:H a=some (.m6 l))(hz:l.length≤sizeLine)(q:Q ((g8 k l).getD d) (upd H a (.m6 (jg k l)))):Cl g n (.blt "dict.pop") [.obj a,.int k,d] H Q:=.b3 fun A s v1 v2 v3 R S h1 h2 h3=>by
 cases h1
 obtain⟨kvs,hd,hr⟩:=(KD.int g).rep S e
 have nd:(kvs.map (·.1)).Nodup:=by obtain⟨_,_,_,_,_,_,_,_,nd⟩:=hd;exact nd
 have r:=hr.get ((KD.int g).inj hg) k
 have hkey:=(KD.int g).is _ _ _ _ h2
 obtain⟨t,rfl⟩:=h2
 cases z:g8 k l with
 |none=>
  rw [z] at r q
  rw [wF z] at q
  have hH:upd H a (.m6 l)=H:=by
   funext b
   by_cases w:b=a
   ·rw [w,c7,e]
   ·rw [d8 w]
  rw [hH] at q
  exact call_meetsIn (self:=.ref a) (rest:=[.int k t,v3]) PySem.F.slot_dict_pop hd.typeIs PySem.F.entry_dict_pop (PySem.F.args_dict_pop_3 _ _ _) (xX (kvs:=kvs) hkey (nY hg S e) rfl) ⟨hd,r,n6 S h3 q _⟩
 |some x=>
  rw [z] at r q
  obtain⟨u,hu,ru⟩:=r
  refine call_meetsIn (self:=.ref a) (rest:=[.int k t,v3]) PySem.F.slot_dict_pop hd.typeIs PySem.F.entry_dict_pop (PySem.F.args_dict_pop_3 _ _ _) (meets_dict_pop_there (knd:=(KD.int g).knd) (d:=a) hkey [v3] (.inr ⟨v3,rfl⟩) rfl) ⟨kvs,u,hd,by rw [hr.length];exact hz,hu,fun h' hd' B=>?_⟩
  obtain⟨S',c⟩:=S.turn (o':=.m6 (jg k l)) e B ⟨_,hd',(hr.del ((KD.int g).inj hg) k nd).keeps (aJ S e B)⟩ (s.toks+1)
  exact⟨x,_,ru.keeps c.q9,S',c,q⟩
theorem gJ{p:PV}{k:List PV}(e:p = .tup k∨v7 H p=some k)(hz:k.length≤sizeLine)(q:Q (.tup k) H):Cl g n (.typ "tuple") [p] H Q:=.t1 fun A s v1 R S h1=>by
 rcases e with rfl|e
 ·have h1':=h1
  obtain⟨b,zs,i,rfl,o,rz⟩:=h1
  exact call_tuple_tup (⟨_,o,rfl,_,rfl⟩:IsTup s.heap b zs.toArray) (n6 S h1' q s.toks)
 ·obtain⟨b,zs,i,rfl,o,rz⟩:=U5 (h:=s.heap) S h1 (v8 e)
  refine call_tuple_list (⟨_,o,rfl,_,rfl⟩:s.heap.IsList b zs.toArray) (fun h' kp=>?_) (by rw [List.size_toArray,rz.length];exact hz)
  obtain⟨S',c⟩:=S.kept kp s.toks
  exact(eE (s:={s with heap:=h'}) (p:=.tup k) S' ⟨_,zs,0,rfl,Heap.get?_push_size _ rfl,(rz.keeps c.q9).keeps (Calm.push ..).q9⟩ q).step c
theorem iJ{i:Int}(q:Q (.int i) H):Cl g n (.typ "int") [.int i] H Q:=.t1 fun A s v1 R S h1=>by
 obtain⟨t,rfl⟩:=h1
 exact call_int_int (n6 (p:=.int i) S ⟨_,rfl⟩ q s.toks)
theorem Rh{b:Bool}(q:Q (.int (if b then 1 else 0)) H):Cl g n (.typ "int") [.bool b] H Q:=.t1 fun A s v1 R S h1=>by
 cases h1
 exact call_int_bool (n6 (p:=.int _) S ⟨_,rfl⟩ q _)
theorem Ww{a b:Int}(q:Q (.int (if b > a then b else a)) H):Cl g n (.blt "max") [.int a,.int b] H Q:=.b2 fun A s v1 v2 R S r1 r2=>by
 obtain⟨t,rfl⟩:=r1
 obtain⟨t',rfl⟩:=r2
 refine max_two_ints R.handled fun h' tk kp=>?_
 obtain⟨S',c⟩:=S.kept kp tk
 split
 ·next h=>rw [if_pos h] at q;exact⟨.int b,H,⟨_,rfl⟩,S',c,q⟩
 ·next h=>rw [if_neg h] at q;exact⟨.int a,H,⟨_,rfl⟩,S',c,q⟩
noncomputable def bools:List PV→Option (List Bool)
 | []=>some []
 |.bool b::l=>(bools l).map (b :: ·)
 |_::_=>none
theorem wG:∀{l:List PV} {bs:List Bool},bools l=some bs→l=bs.map .bool
 | [],bs,h=>by cases h;rfl
 |p::l,bs,h=>by
  cases p<;>first|(cases h;done)|skip
  obtain⟨cs,hc,rfl⟩:=Option.map_eq_some_iff.mp h
  rw [List.map_cons,← wG hc]
theorem Wx{p:PV}{l:List PV}{bs:List Bool}(e:v7 H p=some l)(eb:bools l=some bs)(q:Q (.bool (bs.all id)) H):Cl g n (.blt "all") [p] H Q:=.b1 fun A s v1 R S h1=>by
 obtain⟨a,ws,j,rfl,o,vg⟩:=U5 (h:=s.heap) S h1 (v8 e)
 have hl:s.heap.IsList a ws.toArray:=⟨_,o,rfl,_,rfl⟩
 have hlt:a<s.heap.objs.size:=Heap.lt_size o
 refine call_all_walk (wpAny_pyIter_list hl ?_)
 have hb:=wG eb
 have hlen:ws.length=bs.length:=by rw [vg.length,hb,List.length_map]
 have vals:∀i b,bs[i]? = some b→ws[i]? = some (Value.bool b):=fun i b hi=>by
  obtain⟨v,hv,r⟩:=vg.get (k:=i) (p:=.bool b) (by rw [hb,List.getElem?_map,hi];rfl)
  cases r;exact hv
 refine⟨s.heap.objs.size,_,_,_,_,_,fun i=>(bs[i]?).getD true,rfl,Walks.list (A:=A.in1) R.handled s.heap.objs.size a (Nat.ne_of_lt hlt) ws.toArray,⟨⟨_,Heap.get?_push_size _ rfl,rfl,rfl⟩,hl.push _⟩,?_,fun h' tk kp=>?_⟩
 ·intro i v s' Q' E' hP hQ
  have hP':ws[i]? = some v:=by simpa using hP
  have hi:i<bs.length:=by rw [← hlen];exact(List.getElem?_eq_some_iff.mp hP').1
  obtain⟨b,hb'⟩:∃b,bs[i]? = some b:=⟨bs[i],List.getElem?_eq_getElem hi⟩
  rw [vals i b hb'] at hP'
  cases hP'
  have hQ':Q' b s':=by simpa [hb'] using hQ
  exact wpAny_truthy_bool hQ'
 ·have kp':∀b o,s.heap.get? b=some o→h'.get? b=some o:=fun b o z=>kp b o (fun hm=>by
   rcases List.mem_cons.mp hm with w|w
   ·rw [w] at z;exact Nat.lt_irrefl _ (Heap.lt_size z)
   ·cases w) (Heap.get?_push_of_some _ z)
  obtain⟨S',c⟩:=S.kept kp' tk
  have eq:(List.range ws.toArray.size).all (fun i=>(bs[i]?).getD true)=bs.all id:=by
   rw [List.size_toArray,hlen,Bool.eq_iff_iff,List.all_eq_true,List.all_eq_true]
   constructor
   ·intro h x hx
    obtain⟨i,hi,rfl⟩:=List.mem_iff_getElem.mp hx
    have:=h i (List.mem_range.mpr hi)
    rw [List.getElem?_eq_getElem hi] at this
    exact this
   ·intro h i hi
    have hi':=List.mem_range.mp hi
    rw [List.getElem?_eq_getElem hi']
    exact h _ (List.getElem_mem hi')
  rw [eq]
  exact⟨.bool _,H,rfl,S',c,q⟩
noncomputable def BM(T:String)(name:Str)(id:String):Prop:=PlainAttrs T∧Slot T name id∧typeOf (.builtin id)=pure (.type "method_descriptor")∧handedIn (.builtin id)=true
noncomputable def Ri(T:String)(name:Str)(id:String):Bool:=
 (T == "list" && ((name == "append" && id == "list.append")||(name == "extend" && id == "list.extend")||(name == "pop" && id == "list.pop"))) ||
 (T == "dict" && ((name == "get" && id == "dict.get")||(name == "pop" && id == "dict.pop")))
theorem Vb{T:String}{name:Str}{id:String}(h:Ri T name id=true):BM T name id:=by
 unfold Ri at h
 simp only [Bool.or_eq_true,Bool.and_eq_true,beq_iff_eq] at h
 rcases h with⟨rfl,(⟨rfl,rfl⟩|⟨rfl,rfl⟩)|⟨rfl,rfl⟩⟩|⟨rfl,⟨rfl,rfl⟩|⟨rfl,rfl⟩⟩
 ·exact⟨PySem.F.plainAttrs_list,PySem.F.slot_list_append,PySem.F.type_list_append,by decide⟩
 ·exact⟨PySem.F.plainAttrs_list,PySem.F.slot_list_extend,PySem.F.type_list_extend,by decide⟩
 ·exact⟨PySem.F.plainAttrs_list,PySem.F.slot_list_pop,PySem.F.type_list_pop,by decide⟩
 ·exact⟨PySem.F.plainAttrs_dict,PySem.F.slot_dict_get,PySem.F.type_dict_get,by decide⟩
 ·exact⟨PySem.F.plainAttrs_dict,PySem.F.slot_dict_pop,PySem.F.type_dict_pop,by decide⟩
inductive qm(H:AH):String→PV→Prop
 |list {a:Addr} {l:List PV}:H a=some (.list l)→qm H "list" (.obj a)
 |m6 {a:Addr} {l:List (Int×PV)}:H a=some (.m6 l)→qm H "dict" (.obj a)
 |u0 {a:Addr} {l:List (Nat×PV)}:H a=some (.u0 l)→qm H "dict" (.obj a)
 |z6 {a:Addr} {l:List ((Int×Int)×PV)}:H a=some (.z6 l)→qm H "dict" (.obj a)
set_option tactic.hygienic true in
theorem Zt{T:String}{p:PV}{v:Value}(S:n8 g s H)(r:Rep g.tab s.heap H p v)(h:qm H T p):s.TypeIs v T∧∀a,v = .ref a→∃ob,s.heap.get? a=some ob∧ob.dict=none:=by
 cases h with
 |list e=>cases r;obtain⟨vs,k,o,_⟩:=S.obj _ _ e;exact⟨⟨_,o,rfl⟩,fun b hb=>by cases hb;exact⟨_,o,rfl⟩⟩
 |m6 e=>cases r;obtain⟨kvs,hd,_⟩:=(KD.int g).rep S e;exact⟨hd.typeIs,hd.mapOf.noDict⟩
 |u0 e=>cases r;obtain⟨kvs,hd,_⟩:=(KD.str g).rep S e;exact⟨hd.typeIs,hd.mapOf.noDict⟩
 |z6 e=>cases r;obtain⟨xs,hd,_⟩:=S.obj _ _ e;exact⟨hd.typeIs,dictOfH_noDict hd⟩
theorem Ev.K4{o:PySem.Expr}{x:Nat}{T id:String}{es:List PySem.Expr}{apos pos:Pos}{Q:PV→AH→Prop}(hg:v9 g)(hb:wA o)(hbm:BM T (g.tab x) id)(hline:(apos.endLine==pos.line)=true)(hlen:es.length<30)(hs:∀e∈es,cD e)
  (h:Ev g n env m H o fun p H₁=>qm H₁ T p∧pC g n env m H₁ pos es fun l H₂=>Cl g n (.blt id) (p::l) H₂ Q):Ev g n env m H (.Call (.Attribute o (g.tab x) apos) es [] pos) Q:=fun A s R S F=>by
 refine wpAny_Call_method_late (trees:=backTo pos (starEach es env)) (hb _ _) ?_ hline rfl (h.then R S F fun v s' p H' r S' c F' q=>?_)
 ·have:(backTo pos (starEach es env)).all (fun y => !y.1)=true:=by
   have:=noStar (pos:=pos) (env:=env) hs
   rw [List.any_eq_false] at this
   rw [List.all_eq_true]
   intro y hy
   have:=this y hy
   simpa using this
  rw [this]
  show(true&&true&&decide (es.length+0+0<30))=true
  simp [hlen]
 ·obtain⟨b1,b2,b3,b4⟩:=hbm
  obtain⟨t1,t2⟩:=Zt S' r q.1
  refine⟨T,id,b1,b2,b3,t1,t2,?_⟩
  exact Z2.calm c (bR (fl:=[p]) hg R S' F' hs wB (⟨rfl,b4⟩:Rep g.tab s'.heap H' (.blt id) (.builtin id)) (m8.one r) q.2)
end
section
variable{τ:T}{g:G τ}{n:Nat}{env:Env}{m:Loc}{H:AH}{A:Around}{s:Shared}
noncomputable def itemsOf(H:AH):PV→Option (List PV)
 |.tup l=>some l
 |.rng a b=>some (H9 a (b-a).toNat)
 |p=>v7 H p
noncomputable def Ao:PV→Prop
 |.rng a b=>Eh a b
 |_=>True
noncomputable def okW(p:PV)(k:Prop):Prop:=match p with
 |.rng a b=>Eh a b∧k
 |_=>k
theorem okW.src{p:PV}{k:Prop}(h:okW p k):Ao p∧k:=by cases p<;>first|exact h|exact⟨trivial,h⟩
inductive aj5(I:Addr)(k:Nat)(h:Heap)(R:List Value→Prop):Prop
 |mk (t:Addr) (vs:List Value) (j:Nat) (i:IsTupIter h I t k) (o:h.get? t=some (Za vs j)) (r:R vs)
inductive aj6(I:Addr)(k:Nat)(h:Heap)(H:AH)(R:List Value→Prop):Prop
 |mk (t:Addr) (vs:List Value) (j:Nat) (i:h.IsListIter I t k) (o:h.get? t=some (Aa vs j)) (q:H t=none) (r:R vs)
noncomputable def K5(g:G τ)(p:PV)(I:Addr)(k:Nat)(h:Heap)(H:AH):Prop:=
 match p with
 |.tup l=>aj5 I k h (m8 g.tab h H l)
 |.rng a b=>IsRangeIter h I (a+k) (((b-a).toNat:Int)-k) 1
 |.lst l=>aj6 I k h H (m8 g.tab h H l)
 |.obj a=>h.IsListIter I a k∧∃l,H a=some (.list l)
 |_=>False
set_option tactic.hygienic true in
theorem K5.keeps{p:PV}{I:Addr}{k:Nat}{h h':Heap}{H H':AH}(x:K5 g p I k h H)(ki:∀o,h.get? I=some o→h'.get? I=some o)(P:O5 h H h' H')(e:itemsOf H' p=itemsOf H p):K5 g p I k h' H':=by
 cases p
 case tup l=>obtain⟨t,vs,j,⟨o,e1,e2⟩,e3,r⟩:=x;exact⟨t,vs,j,⟨o,ki _ e1,e2⟩,P.tup _ _ _ _ e3 rfl rfl,r.keeps P⟩
 case rng a b=>exact ki _ x
 case lst l=>obtain⟨t,vs,j,⟨o,e1,e2⟩,e3,q,r⟩:=x;exact⟨t,vs,j,⟨o,ki _ e1,e2⟩,(P.lst _ _ _ _ e3 rfl rfl q).1,(P.lst _ _ _ _ e3 rfl rfl q).2,r.keeps P⟩
 case obj a=>
  obtain⟨⟨o,e1,e2⟩,l,hl⟩:=x
  rcases v8 (show v7 H' (.obj a)=some l from e.trans (G5 hl)) with w|⟨b,w,e⟩
  ·cases w
  ·cases w;exact⟨⟨o,ki _ e1,e2⟩,l,e⟩
 all_goals exact x.elim
set_option tactic.hygienic true in
theorem K5.at{p:PV}{I:Addr}{k:Nat}{h:Heap}(x:K5 g p I k h H):∃o xs,h.get? I=some o∧o.data = .fields xs∧¬KQ o.cls∧o.cls≠.type "tuple"∧o.cls≠.type "list" := by
 cases p
 case tup l=>obtain⟨t,vs,j,⟨o,e1,e2,e3⟩,_⟩:=x;exact⟨o,_,e1,e3,by rw [e2];simp,by rw [e2];simp,by rw [e2];simp⟩
 case rng a b=>exact⟨_,_,x,rfl,by simp,by simp,by simp⟩
 case lst l=>obtain⟨t,vs,j,⟨o,e1,e2,e3⟩,_⟩:=x;exact⟨o,_,e1,e3,by rw [e2];simp,by rw [e2];simp,by rw [e2];simp⟩
 case obj a=>obtain⟨⟨o,e1,e2,e3⟩,_⟩:=x;exact⟨o,_,e1,e3,by rw [e2];simp,by rw [e2];simp,by rw [e2];simp⟩
 all_goals exact x.elim
theorem bT(S:n8 g s H):s.heap.get? s.heap.objs.size=none∧H s.heap.objs.size=none∧g.h₀.get? s.heap.objs.size=none:=by
 have f:∀o,s.heap.get? s.heap.objs.size=some o→False:=fun o e=>Nat.lt_irrefl _ (Heap.lt_size e)
 refine⟨?_,untracked S,?_⟩
 ·cases e:s.heap.get? s.heap.objs.size with
  |none=>rfl
  |some o=>exact(f o e).elim
 ·cases e:g.h₀.get? s.heap.objs.size with
  |none=>rfl
  |some o=>exact(f o (S.keep _ _ e)).elim
set_option tactic.hygienic true in
theorem jP{p:PV}{v:Value}{l:List PV}{P:Value→Shared→Prop}{E:Value→Shared→Prop}(S:n8 g s H)(r:Rep g.tab s.heap H p v)(e:itemsOf H p=some l)(ok:Ao p)
  (k:∀I s₁,n8 g s₁ H→Calm s.heap H s₁.heap H→K5 g p I 0 s₁.heap H→s.heap.get? I=none→H I=none→g.h₀.get? I=none→P (.ref I) s₁):wpAny (model g.prog g.w) A (pyIter v) P E s:=by
 obtain⟨f1,f2,f3⟩:=bT S
 have c:∀x,n8 g {s with heap:=s.heap.push x} H∧Calm s.heap H (s.heap.push x) H:=fun x=>⟨S.push x s.toks,Calm.push ..⟩
 cases p
 case tup l=>
  obtain⟨t,vs,j,rfl,o,rl⟩:=r
  refine iter_tuple (⟨_,o,rfl,_,rfl⟩:IsTup s.heap t vs.toArray) (k _ _ (c _).1 (c _).2 ⟨t,vs,j,⟨_,Heap.get?_push_size _ rfl,rfl,rfl⟩,Heap.get?_push_of_some _ o,rl.keeps (c _).2.q9⟩ f1 f2 f3)
 case rng a b=>
  obtain⟨t,x,y,z,rfl,o⟩:=r
  refine wpAny_pyIter_range o (small_one (by have:=ok.1;lia) (by have:=ok.2.1;lia) (by have:=ok.2.2.1;lia) (by have:=ok.2.2.2;lia)) (k _ _ (c _).1 (c _).2 ?_ f1 f2 f3)
  show Heap.get? _ _=_
  rw [Heap.get?_push_size _ rfl,jO]
  simp
 case lst l=>
  obtain⟨t,vs,j,rfl,o,q,rl⟩:=r
  exact wpAny_pyIter_list (⟨_,o,rfl,_,rfl⟩:s.heap.IsList t vs.toArray) (k _ _ (c _).1 (c _).2 ⟨t,vs,j,⟨_,Heap.get?_push_size _ rfl,rfl,rfl⟩,Heap.get?_push_of_some _ o,q,rl.keeps (c _).2.q9⟩ f1 f2 f3)
 case obj a=>
  rcases v8 (p:=.obj a) e with w|⟨b,w,e⟩
  ·cases w
  ·cases w
   cases r
   obtain⟨vs,j,o,rl⟩:=S.obj _ _ e
   exact wpAny_pyIter_list (⟨_,o,rfl,_,rfl⟩:s.heap.IsList a vs.toArray) (k _ _ (c _).1 (c _).2 ⟨⟨_,Heap.get?_push_size _ rfl,rfl,rfl⟩,l,e⟩ f1 f2 f3)
 all_goals cases e
theorem Wz{h':Heap}{c:Addr}{x:Obj}{xs:Array Value}(S:n8 g s H)(e:s.heap.get? c=some x)(nd:x.data = .fields xs∧¬KQ x.cls)(hc:H c=none)(hb:g.h₀.get? c=none)(B:Heap.ExtBut c s.heap h')(t:Nat):
  n8 g {s with heap:=h',toks:=t} H∧O5 s.heap H h' H:=by
 have P:O5 s.heap H h' H:=by
  refine⟨fun b o ys k q d cc=>B b o (fun z=>?_) q,fun b o ys k q d cc z=>⟨B b o (fun z=>?_) q,z⟩,fun b o ys q d cc=>B b o (fun z=>?_) q⟩
  all_goals (subst z;rw [e] at q;cases q)
  ·rw [nd.1] at d;cases d
  ·rw [nd.1] at d;cases d
  ·exact nd.2 cc
 refine⟨⟨fun b o q=>B b o (fun z=>?_) (S.keep b o q),S.fresh,fun a o q=>(S.obj a o q).keeps P fun y z=>B a y (fun w=>?_) z,S.gens,S.os⟩,P⟩
 ·subst z;rw [hb] at q;cases q
 ·subst w;rw [hc] at q;cases q
theorem Goes.ext{F:Addr→Prop}{h h' h'':Heap}{H H':AH}{c:Addr}(a:Goes F h H h' H')(B:Heap.ExtBut c h' h'')(hc:h.get? c=none)(P:O5 h' H' h'' H'):Goes F h H h'' H':=by
 have ne:∀b o,h.get? b=some o→b≠c:=fun b o e z=>by rw [z,hc] at e;cases e
 exact⟨fun b o e q f=>B b o (ne b o e) (a.keep b o e q f),a.new,fun b o e=>let⟨o',e'⟩:=a.ex b o e;⟨o',B b o' (ne b o e) e'⟩,a.q9.trans P⟩
theorem Goes.drop{F F':Addr→Prop}{h h':Heap}{H H':AH}(a:Goes F h H h' H')(k:∀b,F b→h.get? b=none∨F' b):Goes F' h H h' H':=
 ⟨fun b o e q f=>a.keep b o e q fun z=>(k b z).elim (fun w=>by rw [e] at w;cases w) f,a.new,a.ex,a.q9⟩
set_option tactic.hygienic true in
theorem oA{p q:PV}{l:List PV}{I:Addr}{k:Nat}{P:Option Value→Shared→Prop}{E:Value→Shared→Prop}(S:n8 g s H)(x:K5 g p I k s.heap H)(hI:H I=none)(hb:g.h₀.get? I=none)(e:itemsOf H p=some l)(hq:l[k]? = some q)
  (K:∀v s',Rep g.tab s'.heap H q v→n8 g s' H→Goes (fun b=>b=I) s.heap H s'.heap H→K5 g p I (k+1) s'.heap H→P (some v) s'):wpAny (model g.prog g.w) A (pyNext (.ref I)) P E s:=by
 obtain⟨o,xs,e1,e2,e3,e4,e5⟩:=x.at
 have turn:∀h' t,Heap.SameBut I s.heap h'→(∃y,h'.get? I=some y)→n8 g {s with heap:=h',toks:=t} H∧Goes (fun b=>b=I) s.heap H h' H:=fun h' t B ex=>
  lu S e1 ⟨fun ys j d=>(by rw [e2] at d;cases d),fun ys O=>e3⟩ hI hb B ex t
 cases p
 case tup l'=>
  obtain⟨t,vs,j,it,ot,rl⟩:=x
  cases e
  obtain⟨v,hv,rv⟩:=rl.get hq
  have hne:t≠I:=fun z=>by rw [z,e1] at ot;cases ot;cases e2
  refine next_tuple_item it (⟨_,ot,rfl,_,rfl⟩:IsTup s.heap t vs.toArray) (by simpa using hv) fun h' it' B=>?_
  obtain⟨S',c⟩:=turn h' s.toks B (let⟨o,z,_⟩:=it';⟨o,z⟩)
  exact K v _ (rv.keeps c.q9) S' c ⟨t,vs,j,it',(B.2 t hne).trans ot,rl.keeps c.q9⟩
 case rng a b=>
  cases e
  have hk:k<(b-a).toNat:=by have:=(List.getElem?_eq_some_iff.mp hq).1;rwa [W8] at this
  rw [rG _ _ _ hk] at hq
  cases hq
  have x':IsRangeIter s.heap I (a+k) (((b-a).toNat:Int)-k) 1:=x
  refine wpAny_pyNext_range_item x' (by lia) fun h' it' B=>?_
  obtain⟨S',c⟩:=turn h' (s.toks+1) B ⟨_,it'⟩
  refine K _ _ ⟨_,rfl⟩ S' c ?_
  show IsRangeIter h' I _ _ 1
  have h1:a+((k+1:Nat):Int)=a+k+1:=by lia
  have h2:((b-a).toNat:Int)-((k+1:Nat):Int)=(b-a).toNat-k-1:=by lia
  rw [h1,h2];exact it'
 case lst l'=>
  obtain⟨t,vs,j,it,ot,ut,rl⟩:=x
  cases e
  obtain⟨v,hv,rv⟩:=rl.get hq
  have hne:t≠I:=fun z=>by rw [z,e1] at ot;cases ot;cases e2
  refine wpAny_pyNext_list_item it (⟨_,ot,rfl,_,rfl⟩:s.heap.IsList t vs.toArray) (by simpa using hv) fun h' it' B=>?_
  obtain⟨S',c⟩:=turn h' s.toks B (let⟨o,z,_⟩:=it';⟨o,z⟩)
  exact K v _ (rv.keeps c.q9) S' c ⟨t,vs,j,it',(B.2 t hne).trans ot,ut,rl.keeps c.q9⟩
 case obj a=>
  obtain⟨it,l',hl⟩:=x
  have el:l'=l:=Option.some.inj ((G5 hl).symm.trans e)
  subst el
  obtain⟨vs,j,ot,rl⟩:=S.obj _ _ hl
  obtain⟨v,hv,rv⟩:=rl.get hq
  refine wpAny_pyNext_list_item it (⟨_,ot,rfl,_,rfl⟩:s.heap.IsList a vs.toArray) (by simpa using hv) fun h' it' B=>?_
  obtain⟨S',c⟩:=turn h' s.toks B (let⟨o,z,_⟩:=it';⟨o,z⟩)
  exact K v _ (rv.keeps c.q9) S' c ⟨it',l',hl⟩
 all_goals exact x.elim
set_option tactic.hygienic true in
theorem rH{p:PV}{l:List PV}{I:Addr}{P:Option Value→Shared→Prop}{E:Value→Shared→Prop}(hh:A.handled=none)(S:n8 g s H)(x:K5 g p I l.length s.heap H)(hI:H I=none)(hb:g.h₀.get? I=none)(e:itemsOf H p=some l)
  (K:∀h',n8 g {s with heap:=h'} H→Heap.ExtBut I s.heap h'→O5 s.heap H h' H→P none {s with heap:=h'}):wpAny (model g.prog g.w) A (pyNext (.ref I)) P E s:=by
 obtain⟨o,xs,e1,e2,e3,e4,e5⟩:=x.at
 have turn:∀h',Heap.ExtBut I s.heap h'→P none {s with heap:=h'}:=fun h' B=>by
  obtain⟨S',P'⟩:=Wz S e1 ⟨e2,e3⟩ hI hb B s.toks
  exact K h' S' B P'
 cases p
 case tup l'=>
  obtain⟨t,vs,j,it,ot,rl⟩:=x
  cases e
  exact next_tuple_end hh it (⟨_,ot,rfl,_,rfl⟩:IsTup s.heap t vs.toArray) (by rw [← rl.length];simp) turn
 case rng a b=>
  cases e
  have x':IsRangeIter s.heap I (a+((H9 a (b-a).toNat).length:Nat)) (((b-a).toNat:Int)-((H9 a (b-a).toNat).length:Nat)) 1:=x
  exact wpAny_pyNext_range_end hh x' (by rw [W8];lia) turn
 case lst l'=>
  obtain⟨t,vs,j,it,ot,ut,rl⟩:=x
  cases e
  exact wpAny_pyNext_list_end hh it (⟨_,ot,rfl,_,rfl⟩:s.heap.IsList t vs.toArray) (by rw [← rl.length];simp) turn
 case obj a=>
  obtain⟨it,l',hl⟩:=x
  have el:l'=l:=Option.some.inj ((G5 hl).symm.trans e)
  subst el
  obtain⟨vs,j,ot,rl⟩:=S.obj _ _ hl
  exact wpAny_pyNext_list_end hh it (⟨_,ot,rfl,_,rfl⟩:s.heap.IsList a vs.toArray) (by rw [← rl.length];simp) turn
 all_goals exact x.elim
end
section
variable{τ:T}{g:G τ}{n:Nat}{env:Env}{m:Loc}{H:AH}{A:Around}{s:Shared}
inductive Li(v:PV)(H:AH)(Q:AH→Prop):PV→PV→Prop
 |list {a:Addr} {l:List PV} {i:Int} (o:H a=some (.list l)) (h1:0≤i) (h2:i<l.length) (h3:l.length≤sizeLine) (h:Q (upd H a (.list (l.set i.toNat v)))):Li v H Q (.obj a) (.int i)
 |m6 {a:Addr} {l:List (Int×PV)} {i:Int} (o:H a=some (.m6 l)) (z:l.length≤sizeLine) (h:Q (upd H a (.m6 (J7 i v l)))):Li v H Q (.obj a) (.int i)
 |u0 {a:Addr} {l:List (Nat×PV)} {i:Nat} (o:H a=some (.u0 l)) (z:l.length≤sizeLine) (h:Q (upd H a (.u0 (J7 i v l)))):Li v H Q (.obj a) (.str i)
 |z6 {a:Addr} {l:List ((Int×Int)×PV)} {ij:Int×Int} (o:H a=some (.z6 l)) (z:l.length≤sizeLine) (h:Q (upd H a (.z6 (J7 ij v l)))):Li v H Q (.obj a) (.tup [.int ij.1,.int ij.2])
noncomputable abbrev Aq(p k v:PV)(H:AH)(Q:AH→Prop):Prop:=Li v H Q p k
theorem Ej{a:Addr}{vs:List Value}{j:Nat}{i:Int}{t:Tok}{v:Value}{Q:Unit→Shared→Prop}{E:Value→Shared→Prop}(o:s.heap.get? a=some (Aa vs j))(h0:0≤i)(hn:i<vs.length)(hz:vs.length≤sizeLine)
  (h:Q () {s with heap:=s.heap.update a (Obj.mapSeq (·.setIfInBounds i.toNat v))}):wpAny (model g.prog g.w) A (setItem (.ref a) (.int i t) v) Q E s:=by
 have hl:s.heap.IsList a vs.toArray:=⟨_,o,rfl,_,rfl⟩
 have hfit:i<2 ^ 63:=by rw [sizeLine_eq] at hz;lia
 have hx:vs.toArray[i.toNat]? = some (vs[i.toNat]'(by lia)):=by simp
 unfold setItem
 refine wpAny_holding ?_
 refine wpAny_bind (wpAny_sequenceKey hl.typeIs (by decide) ?_)
 refine wpAny_bind (wpAny_callSpecial?_slot (name:=Str.ofString "__setitem__") hl.typeIs slot_list_setitem
  (wpAny_call_entry slot_list_setitem hl.typeIs entry_list_setitem ?_ (args_list_setitem _ _ _)))
 show wpAny _ _ (Builtin.List.listSubscript? (.int i t) >>= _) _ _ s
 refine wpAny_bind (wpAny_listSubscript_int (fitsIndex_of h0 hfit) ?_)
 obtain⟨k,rfl⟩:=Int.eq_ofNat_of_zero_le h0
 show wpAny _ _ ((seqItemAt a k >>= fun r=>pure (r.map (k,·))) >>= _) _ _ s
 refine wpAny_bind (wpAny_bind (wpAny_seqItemAt o rfl (wpAny_pure ?_)))
 have hx':vs.toArray[k]? = some (vs[k]'(by lia)):=hx
 rw [hx']
 show wpAny _ _ (setSeqItemAt a k v >>= _) _ _ s
 refine wpAny_bind (wpAny_setSeqItemAt o rfl ?_)
 first
  |exact wpAny_bind (wpAny_pure (wpAny_pure ⟨.none,rfl,wpAny_pure h⟩))
  |exact wpAny_pure ⟨.none,rfl,wpAny_pure h⟩
theorem WD{p k q:PV}{u kv v:Value}{Q:AH→Prop}(hg:v9 g)(R:J5 n A)(S:n8 g s H)(ru:Rep g.tab s.heap H p u)(rk:Rep g.tab s.heap H k kv)(rv:Rep g.tab s.heap H q v)(h:Aq p k q H Q):
  wpAny (model g.prog g.w) A (setItem u kv v) (fun O s' => ∃H',n8 g s' H'∧Calm s.heap H s'.heap H'∧Q H') (fun O O=>False) s:=by
 cases h with
 |@list a l i e h1 h2 h3 q=>
  cases ru
  obtain⟨t,rfl⟩:=rk
  obtain⟨vs,j,o,rl⟩:=S.obj _ _ e
  have el:=rl.length
  refine Ej o h1 (by lia) (by lia) ?_
  have hu:=Heap.get?_update_self (Obj.mapSeq (·.setIfInBounds i.toNat v)) o rfl
  obtain⟨S',c⟩:=lD (l':=l.set i.toNat _) (vs':=vs.set i.toNat v) S e (Heap.SameBut.update ..) (by
   rw [hu]
   simp only [Obj.mapSeq,List.setIfInBounds_toArray]
   rfl) (rl.set i.toNat rv) s.toks
  exact⟨_,S',c,q⟩
 |m6 e z h=>cases ru;exact wpAny_mono ((KD.int g).setItem hg S e rk rv z) (fun O s' ⟨x,y⟩=>⟨_,x,y,h⟩) fun O O x=>x
 |u0 e z h=>cases ru;exact wpAny_mono ((KD.str g).setItem hg S e rk rv z) (fun O s' ⟨x,y⟩=>⟨_,x,y,h⟩) fun O O x=>x
 |z6 e z h=>cases ru;exact wpAny_mono (aj0 hg R S e rk rv z) (fun O s' ⟨x,y⟩=>⟨_,x,y,h⟩) fun O O x=>x
inductive Zu{τ:T}(g:G τ)(env:Env)(s:Shared)(H:AH)(Q:Loc→AH→Prop)(s':Shared):Prop
 |mk (m':Loc) (H':AH) (S:n8 g s' H') (F:z9 g env m' s'.heap H') (c:Goes (Own env) s.heap H s'.heap H') (q:Q m' H')
noncomputable def As{τ:T}(g:G τ)(n:Nat)(env:Env)(m:Loc)(H:AH)(tg:PySem.Expr)(q:PV)(Q:Loc→AH→Prop):Prop:=
 ∀A s v,J5 n A→n8 g s H→z9 g env m s.heap H→Rep g.tab s.heap H q v→wpAny (model g.prog g.w) A (assign tg env v) (fun O s'=>Zu g env s H Q s') (fun O O=>False) s
theorem Zu.step{s₁ s':Shared}{H₁:AH}{Q:Loc→AH→Prop}(c:Goes (Own env) s.heap H s₁.heap H₁)(x:Zu g env s₁ H₁ Q s'):Zu g env s H Q s':=
 let⟨m',H',S,F,c',q⟩:=x;⟨m',H',S,F,c.trans c',q⟩
theorem As.name{x:Nat}{pos:Pos}{q:PV}{Q:Loc→AH→Prop}(hg:v9 g)(k:env.kindOf (g.tab x)=some .local∨env.kindOf (g.tab x)=some .cell)(h:Q (m5 x q m) H):As g n env m H (.Name (g.tab x) pos) q Q:=fun A s v R S F r=>
 assign_Name (wpAny_mono (Ad hg S F k r) (fun O s' ⟨a,b,c⟩=>⟨_,H,a,b,c,h⟩) fun O O x=>x)
theorem As.attr{o:PySem.Expr}{x:Nat}{pos:Pos}{q:PV}{Q:Loc→AH→Prop}(hg:v9 g)(h:Ev g n env m H o fun p H₁ => ∃a C dx l,p = .obj a∧H₁ a=some (.inst C dx)∧H₁ dx=some (.attrs l)∧g.fld C x=true∧l.length<900∧Q m (upd H₁ dx (.attrs (m5 x q l)))):As g n env m H (.Attribute o (g.tab x) pos) q Q:=fun A s v R S F r=>by
 rw [assign_Attribute]
 refine wpAny_bind (wpAny_holding (h.then R S F fun u s₁ p H₁ ru S₁ c₁ F₁ k=>?_))
 obtain⟨a,C,dx,l,rfl,e1,e2,hf,hz,q⟩:=k
 cases ru
 refine wpAny_bind (wpAny_standAt (wpAny_bind (wpAny_holding (wpAny_mono (DQ hg S₁ e1 e2 hf hz (r.keeps c₁.q9)) (fun O s₂ ⟨S₂,c₂⟩=>?_) fun O O x=>x))))
 exact wpAny_release ⟨m,_,S₂,F₁.goes c₂,(c₁.trans c₂).own,q⟩
theorem As.sub{o i:PySem.Expr}{pos:Pos}{q:PV}{Q:Loc→AH→Prop}(hg:v9 g)(h:Ev g n env m H o fun p H₁=>Ev g n env m H₁ i fun k H₂=>Aq p k q H₂ (Q m)):As g n env m H (.Subscript o i pos) q Q:=fun A s v R S F r=>by
 rw [arm_assign_Subscript]
 refine wpAny_bind (wpAny_holding (h.then R S F fun u s₁ p H₁ ru S₁ c₁ F₁ k=>?_))
 refine wpAny_bind (wpAny_holding (Ev.then k R S₁ F₁ fun w s₂ kk H₂ rk S₂ c₂ F₂ k=>?_))
 refine wpAny_bind (wpAny_standAt (wpAny_bind (wpAny_holding (wpAny_mono (WD hg R S₂ (ru.keeps c₂.q9) rk ((r.keeps c₁.q9).keeps c₂.q9) k) (fun O s₃ ⟨H₃,S₃,c₃,q⟩=>?_) fun O O x=>x))))
 exact wpAny_release ⟨m,_,S₃,F₂.goes c₃,((c₁.trans c₂).trans c₃).own,q⟩
noncomputable def Zv{τ:T}(g:G τ)(n:Nat)(env:Env):Loc→AH→List PySem.Expr→List PV→(Loc→AH→Prop)→Prop
 |m,H,[],[],Q=>Q m H
 |m,H,t::ts,q::qs,Q=>As g n env m H t q fun m' H'=>Zv g n env m' H' ts qs Q
 |_,_,_,_,_=>False
noncomputable def lE(t:PySem.Expr):Prop := ∀rest env,assignEach (t::rest) env=(false,assign t env)::assignEach rest env
theorem Lj:∀{ts:List PySem.Expr} {qs:List PV} {vs:List Value} {Q:Loc→AH→Prop} {m:Loc} {H:AH} {A:Around} {s:Shared},(∀t∈ts,lE t)→J5 n A→n8 g s H→z9 g env m s.heap H→m8 g.tab s.heap H qs vs→Zv g n env m H ts qs Q→
  wpAny (model g.prog g.w) A (assignInOrder ((assignEach ts env).map (·.2)) vs) (fun O s'=>Zu g env s H Q s') (fun O O=>False) s
 | [],[],_,Q,m,H,A,s,_,R,S,F,r,h=>by cases r;exact assignInOrder_nil ⟨m,H,S,F,.refl ..,h⟩
 |t::ts,q::qs,_,Q,m,H,A,s,hp,R,S,F,⟨v,vs,e,r,rl⟩,h=>by
  subst e
  rw [hp t (.head _)]
  refine assignInOrder_cons (wpAny_mono (h A s v R S F r) (fun O s₁ y=>?_) fun O O x=>x)
  obtain⟨m₁,H₁,S₁,F₁,c₁,k⟩:=y
  exact wpAny_mono (Lj (fun x hx=>hp x (.tail _ hx)) R S₁ F₁ (rl.keeps c₁.q9) k) (fun O O x=>x.step c₁) fun O O x=>x
 | [],_::_,_,_,_,_,_,_,_,_,_,_,_,h=>h.elim
 |_::_,[],_,_,_,_,_,_,_,_,_,_,_,h=>h.elim
theorem bU:∀{ts:List PySem.Expr},(∀t∈ts,lE t)→(assignEach ts env).length=ts.length∧(assignEach ts env).findIdx? (·.1)=none
 | [],_=>⟨rfl,rfl⟩
 |t::ts,h=>by
  rw [h t (.head _)]
  obtain⟨a,b⟩:=bU fun x hx=>h x (.tail _ hx)
  exact⟨by rw [List.length_cons,a,List.length_cons],by rw [List.findIdx?_cons];simp [b]⟩
theorem Hf{p:PV}{l:List PV}{I:Addr}{P:List Value→Shared→Prop}{E:Value→Shared→Prop}(hI:H I=none)(hb:g.h₀.get? I=none)(e:itemsOf H p=some l):∀(j k:Nat) (s:Shared),n8 g s H→K5 g p I k s.heap H→k+j=l.length→
  (∀vs s',m8 g.tab s'.heap H (l.drop k) vs→n8 g s' H→Goes (fun b=>b=I) s.heap H s'.heap H→K5 g p I l.length s'.heap H→P vs s')→wpAny (model g.prog g.w) A (draw (.ref I) j) P E s
 |0,k,s,S,x,hk,K=>by
  show wpAny _ _ (pure []) _ _ _
  have:k=l.length:=by lia
  subst this
  exact wpAny_pure (K [] s (by rw [List.drop_length];exact rfl) S (.refl ..) x)
 |j+1,k,s,S,x,hk,K=>by
  have hlt:k<l.length:=by exact Mine.Internal.eqs ‹_›
  show wpAny _ _ (pyNext (.ref I) >>= _) _ _ _
  refine wpAny_bind (oA S x hI hb e (List.getElem?_eq_getElem hlt) fun v s₁ rv S₁ c₁ x₁=>?_)
  refine wpAny_bind (wpAny_holding (Hf hI hb e j (k+1) s₁ S₁ x₁ (by exact Mine.Internal.eqt ‹_›) fun vs s₂ rl S₂ c₂ x₂=>wpAny_pure ?_))
  refine K (v::vs) s₂ ?_ S₂ (c₁.trans c₂) x₂
  rw [List.drop_eq_getElem_cons hlt]
  exact⟨v,vs,rfl,rv.keeps c₂.q9,rl⟩
theorem z9.apart{env:Env}{m:Loc}{I:Addr}(F:z9 g env m s.heap H)(e:s.heap.get? I=none):∀b,(b=env.locals∨∃x,env.cells.lookup x=some b)→b≠I:=by
 intro b hb z
 subst z
 rcases hb with hb|⟨x,hb⟩
 ·obtain⟨mv,⟨o,es,ep,e1,_⟩,_⟩:=F.ns
  rw [← hb,e] at e1;cases e1
 ·obtain⟨_,_,v,⟨o,e1,_⟩⟩:=F.cells x b hb
  rw [e] at e1;cases e1
theorem aQ{p:PV}{l:List PV}{v:Value}{P:List Value→Shared→Prop}{E:Value→Shared→Prop}(R:J5 n A)(S:n8 g s H)(F:z9 g env m s.heap H)(r:Rep g.tab s.heap H p v)(e:(∃l,p = .tup l)∨∃l,v7 H p=some l)(el:itemsOf H p=some l)
  (K:∀vs s',m8 g.tab s'.heap H l vs→n8 g s' H→Calm s.heap H s'.heap H→z9 g env m s'.heap H→P vs s'):wpAny (model g.prog g.w) A (unpackItems v l.length none) P E s:=by
 have aj7:wpAny (model g.prog g.w) A (notIterableAtAll v) (fun b s'=>b=false∧s'=s) E s:=by
  unfold notIterableAtAll
  rcases e with⟨l',rfl⟩|⟨l',e⟩
  ·obtain⟨t,vs,j,rfl,o,rl⟩:=r
   refine wpAny_bind (wpAny_specialOf (⟨_,o,rfl⟩:s.TypeIs (.ref t) "tuple") slot_tuple_iter.lookup ?_)
   exact wpAny_pure ⟨rfl,rfl⟩
  ·obtain⟨t,vs,j,rfl,o,rl⟩:=U5 (h:=s.heap) S r (v8 e)
   refine wpAny_bind (wpAny_specialOf (⟨_,o,rfl⟩:s.TypeIs (.ref t) "list") slot_list_iter.lookup ?_)
   exact wpAny_pure ⟨rfl,rfl⟩
 have ok:Ao p:=by
  rcases e with⟨l',rfl⟩|⟨l',e⟩
  ·trivial
  ·cases p<;>first|trivial|cases e
 unfold unpackItems
 refine wpAny_bind (wpAny_mono aj7 (fun b s' ⟨hb,hs⟩=>?_) fun O O x=>x)
 subst hb;subst hs
 simp only [Bool.false_eq_true,if_false]
 refine wpAny_bind (wpAny_holding (jP S r el ok fun I s₁ S₁ c₁ x₁ f1 f2 f3=>?_))
 refine wpAny_bind (wpAny_holding (Hf f2 f3 el l.length 0 s₁ S₁ x₁ (by exact Nat.add_comm ..) fun vs s₂ rl S₂ c₂ x₂=>?_))
 rw [List.drop_zero] at rl
 rw [if_neg (by rw [rl.length];simp)]
 refine wpAny_bind (wpAny_holding (rH R.handled S₂ x₂ f2 f3 el fun h' S₃ B P₃=>?_))
 simp only [Option.isSome_none,Bool.false_eq_true,if_false]
 have C₂:Calm s'.heap H s₂.heap H:=((c₁.weak (F':=fun b=>b=I) fun O z=>z.elim).trans c₂).drop fun b z=>.inl (z▸f1)
 have C:Calm s'.heap H h' H:=C₂.ext B f1 P₃
 exact wpAny_pure (K vs _ (rl.keeps P₃) S₃ C (F.goes C))
set_option tactic.hygienic true in
theorem As.tup{ts:List PySem.Expr}{k:Nat}{pos:Pos}{p:PV}{Q:Loc→AH→Prop}(hp:∀t∈ts,lE t)(h:((∃l,p = .tup l)∨∃l,v7 H p=some l)∧match itemsOf H p with|some l=>l.length=ts.length∧Zv g n env m H ts l Q|none=>False):As g n env m H (.Tuple ts k pos) p Q:=fun A s v R S F r=>by
 rw [arm_assign_Tuple]
 obtain⟨h1,h2⟩:=h
 refine wpAny_bind (wpAny_standAt ?_)
 unfold unpack
 obtain⟨e1,e2⟩:=bU (env:=env) hp
 rw [e1,e2]
 split at h2
 ·next l el=>
  rw [← h2.1]
  refine wpAny_bind (wpAny_holding (aQ R S F r h1 el fun vs s' rl S' c' F'=>?_))
  exact wpAny_mono (Lj hp R S' F' rl h2.2) (fun O O x=>x.step c'.own) fun O O x=>x
 ·exact h2.elim
end
section
variable{τ:T}{g:G τ}{n:Nat}{env:Env}{m:Loc}{H:AH}{A:Around}{s:Shared}
theorem dZ.asg{tg value:PySem.Expr}{pos:Pos}{Q:Out→Loc→AH→Prop}(hs:swapsWithSole [tg] value pos.line env=pure false)(hw:swappedStores [tg] value env=pure none)(he:assignEach [tg] env=[(false,PySem.assign tg env)])
  (h:Ev g n env m H value fun p H₁=>As g n env m H₁ tg p fun m' H'=>Q .next m' H'):dZ g n env m H (.Assign [tg] value pos) Q:=fun A s R S F=>by
 rw [exec_Assign]
 refine wpAny_bind (wpAny_standAt ?_)
 rw [hs]
 refine wpAny_bind (wpAny_pure ?_)
 rw [if_neg (by decide)]
 refine wpAny_bind (h.then R S F fun v s₁ p H₁ rv S₁ c₁ F₁ k=>?_)
 rw [hw,he]
 refine wpAny_bind (wpAny_pure ?_)
 show wpAny _ _ (do assignAll v [PySem.assign tg env];pure Flow.next) _ _ s₁
 refine wpAny_bind (wpAny_mono (k A s₁ v R S₁ F₁ rv) (fun O s₂ ⟨m₂,H₂,S₂,F₂,c₂,q⟩=>?_) fun O O x=>x)
 exact wpAny_pure ⟨.next,m₂,H₂,rfl,S₂,F₂,c₁.own.trans c₂,q⟩
noncomputable def lF:List Nat→List PV→Loc→Loc
 |x::xs,q::qs,m=>lF xs qs (m5 x q m)
 |_,_,m=>m
theorem Ar(hg:v9 g):∀{xs:List Nat} {qs:List PV} {vs:List Value} {m:Loc} {s:Shared},(∀x∈xs,env.kindOf (g.tab x)=some .local∨env.kindOf (g.tab x)=some .cell)→xs.length=qs.length→n8 g s H→z9 g env m s.heap H→m8 g.tab s.heap H qs vs→
  wpAny (model g.prog g.w) A (assignInOrder (xs.map fun x=>bindName env (g.tab x)) vs) (fun O s'=>n8 g s' H∧z9 g env (lF xs qs m) s'.heap H∧Goes (Own env) s.heap H s'.heap H) (fun O O=>False) s
 | [],[],_,m,s,_,_,S,F,r=>by cases r;exact assignInOrder_nil ⟨S,F,.refl ..⟩
 |x::xs,q::qs,_,m,s,k,e,S,F,⟨v,vs,ev,r,rl⟩=>by
  subst ev
  refine assignInOrder_cons (wpAny_bindName (wpAny_mono (Ad hg S F (k x (.head _)) r) (fun O s₁ ⟨S₁,F₁,c₁⟩=>?_) fun O O x=>x))
  exact wpAny_mono (Ar hg (fun y hy=>k y (.tail _ hy)) (by simpa using e) S₁ F₁ (rl.keeps c₁.q9)) (fun O s₂ ⟨S₂,F₂,c₂⟩=>⟨S₂,F₂,c₁.trans c₂⟩) fun O O x=>x
 | [],_::_,_,_,_,_,e,_,_,_=>by simp at e
 |_::_,[],_,_,_,_,e,_,_,_=>by simp at e
theorem dZ.swap{ts:List PySem.Expr}{k:Nat}{tpos:Pos}{value:PySem.Expr}{pos:Pos}{xs:List Nat}{Q:Out→Loc→AH→Prop}(hg:v9 g)(hs:swapsWithSole [.Tuple ts k tpos] value pos.line env=pure false)(hw:swappedStores [.Tuple ts k tpos] value env=pure (some (xs.map g.tab)))
  (hk:∀x∈xs,env.kindOf (g.tab x)=some .local∨env.kindOf (g.tab x)=some .cell)
  (h:Ev g n env m H value fun p H₁ => ∃l,p = .tup l∧l.length=xs.length∧Q .next (lF xs.reverse l.reverse m) H₁):dZ g n env m H (.Assign [.Tuple ts k tpos] value pos) Q:=fun A s R S F=>by
 refine Assign_Tuple_swapped (h.then R S F fun v s₁ p H₁ rv S₁ c₁ F₁ k=>?_) hs hw
 obtain⟨l,rfl,el,q⟩:=k
 rw [List.length_map,← el]
 refine aQ R S₁ F₁ rv (.inl ⟨l,rfl⟩) rfl fun vs s₂ rl S₂ c₂ F₂=>?_
 have e:(xs.map g.tab).reverse.map (fun n=>bindName env n)=xs.reverse.map fun x=>bindName env (g.tab x):=by rw [← List.map_reverse,List.map_map];rfl
 rw [e]
 exact wpAny_mono (Ar hg (fun x hx=>hk x (List.mem_reverse.mp hx)) (by rw [List.length_reverse,List.length_reverse,el]) S₂ F₂ rl.reverse) (fun O s₃ ⟨S₃,F₃,c₃⟩=>⟨.next,_,H₁,rfl,S₃,F₃,(c₁.trans c₂).own.trans c₃,q⟩) fun O O x=>x
theorem pG{tg:PySem.Expr}{I:Addr}{o:Obj}{v:Value}{P:Unit→Shared→Prop}{E:Value→Shared→Prop}(e:s.heap.get? I=some o)(c:o.cls = .type "list_iterator"∨o.cls = .type "tuple_iterator"∨o.cls = .type "range_iterator")(h:P () s):
  wpAny (model g.prog g.w) A (letOwnedTupleGo tg (.ref I) v) P E s:=by
 obtain⟨cl,d,dt,sl⟩:=o
 have key:wpAny (model g.prog g.w) A (letOwnedTupleGo (.Tuple [] 0 ⟨0,0,0,0⟩) (.ref I) v) P E s:=by
  cases v<;>first|exact wpAny_pure h|skip
  show wpAny _ _ (load I >>= _) _ _ _
  refine wpAny_bind (wpAny_load e ?_)
  dsimp only at c ⊢
  rcases c with rfl|rfl|rfl
  all_goals
   cases dt<;>exact wpAny_pure h
 cases tg<;>first|exact wpAny_pure h|exact key
set_option tactic.hygienic true in
theorem K5.kind{p:PV}{I:Addr}{k:Nat}{h:Heap}(x:K5 g p I k h H):∃o,h.get? I=some o∧(o.cls = .type "list_iterator"∨o.cls = .type "tuple_iterator"∨o.cls = .type "range_iterator"):=by
 cases p
 case tup l=>obtain⟨t,vs,j,⟨o,e1,e2,e3⟩,_⟩:=x;exact⟨o,e1,.inr (.inl e2)⟩
 case rng a b=>exact⟨_,x,.inr (.inr rfl)⟩
 case lst l=>obtain⟨t,vs,j,⟨o,e1,e2,e3⟩,_⟩:=x;exact⟨o,e1,.inl e2⟩
 case obj a=>obtain⟨⟨o,e1,e2,e3⟩,_⟩:=x;exact⟨o,e1,.inl e2⟩
 all_goals exact x.elim
noncomputable def Jl{τ:T}(g:G τ)(n:Nat)(env:Env)(tg:PySem.Expr)(body:List Stmt)(p:PV)(l:List PV)(Q:Out→Loc→AH→Prop):List PV→Loc→AH→Prop
 | [],m,H=>Q .next m H
 |q::r,m,H=>As g n env m H tg q fun m₁ H₁=>Ex g n env m₁ H₁ body fun o m₂ H₂=>@Out.rec (fun O=>Prop) (itemsOf H₂ p=some l∧Jl g n env tg body p l Q r m₂ H₂) (Q .next m₂ H₂) (itemsOf H₂ p=some l∧Jl g n env tg body p l Q r m₂ H₂) (fun x=>Q (.ret x) m₂ H₂) o
inductive Zw{τ:T}(g:G τ)(n:Nat)(env:Env)(tg:PySem.Expr)(body:List Stmt)(p:PV)(l:List PV)(Q:Out→Loc→AH→Prop)(I:Addr)(h:Heap)(H:AH)(s':Shared)(m':Loc)(H':AH)(i:Nat):Prop
 |mk (S:n8 g s' H') (F:z9 g env m' s'.heap H') (C:Goes (fun b=>Own env b∨b=I) h H s'.heap H') (x:K5 g p I i s'.heap H') (e:itemsOf H' p=some l) (z:H' I=none) (k:Jl g n env tg body p l Q (l.drop i) m' H')
theorem dZ.for{tg iter:PySem.Expr}{body:List Stmt}{pos:Pos}{Q:Out→Loc→AH→Prop}(hf:∀x,foldedSetIterable iter env x=pure x)
  (h:Ev g n env m H iter fun p H₁=>Ao p∧match itemsOf H₁ p with|some l=>Jl g n env tg body p l Q l m H₁|none=>False):dZ g n env m H (.For tg iter body [] pos) Q:=fun A s R S F=>by
 refine wpAny_For (h.then R S F fun v s₁ p H₁ rv S₁ c₁ F₁ k=>?_) hf
 obtain⟨ok,k⟩:=k
 cases el:itemsOf H₁ p with
 |none=>rw [el] at k;exact k.elim
 |some l=>
  rw [el] at k
  refine jP S₁ rv el ok fun I s₂ S₂ c₂ x₂ f1 f2 f3=>?_
  have ap:=F₁.apart f1
  have sI:s.heap.get? I=none:=by
   cases e:s.heap.get? I with
   |none=>rfl
   |some o=>obtain⟨o',e'⟩:=c₁.ex I o e;rw [f1] at e';cases e'
  have nI:¬Own env I:=fun z=>by
   rcases z with z|⟨x,_,z⟩
   ·exact ap I (.inl z) rfl
   ·exact ap I (.inr ⟨x,z⟩) rfl
  refine codeAny_forLoop_any (fun j s' => ∃i m' H',j+i=l.length∧Zw g n env tg body p l Q I s.heap H s' m' H' i)
   (fun j s' hj=>?_) l.length ⟨0,m,H₁,rfl,S₂,F₁.goes c₂,(c₁.trans c₂).weak fun O z=>z.elim,x₂,el,f2,k⟩
  obtain⟨i,m',H',hi,S',F',C',x',YQ,hI,fl⟩:=hj
  have drop:∀{h':Heap} {xK:AH},Goes (fun b=>Own env b∨b=I) s.heap H h' xK→Goes (Own env) s.heap H h' xK:=fun C=>C.drop fun b z=>z.elim .inr fun w=>.inl (w▸sI)
  cases j with
  |succ j=>
   have hlt:i<l.length:=by lia
   rw [List.drop_eq_getElem_cons hlt] at fl
   refine oA S' x' hI f3 YQ (List.getElem?_eq_getElem hlt) fun v₃ s₃ rv₃ S₃ c₃ x₃=>?_
   obtain⟨o,eo,ck⟩:=x₃.kind
   refine pG eo ck ?_
   refine wpAny_mono (fl A s₃ v₃ R S₃ (F'.KZ c₃ ap) rv₃) (fun O s₄ y=>?_) fun O O x=>x.elim
   obtain⟨m₄,H₄,S₄,F₄,c₄,k₄⟩:=y
   refine wpAny_mono (k₄ A s₄ R S₄ F₄) (fun f s₅ hx=>?_) fun O O x=>x.elim
   obtain⟨o,m₅,H₅,ro,S₅,F₅,c₅,k₅⟩:=hx
   have c45:Goes (Own env) s₃.heap H' s₅.heap H₅:=c₄.trans c₅
   have C₅:Goes (fun b=>Own env b∨b=I) s.heap H s₅.heap H₅:=C'.trans ((c₃.weak fun b z=>.inr z).trans (c45.weak fun b z=>.inl z))
   have back:itemsOf H₅ p=some l∧Jl g n env tg body p l Q (l.drop (i+1)) m₅ H₅→∃k,k<j+1∧(∃i m' H',k+i=l.length∧Zw g n env tg body p l Q I s.heap H s₅ m' H' i):=fun k5=>
    ⟨j,Nat.lt_succ_self j,i+1,m₅,H₅,by lia,S₅,F₅,C₅,x₃.keeps (fun o' e'=>c45.keep I o' e' hI nI) c45.q9 (k5.1.trans YQ.symm),k5.1,Classical.byContradiction (fun z=>nomatch eo.symm.trans (c45.new I hI z)),k5.2⟩
   cases o with
   |next=>cases ro;exact back k₅
   |cont=>cases ro;exact back k₅
   |brk=>cases ro;exact⟨.next,m₅,H₅,rfl,S₅,F₅,drop C₅,k₅⟩
   |ret x=>obtain⟨u,rfl,ru⟩:=ro;exact⟨.ret x,m₅,H₅,⟨u,rfl,ru⟩,S₅,F₅,drop C₅,k₅⟩
  |zero=>
   obtain rfl:i=l.length:=(Nat.zero_add i).symm.trans hi
   rw [List.drop_length] at fl
   refine rH R.handled S' x' hI f3 YQ fun h' S₃ B P₃=>wpAny_execs_nil ?_
   exact⟨.next,m',H',rfl,S₃,F'.Gz (fun b o e O w=>B b o (ap b w) e) (fun x O z O=>z) P₃,(drop C').ext B sI P₃,fl⟩
theorem dZ.while{test:PySem.Expr}{body:List Stmt}{pos:Pos}{Q:Out→Loc→AH→Prop}(I:Nat→Loc→AH→Prop)(k:Nat)(h0:I k m H)
  (h:∀j m' H',I j m' H'→Ts g n env m' H' test fun b H₁=>if b then Ex g n env m' H₁ body fun o m₂ H₂=>match o with
    |.next => ∃i,i<j∧I i m₂ H₂
    |.cont => ∃i,i<j∧I i m₂ H₂
    |.brk=>Q .next m₂ H₂
    |.ret x=>Q (.ret x) m₂ H₂
   else Q .next m' H₁):dZ g n env m H (.While test body [] pos) Q:=fun A s R S F=>by
 refine wpAny_While (codeAny_whileLoop (fun j s' => ∃m' H',I j m' H'∧n8 g s' H'∧z9 g env m' s'.heap H'∧Goes (Own env) s.heap H s'.heap H') (fun j s' hj=>?_) k ⟨m,H,h0,S,F,.refl ..⟩)
 obtain⟨m',H',hI,S',F',C'⟩:=hj
 refine(h j m' H' hI).then R S' F' fun b s₁ H₁ S₁ c₁ F₁ q=>?_
 cases b with
 |true=>
  simp only [if_true]
  refine wpAny_mono (q A s₁ R S₁ F₁) (fun f s₂ hx=>?_) fun O O x=>x.elim
  obtain⟨o,m₂,H₂,ro,S₂,F₂,c₂,q₂⟩:=hx
  have C₂:=(C'.trans c₁.own).trans c₂
  cases o with
  |next=>cases ro;obtain⟨i,hi,hI'⟩:=q₂;exact⟨i,hi,m₂,H₂,hI',S₂,F₂,C₂⟩
  |cont=>cases ro;obtain⟨i,hi,hI'⟩:=q₂;exact⟨i,hi,m₂,H₂,hI',S₂,F₂,C₂⟩
  |brk=>cases ro;exact⟨.next,m₂,H₂,rfl,S₂,F₂,C₂,q₂⟩
  |ret x=>obtain⟨u,rfl,ru⟩:=ro;exact⟨.ret x,m₂,H₂,⟨u,rfl,ru⟩,S₂,F₂,C₂,q₂⟩
 |false=>
  simp only [Bool.false_eq_true,if_false]
  exact wpAny_execs_nil ⟨.next,m',H₁,rfl,S₁,F₁,C'.trans c₁.own,q⟩
end
noncomputable def del(H:AH)(a:Addr):AH:=fun b=>if b=a then none else H b
theorem Av(H:AH)(a:Addr):del H a a=none:=if_pos rfl
theorem jQ{H:AH}{a b:Addr}(h:b≠a):del H a b=H b:=if_neg h
theorem iK(H:AH)(a:Addr)(o o':q7):upd (upd H a o) a o'=upd H a o':=by
 funext b
 by_cases e:b=a
 ·exact(if_pos e).trans (if_pos e).symm
 ·exact(if_neg e).trans ((if_neg e).trans (if_neg e).symm)
theorem bV{H:AH}{a:Addr}{o:q7}(h:H a=none):del (upd H a o) a=H:=by
 funext b
 by_cases e:b=a
 ·exact(if_pos e).trans (e▸h.symm)
 ·exact(if_neg e).trans (if_neg e)
noncomputable def O6(env:Env):List (Str×NameKind)→List (Str×Addr)→List (Str×Addr)
 | [],cs=>cs
 | (n,k)::r,cs=>O6 env r (if k == .free then(n,(env.cells.lookup n).getD 0)::cs else cs)
theorem rI{env:Env}:∀(names:List (Str×NameKind)) (cs:List (Str×Addr)),(∀x∈names,x.2 = .free→∃c,env.cells.lookup x.1=some c)→
  (forIn names cs fun(x:Str×NameKind) r=>do
   let(name,kind):=x
   if kind == .free then do
    let c ← cellOf env name
    pure (ForInStep.yield ((name,c)::r))
   else pure (ForInStep.yield r):Sem (List (Str×Addr)))=pure (O6 env names cs)
 | [],cs,_=>rfl
 | (n,k)::r,cs,h=>by
  rw [List.forIn_cons]
  have ih:=fun cs'=>rI r cs' fun x hx=>h x (.tail _ hx)
  show _=pure (O6 env r (if(k == .free)=true then(n,(env.cells.lookup n).getD 0)::cs else cs))
  cases e:k == .free with
  |true=>
   have:k = .free:=by simpa using e
   obtain⟨c,hc⟩:=h (n,k) (.head _) this
   have hc':cellOf env n=pure c:=by unfold cellOf;rw [hc]
   simp only [e,if_true,hc',pure_bind,hc,Option.getD_some]
   exact ih _
  |false=>
   simp only [e,Bool.false_eq_true,if_false,pure_bind]
   exact ih _
theorem jr{scope:Scope}{env:Env}(h:∀x∈scope.names,x.2 = .free→∃c,env.cells.lookup x.1=some c):closureFor scope env=pure (O6 env scope.names []):=by
 unfold closureFor
 have e:=rI scope.names [] h
 first
  |exact e
  | (simp only [bind_pure] at e ⊢;exact e)
theorem aR{env:Env}{y:Str}{c:Addr}:∀(names:List (Str×NameKind)) (cs:List (Str×Addr)),(∀c,cs.lookup y=some c→c=(env.cells.lookup y).getD 0)→(O6 env names cs).lookup y=some c→c=(env.cells.lookup y).getD 0∧((∃c,cs.lookup y=some c)∨(y,.free)∈names)
 | [],cs,h,e=>⟨h c e,.inl ⟨c,e⟩⟩
 | (n,k)::r,cs,h,e=>by
  have e:(O6 env r (if(k == .free)=true then(n,(env.cells.lookup n).getD 0)::cs else cs)).lookup y=some c:=e
  cases hk:k == .free with
  |false=>
   rw [hk] at e
   obtain⟨a,b⟩:=aR r cs h e
   exact⟨a,b.imp id fun z=>.tail _ z⟩
  |true=>
   rw [hk] at e
   have hk':k = .free:=by simpa using hk
   subst hk'
   by_cases hy:y=n
   ·subst hy
    obtain⟨a,b⟩:=aR r ((y,(env.cells.lookup y).getD 0)::cs) (fun c' e'=>by rw [List.lookup_cons,beq_self_eq_true] at e';exact(Option.some.inj e').symm) e
    exact⟨a,.inr (.head _)⟩
   ·have hb:(y==n)=false:=beq_eq_false_iff_ne.mpr hy
    obtain⟨a,b⟩:=aR r ((n,(env.cells.lookup n).getD 0)::cs) (fun c' e'=>by rw [List.lookup_cons,hb] at e';exact h c' e') e
    exact⟨a,b.elim (fun⟨c',e'⟩=>.inl ⟨c',by rw [List.lookup_cons,hb] at e';exact e'⟩) fun z=>.inr (.tail _ z)⟩
theorem pH{env:Env}{y:Str}:∀(names:List (Str×NameKind)) (cs:List (Str×Addr)),((∃c,cs.lookup y=some c)∨(y,.free)∈names)→∃c,(O6 env names cs).lookup y=some c
 | [],cs,h=>by rcases h with h|h;exact h;cases h
 | (n,k)::r,cs,h=>by
  refine pH r (if(k == .free)=true then(n,(env.cells.lookup n).getD 0)::cs else cs) ?_
  rcases h with⟨c,h⟩|h
  ·left
   split
   ·by_cases hy:y=n
    ·exact⟨_,by rw [List.lookup_cons,hy,beq_self_eq_true]⟩
    ·exact⟨c,by rw [List.lookup_cons,beq_eq_false_iff_ne.mpr hy];exact h⟩
   ·exact⟨c,h⟩
  ·rcases List.mem_cons.mp h with h|h
   ·cases h
    left
    rw [if_pos (by rfl)]
    exact⟨_,by rw [List.lookup_cons,beq_self_eq_true]⟩
   ·exact .inr h
section
variable{τ:T}{g:G τ}{n:Nat}{env:Env}{m:Loc}{H:AH}{A:Around}{s:Shared}
noncomputable def Y4(caps:List Nat)(m:Loc):Loc:=m.filter fun x=>caps.contains x.1
theorem U7{caps:List Nat}{x:Nat}:∀{m:Loc} {p:PV},(Y4 caps m).lookup x=some p→m.lookup x=some p∧x∈caps
 | [],_,h=>by cases h
 |q::r,p,h=>by
  unfold Y4 at h
  rw [List.filter_cons] at h
  obtain⟨q1,q2⟩:=q
  by_cases hx:x=q1
  ·subst hx
   by_cases hc:caps.contains x=true
   ·rw [if_pos hc,List.lookup_cons,beq_self_eq_true] at h
    cases h
    exact⟨by rw [List.lookup_cons,beq_self_eq_true],by simpa using hc⟩
   ·rw [if_neg hc] at h
    have:=(U7 (m:=r) h).2
    exact absurd (by simpa using this) hc
  ·have hb:(x==q1)=false:=beq_eq_false_iff_ne.mpr hx
   rw [List.lookup_cons,hb]
   refine U7 (m:=r) ?_
   split at h
   ·rw [List.lookup_cons,hb] at h;exact h
   ·exact h
structure oE{τ:T}(g:G τ)(scope:Scope)(caps:List Nat):Prop where
 kind:scope.kind = .function
 names:∀x∈scope.names,x.2 = .local→scope.names.lookup x.1=some .local
 Lk:∀y∈scope.names,y.2≠.cell
 Zx:∀x∈caps,scope.names.lookup (g.tab x)=some .free
 free:∀y∈scope.names,y.2 = .free→∃x∈caps,g.tab x=y.1
noncomputable def wH(c:Str→NameKind→Bool)(names:List (Str×NameKind)):List (Str×NameKind):=names.map fun x=>(x.1,if c x.1 x.2=true then NameKind.cell else x.2)
theorem rJ(scope:Scope)(env:Env):(relabel scope env).names=wH (fun n k=>k==NameKind.free&&env.scope.kind == .function&&env.kindOf n==some .cell) scope.names:=by
 show scope.names.map _=_
 unfold wH
 refine List.map_congr_left fun x O=>?_
 obtain⟨n,k⟩:=x
 dsimp only
 split<;>rfl
theorem lJ(c:Str→NameKind→Bool){x:Str}{k:NameKind}:∀{names:List (Str×NameKind)},names.lookup x=some k→(wH c names).lookup x=some (if c x k=true then .cell else k)
 | [],h=>by cases h
 | (n,j)::r,h=>by
  show List.lookup x ((n,if c n j=true then NameKind.cell else j)::wH c r)=_
  rw [List.lookup_cons] at h ⊢
  by_cases hx:x=n
  ·subst hx
   rw [beq_self_eq_true] at h ⊢
   cases h;rfl
  ·rw [beq_eq_false_iff_ne.mpr hx] at h ⊢
   exact lJ c h
theorem U8{scope:Scope}{env:Env}{x:Str}{k:NameKind}(h:scope.names.lookup x=some k):(relabel scope env).names.lookup x=some (if(k==NameKind.free&&env.scope.kind == .function&&env.kindOf x==some .cell)=true then .cell else k):=by
 rw [rJ];exact lJ _ h
theorem rK(c:Str→NameKind→Bool){x:Str}:∀{names:List (Str×NameKind)},(∀y∈names,y.2≠.cell)→(wH c names).lookup x=some .cell→∃k,(x,k)∈names∧c x k=true
 | [],_,h=>by cases h
 | (n,j)::r,nc,h=>by
  have h':List.lookup x ((n,if c n j=true then NameKind.cell else j)::wH c r)=some .cell:=h
  rw [List.lookup_cons] at h'
  by_cases hx:x=n
  ·subst hx
   rw [beq_self_eq_true] at h'
   by_cases hc:c x j=true
   ·exact⟨j,.head _,hc⟩
   ·rw [if_neg hc] at h'
    cases h'
    exact absurd rfl (nc _ (.head _))
  ·rw [beq_eq_false_iff_ne.mpr hx] at h'
   obtain⟨k,a,b⟩:=rK c (fun y hy=>nc y (.tail _ hy)) h'
   exact⟨k,.tail _ a,b⟩
theorem xY{scope:Scope}{env:Env}{x:Str}(nc:∀y∈scope.names,y.2≠.cell)(h:(relabel scope env).names.lookup x=some .cell):(x,.free)∈scope.names∧env.kindOf x=some .cell:=by
 rw [rJ] at h
 obtain⟨k,a,b⟩:=rK _ nc h
 simp only [Bool.and_eq_true,beq_iff_eq] at b
 exact⟨by rw [← b.1.1];exact a,b.2⟩
theorem Ek{scope:Scope}{caps:List Nat}{C:Addr}{s':Shared}{H':AH}(hg:v9 g)(sc:oE g scope caps)(hcap:∀x∈caps,env.kindOf (g.tab x)=some .cell∨env.kindOf (g.tab x)=some .free)(hb:∀x∈caps,∃p,m.lookup x=some p)(F:z9 g env m s.heap H)
  (k:∀b o,s.heap.get? b=some o→H b=none→s'.heap.get? b=some o) (un:∀x,s.heap.get? x≠none→H x=none→H' x=none) (P:O5 s.heap H s'.heap H')
  (hC:∃mv,s'.heap.Ns C mv) (hC1:H' C=none) (hC2:g.h₀.get? C=none):z9 g (compEnvC scope (O6 env scope.names []) C env) (Y4 caps m) s'.heap H':=by
 have bnd:∀x∈caps,∃p c v,m.lookup x=some p∧env.cells.lookup (g.tab x)=some c∧s.heap.IsCell c (some v)∧Rep g.tab s.heap H p v:=fun x hx=>by
  obtain⟨p,hp⟩:=hb x hx
  obtain⟨c,v,a,b,d⟩:=F.cell x p hp (hcap x hx)
  exact⟨p,c,v,hp,a,b,d⟩
 have lk:∀y c,(O6 env scope.names []).lookup y=some c→∃x∈caps,g.tab x=y∧env.cells.lookup y=some c:=fun y c e=>by
  obtain⟨a,b⟩:=aR scope.names [] (fun c h=>by cases h) e
  rcases b with⟨_,b⟩|b
  ·cases b
  ·obtain⟨x,hx,rfl⟩:=sc.free _ b rfl
   obtain⟨p,c',v,_,hc,_⟩:=bnd x hx
   rw [hc] at a
   exact⟨x,hx,rfl,by rw [hc,a];rfl⟩
 have lk':∀x∈caps,∀c,env.cells.lookup (g.tab x)=some c→(O6 env scope.names []).lookup (g.tab x)=some c:=fun x hx c hc=>by
  obtain⟨c',e⟩:=pH (env:=env) (y:=g.tab x) scope.names [] (.inr (mem_of_lookup (sc.Zx x hx)))
  obtain⟨_,_,_,hc'⟩:=lk _ _ e
  rw [hc] at hc';cases hc';exact e
 have knd:∀x∈caps,(compEnvC scope (O6 env scope.names []) C env).kindOf (g.tab x)=some .cell∨(compEnvC scope (O6 env scope.names []) C env).kindOf (g.tab x)=some .free:=fun x hx=>by
  show(relabel scope env).names.lookup _=_∨(relabel scope env).names.lookup _=_
  rw [U8 (sc.Zx x hx)]
  split
  ·exact .inl rfl
  ·exact .inr rfl
 have cl:∀y c v,env.cells.lookup y=some c→s.heap.IsCell c v→s'.heap.IsCell c v:=fun y c v z ⟨o,e,d⟩=>⟨o,k c o e (F.cells y c z).1,d⟩
 obtain⟨mv,hns⟩:=hC
 refine⟨sc.kind,F.globs,F.KY,⟨mv,hns,fun x p e kk=>?_⟩,fun x p e kk=>?_,fun x p e=>.inr (knd x (U7 e).2),hC1,hC2,fun y c e=>?_,fun x y c e1 e2=>?_,fun y e=>?_⟩
 ·rcases knd x (U7 e).2 with z|z<;>rw [z] at kk<;>cases kk
 ·obtain⟨a,b⟩:=U7 e
  obtain⟨p',c,v,hp,hc,hcl,r⟩:=bnd x b
  rw [a] at hp;cases hp
  exact⟨c,v,lk' x b c hc,cl _ _ _ hc hcl,r.keeps P⟩
 ·obtain⟨x,hx,rfl,hc⟩:=lk y c e
  obtain⟨z1,z2,v,z3⟩:=F.cells _ _ hc
  obtain⟨o,eo,_⟩:=id z3
  exact⟨un c (by rw [eo];simp) z1,z2,v,cl _ _ _ hc z3⟩
 ·obtain⟨_,_,_,h1⟩:=lk x c e1
  obtain⟨_,_,_,h2⟩:=lk y c e2
  exact F.inj x y c h1 h2
 ·obtain⟨a,b⟩:=xY sc.Lk e
  obtain⟨x,hx,rfl⟩:=sc.free _ a rfl
  obtain⟨p,c,v,_,hc,_⟩:=bnd x hx
  exact⟨c,lk' x hx c hc⟩
end
inductive CT where
 |one (x:Nat)|many (xs:List Nat)
noncomputable def CT.xs:CT→List Nat
 |.one x=>[x]
 |.many xs=>xs
noncomputable def WK(H:AH):PV→Option (List PV)
 |.tup l=>some l
 |p=>v7 H p
noncomputable def bindC(H:AH):CT→PV→Loc→Option Loc
 |.one x,q,m=>some (m5 x q m)
 |.many xs,q,m=>match WK H q with
  |some l=>if l.length=xs.length then some (lF xs l m) else none
  |none=>none
noncomputable def eF(tab:Nat→Str)(zs:List (Nat×Pos)):List PySem.Expr:=zs.map fun z=>.Name (tab z.1) z.2
noncomputable def Jm(tab:Nat→Str)(ct:CT)(t:PySem.Expr):Prop:=match ct with
 |.one x => ∃p,t = .Name (tab x) p
 |.many xs => ∃zs k p,zs.map (·.1)=xs∧t = .Tuple (eF tab zs) k p
section
variable{τ:T}{g:G τ}{n:Nat}{env:Env}{m:Loc}{H:AH}{A:Around}{s:Shared}
theorem wI(hg:v9 g):∀{zs:List (Nat×Pos)} {qs:List PV} {vs:List Value} {m:Loc} {s:Shared},(∀z∈zs,env.kindOf (g.tab z.1)=some .local)→zs.length=qs.length→n8 g s H→z9 g env m s.heap H→m8 g.tab s.heap H qs vs→
  wpAny (model g.prog g.w) A (assignInOrder ((assignEach (eF g.tab zs) env).map (·.2)) vs) (fun O s'=>n8 g s' H∧z9 g env (lF (zs.map (·.1)) qs m) s'.heap H∧Goes (fun b=>b=env.locals) s.heap H s'.heap H) (fun O O=>False) s
 | [],[],_,m,s,_,_,S,F,r=>by cases r;exact assignInOrder_nil ⟨S,F,.refl ..⟩
 |z::zs,q::qs,_,m,s,k,e,S,F,⟨v,vs,ev,r,rl⟩=>by
  subst ev
  refine assignInOrder_cons (assign_Name (wpAny_mono (iG hg S F (k z (.head _)) r) (fun O s₁ ⟨S₁,F₁,c₁⟩=>?_) fun O O x=>x))
  exact wpAny_mono (wI hg (fun y hy=>k y (.tail _ hy)) (by simpa using e) S₁ F₁ (rl.keeps c₁.q9)) (fun O s₂ ⟨S₂,F₂,c₂⟩=>⟨S₂,F₂,c₁.trans c₂⟩) fun O O x=>x
 | [],_::_,_,_,_,_,e,_,_,_=>by simp at e
 |_::_,[],_,_,_,_,e,_,_,_=>by simp at e
theorem rM(env:Env):∀(zs:List (Nat×Pos)),(assignEach (eF g.tab zs) env).length=zs.length∧(assignEach (eF g.tab zs) env).findIdx? (·.1)=none
 | []=>⟨rfl,rfl⟩
 |z::zs=>by
  obtain⟨a,b⟩:=rM env zs
  have e:assignEach (eF g.tab (z::zs)) env=(false,assign (.Name (g.tab z.1) z.2) env)::assignEach (eF g.tab zs) env:=rfl
  rw [e]
  exact⟨by rw [List.length_cons,a,List.length_cons],by rw [List.findIdx?_cons];simp [b]⟩
set_option tactic.hygienic true in
theorem Ln{ct:CT}{tg:PySem.Expr}{q:PV}{v:Value}{m':Loc}(hg:v9 g)(ht:Jm g.tab ct tg)(hk:∀x∈ct.xs,env.kindOf (g.tab x)=some .local)(R:J5 n A)(S:n8 g s H)(F:z9 g env m s.heap H)(r:Rep g.tab s.heap H q v)(h:bindC H ct q m=some m'):
  wpAny (model g.prog g.w) A (assign tg env v) (fun O s'=>n8 g s' H∧z9 g env m' s'.heap H∧Goes (fun b=>b=env.locals) s.heap H s'.heap H) (fun O O=>False) s:=by
 cases ct with
 |one x=>
  obtain⟨p,rfl⟩:=ht
  cases h
  exact assign_Name (iG hg S F (hk x (.head _)) r)
 |many xs=>
  obtain⟨zs,k,p,rfl,rfl⟩:=ht
  simp only [bindC] at h
  split at h
  ·next l el=>
   split at h
   ·next hl=>
    cases h
    rw [arm_assign_Tuple]
    refine wpAny_bind (wpAny_standAt ?_)
    unfold unpack
    obtain⟨e1,e2⟩:=rM (g:=g) env zs
    rw [List.length_map] at hl
    rw [e1,e2,← hl]
    have h1:(∃l,q = .tup l)∨∃l,v7 H q=some l:=by
     cases q<;>first|exact .inl ⟨_,rfl⟩|exact .inr ⟨l,el⟩
    have h2:itemsOf H q=some l:=by
     cases q<;>first|exact el|cases el
    refine wpAny_bind (wpAny_holding (aQ R S F r h1 h2 fun vs s' rl S' c' F'=>?_))
    exact wpAny_mono (wI hg (fun z hz=>hk _ (List.mem_map.mpr ⟨z,hz,rfl⟩)) hl.symm S' F' rl) (fun O s₂ ⟨S₂,F₂,c₂⟩=>⟨S₂,F₂,(c'.weak fun O z=>z.elim).trans c₂⟩) fun O O x=>x
   ·cases h
  ·cases h
theorem xZ{prog:Program}{w:World}{R:Result→Shared→Prop}{elt target iter:PySem.Expr}{ifs:List PySem.Expr}{scope:Scope}{pos:Pos}{it acc:Value}{env:Env}(I:Nat→Shared→Prop)
  (turn:∀n s,I n s→wpAny (model prog w) A (pyNext it) (fun r s₁=>match r with
   |none=>R (.ok .next) s₁
   |some v=>wpAny (model prog w) A (letOwnedTupleGo target it v) (fun O s₁'=>wpAny (model prog w) A (assign target env v) (fun O s₂=>
     wpAny (model prog w) A (forIn ifs true fun c r=>if r=true then do let ok ← isTrue c env (eval c env);pure (ForInStep.yield ok) else pure (ForInStep.yield r)) (fun ok s₃=>
      if ok=true then wpAny (model prog w) A (eval elt env) (fun x s₄=>
       wpAny (model prog w) A (call (.builtin "list.append") [acc,x]) (fun O s₅ => ∃m,m<n∧I m s₅) (fun O O=>False) s₄) (fun O O=>False) s₃
      else ∃m,m<n∧I m s₃) (fun O O=>False) s₂) (fun O O=>False) s₁') (fun O O=>False) s₁) (fun O O=>False) s)
  (n:Nat) (h:I n s):codeAny (model prog w) A (.compLoop (.ListComp elt [⟨target,iter,ifs,0⟩] scope pos) 0 it acc env) R s:=by
 refine codeAny_loop rfl I (fun n s hI=>?_) n h
 show wpAny _ A ((compTurn (.ListComp elt [⟨target,iter,ifs,0⟩] scope pos) 0 it acc env).onRaise (fun x=>do noteFrame x env;theTreesLotGoes x)) _ _ s
 refine wpAny_noted ?_
 rw [compTurn_list]
 refine wpAny_bind (wpAny_standAt (wpAny_bind (wpAny_mono (turn n s hI) (fun r s₁ h₁=>?_) fun O O h'=>h'.elim)))
 cases r with
 |none=>exact wpAny_pure h₁
 |some v=>
  refine wpAny_bind (wpAny_mono h₁ (fun O s₁' h₁'=>?_) fun O O h'=>h'.elim)
  refine wpAny_bind (wpAny_mono h₁' (fun O s₂ h₂=>wpAny_bind (wpAny_mono h₂ (fun ok s₃ h₃=>?_) fun O O h'=>h'.elim)) fun O O h'=>h'.elim)
  cases ok with
  |false=>exact wpAny_pure ⟨rfl,h₃⟩
  |true=>
   exact wpAny_bind (wpAny_bind (wpAny_mono h₃ (fun x s₄ h₄=>wpAny_bind (wpAny_mono h₄ (fun O s₅ h₅=>wpAny_pure (wpAny_pure ⟨rfl,h₅⟩)) fun O O h'=>h'.elim)) fun O O h'=>h'.elim))
noncomputable def WC(ct:CT)(wi:Loc→AH→(Bool→AH→Prop)→Prop)(we:Loc→AH→(PV→AH→Prop)→Prop)(p:PV)(l:List PV)(D:Addr)(fin:List PV→AH→Prop):List PV→List PV→Loc→AH→Prop
 | [],acc,_,H=>fin acc H
 |q::r,acc,m,H=>lk (bindC H ct q m) fun m₁=>wi m₁ H fun b H₁=>sel b (we m₁ H₁ fun x H₂=>(H₂ D=some (.list acc)∧acc.length<sizeLine∧itemsOf H₂ p=some l)∧WC ct wi we p l D fin r (acc++[x]) m₁ (upd H₂ D (.list (acc++[x]))))
   ((H₁ D=some (.list acc)∧itemsOf H₁ p=some l)∧WC ct wi we p l D fin r acc m₁ H₁)
noncomputable def fU{τ:T}(g:G τ)(n:Nat)(env:Env)(ifs:List PySem.Expr)(wi:Loc→AH→(Bool→AH→Prop)→Prop):Prop := ∀m H Q,wi m H Q→∀A s,J5 n A→n8 g s H→z9 g env m s.heap H→
 wpAny (model g.prog g.w) A (forIn ifs true fun c r=>if r=true then do let ok ← isTrue c env (eval c env);pure (ForInStep.yield ok) else pure (ForInStep.yield r)) (Zh g s H Q) (fun O O=>False) s
theorem fU.nil:fU g n env [] fun O H K=>K true H:=fun O H O q O O O S O=>wpAny_tests_nil ⟨H,S,.refl ..,q⟩
theorem fU.one{c:PySem.Expr}{wi:Loc→AH→(Bool→AH→Prop)→Prop}(h:∀m H Q,wi m H Q→Ts g n env m H c Q):fU g n env [c] wi:=fun m H Q q A s R S F=>wpAny_tests_one (h m H Q q A s R S F)
set_option tactic.hygienic true in
theorem Jo{p:PV}{I:Addr}{k:Nat}{P:Value→Shared→Prop}{E:Value→Shared→Prop}(hh:A.handled=none)(S:n8 g s H)(x:K5 g p I k s.heap H)(h:P (.ref I) s):wpAny (model g.prog g.w) A (pyIter (.ref I)) P E s:=by
 cases p
 case tup l=>
  obtain⟨t,vs,j,it,ot,rl⟩:=x
  have hne:t≠I:=fun z=>by obtain⟨o,e1,e2,e3⟩:=it;rw [z,e1] at ot;cases ot;cases e3
  exact(Walks.tuple (prog:=g.prog) (w:=g.w) hh I t hne vs.toArray).self k s P E ⟨it,⟨_,ot,rfl,_,rfl⟩⟩ h
 case rng a b=>exact(Walks.range (prog:=g.prog) (w:=g.w) hh I a 1 (b-a).toNat).self k s P E (by
  have x':IsRangeIter s.heap I (a+k) (((b-a).toNat:Int)-k) 1:=x
  rw [Int.mul_one];exact x') h
 case lst l=>
  obtain⟨t,vs,j,it,ot,q,rl⟩:=x
  exact wpAny_pyIter_listiter it h
 case obj a=>obtain⟨it,l,hl⟩:=x;exact wpAny_pyIter_listiter it h
 all_goals exact x.elim
structure CI{τ:T}(g:G τ)(env:Env)(p:PV)(l:List PV)(I D:Addr)(W:List PV→List PV→Loc→AH→Prop)(s₁:Shared)(H₁:AH)(i:Nat)(m:Loc)(acc:List PV)(H:AH)(s:Shared):Prop where
 S:n8 g s H
 F:z9 g env m s.heap H
 C:Calm s₁.heap H₁ s.heap H
 x:K5 g p I i s.heap H
 el:itemsOf H p=some l
 hI:H I=none
 hD:H D=some (.list acc)
 w:W (l.drop i) acc m H
theorem CI.go{p:PV}{l acc:List PV}{I D:Addr}{W:List PV→List PV→Loc→AH→Prop}{s₁ s₄:Shared}{H₁ H':AH}{i:Nat}(C₄:Calm s₁.heap H₁ s₄.heap H')(x:K5 g p I i s₄.heap H')(el:itemsOf H' p=some l)(hI:H' I=none)
  (c:Calm s₄.heap H' s.heap H) (S:n8 g s H) (F:z9 g env m s.heap H) (e:itemsOf H p=some l) (hD:H D=some (.list acc)) (w:W (l.drop i) acc m H):CI g env p l I D W s₁ H₁ i m acc H s:=
 ⟨S,F,C₄.trans c,x.keeps (fun o e=>c.keep I o e hI id) c.q9 (e.trans el.symm),e,Classical.byContradiction fun z=>x.kind.elim fun o k=>(nomatch (c.new I hI z).symm.trans k.1),hD,w⟩
set_option tactic.hygienic true in
theorem wJ{p:PV}{l:List PV}{D:Addr}{o:q7}(ne:p≠.obj D)(e:itemsOf H p=some l):itemsOf (upd H D o) p=some l:=by
 cases p
 case obj a=>
  show(upd H D o a).bind q7.Ah = some l
  rw [d8 fun z=>ne (congrArg PV.obj z)]
  exact e
 all_goals exact e
theorem El{scope:Scope}{ct:CT}{tg elt iter:PySem.Expr}{ifs:List PySem.Expr}{pos:Pos}{p:PV}{l:List PV}{I D:Addr}{R':Result→Shared→Prop}{fin:List PV→AH→Prop}{s₁:Shared}{H₁:AH}{wi:Loc→AH→(Bool→AH→Prop)→Prop}{we:Loc→AH→(PV→AH→Prop)→Prop}(hg:v9 g)(R:J5 n A)
  (ht:Jm g.tab ct tg) (hk:∀x∈ct.xs,env.kindOf (g.tab x)=some .local) (he:∀m H Q,we m H Q→Ev g n env m H elt Q) (hi:fU g n env ifs wi)
  (a1:s₁.heap.get? I=none) (a3:s₁.heap.get? env.locals=none) (bI:g.h₀.get? I=none) (ap:∀b,(b=env.locals∨∃x,env.cells.lookup x=some b)→b≠I) (np:p≠.obj D)
  (K:∀s' H' m' acc,n8 g s' H'→H' D=some (.list acc)→fin acc H'→Calm s₁.heap H₁ s'.heap H'→z9 g env m' s'.heap H'→R' (.ok .next) s')
  (h:CI g env p l I D (WC ct wi we p l D fin) s₁ H₁ 0 m [] H s):
  codeAny (model g.prog g.w) A (.compLoop (.ListComp elt [⟨tg,iter,ifs,0⟩] scope pos) 0 (.ref I) (.ref D) env) R' s:=by
 refine xZ (fun j s' => ∃i m' H' acc,i+j=l.length∧CI g env p l I D (WC ct wi we p l D fin) s₁ H₁ i m' acc H' s') (fun j s' hj=>?_) l.length ⟨0,m,H,[],Nat.zero_add _,h⟩
 obtain⟨i,m',H',acc,hij,ci⟩:=hj
 cases j with
 |succ j=>
  have hlt:i<l.length:=by exact Mine.Internal.eqs ‹_›
  have hd:l.drop i=l[i]::l.drop (i+1):=List.drop_eq_getElem_cons hlt
  have w:=ci.w
  rw [hd] at w
  obtain⟨m₁,hm₁,w⟩:=M4 w
  refine oA ci.S ci.x ci.hI bI ci.el (List.getElem?_eq_getElem hlt) fun v₃ s₃ rv₃ S₃ c₃ x₃=>?_
  obtain⟨o,eo,ck⟩:=x₃.kind
  refine pG eo ck (wpAny_mono (Ln hg ht hk R S₃ (ci.F.KZ c₃ ap) rv₃ hm₁) (fun O s₄ z=>?_) fun O O x=>x.elim)
  obtain⟨S₄,F₄,c₄⟩:=z
  have x₄:K5 g p I (i+1) s₄.heap H':=x₃.keeps (fun o' e'=>c₄.keep I o' e' ci.hI fun z=>ap env.locals (.inl rfl) z.symm) c₄.q9 rfl
  have C₄:Calm s₁.heap H₁ s₄.heap H':=(((ci.C.weak (F':=fun b=>b=I∨b=env.locals) fun O z=>z.elim).trans (c₃.weak fun b z=>.inl z)).trans (c₄.weak fun b z=>.inr z)).drop fun b z=>.inl (z.elim (fun w=>w▸a1) fun w=>w▸a3)
  have nx:∀{s H m acc},CI g env p l I D (WC ct wi we p l D fin) s₁ H₁ (i+1) m acc H s→∃k,k<j+1∧∃i m' H' acc,i+k=l.length∧CI g env p l I D (WC ct wi we p l D fin) s₁ H₁ i m' acc H' s:=fun z=>⟨j,Nat.lt_succ_self j,i+1,_,_,_,by exact Mine.Internal.eqt ‹_›,z⟩
  refine wpAny_mono (hi _ _ _ w A s₄ R S₄ F₄) (fun b s₅ z=>?_) fun O O x=>x.elim
  obtain⟨H₅,S₅,c₅,k⟩:=z
  cases b with
  |false=>exact nx (CI.go C₄ x₄ ci.el ci.hI c₅ S₅ (F₄.goes c₅) k.1.2 k.1.1 k.2)
  |true=>
   refine(he _ _ _ k).then R S₅ (F₄.goes c₅) fun u s₆ q H₆ ru S₆ c₆ F₆ k=>?_
   refine wpAny_mono ((w5 (g:=g) (n:=n) (Q:=fun r xK=>xK=upd H₆ D (.list (acc++[q]))) (p:=q) k.1.1 (Nat.le_of_lt k.1.2.1) rfl) A s₆ _ [.ref D,u] R S₆ ⟨rfl,by decide⟩ ⟨.ref D,[u],rfl,rfl,u,[],rfl,ru,rfl⟩) (fun r s₇ z=>?_) fun O O x=>x.elim
   obtain⟨pr,H₇,_,S₇,c₇,rfl⟩:=z
   exact nx (CI.go C₄ x₄ ci.el ci.hI ((c₅.trans c₆).trans c₇) S₇ (F₆.goes c₇) (wJ np k.1.2.2) (c7 ..) k.2)
 |zero=>
  obtain rfl:i=l.length:=by exact ‹_›
  have w:=ci.w
  rw [List.drop_length] at w
  refine rH R.handled ci.S ci.x ci.hI bI ci.el fun h' S₃ B P₃=>?_
  exact K _ H' m' acc S₃ ci.hD w (ci.C.ext B a1 P₃) (ci.F.Gz (fun b o e O w=>B b o (ap b w) e) (fun x O z O=>z) P₃)
end
section
variable{τ:T}{g:G τ}{n:Nat}{env:Env}{m:Loc}{H:AH}{A:Around}{s:Shared}
theorem Aw{P:Value→Shared→Prop}{E:Value→Shared→Prop}(S:n8 g s H)(K:∀D s',n8 g s' (upd H D (.list []))→Calm s.heap H s'.heap (upd H D (.list []))→s.heap.get? D=none→H D=none→g.h₀.get? D=none→P (.ref D) s'):
  wpAny (model g.prog g.w) A (newList []) P E s:=by
 obtain⟨d1,d2,d3⟩:=bT S
 obtain⟨S₃,c₃⟩:=S.track (o:=.list []) (x:={cls:=.type "list",data:=.seq ([]:List Value).toArray}) rfl ⟨[],0,Heap.get?_push_size _ rfl,rfl⟩
 exact wpAny_newObj_type (hd:=by size_fits) (K _ _ S₃ c₃ d1 d2 d3)
theorem Jp{scope:Scope}{cl:List (Str×Addr)}{P:Env→Shared→Prop}{E:Value→Shared→Prop}(S:n8 g s H)(nc:∀y∈scope.names,y.2≠.cell)(hk:scope.kind = .function)
  (K:∀C s',n8 g s' H→Calm s.heap H s'.heap H→s.heap.get? C=none→H C=none→g.h₀.get? C=none→(∃mv,s'.heap.Ns C mv)→P (newEnv scope C env.globals cl env.qual none .none (some env) 0) s'):
  wpAny (model g.prog g.w) A (newFunctionEnv scope env.globals cl [] env.qual none .none (some env)) P E s:=by
 obtain⟨g1,g2,g3⟩:=bT S
 refine wpAny_newFunctionEnv nc (by intro y hy;simp at hy) (fun h₄ hns B=>?_) hk
 have S₄:=S.push {cls:=.type (if(some env).isSome then "dict" else "frame"),data:=.dict #[]} s.toks
 obtain⟨o4,es4,ep4,e4,e4',_⟩:=id hns
 obtain⟨S₅,c₅⟩:=lu S₄ (Heap.get?_push_size _ rfl) ⟨fun xs k e=>(by cases e),fun xs e=>(by cases e)⟩ g2 g3 B ⟨_,e4⟩ (s.toks+([]:List (Str×Value)).length)
 have c0:Calm s.heap H (s.heap.push {cls:=.type (if(some env).isSome then "dict" else "frame"),data:=.dict #[]}) H:=Calm.push _ _ _
 have c35:Calm s.heap H h₄ H:=((c0.weak (F':=fun b=>b=s.heap.objs.size) fun O z=>z.elim).trans c₅).drop fun b z=>.inl (by rw [z];exact g1)
 exact K _ _ S₅ c35 g1 g2 g3 ⟨_,hns⟩
theorem Ax{scope:Scope}{caps:List Nat}{ct:CT}{tg elt iter:PySem.Expr}{ifs:List PySem.Expr}{pos:Pos}{p:PV}{v:Value}{l:List PV}{RR:Value→Addr→Result→Shared→Prop}{fin:Addr→List PV→AH→Prop}{E:Value→Shared→Prop}{wi:Loc→AH→(Bool→AH→Prop)→Prop}{we:Loc→AH→(PV→AH→Prop)→Prop}
  (hg:v9 g) (R:J5 n A) (sc:oE g scope caps) (hcap:∀x∈caps,env.kindOf (g.tab x)=some .cell∨env.kindOf (g.tab x)=some .free) (hb:∀x∈caps,∃p,m.lookup x=some p)
  (ht:Jm g.tab ct tg) (hk:∀x∈ct.xs,scope.names.lookup (g.tab x)=some .local)
  (S:n8 g s H) (F:z9 g env m s.heap H) (rv:Rep g.tab s.heap H p v) (el:itemsOf H p=some l) (ok:Ao p)
  (he:∀env',env'.scope=relabel scope env→∀m H Q,we m H Q→Ev g n env' m H elt Q) (hi:∀env',env'.scope=relabel scope env→fU g n env' ifs wi)
  (h:∀D,H D=none→WC ct wi we p l D (fin D) l [] (Y4 caps m) (upd H D (.list [])))
  (K:∀D C s' H' acc,n8 g s' H'→H' D=some (.list acc)→fin D acc H'→Calm s.heap H s'.heap H'→s.heap.get? D=none→H D=none→s.heap.get? C=none→H' C=none→g.h₀.get? C=none→(∃mc o,s'.heap.Ns C mc∧s'.heap.get? C=some o∧(∀xs k,o.data≠.seq xs k)∧∀xs,o.data≠.fields xs)→RR (.ref D) C (.ok .next) s'):
  wpAny (model g.prog g.w) A (pyIter v) (fun it s₂=>wpAny (model g.prog g.w) A (newList []) (fun acc s₃=>wpAny (model g.prog g.w) A (newFunctionEnv scope env.globals (O6 env scope.names []) [] env.qual none .none (some env)) (fun cenv s₄=>
   codeAny (model g.prog g.w) A (.compStart (.ListComp elt [⟨tg,iter,ifs,0⟩] scope pos) 0 it acc {cenv with scope:=relabel scope env}) (RR acc cenv.locals) s₄) E s₃) E s₂) E s:=by
 refine jP S rv el ok fun I s₂ S₂ c₂ x₂ f1 f2 f3=>?_
 refine Aw S₂ fun D s₃ S₃ c₃ d1 d2 d3=>Jp S₃ sc.Lk sc.kind fun C s₄ S₄ c₄ g1 g2 g3 hns=>?_
 have C₅:Calm s.heap H s₄.heap (upd H D (.list [])):=(c₂.trans c₃).trans c₄
 have sN:∀b,s₂.heap.get? b=none→s.heap.get? b=none:=fun b z=>by
  cases e:s.heap.get? b with
  |none=>rfl
  |some o=>obtain⟨o',e'⟩:=c₂.ex b o e;rw [z] at e';cases e'
 have sN3:∀b,s₃.heap.get? b=none→s₂.heap.get? b=none:=fun b z=>by
  cases e:s₂.heap.get? b with
  |none=>rfl
  |some o=>obtain⟨o',e'⟩:=c₃.ex b o e;rw [z] at e';cases e'
 have sD:=sN _ d1
 have sC:=sN _ (sN3 _ g1)
 obtain⟨oI,eI,kI⟩:=x₂.kind
 have nID:I≠D:=fun z=>by rw [z,d1] at eI;cases eI
 have nIC:C≠I:=fun z=>by rw [← z] at eI;rw [sN3 _ g1] at eI;cases eI
 have uI:upd H D (.list []) I=none:=by rw [d8 nID];exact f2
 have np:p≠.obj D:=fun z=>by
  subst z
  rcases v8 (p:=.obj D) el with w|⟨b,w,e⟩
  ·cases w
  ·cases w;rw [d2] at e;cases e
 have YQ:itemsOf (upd H D (.list [])) p=some l:=wJ np el
 have eI':=YQ.trans el.symm
 have xI:K5 g p I 0 s₄.heap (upd H D (.list [])):=x₂.keeps (fun o e=>(c₃.trans c₄).keep I o e f2 id) (c₃.trans c₄).q9 eI'
 have Fc:z9 g (compEnvC scope (O6 env scope.names []) C env) (Y4 caps m) s₄.heap (upd H D (.list [])):=
  Ek (s:=s) (s':=s₄) hg sc hcap hb F (fun b o e q=>C₅.keep b o e q id) (fun x q e=>Classical.byContradiction fun z=>q (C₅.new x e z)) C₅.q9 hns g2 g3
 have ap:∀b,(b=(compEnvC scope (O6 env scope.names []) C env).locals∨∃x,(compEnvC scope (O6 env scope.names []) C env).cells.lookup x=some b)→b≠I:=by
  intro b hb' z
  subst z
  rcases hb' with w|⟨x,w⟩
  ·exact nIC w.symm
  ·obtain⟨a,b'⟩:=aR (env:=env) scope.names [] (fun c h=>by cases h) w
   rcases b' with⟨_,b'⟩|b'
   ·cases b'
   ·obtain⟨y,hy,rfl⟩:=sc.free _ b' rfl
    obtain⟨p',hp'⟩:=hb y hy
    obtain⟨c,v',e1,⟨o',e2,_⟩,_⟩:=F.cell y p' hp' (hcap y hy)
    rw [e1] at a
    have a':b=c:=a
    rw [a'] at f1;rw [f1] at e2;cases e2
 have loop:codeAny (model g.prog g.w) A (.compLoop (.ListComp elt [⟨tg,iter,ifs,0⟩] scope pos) 0 (.ref I) (.ref D) (compEnvC scope (O6 env scope.names []) C env)) (RR (.ref D) C) s₄:=by
  refine El (s₁:=s) (H₁:=H) (fin:=fin D) hg R ht (fun x hx=>?_) (he _ rfl) (hi _ rfl) f1 sC f3 ap np (fun s' H' m' acc S' hD' hf C' F'=>?_) ⟨S₄,Fc,C₅,xI,YQ,uI,c7 ..,h _ d2⟩
  ·show(relabel scope env).names.lookup _=_
   rw [U8 (hk x hx)]
   rfl
  ·obtain⟨mc,⟨o,es,ep,e1,e2,e3⟩,_⟩:=F'.ns
   exact K _ _ s' H' acc S' hD' hf C' sD d2 sC F'.Je g3 ⟨mc,o,⟨o,es,ep,e1,e2,e3⟩,e1,fun xs k e=>(by rw [e2] at e;cases e),fun xs e=>(by rw [e2] at e;cases e)⟩
 exact codeAny_compStart_list loop (Jo R.handled S₄ xI loop)
theorem Hg{h':Heap}{c:Addr}{x:Obj}(S:n8 g s H)(e:s.heap.get? c=some x)(nd:(∀xs k,x.data≠.seq xs k)∧∀xs,x.data≠.fields xs)(hc:H c=none)(hb:g.h₀.get? c=none)(B:Heap.ExtBut c s.heap h')(t:Nat):
  n8 g {s with heap:=h',toks:=t} H∧O5 s.heap H h' H:=by
 have P:O5 s.heap H h' H:=by
  refine⟨fun b o ys k q d cc=>B b o (fun z=>?_) q,fun b o ys k q d cc z=>⟨B b o (fun z=>?_) q,z⟩,fun b o ys q d cc=>B b o (fun z=>?_) q⟩
  all_goals (subst z;rw [e] at q;cases q)
  ·exact nd.1 _ _ d
  ·exact nd.1 _ _ d
  ·exact nd.2 _ d
 refine⟨⟨fun b o q=>B b o (fun z=>?_) (S.keep b o q),S.fresh,fun a o q=>(S.obj a o q).keeps P fun y z=>B a y (fun w=>?_) z,S.gens,S.os⟩,P⟩
 ·subst z;rw [hb] at q;cases q
 ·subst w;rw [hc] at q;cases q
theorem yc{D:Addr}{acc:List PV}{s':Shared}{H':AH}(S:n8 g s' H')(e:H' D=some (.list acc))(C:Calm s.heap H s'.heap H')(hD:s.heap.get? D=none):
  n8 g s' (del H' D)∧Calm s.heap H s'.heap (del H' D)∧Rep g.tab s'.heap (del H' D) (.lst acc) (.ref D):=by
 have P:O5 s'.heap H' s'.heap (del H' D):=⟨fun O O O O e O O=>e,fun b O O O e' O O q=>⟨e',by unfold del;split;rfl;exact q⟩,fun O O O e O O=>e⟩
 obtain⟨vs,k,o,r⟩:=S.obj _ _ e
 have un:∀b,del H' D b≠none→H' b≠none:=fun b z w=>z (by unfold del;split;rfl;exact w)
 refine⟨⟨S.keep,fun a z=>S.fresh a (un a z),fun a o z=>?_,S.gens,S.os⟩,⟨C.keep,fun b z w=>C.new b z (un b w),C.ex,C.q9.trans P⟩,⟨D,vs,k,rfl,o,Av ..,r.keeps P⟩⟩
 unfold del at z
 split at z
 ·cases z
 ·exact(S.obj a o z).keeps P fun O y=>y
noncomputable def pI(m:Loc)(caps:List Nat)(ct:CT)(wi:Loc→AH→(Bool→AH→Prop)→Prop)(we:Loc→AH→(PV→AH→Prop)→Prop)(fin:List PV→AH→Prop)(p:PV)(H:AH):Prop:=
 okW p (lk (itemsOf H p) fun l => ∀D,H D=none→WC ct wi we p l D (fun acc H'=>fin acc (del H' D)) l [] (Y4 caps m) (upd H D (.list [])))
theorem Ev.comp{scope:Scope}{caps:List Nat}{ct:CT}{tg elt iter:PySem.Expr}{ifs:List PySem.Expr}{pos:Pos}{wi:Loc→AH→(Bool→AH→Prop)→Prop}{we:Loc→AH→(PV→AH→Prop)→Prop}{Q:PV→AH→Prop}(hg:v9 g)(sc:oE g scope caps)(hcap:∀x∈caps,env.kindOf (g.tab x)=some .cell∨env.kindOf (g.tab x)=some .free)(hb:∀x∈caps,∃q,m.lookup x=some q)
  (ht:Jm g.tab ct tg) (hk:∀x∈ct.xs,scope.names.lookup (g.tab x)=some .local) (hf:∀x,foldedSetIterable iter env x=pure x)
  (he:∀env',env'.scope=relabel scope env→∀m H Q,we m H Q→Ev g n env' m H elt Q) (hi:∀env',env'.scope=relabel scope env→fU g n env' ifs wi) (h:Ev g n env m H iter (pI m caps ct wi we fun acc H'=>Q (.lst acc) H')):Ev g n env m H (.ListComp elt [⟨tg,iter,ifs,0⟩] scope pos) Q:=fun A s R S F=>by
 have hcl:∀x∈scope.names,x.2 = .free→∃c,env.cells.lookup x.1=some c:=fun x hx hfree=>by
  obtain⟨y,hy,e⟩:=sc.free x hx hfree
  obtain⟨p,hp⟩:=hb y hy
  obtain⟨c,_,e1,_⟩:=F.cell y p hp (hcap y hy)
  exact⟨c,by rw [← e];exact e1⟩
 rw [eval_ListComp]
 refine wpAny_comprehension_free (use:=none) rfl hf (jr hcl) sc.kind sc.names (h.then R S F fun v s₁ p H₁ rv S₁ c₁ F₁ k=>?_)
 obtain⟨ok,k⟩:=k.src
 obtain⟨l,el,k⟩:=M4 k
 refine Ax (RR:=fun acc C=>compPost (model g.prog g.w) A (fun O O=>False) none (Z2 g s H Q) acc C) (fin:=fun D acc H'=>Q (.lst acc) (del H' D)) hg R sc hcap hb ht hk S₁ F₁ rv el ok he hi k fun D C s' H' acc S' hD' hf C' sD hD sC hC hC0 ⟨mc,o,hns,eo,nd⟩=>⟨mc,hns,fun h' B=>?_⟩
 obtain⟨S₂,P₂⟩:=Hg S' eo nd hC hC0 B.extBut s'.toks
 have C₂:Calm s.heap H h' H':=(c₁.trans C').ext B.extBut (by
  cases e:s.heap.get? C with
  |none=>rfl
  |some o=>obtain⟨o',e'⟩:=c₁.ex C o e;rw [sC] at e';cases e') P₂
 have sD':s.heap.get? D=none:=by
  cases e:s.heap.get? D with
  |none=>rfl
  |some o=>obtain⟨o',e'⟩:=c₁.ex D o e;rw [sD] at e';cases e'
 obtain⟨S₃,C₃,r⟩:=yc S₂ hD' C₂ sD'
 exact⟨.lst acc,_,r,S₃,C₃,hf⟩
theorem dZ.Rj{scope:Scope}{caps:List Nat}{ct:CT}{tg elt iter:PySem.Expr}{ifs:List PySem.Expr}{pos pos' spos:Pos}{x:Nat}{wi:Loc→AH→(Bool→AH→Prop)→Prop}{we:Loc→AH→(PV→AH→Prop)→Prop}{Q:Out→Loc→AH→Prop}(hg:v9 g)(sc:oE g scope caps)(hcap:∀x∈caps,env.kindOf (g.tab x)=some .cell∨env.kindOf (g.tab x)=some .free)(hb:∀x∈caps,∃q,m.lookup x=some q)
  (ht:Jm g.tab ct tg) (hk:∀x∈ct.xs,scope.names.lookup (g.tab x)=some .local) (hf:∀x,foldedSetIterable iter env x=pure x) (hx:env.kindOf (g.tab x)=some .local)
  (hs:swapsWith (.ListComp elt [⟨tg,iter,ifs,0⟩] scope pos) (some (.Name (g.tab x) pos')) spos.line env=pure true)
  (he:∀env',env'.scope=relabel scope env→∀m H Q,we m H Q→Ev g n env' m H elt Q) (hi:∀env',env'.scope=relabel scope env→fU g n env' ifs wi) (h:Ev g n env m H iter (pI m caps ct wi we fun acc H'=>Q .next (m5 x (.lst acc) m) H')):dZ g n env m H (.Assign [.Name (g.tab x) pos'] (.ListComp elt [⟨tg,iter,ifs,0⟩] scope pos) spos) Q:=fun A s R S F=>by
 have hcl:∀x∈scope.names,x.2 = .free→∃c,env.cells.lookup x.1=some c:=fun x hx hfree=>by
  obtain⟨y,hy,e⟩:=sc.free x hx hfree
  obtain⟨p,hp⟩:=hb y hy
  obtain⟨c,_,e1,_⟩:=F.cell y p hp (hcap y hy)
  exact⟨c,by rw [← e];exact e1⟩
 rw [exec_Assign_Name_used _ _ _ _ hs]
 refine wpAny_bind (wpAny_standAt (wpAny_bind ?_))
 show wpAny _ A (do let _ ← comprehension (.ListComp elt [⟨tg,iter,ifs,0⟩] scope pos) scope env _ (newList []) false (eval iter env) (some (PySem.assign (.Name (g.tab x) pos') env))) _ _ s
 refine wpAny_bind (wpAny_mono (wpAny_comprehension_free (use:=some (PySem.assign (.Name (g.tab x) pos') env)) (Q:=fun O s'=>KJ g env s H Q .next s') (E:=fun O O=>False) rfl hf (jr hcl) sc.kind sc.names (h.then R S F fun v s₁ p H₁ rv S₁ c₁ F₁ k=>?_)) (fun O s' hq=>wpAny_pure (wpAny_pure hq)) fun O O e=>e)
 obtain⟨ok,k⟩:=k.src
 obtain⟨l,el,k⟩:=M4 k
 refine Ax (RR:=fun acc C=>compPost (model g.prog g.w) A (fun O O=>False) (some (PySem.assign (.Name (g.tab x) pos') env)) (fun O s'=>KJ g env s H Q .next s') acc C) (fin:=fun D acc H'=>Q .next (m5 x (.lst acc) m) (del H' D)) hg R sc hcap hb ht hk S₁ F₁ rv el ok he hi k fun D C s' H' acc S' hD' hf C' sD hD sC hC hC0 ⟨mc,o,hns,eo,nd⟩=>?_
 have sC':s.heap.get? C=none:=by
  cases e:s.heap.get? C with
  |none=>rfl
  |some o=>obtain⟨o',e'⟩:=c₁.ex C o e;rw [sC] at e';cases e'
 have sD':s.heap.get? D=none:=by
  cases e:s.heap.get? D with
  |none=>rfl
  |some o=>obtain⟨o',e'⟩:=c₁.ex D o e;rw [sD] at e';cases e'
 have C₁:=c₁.trans C'
 have nCL:C≠env.locals:=fun z=>by
  obtain⟨mv,⟨oL,es,ep,eL,_⟩,_⟩:=F.ns
  rw [← z,sC'] at eL;cases eL
 -- the value,as it is called behind the store
 have fin:∀q H₃,n8 g s' H₃→Calm s.heap H s'.heap H₃→H₃ C=none→Rep g.tab s'.heap H₃ q (.ref D)→Q .next (m5 x q m) H₃→
   wpAny (model g.prog g.w) A (PySem.assign (.Name (g.tab x) pos') env (.ref D)) (fun O s'' => ∃m,s''.heap.Ns C m∧∀h',Heap.SameBut C s''.heap h'→KJ g env s H Q .next {s'' with heap:=h'}) (fun O O=>False) s':=by
  intro q H₃ S₃ C₃ hC3 r3 q3
  refine assign_Name (wpAny_mono (iG hg S₃ (F.goes C₃) hx r3) (fun O s₄ ⟨S₄,F₄,c₄⟩=>?_) fun O O x=>x)
  have eo4:=c₄.keep C o eo hC3 nCL
  obtain⟨o',es',ep',n1,n2⟩:=hns
  rw [eo] at n1;cases n1
  refine⟨mc,⟨o,es',ep',eo4,n2⟩,fun h' B=>?_⟩
  obtain⟨S₅,P₅⟩:=Hg S₄ eo4 nd hC3 hC0 B.extBut s₄.toks
  have F₅:z9 g env (m5 x q m) h' H₃:=F₄.Gz (fun b o e O w=>B.extBut b o (fun z=>by
   subst z
   rcases w with w|⟨y,w⟩
   ·exact nCL w
   ·obtain⟨_,_,v,⟨oc,ec,_⟩⟩:=F.cells y _ w
    rw [sC'] at ec;cases ec) e) (fun x O z O=>z) P₅
  exact⟨.next,_,H₃,rfl,S₅,F₅,(C₃.own.trans (c₄.weak fun b z=>.inl z)).ext B.extBut sC' P₅,q3⟩
 show wpAny _ A (PySem.assign (.Name (g.tab x) pos') env (.ref D)) _ _ _
 obtain⟨S₃,C₃,r⟩:=yc S' hD' C₁ sD'
 exact fin (.lst acc) _ S₃ C₃ (by unfold del;split;rfl;exact hC) r hf
end
section
variable{τ:T}{g:G τ}{n:Nat}{env:Env}{m:Loc}{H:AH}{A:Around}{s:Shared}{Q:PV→AH→Prop}
theorem Lp{C:Addr}(S:n8 g s H):∃a dx,a=s.heap.objs.size+1∧dx=s.heap.objs.size∧H a=none∧H dx=none∧a≠dx∧
  n8 g {s with heap:=(s.heap.push emptyDict).push (instObj C s.heap.objs.size)} (upd (upd H dx (.attrs [])) a (.inst C dx))∧Calm s.heap H ((s.heap.push emptyDict).push (instObj C s.heap.objs.size)) (upd (upd H dx (.attrs [])) a (.inst C dx)):=by
 obtain⟨f1,f2,f3⟩:=bT S
 obtain⟨S₁,c₁⟩:=S.track (o:=.attrs []) (x:=emptyDict) rfl ⟨fun O=>none,Heap.Ns1.of_empty (Heap.Ns.new s.heap (.type "dict")),fun y h=>absurd rfl h,fun O=>rfl⟩
 obtain⟨g1,g2,g3⟩:=bT S₁
 have sz:(s.heap.push emptyDict).objs.size=s.heap.objs.size+1:=Heap.size_push ..
 obtain⟨S₂,c₂⟩:=S₁.track (o:=.inst C s.heap.objs.size) (x:=instObj C s.heap.objs.size) rfl (Heap.get?_push_size _ rfl)
 dsimp only at S₂ c₂ g2
 rw [sz] at S₂ c₂ g2
 have ne:s.heap.objs.size+1≠s.heap.objs.size:=by lia
 rw [d8 ne] at g2
 exact⟨_,_,rfl,rfl,g2,f2,ne,S₂,c₁.trans c₂⟩
theorem Rk{C f:Addr}{l:List PV}(hg:v9 g)(hi:g.init C=some f)(h:∀a dx,H a=none→H dx=none→a≠dx→Dy g n (.obj f) (.obj a::l) (upd (upd H dx (.attrs [])) a (.inst C dx)) fun r H'=>r = .none∧Q (.obj a) H'):Cl g (n+1) (.obj C) l H Q:=fun A s v vs R S rv rl=>by
 cases rv
 obtain⟨i1,i2,i3,i4⟩:=hg.init C f hi
 have X:=hg.X.keeps S.keep
 obtain⟨a,dx,rfl,rfl,ha,hdx,ne,S',c'⟩:=Lp (C:=C) S
 refine wpAny_call (codeAny_mono (R:=UW g s H Q) ?_ fun r s' ⟨u,e,x⟩=>by subst e;exact x)
 refine make_core (makes_of X i1) (looks_findIn X i2) (fun self=>bind_fn X self (beq_iff_eq.mp i3)) (.inl rfl) ?_
 have w:(Code.builtin "type.__call__" ⟨.ref C::vs,[]⟩).weight=1:=rfl
 have u:(Code.builtin "type.__call__" ⟨.ref C::vs,[]⟩).cUnits=1:=rfl
 have R':J5 n (A.under (.builtin "type.__call__" ⟨.ref C::vs,[]⟩)):=⟨R.handled,by
  show A.depth+(Code.builtin "type.__call__" ⟨.ref C::vs,[]⟩).weight+2*n<_
  rw [w];have:=R.depth;lia,by
  show A.units+(Code.builtin "type.__call__" ⟨.ref C::vs,[]⟩).cUnits+20*n+100<_
  rw [u];have:=R.units;lia⟩
 have rl':=rl.keeps c'.q9
 refine codeAny_mono (h _ _ ha hdx ne _ _ (.ref f) (.ref (s.heap.objs.size+1)::vs) R' S' rfl ⟨_,_,rfl,rfl,rl'⟩) fun r s' ⟨u,e,z⟩=>?_
 subst e
 obtain⟨p,H',r',S₂,c₂,rfl,q⟩:=z
 cases r'
 exact⟨rfl,_,rfl,.obj _,H',rfl,S₂,c'.trans c₂,q⟩
theorem Ev.Lq{o:PySem.Expr}{x:Nat}{es:List PySem.Expr}{apos pos:Pos}(hg:v9 g)(hb:wA o)(hline:(apos.endLine==pos.line)=true)(hlen:es.length<30)(hs:∀e∈es,cD e)
  (h:Ev g n env m H o fun p H₁ => ∃C f,p = .obj C∧g.rC C x=some f∧pC g n env m H₁ pos es fun l H₂=>Cl g n (.obj f) l H₂ Q):Ev g n env m H (.Call (.Attribute o (g.tab x) apos) es [] pos) Q:=fun A s R S F=>by
 rw [arm_eval_Call,hb]
 refine wpAny_bind (h.then R S F fun v s' p H' r S' c F' q=>Z2.calm c (wpAny_bind (wpAny_standAt ?_)))
 obtain⟨C,f,rfl,hm,q⟩:=q
 cases r
 obtain⟨mc,f1,f2,f3,f4⟩:=hg.rC C x f hm
 have X:=hg.X.keeps S'.keep
 have few:methodCallForm (es.length+([]:List Keyword).length) (backTo pos (starEach es env)) (backToKw pos (keywordEach [] env))=true:=by
  have:(backTo pos (starEach es env)).all (fun y => !y.1)=true:=by
   have:=noStar (pos:=pos) (env:=env) hs
   rw [List.any_eq_false] at this
   rw [List.all_eq_true]
   intro y hy
   have:=this y hy
   simpa using this
  unfold methodCallForm
  rw [this]
  show(true&&true&&decide (es.length+0+0<30))=true
  simp [hlen]
 unfold methodCall
 rw [few]
 refine wpAny_bind (wpAny_holding ?_)
 show wpAny _ _ (getMethod (.ref C) (g.tab x) _) _ _ _
 refine method_cls X f1 (cls_value X f2 f3 rfl ?_)
 refine wpAny_bind ?_
 unfold methodCallPos
 rw [hline]
 refine wpAny_pure ?_
 have S₂:=S'.tok (s'.toks+1)
 exact Z2.calm (s:=s') (s₁:={s' with toks:=s'.toks+1}) (.refl ..) (bR (s:={s' with toks:=s'.toks+1}) hg R S₂ F' hs (qN hg f4) (rfl:Rep g.tab s'.heap H' (.obj f) (.ref f)) (fl:=[]) rfl q)
end
section
variable{τ:T}{g:G τ}{n:Nat}{env:Env}{m:Loc}{H:AH}{A:Around}{s:Shared}{Q:PV→AH→Prop}
theorem Ev.cW{pos:Pos}(k:q7)(hk:k = .m6 []∨k = .u0 []∨k = .z6 [])(h:∀a,H a=none→Q (.obj a) (upd H a k)):Ev g n env m H (.Dict [] [] pos) Q:=fun A s R S F=>by
 refine wpAny_Dict_empty ?_
 obtain⟨f1,f2,f3⟩:=bT S
 have r:jf g (s.heap.push {cls:=.type "dict",data:=.dict #[]}) (upd H s.heap.objs.size k) s.heap.objs.size k:=by
  rcases hk with rfl|rfl|rfl
  ·exact⟨[],Heap.DictOf.new ..,.nil⟩
  ·exact⟨[],Heap.DictOf.new ..,.nil⟩
  ·exact⟨[],Heap.DictOfH.new ..,.nil⟩
 obtain⟨S',c⟩:=S.track (x:={cls:=.type "dict",data:=.dict #[]}) rfl r
 exact⟨.obj _,_,rfl,S',c,h _ f2⟩
theorem Lr{s₁:Shared}{H₁:AH}{h':Heap}{d:Addr}{o:Obj}{k:q7}(S₁:n8 g s₁ H₁)(c:Calm s.heap H s₁.heap H₁)(f1:s.heap.get? d=none)(f2:H₁ d=none)(f3:g.h₀.get? d=none)(eo:s₁.heap.get? d=some o)(nd:(∀xs k,o.data≠.seq xs k)∧∀xs,o.data≠.fields xs)
  (B:Heap.SameBut d s₁.heap h') (ex:∃y,h'.get? d=some y) (r:O5 s₁.heap H₁ h' (upd H₁ d k)→jf g h' (upd H₁ d k) d k) (t:Nat):n8 g {s₁ with heap:=h',toks:=t} (upd H₁ d k)∧Calm s.heap H h' (upd H₁ d k):=by
 have ne:∀b x,s₁.heap.get? b=some x→(∃xs k,x.data = .seq xs k)∨(∃xs,x.data = .fields xs)→b≠d:=fun b x e q z=>by
  subst z;rw [eo] at e;cases e
  rcases q with⟨_,_,q⟩|⟨_,q⟩
  ·exact nd.1 _ _ q
  ·exact nd.2 _ q
 have P:O5 s₁.heap H₁ h' (upd H₁ d k):=⟨fun b x xs j e q O=>(B.2 b (ne b x e (.inl ⟨_,_,q⟩))).trans e,fun b x xs j e q O z=>⟨(B.2 b (ne b x e (.inl ⟨_,_,q⟩))).trans e,by rw [d8 (ne b x e (.inl ⟨_,_,q⟩))];exact z⟩,fun b x xs e q O=>(B.2 b (ne b x e (.inr ⟨_,q⟩))).trans e⟩
 refine⟨⟨fun b x e=>(B.2 b fun z=>?_).trans (S₁.keep b x e),fun a z=>?_,fun a x e=>?_,S₁.gens,S₁.os⟩,fun b x e q z=>?_,fun b q z=>?_,fun b x e=>?_,c.q9.trans P⟩
 ·subst z;rw [f3] at e;cases e
 ·by_cases w:a=d
  ·rw [w];exact f3
  ·rw [d8 w] at z;exact S₁.fresh a z
 ·by_cases w:a=d
  ·subst w;rw [c7] at e;cases e;exact r P
  ·rw [d8 w] at e;exact(S₁.obj a x e).keeps P fun O y=>(B.2 a w).trans y
 ·exact(B.2 b fun w=>by subst w;rw [f1] at e;cases e).trans (c.keep b x e q z)
 ·by_cases w:b=d
  ·rw [w];exact f1
  ·rw [d8 w] at z;exact c.new b q z
 ·have w:b≠d:=fun w=>by subst w;rw [f1] at e;cases e
  obtain⟨x',e'⟩:=c.ex b x e
  exact⟨x',(B.2 b w).trans e'⟩
section
variable{K J:Type} [DecidableEq K] [DecidableEq J](D:KD g K J)
noncomputable def EvD(g:G τ)(n:Nat)(env:Env)(m:Loc)(key:K→PV):AH→List (PySem.Expr×K×PySem.Expr)→(List (K×PV)→AH→Prop)→Prop
 |H,[],fin=>fin [] H
 |H,(ke,k,ve)::r,fin=>Ev g n env m H ke fun p H₁=>p=key k∧Ev g n env m H₁ ve fun q H₂=>EvD g n env m key H₂ r fun l H₃=>fin ((k,q)::l) H₃
inductive Em(D:KD g K J)(h:Heap)(H:AH):List (K×PV)→List (Value×Value)→Prop
 |nil:Em D h H [] []
 |cons {k:K} {p:PV} {kv v:Value} {l:List (K×PV)} {r:List (Value×Value)} (a:Rep g.tab h H (D.key k) kv) (b:Rep g.tab h H p v) (z:Em D h H l r):Em D h H ((k,p)::l) ((kv,v)::r)
inductive ak1(D:KD g K J)(h:Heap)(H:AH)(l:List (K×PV))(vs:List (Value×Value)):Prop
 |mk (kvs:List (J×Value)) (c:Carries D.knd vs kvs) (r:cC D.f g.tab h H l kvs) (e:kvs.map (·.1)=(l.map (·.1)).map D.f)
theorem Em.kvs{h:Heap}{l:List (K×PV)}{vs:List (Value×Value)}(r:Em D h H l vs):ak1 D h H l vs:=by
 induction r with
 |nil=>exact⟨[],trivial,.nil,rfl⟩
 |@cons k _ _ v _ _ a b _ ih=>
  cases ih with
  |mk kvs c r e=>exact⟨(D.f k,v)::kvs,⟨D.is _ _ _ _ a,rfl,c⟩,.cons b r,congrArg (_ :: ·) e⟩
theorem Ay{pos:Pos}:∀{ps:List (PySem.Expr×K×PySem.Expr)} {fin:List (K×PV)→AH→Prop} {H:AH} {s:Shared},J5 n A→n8 g s H→z9 g env m s.heap H→EvD g n env m D.key H ps fin→
  wpAny (model g.prog g.w) A (evalPairs (pairTrees (ps.map fun x=>some x.1) (ps.map fun x=>x.2.2) env pos)) (fun vs s' => ∃l H',l.map (·.1)=ps.map (fun x=>x.2.1)∧Em D s'.heap H' l vs∧n8 g s' H'∧Calm s.heap H s'.heap H'∧fin l H') (fun O O=>False) s
 | [],fin,H,s,R,S,F,h=>pairTrees_nil_walk ⟨[],H,rfl,.nil,S,.refl ..,h⟩
 | (ke,k,ve)::ps,fin,H,s,R,S,F,h=>by
  refine pairTrees_cons_walk (h.then R S F fun kv s₁ p H₁ rk S₁ c₁ F₁ q=>?_)
  obtain⟨rfl,q⟩:=q
  refine q.then R S₁ F₁ fun v s₂ p H₂ rv S₂ c₂ F₂ q=>?_
  refine wpAny_mono (Ay (pos:=pos) R S₂ F₂ q) (fun vs s₃ y=>?_) fun O O x=>x
  obtain⟨l,H₃,el,cl,S₃,c₃,z⟩:=y
  exact⟨(k,p)::l,H₃,by rw [List.map_cons,el];rfl,.cons ((rk.keeps c₂.q9).keeps c₃.q9) (rv.keeps c₃.q9) cl,S₃,(c₁.trans c₂).trans c₃,z⟩
theorem Ev.dic{ps:List (PySem.Expr×K×PySem.Expr)}{pos:Pos}(hg:v9 g)(h0:ps≠[])(hl:ps.length≤15)(nd:(ps.map fun x=>x.2.1).Nodup)(h:EvD g n env m D.key H ps fun l H' => ∀a,H' a=none→Q (.obj a) (upd H' a (D.ob l))):
  Ev g n env m H (.Dict (ps.map fun x=>some x.1) (ps.map fun x=>x.2.2) pos) Q:=fun A s R S F=>by
 obtain⟨f1,f2,f3⟩:=bT S
 have S₀:=S.push {cls:=.type "dict",data:=.dict #[]} s.toks
 have c₀:Calm s.heap H (s.heap.push {cls:=.type "dict",data:=.dict #[]}) H:=Calm.push _ _ _
 refine wpAny_Dict_walk (knd:=D.knd) (by simp) (by simp) (by simpa using h0) (by simpa using hl) (wpAny_mono (Ay D R S₀ (F.goes c₀) h) (fun vs s₁ y=>?_) fun O O x=>x)
 obtain⟨l,H₁,el,cl,S₁,c₁,q⟩:=y
 have ed:(s.heap.push {cls:=.type "dict",data:=.dict #[]}).get? s.heap.objs.size=some {cls:=.type "dict",data:=.dict #[]}:=Heap.get?_push_size _ rfl
 have ed1:=c₁.keep _ _ ed f2 id
 have hd1:H₁ s.heap.objs.size=none:=Classical.byContradiction fun z=>by have:=c₁.new _ f2 z;rw [ed] at this;cases this
 obtain⟨kvs,k1,k2,k3⟩:=Em.kvs D cl
 have nd':(kvs.map (·.1)).Nodup:=by
  rw [k3]
  rw [el]
  exact List.Pairwise.map D.f (fun a b ne e=>ne (D.inj hg _ _ e)) nd
 refine⟨kvs,k1,⟨_,#[],0,ed1,⟨rfl,rfl,rfl⟩,rfl,fun O he=>by simp at he,.nil,List.nodup_nil⟩,fun h' hm B=>?_⟩
 rw [merged_nil_of_nodup _ nd'] at hm
 obtain⟨o,es,ep,e1,e2⟩:=id hm
 obtain⟨S',c'⟩:=Lr (s:=s) (H:=H) (k:=D.ob l) S₁ (c₀.trans c₁) f1 hd1 f3 ed1 ⟨fun xs k e=>(by cases e),fun xs e=>(by cases e)⟩ B ⟨o,e1⟩ (fun P=>(D.Wo _ _ _ _).mpr ⟨kvs,hm,k2.keeps P⟩) (s₁.toks+vs.length)
 exact⟨.obj _,_,rfl,S',c',q _ hd1⟩
end
end
theorem rN{α:Type}:∀{ks:List Str} {vs:List α},ks.length=vs.length→ks.Nodup→ks.filterMap (fun n=>((ks.zip vs).lookup n).map fun v=>(n,v))=ks.zip vs
 | [],[],_,_=>rfl
 |k::ks,v::vs,e,nd=>by
  obtain⟨n1,n2⟩:=List.nodup_cons.mp nd
  rw [List.zip_cons_cons,List.filterMap_cons,List.lookup_cons,beq_self_eq_true]
  simp only [Option.map_some]
  have ih:=rN (ks:=ks) (vs:=vs) (by simpa using e) n2
  refine congrArg _ (Eq.trans (W3 fun x hx=>?_) ih)
  have:(x==k)=false:=beq_eq_false_iff_ne.mpr fun z=>n1 (z▸hx)
  rw [List.lookup_cons,this]
 | [],_::_,e,_=>by simp at e
 |_::_,[],e,_=>by simp at e
theorem fV{α:Type}{x:Str}:∀{ks:List Str} {vs:List α},ks.length=vs.length→x∈ks→((ks.zip vs).lookup x).isNone=false
 |k::ks,v::vs,e,h=>by
  rw [List.zip_cons_cons,List.lookup_cons]
  by_cases z:x=k
  ·rw [z,beq_self_eq_true];rfl
  ·rw [beq_eq_false_iff_ne.mpr z]
   exact fV (by simpa using e) ((List.mem_cons.mp h).resolve_left z)
 | [],_,_,h=>by cases h
 |_::_,[],e,_=>by simp at e
theorem Ro{α:Type}{ks:List Str}{vs:List α}(e:ks.length=vs.length)(nd:ks.Nodup):(ks++[]).filterMap (fun n=>((ks.zip vs).lookup n).map fun v=>(n,v))=ks.zip vs:=by rw [List.append_nil];exact rN e nd
theorem rO{fd:FuncData}{args:List Arg}{kd:List (Option PySem.Expr)}{df:List PySem.Expr}{vs:List Value}(hp:fd.params=⟨[],args,none,[],kd,none,df⟩)(hd:fd.defaults = .none)(nd:(args.map (·.arg)).Nodup) (hl:vs.length=args.length):
  bindArgs fd ⟨vs,[]⟩=pure ((args.map (·.arg)).zip vs):=by
 have el:(args.map (·.arg)).length=vs.length:=by rw [List.length_map,hl]
 have hz:¬(decide (vs.length > (args.map (·.arg)).length)&&true)=true:=fun z=>absurd (of_decide_eq_true (Bool.and_eq_true_iff.mp z).1) (el▸Nat.lt_irrefl _)
 have hm:¬(!(((args.map (·.arg)).take ((args.map (·.arg)).length-0)).filter fun n=>(((args.map (·.arg)).zip vs).lookup n).isNone).isEmpty)=true:=by
  rw [Nat.sub_zero,List.take_length,List.filter_eq_nil_iff.mpr fun x hx=>Bool.eq_false_iff.mp (fV el hx)]
  exact nofun
 obtain⟨_,_,_,_,_,_,_,_,_,_,_,_,_,_,_⟩:=fd
 cases hp
 cases hd
 refine(if_neg hz).trans ?_
 rw [show(Option.getD none #[]:Array Value).toList=[] from rfl,List.drop_nil,List.zip_nil_right]
 have fin:=congrArg (pure:List (Str×Value)→Sem (List (Str×Value))) (Ro el nd)
 exact(if_neg hm).trans fin
end Mine.Internal
namespace Mine.Internal
open PySem PySem.W PySem.Calls PyProof.Rows
noncomputable abbrev PE:=PySem.Expr
theorem d9{a b:Bool}(h:(a&&b)=true):a=true∧b=true:=Bool.and_eq_true_iff.mp h
noncomputable def PV.int? : PV→Option Int
 |.int i=>some i
 |_=>.none
noncomputable def PV.En : PV→Option (List PV)
 |.tup l=>some l
 |.lst l=>some l
 |_=>.none
noncomputable def PV.Ls : PV→Option (List PV)
 |.tup l=>some l
 |_=>.none
noncomputable def PV.truth? : PV→Option Bool
 |.none=>some false
 |.bool b=>some b
 |.int i=>some (i != 0)
 |_=>.none
noncomputable def PV.isO:PV→Bool
 |.obj _=>true
 |_=>false
theorem aP.of{p:PV}{B:Bool→Prop}(h:lk p.truth? B):aP p B:=by cases p<;>exact h
noncomputable abbrev Ns:=List (Str×NameKind)
noncomputable def Dz(k:NameKind)(ns:Ns)(s:Str):Bool:=(ns.lookup s==some k)
noncomputable def Jq(ns:Ns)(s:Str):Bool:=Dz .local ns s||Dz .cell ns s
theorem U9{k:NameKind}{ns:Ns}{s:Str}(h:Dz k ns s=true):ns.lookup s=some k:=eq_of_beq h
theorem Hh{ns:Ns}{s:Str}(h:Jq ns s=true):ns.lookup s=some .local∨ns.lookup s=some .cell:=(Bool.or_eq_true_iff.mp h).imp U9 U9
structure R6(ns:Ns)(env:Env):Prop where
 kind:env.scope.kind = .function
 look:∀s k,ns.lookup s=some k→k≠.free→env.kindOf s=some k
 free:∀s,ns.lookup s=some .free→env.kindOf s=some .cell∨env.kindOf s=some .free
theorem R6.comp{env env':Env}{sc:Scope}(he:env'.scope=relabel sc env)(hk:sc.kind = .function):R6 sc.names env':=by
 have k:∀s,env'.kindOf s=(relabel sc env).names.lookup s:=fun s=>by unfold Env.kindOf;rw [he]
 refine⟨by rw [he];exact hk,fun s k' e ne=>?_,fun s e=>?_⟩
 ·rw [k,U8 e,show(k'==NameKind.free)=false from beq_eq_false_iff_ne.mpr ne]
  rfl
 ·rw [k,U8 e]
  cases(NameKind.free==NameKind.free&&env.scope.kind == .function&&env.kindOf s==some .cell) with
  |true=>exact .inl rfl
  |false=>exact .inr rfl
theorem Ts.mono{τ:T}{g:G τ}{n:Nat}{env:Env}{m:Loc}{H:AH}{e:PySem.Expr}{Q Q':Bool→AH→Prop}(h:Ts g n env m H e Q)(k:∀p H',Q p H'→Q' p H'):Ts g n env m H e Q':=
 fun A s R S F=>h.then R S F fun b s' H' S' c F' q=>⟨H',S',c,k b H' q⟩
theorem R6.lc{ns:Ns}{env:Env}{s:Str}(he:R6 ns env)(h:Jq ns s=true):env.kindOf s=some .local∨env.kindOf s=some .cell:=(Hh h).imp (fun k=>he.look _ _ k nofun) fun k=>he.look _ _ k nofun
noncomputable def kids:PE→List PE
 |.BoolOp _ es _=>es
 |.BinOp a _ b _=>[a,b]
 |.UnaryOp _ a _=>[a]
 |.IfExp t a b _=>[t,a,b]
 |.Dict ks vs _=>ks.map (·.getD default)++vs
 |.ListComp e gs _ _=>match gs with
  | ⟨t,i,ifs,_⟩::_=>e::t::i::ifs
  | []=>[e]
 |.Compare a _ bs _=>a::bs
 |.Call f es _ _=>f::es
 |.Attribute e _ _=>[e]
 |.Subscript a i _=>[a,i]
 |.List es _=>es
 |.Tuple es _ _=>es
 |.Slice lo hi st _=>[lo.getD default,hi.getD default,st.getD default]
 |_=>[]
noncomputable def kid(e:PE)(i:Nat):PE:=(kids e).getD i default
noncomputable def kc:PE→Nat
 |.Constant _ k _=>k
 |.Tuple _ k _=>k
 |_=>0
structure Sh(e:PE):Prop where
 plain:cD e
 fold:∀env v,foldedSetIterable e env v=pure v
 marks:∀op,behindInMarks op e=false
noncomputable abbrev WE := ∀{τ:T},G τ→Nat→Loc→AH→(PV→AH→Prop)→Prop
noncomputable abbrev WT := ∀{τ:T},G τ→Nat→Loc→AH→(Bool→AH→Prop)→Prop
noncomputable abbrev WL(to:(Nat→Str)→PE→PE)(ok:T→Ns→PE→Bool)(w:WE):Prop := ∀{τ:T} {g:G τ},v9 g→∀{ns:Ns} {env:Env} {n:Nat} {m:Loc} {H:AH} {Q:PV→AH→Prop} (x:PE),ok τ ns x=true→R6 ns env→w g n m H Q→Ev g n env m H (to τ.tab x) Q
noncomputable abbrev Zy(to:(Nat→Str)→PE→PE)(ok:T→Ns→PE→Bool)(w:WT):Prop := ∀{τ:T} {g:G τ},v9 g→∀{ns:Ns} {env:Env} {n:Nat} {m:Loc} {H:AH} {Q:Bool→AH→Prop} (x:PE),ok τ ns x=true→R6 ns env→w g n m H Q→Ts g n env m H (to τ.tab x) Q
structure X where
 to:(Nat→Str)→PE→PE
 ok:T→Ns→PE→Bool
 wE:WE
 wT:WT
 sE:WL to ok wE
 sT:Zy to ok wT
 sh:∀tab x,Sh (to tab x)
 bs:Bool
 sb:bs=true→∀tab x,wA (to tab x)
 nc:Bool
 sn:nc=true→∀tab x t line env,swapsWith (to tab x) t line env=pure false
 nt:Bool
 st:nt=true→∀tab x ts j p env,swappedStores [.Tuple ts j p] (to tab x) env=pure none
noncomputable def rv{α:Type}(Q:α→AH→Prop)(H:AH)(b:α):Prop:=Q b H
noncomputable def kT(Q:Bool→AH→Prop)(p:PV)(H:AH):Prop:=lk p.truth? (rv Q H)
noncomputable abbrev asT(w:WE):WT:=fun g n m H Q=>w g n m H (kT Q)
structure Sf(b:Bool)(e:PE):Prop where
 sh:Sh e
 pt:plainT e
 sb:b=true→wA e
 sn:∀t line env,swapsWith e t line env=pure false
 st:∀ts j p env,swappedStores [.Tuple ts j p] e env=pure none
theorem Zz{to:(Nat→Str)→PE→PE}{ok:T→Ns→PE→Bool}{w:WE}(s:WL to ok w)(pt:∀tab x,plainT (to tab x)):Zy to ok (asT w):=
 fun hg O O O O O O x h he w=>Ts.plain (pt _ x) ((s hg x h he w).mono fun O O z=>aP.of z)
noncomputable def X.of(b:Bool)(to:(Nat→Str)→PE→PE)(ok:T→Ns→PE→Bool)(w:WE)(s:WL to ok w)(f:∀tab x,Sf b (to tab x)):X:=
 ⟨to,ok,w,asT w,s,Zz s fun tab x=>(f tab x).pt,fun tab x=>(f tab x).sh,b,fun h tab x=>(f tab x).sb h,true,fun O tab x=>(f tab x).sn,true,fun O tab x=>(f tab x).st⟩
section
variable{α:Type}(w:AH→(PV→AH→Prop)→Prop)(v:AH→(Bool→AH→Prop)→Prop)(Q:PV→AH→Prop)(B:Bool→AH→Prop)(L:List PV→AH→Prop)(p:PV)(H:AH)(b:Bool)
noncomputable def kC(l:List PV)(H:AH):Prop:=L (p::l) H
noncomputable def kL(w:AH→(List PV→AH→Prop)→Prop)(p:PV)(H:AH):Prop:=w H (kC L p)
noncomputable def kV:Prop:=sel b (w H Q) (Q p H)
noncomputable def kAV:Prop:=lk p.truth? (kV w Q p H)
noncomputable def kU:Prop:=sel b (Q p H) (w H Q)
noncomputable def kOV:Prop:=lk p.truth? (kU w Q p H)
noncomputable def kAT(b:Bool)(H:AH):Prop:=sel b (v H B) (B false H)
noncomputable def kOT(b:Bool)(H:AH):Prop:=sel b (B true H) (v H B)
end
section
variable{τ:T}(g:G τ)(n:Nat)
noncomputable def Az:List X→Loc→AH→(List PV→AH→Prop)→Prop
 | [],_,H,Q=>Q [] H
 |e::es,m,H,Q=>e.wE g n m H (kL Q (Az es m))
noncomputable def WQ:List X→Loc→AH→(PV→AH→Prop)→Prop
 | [],_,_,_=>False
 | [e],m,H,Q=>e.wE g n m H Q
 |e::es,m,H,Q=>e.wE g n m H (kAV (WQ es m) Q)
noncomputable def WR:List X→Loc→AH→(PV→AH→Prop)→Prop
 | [],_,_,_=>False
 | [e],m,H,Q=>e.wE g n m H Q
 |e::es,m,H,Q=>e.wE g n m H (kOV (WR es m) Q)
noncomputable def WW:List X→Loc→AH→(Bool→AH→Prop)→Prop
 | [],_,H,Q=>Q true H
 |e::es,m,H,Q=>e.wT g n m H (kAT (WW es m) Q)
noncomputable def WX:List X→Loc→AH→(Bool→AH→Prop)→Prop
 | [],_,H,Q=>Q false H
 |e::es,m,H,Q=>e.wT g n m H (kOT (WX es m) Q)
end
noncomputable abbrev hd(es:List PE):PE:=es.headD default
noncomputable def toL(tab:Nat→Str):List X→List PE→List PE
 | [],_=>[]
 |x::xs,es=>x.to tab (hd es)::toL tab xs es.tail
noncomputable def zY(τ:T)(ns:Ns):List X→List PE→Bool
 | [],_=>true
 |x::xs,es=>x.ok τ ns (hd es)&&zY τ ns xs es.tail
theorem yd(tab:Nat→Str)(xs:List X):∀es,(toL tab xs es).length=xs.length:=by
 induction xs with
 |nil=>exact fun O=>rfl
 |cons x xs ih=>exact fun es=>congrArg (·+ 1) (ih _)
theorem cX(tab:Nat→Str)(xs:List X):∀es,∀e∈toL tab xs es,cD e:=by
 induction xs with
 |nil=>exact fun O O h=>nomatch h
 |cons x xs ih=>exact fun es e h=>(List.mem_cons.mp h).elim (fun z=>z▸(x.sh _ _).plain) (ih _ e)
section
variable{τ:T}{g:G τ}(hg:v9 g){ns:Ns}{env:Env}{n:Nat}{pos:Pos}
include hg
theorem Ba(xs:List X):∀(es:List PE) {m:Loc} {H:AH} {Q:List PV→AH→Prop},zY τ ns xs es=true→R6 ns env→Az g n xs m H Q→pC g n env m H pos (toL τ.tab xs es) Q:=by
 induction xs with
 |nil=>exact fun O O O O O O w=>pC.nil w
 |cons x xs ih=>exact fun es m H Q h he w=>pC.cons (x.sh _ _).plain ((x.sE hg _ (d9 h).1 he w).mono fun p H₁ w=>ih _ (d9 h).2 he w)
theorem ZC(xs:List X):∀(es:List PE) {m:Loc} {H:AH} {Q:PV→AH→Prop},zY τ ns xs es=true→R6 ns env→WQ g n xs m H Q→Ev g n env m H (.BoolOp .And (toL τ.tab xs es) pos) Q:=by
 induction xs with
 |nil=>exact fun O O O O O O w=>w.elim
 |cons x xs ih=>cases xs with
  |nil=>exact fun es m H Q h he w=>Ev.aj2 (x.sE hg _ (d9 h).1 he w)
  |cons y ys=>exact fun es m H Q h he w=>Ev.aj3 ((x.sE hg _ (d9 h).1 he w).mono fun p H₁ w=>aP.of (by
    obtain⟨b,e,w⟩:=M4 w
    refine d7 e ?_
    cases b with
    |true=>exact ih _ (d9 h).2 he w
    |false=>exact w))
theorem ZD(xs:List X):∀(es:List PE) {m:Loc} {H:AH} {Q:PV→AH→Prop},zY τ ns xs es=true→R6 ns env→WR g n xs m H Q→Ev g n env m H (.BoolOp .Or (toL τ.tab xs es) pos) Q:=by
 induction xs with
 |nil=>exact fun O O O O O O w=>w.elim
 |cons x xs ih=>cases xs with
  |nil=>exact fun es m H Q h he w=>Ev.or1 (x.sE hg _ (d9 h).1 he w)
  |cons y ys=>exact fun es m H Q h he w=>Ev.orS ((x.sE hg _ (d9 h).1 he w).mono fun p H₁ w=>aP.of (by
    obtain⟨b,e,w⟩:=M4 w
    refine d7 e ?_
    cases b with
    |true=>exact w
    |false=>exact ih _ (d9 h).2 he w))
theorem ZF(xs:List X):∀(es:List PE) {m:Loc} {H:AH} {Q:Bool→AH→Prop},zY τ ns xs es=true→R6 ns env→WW g n xs m H Q→Ts g n env m H (.BoolOp .And (toL τ.tab xs es) pos) Q:=by
 induction xs with
 |nil=>exact fun O O O O O O w=>Ts.Wc w
 |cons x xs ih=>exact fun es m H Q h he w=>Ts.and ((x.sT hg _ (d9 h).1 he w).mono fun b H₁ w=>by
   cases b with
   |true=>exact ih _ (d9 h).2 he w
   |false=>exact w)
theorem ZG(xs:List X):∀(es:List PE) {m:Loc} {H:AH} {Q:Bool→AH→Prop},zY τ ns xs es=true→R6 ns env→WX g n xs m H Q→Ts g n env m H (.BoolOp .Or (toL τ.tab xs es) pos) Q:=by
 induction xs with
 |nil=>exact fun O O O O O O w=>Ts.Zi w
 |cons x xs ih=>exact fun es m H Q h he w=>Ts.or ((x.sT hg _ (d9 h).1 he w).mono fun b H₁ w=>by
   cases b with
   |true=>exact w
   |false=>exact ih _ (d9 h).2 he w)
end
end Mine.Internal
namespace Mine.Internal
open PySem PySem.W PySem.Calls PyProof.Rows
theorem qQ(H:AH)(p:PV):p.isD=true→res H p=p:=
 PV.rec (motive_1:=fun p=>p.isD=true→res H p=p) (motive_2:=fun l=>PV.W2 l=true→vf H l=l) (fun O=>rfl) (fun O O=>rfl) (fun O O=>rfl) (fun O O=>rfl)
  (fun O ih h=>congrArg PV.tup (ih h)) (fun O O O=>rfl) (fun O h=>nomatch (show false=true from h)) (fun O O=>rfl) (fun O O=>rfl) (fun O O O=>rfl)
  (fun O=>rfl) (fun x l ih il h=>(congr (congrArg List.cons (ih (d9 h).1)) (il (d9 h).2):res H x::vf H l=x::l)) p
set_option tactic.hygienic true in
theorem Lw(H:AH)(l:List PV)(h:PV.W2 l=true):vf H l=l:=PV.tup.inj (qQ H (.tup l) h)
noncomputable def okIn(p:PV)(l:List PV):Bool:=p.isD&&(PV.W2 l&&Nat.ble (PV.depths l) 60)
noncomputable def Eo(p q:PV):Bool:=p.isD&&(q.isD&&Nat.ble q.depth 60)
noncomputable abbrev vh(op:PySem.CmpOp)(p q:PV)(H:AH)(Q:Bool→Prop):Prop:=xT H Q op p q
noncomputable def ZJ(p:PV)(l:List PV):Bool:=l.any fun y=>y.eqv p
noncomputable def InK(p:PV)(Q:Bool→Prop)(R:Prop)(l:List PV):Prop:=sel (okIn p l) (Q (ZJ p l)) R
noncomputable def Vc(p q:PV)(Q:Bool→Prop)(R:Prop):Prop:=@Option.rec (List PV) (fun O=>Prop) R (InK p Q R) q.En
noncomputable def kNb(Q:Bool→Prop)(b:Bool):Prop:=Q (!b)
noncomputable def kOb(op:PySem.CmpOp)(Q:Bool→Prop)(a b:Int):Prop:=lk (Wr op a b) Q
noncomputable def kOa(op:PySem.CmpOp)(q:PV)(Q:Bool→Prop)(a:Int):Prop:=lk q.int? (kOb op Q a)
noncomputable def rP(op:PySem.CmpOp)(p q:PV)(H:AH)(Q:Bool→Prop):Prop:=match op with
 |.Eq=>sel (Eo p q) (Q (p.eqv q)) (vh .Eq p q H Q)
 |.NotEq=>sel (Eo p q) (Q (!p.eqv q)) (vh .NotEq p q H Q)
 |.Is=>sel (isNone q) (Q (isNone p)) False
 |.IsNot=>sel (isNone q) (Q (!isNone p)) False
 |.In=>Vc p q Q (vh .In p q H Q)
 |.NotIn=>Vc p q (kNb Q) (vh .NotIn p q H Q)
 |op=>lk p.int? (kOa op q Q)
theorem ZK{p q:PV}{H:AH}(e:Eo p q=true):Ag H p q∧(res H p).eqv (res H q)=p.eqv q:=by
 obtain⟨a,b⟩:=d9 e
 obtain⟨b,c⟩:=d9 b
 rw [Ag,qQ H p a,qQ H q b]
 exact⟨⟨a,b,.inl (Nat.le_of_ble_eq_true c)⟩,rfl⟩
theorem Vd{p:PV}{l:List PV}(e:okIn p l=true):La p l:=⟨(d9 e).1,(d9 (d9 e).2).1,.inl (Nat.le_of_ble_eq_true (d9 (d9 e).2).2)⟩
theorem Jr{q:PV}(h:isNone q=true):q = .none:=by cases q<;>first|rfl|exact nomatch (show false=true from h)
theorem Lx{q:PV}{l:List PV}(h:q.En = some l):q = .tup l∨q = .lst l:=by cases q<;>first|exact nomatch (show none=some l from h)|(cases(show some _=some l from h);first|exact .inl rfl|exact .inr rfl)
theorem oF{p:PV}{a:Int}(h:p.int? = some a):p = .int a:=by cases p<;>first|exact nomatch (show none=some a from h)|(cases(show some _=some a from h);rfl)
theorem Ep{q:PV}{l:List PV}(h:q.Ls = some l):q = .tup l:=by cases q<;>first|exact nomatch (show none=some l from h)|(cases(show some _=some l from h);rfl)
theorem Vc.of{p q:PV}{H:AH}{Q:Bool→Prop}{R:Prop}(h:Vc p q Q R):InP p q H Q∧NoT q H∨R:=by
 unfold Vc at h
 cases e:q.En with
 |none=>rw [e] at h;exact .inr h
 |some l=>
  rw [e] at h
  have h:sel (okIn p l) (Q (ZJ p l)) R:=h
  cases e2:okIn p l with
  |false=>rw [e2] at h;exact .inr h
  |true=>
   rw [e2] at h
   rcases Lx e with rfl|rfl
   ·have z:=Lw H l (d9 (d9 e2).2).1
    exact .inl ⟨.tup (z.symm▸Vd e2) (z.symm▸h),fun O O z O=>(nomatch z)⟩
   ·exact .inl ⟨.lst (Vd e2) h,fun O O z O=>(nomatch z)⟩
theorem Ly{p q:PV}{H:AH}{Q:Bool→Prop}{f:Bool→Bool}{R:Prop}(k:Ag H p q→Q (f ((res H p).eqv (res H q)))→R) (h:sel (Eo p q) (Q (f (p.eqv q))) R):R:=by
 cases e:Eo p q with
 |true=>rw [e] at h;obtain⟨a,b⟩:=ZK (H:=H) e;exact k a (b.symm▸h)
 |false=>rw [e] at h;exact h
theorem Lz{q:PV}{P R:Prop}(k:q = .none→P→R)(h:sel (isNone q) P False):R:=(nQ h).elim fun e h=>k (Jr e) h
theorem Rp{op:PySem.CmpOp}{p q:PV}{H:AH}{Q:Bool→Prop}(h:lk p.int? fun a=>lk q.int? fun b=>lk (Wr op a b) Q):Al op p q H Q:=by
 obtain⟨a,e1,h⟩:=M4 h
 obtain⟨b,e2,h⟩:=M4 h
 obtain⟨c,e3,h⟩:=M4 h
 rw [oF e1,oF e2]
 exact .ord e3 h
theorem rP.of{op:PySem.CmpOp}{p q:PV}{H:AH}{Q:Bool→Prop}(h:rP op p q H Q):Al op p q H Q:=by
 cases op
 case Eq=>exact Ly (f:=id) .eq h
 case NotEq=>exact Ly (f:=not) .ne h
 case Is=>exact Lz (fun e h=>by subst e;exact .is h) h
 case IsNot=>exact Lz (fun e h=>by subst e;exact .isn h) h
 case In=>exact(Vc.of h).elim (fun z=>.mem z.1) id
 case NotIn=>exact(Vc.of (show Vc p q (fun b=>Q (!b)) (vh .NotIn p q H Q) from h)).elim (fun z=>.nmem z.2 z.1) id
 all_goals exact Rp h
section
variable{τ:T}{g:G τ}{n:Nat}{m:Loc}{H:AH}
noncomputable abbrev Er(g:G τ)(op:PySem.Operator)(p q:PV)(H:AH)(Q:PV→AH→Prop):Prop:=DY g H Q op p q
noncomputable def kIn(Q:PV→AH→Prop)(H:AH)(c:Int):Prop:=Q (.int c) H
noncomputable def ZL(op:PySem.Operator)(Q:PV→AH→Prop)(H:AH)(a b:Int):Prop:=lk (nU op a b) (kIn Q H)
noncomputable def ak2(g:G τ)(op:PySem.Operator)(p q:PV)(H:AH)(Q:PV→AH→Prop)(a:Int):Prop:=@Option.rec Int (fun O=>Prop) (Er g op p q H Q) (ZL op Q H a) q.int?
noncomputable def LC(g:G τ)(op:PySem.Operator)(p q:PV)(H:AH)(Q:PV→AH→Prop):Prop:=
 @Option.rec Int (fun O=>Prop) (Er g op p q H Q) (ak2 g op p q H Q) p.int?
theorem LC.of{op:PySem.Operator}{p q:PV}{Q:PV→AH→Prop}(h:LC g op p q H Q):Wi g op p q H Q:=by
 unfold LC at h
 cases e1:p.int? with
 |none=>rw [e1] at h;exact h
 |some a=>
  rw [e1] at h
  have h:@Option.rec Int (fun O=>Prop) (Er g op p q H Q) (ZL op Q H a) q.int? := h
  cases e2:q.int? with
  |none=>rw [e2] at h;exact h
  |some b=>
   rw [e2] at h
   obtain⟨c,e3,h⟩:=M4 h
   rw [oF e1,oF e2]
   exact .int e3 h
noncomputable abbrev SubL(g:G τ)(p q:PV)(H:AH)(Q:PV→AH→Prop):Prop:=xR g H Q p q
theorem Hi{p:PV}{l:List PV}{i:Int}{r:PV}{Q:PV→AH→Prop}(e1:p.En = some l)(e:Ef l i=some r)(h:Q r H):Ra g p (.int i) H Q:=by
 rcases Lx e1 with rfl|rfl
 ·exact .tup e h
 ·exact .lst e h
noncomputable def nth:List PV→Nat→Option PV
 | [],_=>none
 |x::l,k=>match k with
  |0=>some x
  |k+1=>nth l k
theorem LK:∀(l:List PV) (k:Nat),nth l k=l[k]?
 | [],_=>rfl
 |_::_,0=>rfl
 |_::l,k+1=>(LK l k).trans (List.getElem?_cons_succ).symm
theorem qR{l:List PV}{i:Nat}(h:i<2 ^ 62):Ef l (i:Int)=l[i]? := by
 unfold Ef
 rw [if_pos (Int.natCast_nonneg i),if_pos (by exact Int.ofNat_lt.mpr ‹_›)]
 rfl
noncomputable def AtK(k:Nat)(Q:PV→AH→Prop)(H:AH)(l:List PV):Prop:=lk (nth l k) (rv Q H)
noncomputable def ZM(g:G τ)(p:PV)(k:Nat)(H:AH)(Q:PV→AH→Prop):Prop:=
 @Option.rec (List PV) (fun O=>Prop) (SubL g p (.int k) H Q) (AtK k Q H) p.En
theorem ZM.of{p:PV}{k:Nat}{Q:PV→AH→Prop}(hk:k<2 ^ 62)(h:ZM g p k H Q):Ra g p (.int k) H Q:=by
 have z:∀l,Ef l (k:Int)=nth l k:=fun l=>(qR hk).trans (LK l k).symm
 clear hk
 unfold ZM at h
 cases e1:p.En with
 |none=>rw [e1] at h;exact h
 |some l=>
  rw [e1] at h
  exact(M4 (show lk (nth l k) (fun r=>Q r H) from h)).elim fun r k=>Hi e1 ((z l).trans k.1) k.2
end
end Mine.Internal
namespace Mine.Internal
open PySem PySem.W PySem.Calls PyProof.Rows
noncomputable def X.none:X:=.of true (fun O e=>.Constant .none (kc e) e.pos) (fun O O O=>true) (fun g n m H Q=>Q .none H) (fun O O O O O O O O O O w=>Ev.Zd w) fun O O=>⟨⟨fun O O=>rfl,fun O O=>rfl,fun O=>rfl⟩,fun O O=>rfl,fun O O O=>rfl,fun O O O=>rfl,fun O O O O=>rfl⟩
noncomputable def X.Hj(b:Bool):X:=.of true (fun O e=>.Constant (.bool b) (kc e) e.pos) (fun O O O=>true) (fun g n m H Q=>Q (.bool b) H) (fun O O O O O O O O O O w=>Ev.Ze w) fun O O=>⟨⟨fun O O=>rfl,fun O O=>rfl,fun O=>rfl⟩,fun O O=>rfl,fun O O O=>rfl,fun O O O=>rfl,fun O O O O=>rfl⟩
noncomputable def X.int(i:Int):X:=.of true (fun O e=>.Constant (.int i) (kc e) e.pos) (fun O O O=>true) (fun g n m H Q=>Q (.int i) H) (fun O O O O O O O O O O w=>Ev.QS w) fun O O=>⟨⟨fun O O=>rfl,fun O O=>rfl,fun O=>rfl⟩,fun O O=>rfl,fun O O O=>rfl,fun O O O=>rfl,fun O O O O=>rfl⟩
noncomputable def X.str(x:Nat):X:=.of true (fun tab e=>.Constant (.str (tab x)) (kc e) e.pos) (fun O O O=>true) (fun g n m H Q=>Q (.str x) H) (fun O O O O O O O O O O w=>Ev.Zf w) fun O O=>⟨⟨fun O O=>rfl,fun O O=>rfl,fun O=>rfl⟩,fun O O=>rfl,fun O O O=>rfl,fun O O O=>rfl,fun O O O O=>rfl⟩
noncomputable def X.loc(x:Nat):X:=.of true (fun tab e=>.Name (tab x) e.pos) (fun O O O=>true) (fun g n m H Q=>lk (m.lookup x) (rv Q H))
 (fun hg O O O O O O O O O w=>(M4 w).elim fun O z=>Ev.loc hg z.1 z.2) fun O O=>⟨⟨fun O O=>rfl,fun O O=>rfl,fun O=>rfl⟩,fun O O=>rfl,fun O O O=>rfl,fun O O O=>rfl,fun O O O O=>rfl⟩
noncomputable def X.glob(x:Nat):X:=.of true (fun tab e=>.Name (tab x) e.pos) (fun τ ns O=>Dz .globalImplicit ns (τ.tab x)) (fun{τ} g n m H Q=>lk (τ.glob x) (rv Q H))
 (fun hg O O O O O O O h he w=>(M4 w).elim fun O z=>Ev.glob hg z.1 (he.look _ _ (U9 h) nofun) z.2) fun O O=>⟨⟨fun O O=>rfl,fun O O=>rfl,fun O=>rfl⟩,fun O O=>rfl,fun O O O=>rfl,fun O O O=>rfl,fun O O O O=>rfl⟩
noncomputable def X.attr(o:X)(x:Nat):X:=.of true (fun tab e=>.Attribute (o.to tab (kid e 0)) (tab x) e.pos) (fun τ ns e=>o.bs&&o.ok τ ns (kid e 0)) (fun g n m H Q=>o.wE g n m H (j9 g x Q))
 (fun hg O O O O O O O h he w=>Ev.attr hg (o.sb (d9 h).1 _ _) (o.sE hg _ (d9 h).2 he w)) fun O O=>⟨⟨fun O O=>rfl,fun O O=>rfl,fun O=>rfl⟩,fun O O=>rfl,fun O O O=>rfl,fun O O O=>rfl,fun O O O O=>rfl⟩
theorem WY{k:Nat}(h:Nat.ble k 1000=true):k≤sizeLine:=Nat.le_trans (Nat.le_of_ble_eq_true h) (by rw [sizeLine_eq];exact Nat.le_add_left ..)
theorem yg{tab:Nat→Str}{es:List X}{xs:List PE}(h:Nat.ble es.length 1000=true):(toL tab es xs).length≤sizeLine:=(yd tab es xs).symm▸WY h
noncomputable abbrev Xa(τ:T)(ns:Ns)(es:List X)(xs:List PE):Bool:=Nat.ble es.length 1000&&zY τ ns es xs
noncomputable def kTu(Q:PV→AH→Prop)(l:List PV)(H:AH):Prop:=Q (.tup l) H
noncomputable def kLi(Q:PV→AH→Prop)(l:List PV)(H:AH):Prop:=Q (.lst l) H
noncomputable def kLT(Q:PV→AH→Prop)(l:List PV)(H:AH):Prop := ∀a,H a = .none→Q (.obj a) (upd H a (.list l))
noncomputable def kDI(ks:List Int)(Q:PV→AH→Prop)(l:List PV)(H:AH):Prop := ∀a,H a = .none→Q (.obj a) (upd H a (.m6 (ks.zip l)))
noncomputable def kDS(ks:List Nat)(Q:PV→AH→Prop)(l:List PV)(H:AH):Prop := ∀a,H a = .none→Q (.obj a) (upd H a (.u0 (ks.zip l)))
noncomputable def X.tup(es:List X):X where
 to tab e:=.Tuple (toL tab es (kids e)) (kc e) e.pos
 ok τ ns e:=Xa τ ns es (kids e)
 wE g n m H Q:=Az g n es m H (kTu Q)
 wT O O O O O:=False
 sE hg O O O O O O O h he w:=Ev.tuple (yg (d9 h).1) (Ba hg es _ (d9 h).2 he w)
 sT O O O O O O O O O O w:=w.elim
 sh O O:=⟨fun O O=>rfl,fun O O=>rfl,fun O=>rfl⟩
 bs:=true
 sb O O O O O:=rfl
 nc:=true
 sn O O O O O O:=rfl
 nt:=false
 st h:=nomatch h
noncomputable def X.lst(es:List X):X:=.of true (fun tab e=>.List (toL tab es (kids e)) e.pos) (fun τ ns e=>Xa τ ns es (kids e)) (fun g n m H Q=>Az g n es m H (kLi Q))
 (fun hg O O O O O O O h he w=>Ev.list (yg (d9 h).1) (Ba hg es _ (d9 h).2 he w)) fun O O=>⟨⟨fun O O=>rfl,fun O O=>rfl,fun O=>rfl⟩,fun O O=>rfl,fun O O O=>rfl,fun O O O=>rfl,fun O O O O=>rfl⟩
noncomputable def X.bH(es:List X):X:=.of true (fun tab e=>.List (toL tab es (kids e)) e.pos) (fun τ ns e=>Xa τ ns es (kids e)) (fun g n m H Q=>Az g n es m H (kLT Q))
 (fun hg O O O O O O O h he w=>Ev.Zg (yg (d9 h).1) (Ba hg es _ (d9 h).2 he w)) fun O O=>⟨⟨fun O O=>rfl,fun O O=>rfl,fun O=>rfl⟩,fun O O=>rfl,fun O O O=>rfl,fun O O O=>rfl,fun O O O O=>rfl⟩
noncomputable def cW:Nat→q7
 |0=>.m6 []
 |1=>.u0 []
 |_=>.z6 []
theorem Rq(k:Nat):cW k = .m6 []∨cW k = .u0 []∨cW k = .z6 []:=match k with
 |0=>.inl rfl
 |1=>.inr (.inl rfl)
 |_+2=>.inr (.inr rfl)
noncomputable def X.cW(k:Nat):X:=.of true (fun tab e=>.Dict [] [] e.pos) (fun O O O=>true) (fun g n m H Q => ∀a,H a = .none→Q (.obj a) (upd H a (Mine.Internal.cW k)))
 (fun O O O O O O O O O O w=>Ev.cW _ (Rq k) w) fun O O=>⟨⟨fun O O=>rfl,fun O O=>rfl,fun O=>rfl⟩,fun O O=>rfl,fun O O O=>rfl,fun O O O=>rfl,fun O O O O=>rfl⟩
noncomputable def vm{K:Type}(f:K→Const):List K→List PE→List PE→List (PE×K×PE)
 |k::ks,e::es,x=>(.Constant (f k) (kc (hd x)) (hd x).pos,k,e)::vm f ks es x.tail
 |_,_,_=>[]
theorem Js{K:Type}(f:K→Const)(ks:List K):∀(es x:List PE),ks.length=es.length→(vm f ks es x).map (fun x=>x.2.1)=ks:=by
 induction ks with
 |nil=>exact fun O O O=>rfl
 |cons k ks ih=>
  intro es x h
  cases es with
  |nil=>exact nomatch h
  |cons e es=>exact congrArg (k :: ·) (ih es _ (Nat.succ.inj h))
noncomputable abbrev okD{K:Type} [DecidableEq K](ks:List K)(es:List X)(b:Bool):Bool:=(decide ks.Nodup&&(Nat.ble es.length 15&&(Nat.beq ks.length es.length && !es.isEmpty)))&&b
section
variable{τ:T}{g:G τ}(hg:v9 g){ns:Ns}{env:Env}{n:Nat}{m:Loc}{H:AH}{Q:PV→AH→Prop}
include hg
theorem ak4{K J:Type} [DecidableEq K] [DecidableEq J](D:KD g K J)(f:K→Const)(hk:∀{k:K} {i:Nat} {p:Pos} {H:AH} {Q:PV→AH→Prop},Q (D.key k) H→Ev g n env m H (.Constant (f k) i p) Q) (he:R6 ns env) (es:List X):∀(ks:List K) (xs ys:List PE) {H:AH} {Q:List (K×PV)→AH→Prop},ks.length=es.length→zY τ ns es xs=true→Az g n es m H (fun l H'=>Q (ks.zip l) H')→
  EvD g n env m D.key H (vm f ks (toL τ.tab es xs) ys) Q:=by
 induction es with
 |nil=>
  intro ks xs ys H Q e h w
  cases ks with
  |nil=>exact w
  |cons _ _=>exact nomatch e
 |cons x es ih=>
  intro ks xs ys H Q e h w
  cases ks with
  |nil=>exact nomatch e
  |cons k ks=>exact hk ⟨rfl,(x.sE hg _ (d9 h).1 he w).mono fun q H₂ w=>ih ks _ _ (Nat.succ.inj e) (d9 h).2 w⟩
theorem LQ{K J:Type} [DecidableEq K] [DecidableEq J](D:KD g K J)(f:K→Const){ks:List K}{es:List X}{xs ys:List PE}{pos:Pos}(hk:∀{k:K} {i:Nat} {p:Pos} {H:AH} {Q:PV→AH→Prop},Q (D.key k) H→Ev g n env m H (.Constant (f k) i p) Q) (h:okD ks es (zY τ ns es xs)=true) (he:R6 ns env)
  (w:Az g n es m H fun l H' => ∀a,H' a = .none→Q (.obj a) (upd H' a (D.ob (ks.zip l)))):Ev g n env m H (.Dict ((vm f ks (toL τ.tab es xs) ys).map fun x=>some x.1) ((vm f ks (toL τ.tab es xs) ys).map fun x=>x.2.2) pos) Q:=by
 obtain⟨h,h5⟩:=d9 h
 obtain⟨h1,h⟩:=d9 h
 obtain⟨h2,h⟩:=d9 h
 obtain⟨h3,h4⟩:=d9 h
 have e3:=Nat.eq_of_beq_eq_true h3
 have z:=Js f ks (toL τ.tab es xs) ys (e3.trans (yd _ _ _).symm)
 have zl:(vm f ks (toL τ.tab es xs) ys).length=es.length:=by rw [← e3,← congrArg List.length z,List.length_map]
 exact Ev.dic D hg (fun e=>by rw [e] at zl;cases es with|nil=>cases h4|cons _ _=>cases zl) (by rw [zl];exact Nat.le_of_ble_eq_true h2) (by rw [z];exact of_decide_eq_true h1) (ak4 hg D f hk he es ks xs ys e3 h5 w)
end
noncomputable def X.ak5(ks:List Int)(es:List X):X:=.of true (fun tab e=>.Dict ((vm Const.int ks (toL tab es ((kids e).drop ks.length)) (kids e)).map fun x=>some x.1) ((vm Const.int ks (toL tab es ((kids e).drop ks.length)) (kids e)).map fun x=>x.2.2) e.pos)
 (fun τ ns e=>okD ks es (zY τ ns es ((kids e).drop ks.length))) (fun g n m H Q=>Az g n es m H (kDI ks Q))
 (fun{O g} hg O O O O O O O h he w=>LQ hg (KD.int g) Const.int (fun w=>Ev.QS w) h he w) fun O O=>⟨⟨fun O O=>rfl,fun O O=>rfl,fun O=>rfl⟩,fun O O=>rfl,fun O O O=>rfl,fun O O O=>rfl,fun O O O O=>rfl⟩
noncomputable def X.Xb(ks:List Nat)(es:List X):X:=.of true (fun tab e=>.Dict ((vm (fun x=>Const.str (tab x)) ks (toL tab es ((kids e).drop ks.length)) (kids e)).map fun x=>some x.1) ((vm (fun x=>Const.str (tab x)) ks (toL tab es ((kids e).drop ks.length)) (kids e)).map fun x=>x.2.2) e.pos)
 (fun τ ns e=>okD ks es (zY τ ns es ((kids e).drop ks.length))) (fun g n m H Q=>Az g n es m H (kDS ks Q))
 (fun{τ g} hg O O O O O O O h he w=>LQ hg (KD.str g) (fun x=>Const.str (τ.tab x)) (fun w=>Ev.Zf w) h he w) fun O O=>⟨⟨fun O O=>rfl,fun O O=>rfl,fun O=>rfl⟩,fun O O=>rfl,fun O O O=>rfl,fun O O O=>rfl,fun O O O O=>rfl⟩
noncomputable def ZP(τ:T)(x:Nat):Bool:=match τ.glob x with
 |some (.blt _)=>true
 |some (.typ _)=>true
 |some (.obj a)=>(τ.fn a).isSome||(τ.init a).isSome
 |_=>false
set_option tactic.hygienic true in
theorem Ve{τ:T}{g:G τ}(hg:v9 g){x:Nat}{p:PV}(e:τ.glob x=some p)(h:ZP τ x=true):Plain g p:=by
 unfold ZP at h
 rw [e] at h
 cases p<;>first|exact nomatch (show false=true from h)|skip
 case blt=>exact wB
 case typ=>exact Jg
 case obj a=>
  rcases Bool.or_eq_true_iff.mp h with h|h
  ·obtain⟨d,e⟩:=Option.isSome_iff_exists.mp h
   obtain⟨_,_,_,_,k,_⟩:=hg.fn a d e
   exact qN hg k
  ·obtain⟨f,e⟩:=Option.isSome_iff_exists.mp h
   exact qN hg (hg.init a f e).2.2.2
noncomputable def kCl{τ:T}(g:G τ)(n:Nat)(p:PV)(Q:PV→AH→Prop)(l:List PV)(H:AH):Prop:=Cl g n p l H Q
noncomputable def kCa{τ:T}(g:G τ)(n:Nat)(es:List X)(m:Loc)(H:AH)(Q:PV→AH→Prop)(p:PV):Prop:=Az g n es m H (kCl g n p Q)
noncomputable def X.call(f:Nat)(es:List X):X:=.of (!es.isEmpty) (fun tab e=>.Call (.Name (tab f) (kid e 0).pos) (toL tab es (kids e).tail) [] e.pos)
 (fun τ ns e=>(Dz .globalImplicit ns (τ.tab f)&&ZP τ f)&&zY τ ns es (kids e).tail) (fun{τ} g n m H Q=>lk (τ.glob f) (kCa g n es m H Q))
 (fun hg O O O O O O O h he w=>(M4 w).elim fun O z=>Ev.call hg rfl (cX _ _ _) (Ev.glob hg z.1 (he.look _ _ (U9 (d9 (d9 h).1).1) nofun) ⟨Ve hg z.1 (d9 (d9 h).1).2,Ba hg es _ (d9 h).2 he z.2⟩))
 fun O O=>⟨⟨fun O O=>rfl,fun O O=>rfl,fun O=>rfl⟩,fun O O=>rfl,fun h=>by cases es with|nil=>cases h|cons _ _=>exact fun O O=>rfl,fun O O O=>rfl,fun O O O O=>rfl⟩
end Mine.Internal
namespace Mine.Internal
open PySem PySem.W PySem.Calls PyProof.Rows
section
variable{τ:T}(g:G τ)(n:Nat)(op:PySem.Operator)(co:PySem.CmpOp)(ty id:String)(es:List X)(m:Loc)(H:AH)(Q:PV→AH→Prop)(C:Bool→AH→Prop)(p q:PV)(a f:Addr)(b i:X)(l:List PV)(k:Nat)(tf:Bool)(c:Bool)
noncomputable def ak7:Prop:=Plain g p∧Az g n es m H (kCl g n p Q)
noncomputable def kM2(l:List PV)(H:AH):Prop:=Cl g n (.obj f) (.obj a::l) H Q
noncomputable def kM(a f:Addr)(H:AH):Prop:=Az g n es m H (kM2 g n Q a f)
noncomputable def ak8(l:List PV)(H:AH):Prop:=Cl g n (.blt id) (p::l) H Q
noncomputable def kLm(p:PV)(H:AH):Prop:=qm H ty p∧Az g n es m H (ak8 g n id Q p)
noncomputable def kB2(p q:PV)(H:AH):Prop:=LC g op p q H Q
noncomputable def kB(p:PV)(H:AH):Prop:=b.wE g n m H (kB2 g op Q p)
noncomputable def ZQ(H:AH)(i:Int):Prop:=Q (.int (-i)) H
noncomputable def ak9(p:PV)(H:AH):Prop:=lk p.int? (ZQ Q H)
noncomputable def al0(p q:PV)(H:AH):Prop:=SubL g p q H Q
noncomputable def kSb(p:PV)(H:AH):Prop:=i.wE g n m H (al0 g Q p)
noncomputable def kAt(p:PV)(H:AH):Prop:=ZM g p k H Q
noncomputable def ZR(H:AH)(l:List PV):Prop:=sel (Nat.ble l.length sizeLine) (Q (.lst l.reverse) H) False
noncomputable def al1(p:PV)(H:AH):Prop:=lk (v7 H p) (ZR Q H)
noncomputable def al2(H:AH)(c:Bool):Prop:=Q (.bool (!c)) H
noncomputable def kNt(p:PV)(H:AH):Prop:=lk p.truth? (al2 Q H)
noncomputable def kNT(c:Bool)(H:AH):Prop:=C (!c) H
noncomputable def kBl(H:AH)(c:Bool):Prop:=Q (.bool c) H
noncomputable def al3(p q:PV)(H:AH):Prop:=rP co p q H (kBl Q H)
noncomputable def kCm(p:PV)(H:AH):Prop:=b.wE g n m H (al3 co Q p)
noncomputable def al4(p q:PV)(H:AH):Prop:=rP co p q H (rv C H)
noncomputable def kCt(p:PV)(H:AH):Prop:=b.wE g n m H (al4 co C p)
noncomputable def kI(i:X)(c:Bool)(H:AH):Prop:=sel c (b.wE g n m H Q) (i.wE g n m H Q)
end
noncomputable def X.Hl(f:Nat)(es:List X):X:=.of (!es.isEmpty) (fun tab e=>.Call (.Name (tab f) (kid e 0).pos) (toL tab es (kids e).tail) [] e.pos)
 (fun τ ns e=>zY τ ns es (kids e).tail) (fun g n m H Q=>lk (m.lookup f) (ak7 g n es m H Q))
 (fun hg O O O O O O O h he w=>(M4 w).elim fun O z=>Ev.call hg rfl (cX _ _ _) (Ev.loc hg z.1 ⟨z.2.1,Ba hg es _ h he z.2.2⟩))
 fun O O=>⟨⟨fun O O=>rfl,fun O O=>rfl,fun O=>rfl⟩,fun O O=>rfl,fun h=>by cases es with|nil=>cases h|cons _ _=>exact fun O O=>rfl,fun O O O=>rfl,fun O O O O=>rfl⟩
noncomputable abbrev toM(o:X)(x:Nat)(es:List X)(tab:Nat→Str)(e:PE):PE:=.Call (.Attribute (o.to tab (kid (kid e 0) 0)) (tab x) (kid e 0).pos) (toL tab es (kids e).tail) [] e.pos
noncomputable abbrev okM(o:X)(es:List X)(τ:T)(ns:Ns)(e:PE):Bool:=(o.bs&&(((kid e 0).pos.endLine==e.pos.line)&&Nat.blt es.length 30))&&(o.ok τ ns (kid (kid e 0) 0)&&zY τ ns es (kids e).tail)
theorem LR{tab:Nat→Str}{es:List X}{xs:List PE}(h:Nat.blt es.length 30=true):(toL tab es xs).length<30:=(yd tab es xs).symm▸Nat.le_of_ble_eq_true h
noncomputable def X.meth(o:X)(x:Nat)(es:List X):X:=.of true (toM o x es) (okM o es) (fun g n m H Q=>o.wE g n m H (MethP g x (kM g n es m Q)))
 (fun hg O O O O O O O h he w=>Ev.meth hg (o.sb (d9 (d9 h).1).1 _ _) (d9 (d9 (d9 h).1).2).1 (LR (d9 (d9 (d9 h).1).2).2) (cX _ _ _) ((o.sE hg _ (d9 (d9 h).2).1 he w).mono fun O O w=>w.mono fun O O O w=>Ba hg es _ (d9 (d9 h).2).2 he w))
 fun O O=>⟨⟨fun O O=>rfl,fun O O=>rfl,fun O=>rfl⟩,fun O O=>rfl,fun O O O=>rfl,fun O O O=>rfl,fun O O O O=>rfl⟩
noncomputable def X.Lq(c x:Nat)(es:List X):X:=.of true (toM (.glob c) x es) (okM (.glob c) es) (fun{τ} g n m H Q=>lk (τ.glob c) fun p => ∃C f,p = .obj C∧τ.rC C x = .some f∧Az g n es m H (kCl g n (.obj f) Q))
 (fun hg O O O O O O O h he w=>(M4 w).elim fun O z=>Ev.Lq hg (fun O O=>rfl) (d9 (d9 (d9 h).1).2).1 (LR (d9 (d9 (d9 h).1).2).2) (cX _ _ _) (Ev.glob hg z.1 (he.look _ _ (U9 (d9 (d9 h).2).1) nofun) (z.2.elim fun C z=>z.elim fun f z=>⟨C,f,z.1,z.2.1,Ba hg es _ (d9 (d9 h).2).2 he z.2.2⟩)))
 fun O O=>⟨⟨fun O O=>rfl,fun O O=>rfl,fun O=>rfl⟩,fun O O=>rfl,fun O O O=>rfl,fun O O O=>rfl,fun O O O O=>rfl⟩
noncomputable def X.K4(o:X)(ty:String)(x:Nat)(id:String)(es:List X):X:=.of true (toM o x es) (fun τ ns e=>Ri ty (τ.tab x) id&&okM o es τ ns e) (fun g n m H Q=>o.wE g n m H (kLm g n ty id es m Q))
 (fun hg O O O O O O O h he w=>Ev.K4 hg (o.sb (d9 (d9 (d9 h).2).1).1 _ _) (Vb (d9 h).1) (d9 (d9 (d9 (d9 h).2).1).2).1 (LR (d9 (d9 (d9 (d9 h).2).1).2).2) (cX _ _ _) ((o.sE hg _ (d9 (d9 (d9 h).2).2).1 he w).mono fun O O w=>⟨w.1,Ba hg es _ (d9 (d9 (d9 h).2).2).2 he w.2⟩))
 fun O O=>⟨⟨fun O O=>rfl,fun O O=>rfl,fun O=>rfl⟩,fun O O=>rfl,fun O O O=>rfl,fun O O O=>rfl,fun O O O O=>rfl⟩
noncomputable abbrev Mf(a b:X)(τ:T)(ns:Ns)(e:PE):Bool:=a.ok τ ns (kid e 0)&&b.ok τ ns (kid e 1)
noncomputable def X.bin(op:PySem.Operator)(a b:X):X:=.of true (fun tab e=>.BinOp (a.to tab (kid e 0)) op (b.to tab (kid e 1)) e.pos) (Mf a b) (fun g n m H Q=>a.wE g n m H (kB g n op m Q b))
 (fun hg O O O O O O O h he w=>Ev.bin ((a.sE hg _ (d9 h).1 he w).mono fun O O w=>(b.sE hg _ (d9 h).2 he w).mono fun O O w=>LC.of w)) fun O O=>⟨⟨fun O O=>rfl,fun O O=>rfl,fun O=>rfl⟩,fun O O=>rfl,fun O O O=>rfl,fun O O O=>rfl,fun O O O O=>rfl⟩
inductive Bb(p q:PV)(H:AH)(Q:PV→AH→Prop):Prop
 |mk {l k:List PV} (e1:v7 H p=some l) (e2:v7 H q=some k) (hz:l.length+k.length≤sizeLine) (h:∀a,H a=none→Q (.obj a) (upd H a (.list (l++k)))):Bb p q H Q
theorem Bb.ex{p q:PV}{H:AH}{Q:PV→AH→Prop}(h:Bb p q H Q):∃l k,v7 H p=some l∧v7 H q=some k∧l.length+k.length≤sizeLine∧∀a,H a=none→Q (.obj a) (upd H a (.list (l++k))):=by
 cases h with
 |mk e1 e2 hz h=>exact⟨_,_,e1,e2,hz,h⟩
noncomputable def al7(Q:PV→AH→Prop)(p q:PV)(H:AH):Prop:=Bb p q H Q
noncomputable def kAd{τ:T}(g:G τ)(n:Nat)(m:Loc)(Q:PV→AH→Prop)(b:X)(p:PV)(H:AH):Prop:=b.wE g n m H (al7 Q p)
noncomputable def X.Wm(a b:X):X:=.of true (fun tab e=>.BinOp (a.to tab (kid e 0)) .Add (b.to tab (kid e 1)) e.pos) (Mf a b) (fun g n m H Q=>a.wE g n m H (kAd g n m Q b))
 (fun hg O O O O O O O h he w=>Ev.Wm ((a.sE hg _ (d9 h).1 he w).mono fun O O w=>(b.sE hg _ (d9 h).2 he w).mono fun O O w=>w.ex)) fun O O=>⟨⟨fun O O=>rfl,fun O O=>rfl,fun O=>rfl⟩,fun O O=>rfl,fun O O O=>rfl,fun O O O=>rfl,fun O O O O=>rfl⟩
theorem Xc{p:PV}{P:Int→Prop}(h:lk p.int? P):match(generalizing:=false) p with | .int i=>P i|_=>False:=by cases p<;>exact h
noncomputable def X.neg(a:X):X:=.of true (fun tab e=>.UnaryOp .USub (a.to tab (kid e 0)) e.pos) (fun τ ns e=>a.ok τ ns (kid e 0)) (fun g n m H Q=>a.wE g n m H (ak9 Q))
 (fun hg O O O O O O O h he w=>Ev.neg ((a.sE hg _ h he w).mono fun O O w=>Xc w)) fun O O=>⟨⟨fun O O=>rfl,fun O O=>rfl,fun O=>rfl⟩,fun O O=>rfl,fun O O O=>rfl,fun O O O=>rfl,fun O O O O=>rfl⟩
noncomputable def X.sub(a i:X):X:=.of true (fun tab e=>.Subscript (a.to tab (kid e 0)) (i.to tab (kid e 1)) e.pos) (Mf a i) (fun g n m H Q=>a.wE g n m H (kSb g n m Q i))
 (fun hg O O O O O O O h he w=>Ev.sub hg ((a.sE hg _ (d9 h).1 he w).mono fun O O w=>(i.sE hg _ (d9 h).2 he w).mono fun O O w=>w)) fun O O=>⟨⟨fun O O=>rfl,fun O O=>rfl,fun O=>rfl⟩,fun O O=>rfl,fun O O O=>rfl,fun O O O=>rfl,fun O O O O=>rfl⟩
theorem Mg{k:Nat}(h:Nat.ble k 1000=true):k<2 ^ 62:=Nat.lt_of_le_of_lt (Nat.le_of_ble_eq_true h) (by decide)
noncomputable def X.at(a:X)(k:Nat):X:=.of true (fun tab e=>.Subscript (a.to tab (kid e 0)) (.Constant (.int k) (kc (kid e 1)) (kid e 1).pos) e.pos) (fun τ ns e=>Nat.ble k 1000&&a.ok τ ns (kid e 0)) (fun g n m H Q=>a.wE g n m H (kAt g Q k))
 (fun hg O O O O O O O h he w=>Ev.sub hg ((a.sE hg _ (d9 h).2 he w).mono fun O O w=>Ev.QS (ZM.of (Mg (d9 h).1) w))) fun O O=>⟨⟨fun O O=>rfl,fun O O=>rfl,fun O=>rfl⟩,fun O O=>rfl,fun O O O=>rfl,fun O O O=>rfl,fun O O O O=>rfl⟩
inductive Rr(b:Bool)(p:PV)(i:Int)(H:AH)(Q:PV→AH→Prop):Prop
 |mk:YM b p i H Q→Rr b p i H Q
theorem Rr.of{q p:PV}{b:Bool}{H:AH}{Q:PV→AH→Prop}(h:lk q.int? fun i=>Rr b p i H Q):match(generalizing:=false) q with | .int i=>YM b p i H Q|_=>False:=by cases q<;>first|exact h.1|exact h
noncomputable def al8(Q:PV→AH→Prop)(tf:Bool)(p:PV)(H:AH)(i:Int):Prop:=Rr tf p i H Q
noncomputable def al9(Q:PV→AH→Prop)(tf:Bool)(p q:PV)(H:AH):Prop:=lk q.int? (al8 Q tf p H)
noncomputable def kSl{τ:T}(g:G τ)(n:Nat)(m:Loc)(Q:PV→AH→Prop)(tf:Bool)(i:X)(p:PV)(H:AH):Prop:=i.wE g n m H (al9 Q tf p)
noncomputable def X.slF(a i:X):X:=.of true (fun tab e=>.Subscript (a.to tab (kid e 0)) (.Slice (some (i.to tab (kid (kid e 1) 0))) Option.none Option.none (kid e 1).pos) e.pos) (fun τ ns e=>a.ok τ ns (kid e 0)&&i.ok τ ns (kid (kid e 1) 0)) (fun g n m H Q=>a.wE g n m H (kSl g n m Q true i))
 (fun hg O O O O O O O h he w=>Ev.Wt hg ((a.sE hg _ (d9 h).1 he w).mono fun O O w=>(i.sE hg _ (d9 h).2 he w).mono fun O O w=>Rr.of w)) fun O O=>⟨⟨fun O O=>rfl,fun O O=>rfl,fun O=>rfl⟩,fun O O=>rfl,fun O O O=>rfl,fun O O O=>rfl,fun O O O O=>rfl⟩
noncomputable def X.slT(a i:X):X:=.of true (fun tab e=>.Subscript (a.to tab (kid e 0)) (.Slice Option.none (some (i.to tab (kid (kid e 1) 1))) Option.none (kid e 1).pos) e.pos) (fun τ ns e=>a.ok τ ns (kid e 0)&&i.ok τ ns (kid (kid e 1) 1)) (fun g n m H Q=>a.wE g n m H (kSl g n m Q false i))
 (fun hg O O O O O O O h he w=>Ev.aj4 hg ((a.sE hg _ (d9 h).1 he w).mono fun O O w=>(i.sE hg _ (d9 h).2 he w).mono fun O O w=>Rr.of w)) fun O O=>⟨⟨fun O O=>rfl,fun O O=>rfl,fun O=>rfl⟩,fun O O=>rfl,fun O O O=>rfl,fun O O O=>rfl,fun O O O O=>rfl⟩
theorem Xd{p:PV}{H:AH}{Q:PV→AH→Prop}(h:lk (v7 H p) fun l=>sel (Nat.ble l.length sizeLine) (Q (.lst l.reverse) H) False):match v7 H p with|some l=>l.length≤sizeLine∧Q (.lst l.reverse) H|none=>False:=by
 obtain⟨l,e,h⟩:=M4 h
 rw [e]
 exact(nQ h).imp Nat.le_of_ble_eq_true id
noncomputable def X.slR(a:X):X:=.of true (fun tab e=>.Subscript (a.to tab (kid e 0)) (.Slice Option.none Option.none (some (.UnaryOp .USub (.Constant (.int 1) (kc (kid (kid (kid e 1) 2) 0)) (kid (kid (kid e 1) 2) 0).pos) (kid (kid e 1) 2).pos)) (kid e 1).pos) e.pos) (fun τ ns e=>a.ok τ ns (kid e 0))
 (fun g n m H Q=>a.wE g n m H (al1 Q))
 (fun hg O O O O O O O h he w=>Ev.Zr hg ((a.sE hg _ h he w).mono fun O O w=>Ev.neg (Ev.QS ⟨rfl,Xd w⟩))) fun O O=>⟨⟨fun O O=>rfl,fun O O=>rfl,fun O=>rfl⟩,fun O O=>rfl,fun O O O=>rfl,fun O O O=>rfl,fun O O O O=>rfl⟩
noncomputable def X.not(a:X):X where
 to tab e:=.UnaryOp .Not (a.to tab (kid e 0)) e.pos
 ok τ ns e:=a.ok τ ns (kid e 0)
 wE g n m H Q:=a.wE g n m H (kNt Q)
 wT g n m H Q:=a.wT g n m H (kNT Q)
 sE hg O O O O O O O h he w:=Ev.not ((a.sE hg _ h he w).mono fun O O w=>aP.of w)
 sT hg O O O O O O O h he w:=Ts.not (a.sT hg _ h he w)
 sh O O:=⟨fun O O=>rfl,fun O O=>rfl,fun O=>rfl⟩
 bs:=true
 sb O O O O O:=rfl
 nc:=true
 sn O O O O O O:=rfl
 nt:=true
 st O O O O O O O:=rfl
noncomputable def X.cmp(op:PySem.CmpOp)(a b:X):X where
 to tab e:=.Compare (a.to tab (kid e 0)) [op] [b.to tab (kid e 1)] e.pos
 ok:=Mf a b
 wE g n m H Q:=a.wE g n m H (kCm g n op m Q b)
 wT g n m H Q:=a.wE g n m H (kCt g n op m Q b)
 sE hg O O O O O O O h he w:=Ev.cmp hg ((b.sh _ _).marks op) ((a.sE hg _ (d9 h).1 he w).mono fun O O w=>(b.sE hg _ (d9 h).2 he w).mono fun O O w=>rP.of w)
 sT hg O O O O O O O h he w:=Ts.cmp hg ((b.sh _ _).marks op) ((a.sE hg _ (d9 h).1 he w).mono fun O O w=>(b.sE hg _ (d9 h).2 he w).mono fun O O w=>rP.of w)
 sh O O:=⟨fun O O=>rfl,fun O O=>rfl,fun O=>rfl⟩
 bs:=true
 sb O O O O O:=rfl
 nc:=true
 sn O O O O O O:=rfl
 nt:=true
 st O O O O O O O:=rfl
theorem Ru{p q:PV}{H:AH}{P:Bool→Prop}(h:lk p.int? fun a=>lk q.int? fun b=>P (decide (a≤b))):Al .LtE p q H P:=
 (M4 h).elim fun a z=>(M4 z.2).elim fun b y=>(oF z.1).symm▸(oF y.1).symm▸.ord rfl y.2
noncomputable def X.Rb(o2:PySem.CmpOp)(a b c:X):X where
 to tab e:=.Compare (a.to tab (kid e 0)) [.LtE,o2] [b.to tab (kid e 1),c.to tab (kid e 2)] e.pos
 ok τ ns e:=Mf a b τ ns e&&c.ok τ ns (kid e 2)
 wE g n m H Q:=a.wE g n m H fun p H₁=>b.wE g n m H₁ fun q H₂=>lk p.int? fun i=>lk q.int? fun j=>sel (decide (i≤j)) (c.wE g n m H₂ fun r H₃=>rP o2 q r H₃ fun y=>Q (.bool y) H₃) (Q (.bool false) H₂)
 wT O O O O O:=False
 sE hg O O O O O O O h he w:=Ev.Rb (o1:=.LtE) (o2:=o2) hg ((c.sh _ _).marks o2) ((a.sE hg _ (d9 (d9 h).1).1 he w).mono fun O O w=>(b.sE hg _ (d9 (d9 h).1).2 he w).mono fun O O w=>Ru ((M4 w).elim fun i z=>d7 z.1 ((M4 z.2).elim fun j z=>d7 z.1 (xJ z.2 (fun z=>(c.sE hg _ (d9 h).2 he z).mono fun O O w=>rP.of w) id))))
 sT O O O O O O O O O O w:=w.elim
 sh O O:=⟨fun O O=>rfl,fun O O=>rfl,fun O=>rfl⟩
 bs:=true
 sb O O O O O:=rfl
 nc:=true
 sn O O O O O O:=rfl
 nt:=true
 st O O O O O O O:=rfl
noncomputable def X.and(es:List X):X where
 to tab e:=.BoolOp .And (toL tab es (kids e)) e.pos
 ok τ ns e:=zY τ ns es (kids e)
 wE g n m H Q:=WQ g n es m H Q
 wT g n m H Q:=WW g n es m H Q
 sE hg O O O O O O O h he w:=ZC hg es _ h he w
 sT hg O O O O O O O h he w:=ZF hg es _ h he w
 sh O O:=⟨fun O O=>rfl,fun O O=>rfl,fun O=>rfl⟩
 bs:=true
 sb O O O O O:=rfl
 nc:=true
 sn O O O O O O:=rfl
 nt:=true
 st O O O O O O O:=rfl
noncomputable def X.or(es:List X):X where
 to tab e:=.BoolOp .Or (toL tab es (kids e)) e.pos
 ok τ ns e:=zY τ ns es (kids e)
 wE g n m H Q:=WR g n es m H Q
 wT g n m H Q:=WX g n es m H Q
 sE hg O O O O O O O h he w:=ZD hg es _ h he w
 sT hg O O O O O O O h he w:=ZG hg es _ h he w
 sh O O:=⟨fun O O=>rfl,fun O O=>rfl,fun O=>rfl⟩
 bs:=true
 sb O O O O O:=rfl
 nc:=true
 sn O O O O O O:=rfl
 nt:=true
 st O O O O O O O:=rfl
noncomputable def X.jt(t a b:X):X where
 to tab e:=.IfExp (t.to tab (kid e 0)) (a.to tab (kid e 1)) (b.to tab (kid e 2)) e.pos
 ok τ ns e:=t.ok τ ns (kid e 0)&&(a.ok τ ns (kid e 1)&&b.ok τ ns (kid e 2))
 wE g n m H Q:=t.wT g n m H (kI g n m Q a b)
 wT O O O O O:=False
 sE hg O O O O O O O h he w:=Ev.ifx ((t.sT hg _ (d9 h).1 he w).mono fun c O w=>xJ w (a.sE hg _ (d9 (d9 h).2).1 he) (b.sE hg _ (d9 (d9 h).2).2 he))
 sT O O O O O O O O O O w:=w.elim
 sh O O:=⟨fun O O=>rfl,fun O O=>rfl,fun O=>rfl⟩
 bs:=true
 sb O O O O O:=rfl
 nc:=true
 sn O O O O O O:=rfl
 nt:=true
 st O O O O O O O:=rfl
end Mine.Internal
namespace Mine.Internal
open PySem PySem.W PySem.Calls PyProof.Rows
noncomputable def Mh:List Nat→List PE→List (Nat×Pos)
 | [],_=>[]
 |x::xs,es=>(x,(hd es).pos)::Mh xs es.tail
theorem Mi(xs:List Nat):∀es,(Mh xs es).map (·.1)=xs:=by
 induction xs with
 |nil=>exact fun O=>rfl
 |cons x xs ih=>exact fun es=>congrArg (x :: ·) (ih _)
noncomputable def ZS(tab:Nat→Str)(e:PE):CT→PE
 |.one x=>.Name (tab x) e.pos
 |.many xs=>.Tuple (eF tab (Mh xs (kids e))) (kc e) e.pos
theorem Vf(tab:Nat→Str)(e:PE)(ct:CT):Jm tab ct (ZS tab e ct):=by
 cases ct with
 |one x=>exact⟨_,rfl⟩
 |many xs=>exact⟨_,_,_,Mi xs _,rfl⟩
noncomputable def rQ(tab:Nat→Str)(sc:List (Nat×NameKind)):Scope:=⟨.function,sc.map fun y=>(tab y.1,y.2),false,false,[]⟩
noncomputable def am1(ns:Ns)(s:Str):Bool:=Dz .free ns s||Dz .cell ns s
noncomputable def Mj(tab:Nat→Str)(caps:List Nat)(ns:Ns)(sc:Scope):Bool:=
 sc.names.all (fun x=>(!decide (x.2 = .local)||Dz .local sc.names x.1)&&(!decide (x.2 = .cell)&&(!decide (x.2 = .free)||caps.any fun y=>decide (x.1=tab y)))) &&
  caps.all fun x=>Dz .free sc.names (tab x)&&am1 ns (tab x)
theorem Ml{P:Prop} [Decidable P]{b:Bool}(h:(!decide P||b)=true)(p:P):b=true:=by
 rw [decide_eq_true p] at h
 exact h
theorem Mp{τ:T}{g:G τ}{ns:Ns}{env:Env}{caps:List Nat}{sc:Scope}(hk:sc.kind = .function)(he:R6 ns env)(h:Mj τ.tab caps ns sc=true):oE g sc caps∧∀x∈caps,env.kindOf (τ.tab x)=some .cell∨env.kindOf (τ.tab x)=some .free:=by
 have h2:=fun x hx=>d9 (List.all_eq_true.mp (d9 h).1 x hx)
 have h3:=fun x hx=>d9 (List.all_eq_true.mp (d9 h).2 x hx)
 exact⟨⟨hk,fun x hx e=>U9 (Ml (h2 x hx).1 e),fun y hy e=>(nomatch (decide_eq_true e).symm.trans ((Bool.not_eq_true' _).mp (d9 (h2 y hy).2).1)),fun x hx=>U9 (h3 x hx).1,fun y hy e=>(List.any_eq_true.mp (Ml (d9 (h2 y hy).2).2 e)).elim fun x z=>⟨x,z.1,(of_decide_eq_true z.2).symm⟩⟩,fun x hx=>(Bool.or_eq_true_iff.mp (h3 x hx).2).elim (fun z=>he.free _ (U9 z)) fun z=>.inl (he.look _ _ (U9 z) nofun)⟩
noncomputable def oG(m:Loc)(caps:List Nat):Bool:=caps.all fun x=>(m.lookup x).isSome
noncomputable def Xe{τ:T}(g:G τ)(n:Nat)(ifs:List X):Loc→AH→(Bool→AH→Prop)→Prop:=fun m H K=>match ifs with
 | []=>K true H
 |c::_=>c.wT g n m H K
noncomputable abbrev wpK{τ:T}(g:G τ)(n:Nat)(caps:List Nat)(ct:CT)(elt iter:X)(ifs:List X)(m:Loc)(H:AH)(Q:PV→AH→Prop):Prop:=
 sel (oG m caps) (iter.wE g n m H (pI m caps ct (Xe g n ifs) (elt.wE g n) (kLi Q))) False
noncomputable abbrev toK(ct:CT)(elt iter:X)(ifs:List X)(sc:List (Nat×NameKind))(tab:Nat→Str)(e:PE):PE:=.ListComp (elt.to tab (kid e 0)) [⟨ZS tab (kid e 1) ct,iter.to tab (kid e 2),toL tab ifs ((kids e).drop 3),0⟩] (rQ tab sc) e.pos
noncomputable def okK(caps:List Nat)(ct:CT)(elt iter:X)(ifs:List X)(sc:List (Nat×NameKind))(τ:T)(ns:Ns)(e:PE):Bool:=
 (Mj τ.tab caps ns (rQ τ.tab sc)&&(ct.xs.all (fun x=>Dz .local (rQ τ.tab sc).names (τ.tab x))&&Nat.ble ifs.length 1))&&((elt.ok τ (rQ τ.tab sc).names (kid e 0)&&iter.ok τ ns (kid e 2))&&zY τ (rQ τ.tab sc).names ifs ((kids e).drop 3))
section
variable{τ:T}{g:G τ}(hg:v9 g){ns:Ns}{env:Env}{n:Nat}{m:Loc}{H:AH}
include hg
theorem am3{ifs:List X}{es:List PE}(h:zY τ ns ifs es=true)(hl:Nat.ble ifs.length 1=true)(he:R6 ns env):fU g n env (toL τ.tab ifs es) (Xe g n ifs):=by
 cases ifs with
 |nil=>exact fU.nil
 |cons c cs=>cases cs with
  |nil=>exact fU.one fun m H Q w=>c.sT hg _ (d9 h).1 he w
  |cons _ _=>exact nomatch (show false=true from hl)
theorem Ho{caps:List Nat}{ct:CT}{elt iter:X}{ifs:List X}{sc:List (Nat×NameKind)}{e:PE}(h:okK caps ct elt iter ifs sc τ ns e=true)(he:R6 ns env):
  (oE g (rQ τ.tab sc) caps∧∀x∈caps,env.kindOf (τ.tab x)=some .cell∨env.kindOf (τ.tab x)=some .free)∧(∀x∈ct.xs,(rQ τ.tab sc).names.lookup (τ.tab x)=some .local)∧
   (∀env',env'.scope=relabel (rQ τ.tab sc) env→∀m H Q,elt.wE g n m H Q→Ev g n env' m H (elt.to τ.tab (kid e 0)) Q)∧(∀env',env'.scope=relabel (rQ τ.tab sc) env→fU g n env' (toL τ.tab ifs ((kids e).drop 3)) (Xe g n ifs))∧iter.ok τ ns (kid e 2)=true:=by
 obtain⟨h1,h4⟩:=d9 h
 obtain⟨h1,h2⟩:=d9 h1
 obtain⟨h2,h3⟩:=d9 h2
 obtain⟨h4,h6⟩:=d9 h4
 obtain⟨h4,h5⟩:=d9 h4
 exact⟨Mp rfl he h1,fun x hx=>U9 (List.all_eq_true.mp h2 x hx),fun env' hs m H Q w=>elt.sE hg _ h4 (R6.comp hs rfl) w,fun env' hs=>am3 hg h6 h3 (R6.comp hs rfl),h5⟩
omit hg in
theorem lK{caps:List Nat}{P:Prop}(h:sel (oG m caps) P False):(∀x∈caps,∃p,m.lookup x=some p)∧P:=(nQ h).imp (fun e x hx=>Option.isSome_iff_exists.mp (List.all_eq_true.mp e x hx)) id
end
noncomputable def X.comp(caps:List Nat)(ct:CT)(elt iter:X)(ifs:List X)(sc:List (Nat×NameKind)):X where
 to:=toK ct elt iter ifs sc
 ok:=okK caps ct elt iter ifs sc
 wE g n m H Q:=wpK g n caps ct elt iter ifs m H Q
 wT O O O O O:=False
 sE hg O O O O O O O h he w:=by
  obtain⟨⟨s1,s2⟩,h2,h3,h4,h5⟩:=Ho hg h he
  exact Ev.comp hg s1 s2 (lK w).1 (Vf _ _ ct) h2 ((iter.sh _ _).fold _) h3 h4 (iter.sE hg _ h5 he (lK w).2)
 sT O O O O O O O O O O w:=w.elim
 sh O O:=⟨fun O O=>rfl,fun O O=>rfl,fun O=>rfl⟩
 bs:=true
 sb O O O O O:=rfl
 nc:=false
 sn h:=nomatch h
 nt:=true
 st O O O O O O O:=rfl
noncomputable abbrev WA := ∀{τ:T},G τ→Nat→PV→Loc→AH→(Loc→AH→Prop)→Prop
structure Tg where
 to:(Nat→Str)→PE→PE
 ok:T→Ns→PE→Bool
 w:WA
 s:∀{τ:T} {g:G τ},v9 g→∀{ns:Ns} {env:Env} {n:Nat} {p:PV} {m:Loc} {H:AH} {Q:Loc→AH→Prop} (x:PE),ok τ ns x=true→R6 ns env→w g n p m H Q→As g n env m H (to τ.tab x) p Q
 pl:∀tab x,lE (to tab x)
 nt:Bool
 st:∀tab x v env,(nt=false→∀ts j p,swappedStores [.Tuple ts j p] v env=pure none)→swappedStores [to tab x] v env=pure none
noncomputable def Tg.name(x:Nat):Tg where
 to tab e:=.Name (tab x) e.pos
 ok τ ns O:=Jq ns (τ.tab x)
 w O O p m H Q:=Q (m5 x p m) H
 s hg O O O O O O O O h he w:=As.name hg (he.lc h) w
 pl O O O O:=rfl
 nt:=true
 st O O O O O:=rfl
inductive ju{τ:T}(g:G τ)(x:Nat)(q:PV)(Q:AH→Prop):PV→AH→Prop
 |mk {a C dx:Addr} {l:List (Nat×PV)} {H:AH} (e1:H a=some (.inst C dx)) (e2:H dx=some (.attrs l)) (hf:τ.fld C x=true) (hl:l.length<900) (h:Q (upd H dx (.attrs (m5 x q l)))):ju g x q Q (.obj a) H
theorem ju.ex{τ:T}{g:G τ}{x:Nat}{q:PV}{Q:AH→Prop}{p:PV}{H:AH}(h:ju g x q Q p H):∃a C dx l,p = .obj a∧H a=some (.inst C dx)∧H dx=some (.attrs l)∧τ.fld C x=true∧l.length<900∧Q (upd H dx (.attrs (m5 x q l))):=by
 cases h with
 |mk e1 e2 hf hl h=>exact⟨_,_,_,_,rfl,e1,e2,hf,hl,h⟩
noncomputable def Tg.attr(o:X)(x:Nat):Tg where
 to tab e:=.Attribute (o.to tab (kid e 0)) (tab x) e.pos
 ok τ ns e:=o.ok τ ns (kid e 0)
 w g n q m H Q:=o.wE g n m H (ju g x q (Q m))
 s hg O O O O O O O O h he w:=As.attr hg ((o.sE hg _ h he w).mono fun O O z=>z.ex)
 pl O O O O:=rfl
 nt:=true
 st O O O O O:=rfl
noncomputable def am4(q:PV)(K:AH→Prop)(p k:PV)(H:AH):Prop:=Aq p k q H K
noncomputable def kTs{τ:T}(g:G τ)(n:Nat)(i:X)(q:PV)(m:Loc)(K:AH→Prop)(p:PV)(H:AH):Prop:=i.wE g n m H (am4 q K p)
noncomputable def Tg.sub(o i:X):Tg where
 to tab e:=.Subscript (o.to tab (kid e 0)) (i.to tab (kid e 1)) e.pos
 ok τ ns e:=o.ok τ ns (kid e 0)&&i.ok τ ns (kid e 1)
 w g n q m H Q:=o.wE g n m H (kTs g n i q m (Q m))
 s hg O O O O O O O O h he w:=As.sub hg ((o.sE hg _ (d9 h).1 he w).mono fun O O w=>i.sE hg _ (d9 h).2 he w)
 pl O O O O:=rfl
 nt:=true
 st O O O O O:=rfl
noncomputable def kTa(w:Loc→AH→(Loc→AH→Prop)→Prop)(Q:Loc→AH→Prop)(m:Loc)(H:AH):Prop:=w m H Q
noncomputable def Rw{τ:T}(g:G τ)(n:Nat):List Tg→List PV→Loc→AH→(Loc→AH→Prop)→Prop
 | [],l,m,H,Q=>match l with
  | []=>Q m H
  |_=>False
 |t::ts,l,m,H,Q=>match l with
  |q::qs=>t.w g n q m H (kTa (Rw g n ts qs) Q)
  | []=>False
noncomputable def Es(tab:Nat→Str):List Tg→List PE→List PE
 | [],_=>[]
 |t::ts,es=>t.to tab (hd es)::Es tab ts es.tail
noncomputable def Xf(τ:T)(ns:Ns):List Tg→List PE→Bool
 | [],_=>true
 |t::ts,es=>t.ok τ ns (hd es)&&Xf τ ns ts es.tail
theorem Rx(tab:Nat→Str)(ts:List Tg):∀es,∀t∈Es tab ts es,lE t:=by
 induction ts with
 |nil=>exact fun O O h=>nomatch h
 |cons x xs ih=>exact fun es e h=>(List.mem_cons.mp h).elim (fun z=>z▸x.pl _ _) (ih _ e)
theorem As.mono{τ:T}{g:G τ}{n:Nat}{env:Env}{m:Loc}{H:AH}{tg:PySem.Expr}{q:PV}{Q Q':Loc→AH→Prop}(h:As g n env m H tg q Q)(k:∀m H,Q m H→Q' m H):As g n env m H tg q Q':=
 fun A s v R S F r=>wpAny_mono (h A s v R S F r) (fun O s' ⟨m',H',a,b,c,q⟩=>⟨m',H',a,b,c,k _ _ q⟩) fun O O x=>x
theorem sole{tg v:PE}{line:Nat}{env:Env}(h:swapsWith v (some tg) line env=pure false):swapsWithSole [tg] v line env=pure false:=h
theorem ZV{τ:T}{g:G τ}(hg:v9 g){ns:Ns}{env:Env}{n:Nat}(he:R6 ns env){Q:Loc→AH→Prop}(ts:List Tg):∀(es:List PE) (l:List PV) {m:Loc} {H:AH},Xf τ ns ts es=true→Rw g n ts l m H Q→Zv g n env m H (Es τ.tab ts es) l Q:=by
 induction ts with
 |nil=>
  intro es l m H h w
  cases l with
  |nil=>exact w
  |cons _ _=>exact w.elim
 |cons t ts ih=>
  intro es l m H h w
  cases l with
  |nil=>exact w.elim
  |cons q qs=>exact(t.s hg _ (d9 h).1 he w).mono fun O O w=>ih _ _ (d9 h).2 w
theorem Mq(tab:Nat→Str)(ts:List Tg):∀es,(Es tab ts es).length=ts.length:=by
 induction ts with
 |nil=>exact fun O=>rfl
 |cons x xs ih=>exact fun es=>congrArg (·+ 1) (ih _)
noncomputable abbrev YS{τ:T}(g:G τ)(n:Nat)(ts:List Tg)(m:Loc)(H:AH)(Q:Loc→AH→Prop)(l:List PV):Prop:=sel (Nat.beq l.length ts.length) (Rw g n ts l m H Q) False
theorem YS.of{τ:T}{g:G τ}{n:Nat}{ts:List Tg}{m:Loc}{H:AH}{Q:Loc→AH→Prop}{l:List PV}(h:YS g n ts m H Q l):l.length=ts.length∧Rw g n ts l m H Q:=(nQ h).imp Nat.eq_of_beq_eq_true id
noncomputable def Tg.tup(ts:List Tg):Tg where
 to tab e:=.Tuple (Es tab ts (kids e)) (kc e) e.pos
 ok τ ns e:=Xf τ ns ts (kids e)
 w g n q m H Q:=@Option.rec (List PV) (fun O=>Prop) (lk (v7 H q) (YS g n ts m H Q)) (YS g n ts m H Q) q.Ls
 s {τ g} hg ns env n p m H Q x h he w:=by
  have key:∀l,YS g n ts m H Q l→l.length=(Es τ.tab ts (kids x)).length∧Zv g n env m H (Es τ.tab ts (kids x)) l Q:=fun l z=>⟨z.of.1.trans (Mq _ _ _).symm,ZV hg he ts _ _ h z.of.2⟩
  refine As.tup (Rx _ _ _) ?_
  cases e:p.Ls with
  |some l=>
   rw [e] at w
   rw [Ep e]
   exact⟨.inl ⟨l,rfl⟩,key l w⟩
  |none=>
   rw [e] at w
   obtain⟨l,e2,w⟩:=M4 w
   refine⟨.inr ⟨l,e2⟩,?_⟩
   rw [show itemsOf H p=some l by cases p<;>first|exact e2|exact nomatch e2]
   exact key l w
 pl O O O O:=rfl
 nt:=false
 st O O O O h:=h rfl _ _ _
end Mine.Internal
namespace Mine.Internal
open PySem PySem.W PySem.Calls PyProof.Rows
structure lN(τ:T)(ns:Ns)(env:Env):Prop where
 kind:env.scope.kind = .function
 names:env.scope.names=ns
 code:∀c,τ.lam ns=some c→env.code = .ref c.1∧env.qual ++ "<lambda>" = c.2.2
theorem lN.ok{τ:T}{ns:Ns}{env:Env}(h:lN τ ns env):R6 ns env:=by
 have k:∀s,env.kindOf s=ns.lookup s:=fun s=>by unfold Env.kindOf;rw [h.names]
 exact⟨h.kind,fun s O e O=>(k s).trans e,fun s e=>.inr ((k s).trans e)⟩
theorem lN.bk{τ:T}{ns:Ns}{env:Env}(h:lN τ ns env):env.blockKind = .function:=by unfold Env.blockKind;rw [h.kind];rfl
noncomputable def env0(ns:Ns):Env:={scope:=⟨.function,ns,false,false,[]⟩,locals:=0,globals:=0,cells:=[]}
theorem Xg{τ:T}{ns:Ns}{env:Env}(h:lN τ ns env)(ts:List PE)(v:PE):swappedStores ts v env=swappedStores ts v (env0 ns):=by
 obtain⟨⟨k,n,a,b,c⟩,_,_,_,_,_,_,_,_⟩:=env
 obtain⟨h1,h2,_⟩:=h
 cases h1
 cases h2
 rfl
noncomputable def Xh(r:Sem (Option (List Str))) (l:Option (List Str)):Bool:=match r with
 |.pure x=>decide (x=l)
 |_=>false
theorem Hp{τ:T}{ns:Ns}{env:Env}{ts:List PE}{v:PE}{l:Option (List Str)}(he:lN τ ns env)(h:Xh (swappedStores ts v (env0 ns)) l=true):swappedStores ts v env=pure l:=by
 rw [Xg he]
 generalize swappedStores ts v (env0 ns)=r at h ⊢
 cases r<;>first|exact congrArg Sem.pure (of_decide_eq_true h)|exact nomatch (show false=true from h)
noncomputable def ZW:Stmt→List PE
 |.Expr e _=>[e]
 |.Return e _=>[e.getD default]
 |.Assign ts v _=>ts++[v]
 |.For t i _ _ _=>[t,i]
 |.While t _ _ _=>[t]
 |.If t _ _ _=>[t]
 |_=>[]
noncomputable def G6(s:Stmt)(i:Nat):PE:=(ZW s).getD i default
noncomputable def blk:Stmt→List Stmt
 |.For _ _ a _ _=>a
 |.While _ a _ _=>a
 |.If _ a _ _=>a
 |_=>[]
noncomputable def ZX:Stmt→List Stmt
 |.If _ _ b _=>b
 |_=>[]
noncomputable abbrev WS := ∀{τ:T},G τ→Nat→Loc→AH→(Out→Loc→AH→Prop)→Prop
structure S where
 to:(Nat→Str)→Stmt→Stmt
 ok:T→Ns→Stmt→Bool
 w:WS
 s:∀{τ:T} {g:G τ},v9 g→∀{ns:Ns} {env:Env} {n:Nat} {m:Loc} {H:AH} {Q:Out→Loc→AH→Prop} (x:Stmt),ok τ ns x=true→lN τ ns env→w g n m H Q→dZ g n env m H (to τ.tab x) Q
noncomputable abbrev onw(Q:Out→Loc→AH→Prop)(k:Loc→AH→Prop)(o:Out)(m:Loc)(H:AH):Prop:=@Out.rec (fun O=>Prop) (k m H) (Q .brk m H) (Q .cont m H) (fun p=>Q (.ret p) m H) o
noncomputable def kSs(w:Loc→AH→(Out→Loc→AH→Prop)→Prop)(Q:Out→Loc→AH→Prop)(m:Loc)(H:AH):Prop:=w m H Q
noncomputable def I9{τ:T}(g:G τ)(n:Nat):List S→Loc→AH→(Out→Loc→AH→Prop)→Prop
 | [],m,H,Q=>Q .next m H
 |s::ss,m,H,Q=>s.w g n m H (onw Q (kSs (I9 g n ss) Q))
noncomputable abbrev hdS(es:List Stmt):Stmt:=es.headD default
noncomputable def rR(tab:Nat→Str):List S→List Stmt→List Stmt
 | [],_=>[]
 |s::ss,xs=>s.to tab (hdS xs)::rR tab ss xs.tail
noncomputable def Bc(τ:T)(ns:Ns):List S→List Stmt→Bool
 | [],_=>true
 |s::ss,xs=>s.ok τ ns (hdS xs)&&Bc τ ns ss xs.tail
theorem KJ.mono{τ:T}{g:G τ}{env:Env}{s s':Shared}{H:AH}{f:Flow}{Q Q':Out→Loc→AH→Prop}(h:KJ g env s H Q f s')(k:∀o m H,Q o m H→Q' o m H):KJ g env s H Q' f s':=
 let⟨o,m',H',r,S,F,c,q⟩:=h;⟨o,m',H',r,S,F,c,k _ _ _ q⟩
theorem dZ.mono{τ:T}{g:G τ}{n:Nat}{env:Env}{m:Loc}{H:AH}{st:Stmt}{Q Q':Out→Loc→AH→Prop}(h:dZ g n env m H st Q)(k:∀o m H,Q o m H→Q' o m H):dZ g n env m H st Q':=
 fun A s R S F=>wpAny_mono (h A s R S F) (fun O O x=>x.mono k) fun O O x=>x
theorem Ex.mono{τ:T}{g:G τ}{n:Nat}{env:Env}{m:Loc}{H:AH}{ss:List Stmt}{Q Q':Out→Loc→AH→Prop}(h:Ex g n env m H ss Q)(k:∀o m H,Q o m H→Q' o m H):Ex g n env m H ss Q':=
 fun A s R S F=>wpAny_mono (h A s R S F) (fun O O x=>x.mono k) fun O O x=>x
theorem Bf{τ:T}{g:G τ}(hg:v9 g){ns:Ns}{env:Env}{n:Nat}(he:lN τ ns env){Q:Out→Loc→AH→Prop}(ss:List S):∀(xs:List Stmt) {m:Loc} {H:AH},Bc τ ns ss xs=true→I9 g n ss m H Q→Ex g n env m H (rR τ.tab ss xs) Q:=by
 induction ss with
 |nil=>exact fun O O O O w=>Ex.nil w
 |cons s ss ih=>exact fun xs m H h w=>Ex.cons ((s.s hg _ (d9 h).1 he w).mono fun o m' H' w=>by
   cases o with
   |next=>exact ih _ (d9 h).2 w
   |brk=>exact w
   |cont=>exact w
   |ret p=>exact w)
section
variable{τ:T}(g:G τ)(n:Nat)(m:Loc)(Q:Out→Loc→AH→Prop)(p:PV)(H:AH)
noncomputable def kN(_p:PV)(H:AH):Prop:=Q .next m H
noncomputable def nx(m:Loc)(H:AH):Prop:=Q .next m H
noncomputable def kA(t:Tg)(p:PV)(H:AH):Prop:=t.w g n p m H (nx Q)
noncomputable def am5(ts:List Tg)(l:List PV)(H:AH):Prop:=YS g n ts m H (nx Q) l
noncomputable def am6(xs:List Nat)(l:List PV):Prop:=sel (Nat.beq l.length xs.length) (Q .next (lF xs.reverse l.reverse m) H) False
noncomputable def kSw(xs:List Nat)(p:PV)(H:AH):Prop:=lk p.Ls (am6 m Q H xs)
noncomputable def kAc(x:Nat)(p:PV)(H:AH):Prop:=Q .next (m5 x p m) H
noncomputable def kR(p:PV)(H:AH):Prop:=Q (.ret p) m H
noncomputable def kIf(a b:List S)(c:Bool)(H:AH):Prop:=sel c (I9 g n a m H Q) (I9 g n b m H Q)
end
noncomputable def S.bad:S:=⟨fun O x=>x,fun O O O=>true,fun O O O O O=>False,fun O O O O O O O O O O w=>w.elim⟩
noncomputable def S.expr(e:X):S:=⟨fun tab x=>.Expr (e.to tab (G6 x 0)) x.pos,fun τ ns x=>e.nc&&e.ok τ ns (G6 x 0),fun g n m H Q=>e.wE g n m H (kN m Q),fun hg O O O O O O O h he w=>dZ.expr (by unfold interactive;rw [he.kind];rfl) (e.sn (d9 h).1 _ _ _ _ _) (e.sE hg _ (d9 h).2 he.ok w)⟩
noncomputable def S.asg(t:Tg)(e:X):S:=⟨fun tab x=>.Assign [t.to tab (G6 x 0)] (e.to tab (G6 x 1)) x.pos,fun τ ns x=>(e.nc&&(t.nt||e.nt))&&(t.ok τ ns (G6 x 0)&&e.ok τ ns (G6 x 1)),fun g n m H Q=>e.wE g n m H (kA g n m Q t),fun hg O O O O O O O h he w=>dZ.asg (sole (e.sn (d9 (d9 h).1).1 _ _ _ _ _)) (t.st _ _ _ _ fun z ts j p=>e.st (by have:=(d9 (d9 h).1).2;rw [z] at this;exact this) _ _ ts j p _) (t.pl _ _ _ _) ((e.sE hg _ (d9 (d9 h).2).2 he.ok w).mono fun O O w=>t.s hg _ (d9 (d9 h).2).1 he.ok w)⟩
noncomputable def S.Xi(ts:List Tg)(es:List X):S:=⟨fun tab x=>.Assign [(Tg.tup ts).to tab (G6 x 0)] ((X.tup es).to tab (G6 x 1)) x.pos,fun τ ns x=>Xh (swappedStores [(Tg.tup ts).to τ.tab (G6 x 0)] ((X.tup es).to τ.tab (G6 x 1)) (env0 ns)) none&&((Tg.tup ts).ok τ ns (G6 x 0)&&(X.tup es).ok τ ns (G6 x 1)),fun g n m H Q=>Az g n es m H (am5 g n m Q ts),fun hg O O O O O O O h he w=>dZ.asg (sole rfl) (Hp he (d9 h).1) rfl (((X.tup es).sE (Q:=fun p H₁=>(Tg.tup ts).w _ _ p _ H₁ _) hg _ (d9 (d9 h).2).2 he.ok w).mono fun O O w=>(Tg.tup ts).s hg _ (d9 (d9 h).2).1 he.ok w)⟩
noncomputable def S.swap(xs:List Nat)(es:List X):S:=⟨fun tab x=>.Assign [.Tuple (eF tab (Mh xs (kids (G6 x 0)))) (kc (G6 x 0)) (G6 x 0).pos] ((X.tup es).to tab (G6 x 1)) x.pos,fun τ ns x=>Xh (swappedStores [.Tuple (eF τ.tab (Mh xs (kids (G6 x 0)))) (kc (G6 x 0)) (G6 x 0).pos] ((X.tup es).to τ.tab (G6 x 1)) (env0 ns)) (some (xs.map τ.tab))&&(xs.all (fun y=>Jq ns (τ.tab y))&&(X.tup es).ok τ ns (G6 x 1)),fun g n m H Q=>(X.tup es).wE g n m H (kSw m Q xs),fun hg O O O O O O O h he w=>dZ.swap hg rfl (Hp he (d9 h).1) (fun y hy=>he.ok.lc (List.all_eq_true.mp (d9 (d9 h).2).1 y hy)) (((X.tup es).sE hg _ (d9 (d9 h).2).2 he.ok w).mono fun p H₁ w=>(M4 w).elim fun l z=>⟨l,Ep z.1,(nQ z.2).imp Nat.eq_of_beq_eq_true id⟩)⟩
noncomputable def Vg(s:Str)(sc:Scope):Bool := !(sc.names.any fun x=>x.1==s&&(x.2 == .local||x.2 == .cell))
noncomputable def S.aa0(x:Nat)(caps:List Nat)(ct:CT)(elt iter:X)(ifs:List X)(sc:List (Nat×NameKind)):S:=⟨fun tab s=>.Assign [.Name (tab x) (G6 s 0).pos] (toK ct elt iter ifs sc tab (G6 s 1)) s.pos,fun τ ns s=>(Dz .local ns (τ.tab x)&&(((G6 s 0).pos.line==(G6 s 1).pos.line)&&Vg (τ.tab x) (rQ τ.tab sc)))&&okK caps ct elt iter ifs sc τ ns (G6 s 1),fun g n m H Q=>wpK g n caps ct elt iter ifs m H (kAc m Q x),fun{τ O} hg O env O O O O s h he w=>by
  obtain⟨⟨s1,s2⟩,h2,h3,h4,h5⟩:=Ho hg (d9 h).2 he.ok
  have loc:=he.ok.look _ _ (U9 (d9 (d9 h).1).1) nofun
  refine dZ.Rj hg s1 s2 (lK w).1 (Vf _ _ ct) h2 ((iter.sh _ _).fold _) loc ?_ h3 h4 (iter.sE hg _ h5 he.ok (lK w).2)
  show(pure (env.blockKind == .function&&env.kindOf (τ.tab x)==some .local&&(G6 s 0).pos.line==(G6 s 1).pos.line&&Vg (τ.tab x) (rQ τ.tab sc)):Sem Bool)=pure true
  rw [he.bk,loc,(d9 (d9 (d9 h).1).2).1,(d9 (d9 (d9 h).1).2).2]
  rfl⟩
noncomputable def S.ret(e:X):S:=⟨fun tab x=>.Return (some (e.to tab (G6 x 0))) x.pos,fun τ ns x=>e.ok τ ns (G6 x 0),fun g n m H Q=>e.wE g n m H (kR m Q),fun hg O O O O O O O h he w=>dZ.ret (e.sE hg _ h he.ok w)⟩
noncomputable def S.aa1:S:=⟨fun O x=>.Return none x.pos,fun O O O=>true,fun O O m H Q=>Q (.ret .none) m H,fun O O O O O O O O O O w=>dZ.QT w⟩
noncomputable def S.brk:S:=⟨fun O x=>.Break x.pos,fun O O O=>true,fun O O m H Q=>Q .brk m H,fun O O O O O O O O O O w=>dZ.brk w⟩
noncomputable def S.iff(t:X)(a b:List S):S:=⟨fun tab x=>.If (t.to tab (G6 x 0)) (rR tab a (blk x)) (rR tab b (ZX x)) x.pos,fun τ ns x=>t.ok τ ns (G6 x 0)&&(Bc τ ns a (blk x)&&Bc τ ns b (ZX x)),fun g n m H Q=>t.wT g n m H (kIf g n m Q a b),fun hg O O O O O O O h he w=>dZ.iff ((t.sT hg _ (d9 h).1 he.ok w).mono fun O O w=>xJ w (Bf hg he a _ (d9 (d9 h).2).1) (Bf hg he b _ (d9 (d9 h).2).2))⟩
noncomputable def kGo(p:PV)(l:List PV)(w:Loc→AH→Prop)(m:Loc)(H:AH):Prop:=sel p.isO (itemsOf H p=some l∧w m H) (w m H)
noncomputable def kTn(p:PV)(l:List PV)(Q:Out→Loc→AH→Prop)(w:Loc→AH→Prop)(o:Out)(m:Loc)(H:AH):Prop:=@Out.rec (fun O=>Prop) (kGo p l w m H) (Q .next m H) (kGo p l w m H) (fun x=>Q (.ret x) m H) o
noncomputable def DG(asg:PV→Loc→AH→(Loc→AH→Prop)→Prop)(body:Loc→AH→(Out→Loc→AH→Prop)→Prop)(p:PV)(l:List PV)(Q:Out→Loc→AH→Prop):List PV→Loc→AH→Prop
 | [],m,H=>Q .next m H
 |q::r,m,H=>asg q m H (kSs body (kTn p l Q (DG asg body p l Q r)))
noncomputable def kF2{τ:T}(g:G τ)(n:Nat)(m:Loc)(Q:Out→Loc→AH→Prop)(t:Tg)(body:List S)(p:PV)(H:AH)(l:List PV):Prop:=DG (t.w g n) (I9 g n body) p l Q l m H
noncomputable def kF{τ:T}(g:G τ)(n:Nat)(m:Loc)(Q:Out→Loc→AH→Prop)(t:Tg)(body:List S)(p:PV)(H:AH):Prop:=okW p (lk (itemsOf H p) (kF2 g n m Q t body p H))
noncomputable def S.for(t:Tg)(it:X)(body:List S):S:=⟨fun tab x=>.For (t.to tab (G6 x 0)) (it.to tab (G6 x 1)) (rR tab body (blk x)) [] x.pos,fun τ ns x=>t.ok τ ns (G6 x 0)&&(it.ok τ ns (G6 x 1)&&Bc τ ns body (blk x)),fun g n m H Q=>it.wE g n m H (kF g n m Q t body),fun{τ g} hg ns env n m O Q x h he w=>dZ.for ((it.sh _ _).fold _) ((it.sE hg _ (d9 (d9 h).2).1 he.ok w).mono fun p H₁ w=>⟨w.src.1,by
  obtain⟨l,e,w⟩:=M4 w.src.2
  rw [e]
  have same:∀{H₂:AH} {P:Prop},sel p.isO (itemsOf H₂ p=some l∧P) P→itemsOf H₂ p=some l∧P:=fun z=>by
   cases p<;>first|exact z|exact⟨e,z⟩
  have key:∀(r:List PV) (m:Loc) (H:AH),DG (fun q m H Q=>t.w g n q m H Q) (fun m H Q=>I9 g n body m H Q) p l Q r m H→Jl g n env (t.to τ.tab (G6 x 0)) (rR τ.tab body (blk x)) p l Q r m H:=by
   intro r
   induction r with
   |nil=>exact fun O O w=>w
   |cons q r ih=>exact fun m H w=>(t.s hg _ (d9 h).1 he.ok w).mono fun m₁ H₁ w=>(Bf hg he body _ (d9 (d9 h).2).2 w).mono (fun o m₂ H₂ w=>by
     cases o with
     |next=>exact(same w).imp id (ih _ _)
     |cont=>exact(same w).imp id (ih _ _)
     |brk=>exact w
     |ret x=>exact w)
  exact key l m H₁ w⟩)⟩
noncomputable abbrev onL(I:Nat→Loc→AH→Prop)(j:Nat)(Q:Out→Loc→AH→Prop)(o:Out)(m:Loc)(H:AH):Prop:=@Out.rec (fun O=>Prop) (∃i,i<j∧I i m H) (Q .next m H) (∃i,i<j∧I i m H) (fun p=>Q (.ret p) m H) o
noncomputable def kWh{τ:T}(g:G τ)(n:Nat)(m:Loc)(Q:Out→Loc→AH→Prop)(body:List S)(R:Out→Loc→AH→Prop)(b:Bool)(H:AH):Prop:=sel b (I9 g n body m H R) (Q .next m H)
inductive yh{τ:T}(g:G τ)(n:Nat)(t:X)(body:List S)(m:Loc)(H:AH)(Q:Out→Loc→AH→Prop):Prop
 |mk (I:Nat→Loc→AH→Prop) (k:Nat) (h0:I k m H) (h:∀j m' H',I j m' H'→t.wT g n m' H' (kWh g n m' Q body (onL I j Q))):yh g n t body m H Q
noncomputable def S.while(t:X)(body:List S):S:=⟨fun tab x=>.While (t.to tab (G6 x 0)) (rR tab body (blk x)) [] x.pos,fun τ ns x=>t.ok τ ns (G6 x 0)&&Bc τ ns body (blk x),fun g n m H Q=>yh g n t body m H Q,fun hg O O O O O O O h he w=>by
  cases w with
  |mk I k h0 w=>exact dZ.while I k h0 fun j m' H' hI=>(t.sT hg _ (d9 h).1 he.ok (w j m' H' hI)).mono fun b H₁ w=>xJ w (fun w=>(Bf hg he body _ (d9 h).2 w).mono (fun o m₂ H₂ w=>by
    cases o with
    |next=>exact w
    |cont=>exact w
    |brk=>exact w
    |ret x=>exact w)) id⟩
end Mine.Internal
namespace Mine.Internal
open PySem PySem.W PySem.Calls PyProof.Rows
section
variable{prog:Program}{w:World}{A:Around}{E:Value→Shared→Prop}{s:Shared}
theorem rT{it t:Addr}{items:Array Value}{i:Nat}{Q:Value→Shared→Prop}(hh:A.handled=none)(hit:s.heap.IsTupleIter it t i)(ht:s.heap.IsTuple t items)(hx:items[i]? = none)
  (hE:∀h' e,Heap.ExtBut it s.heap h'→(∃o,h'.get? e=some o∧o.cls = .type "StopIteration")→E (.ref e) {s with heap:=h'}):wpAny (model prog w) A (Builtin.SmallTypes.nextOf (.ref it)) Q E s:=by
 obtain⟨o,ho,hc,hd⟩:=id hit
 obtain⟨ol,hol,_,nl,hdl⟩:=ht
 unfold Builtin.SmallTypes.nextOf
 refine wpAny_bind (wpAny_callSpecial?_slot (name:=Str.ofString "__next__") hit.typeIs PySem.F.slot_tuple_iterator_next (wpAny_call_entry PySem.F.slot_tuple_iterator_next hit.typeIs PySem.F.entry_tuple_iterator_next ?_ (PySem.F.args_tuple_iterator_next_1 _)))
 show wpAny _ _ (field (.ref it) 0 >>= _) _ _ s
 refine wpAny_bind (wpAny_field ho hd (x:=.ref t) rfl ?_)
 show wpAny _ _ (if(Value.ref t==Value.none)=true then _ else _) _ _ s
 rw [if_neg (show ¬((Value.ref t==Value.none)=true) from Bool.false_ne_true)]
 show wpAny _ _ (field (.ref it) 1 >>= _) _ _ s
 refine wpAny_bind (wpAny_field ho hd (x:=.int i 0) rfl ?_)
 show wpAny _ _ (seqItems? (.ref t) >>= _) _ _ s
 refine wpAny_bind (wpAny_seqItems hol hdl ?_)
 simp only [Int.toNat_natCast,hx]
 refine wpAny_bind (wpAny_rule (wpAny_bind (wpAny_setField ho hd (by simp) ?_)))
 show wpAny _ _ (newExc (.type "StopIteration") [] >>= _) _ _ _
 refine wpAny_bind ?_
 simp only [newExc,newTuple]
 refine wpAny_bind (wpAny_newObj_type ?_ (by size_fits))
 refine wpAny_bind (m:=firstArgMember _ _) (wpAny_of_eq (a:=Value.none) (by first|rfl|(simp only [firstArgMember];rfl)) (wpAny_newObj_type ?_ (by size_fits)))
 delta raiseNew
 refine wpAny_bind (wpAny_handled ?_)
 first|rw [show A.in1.handled=none from hh]|rw [hh]
 exact wpAny_bind (wpAny_pure (wpAny_throw (hE _ _ (((Heap.SameBut.update ..).extBut.push _).push _) ⟨_,Heap.get?_push_size _ rfl,rfl⟩)))
theorem Bh{M:Model}{Q:Bool→Shared→Prop}{b:Bool}(h:∀b,Q b s):wpAny M A (pure b) Q E s:=wpAny_pure (h b)
theorem rU(l:Addr)(items:Array Value)(n:Nat):Meets (Builtin.«enumerate.__new__» ⟨[.type "enumerate",.ref l],[]⟩) (fun O R s=>s.heap.get? l=some ⟨.type "tuple",none,.seq items n,#[]⟩∧
   R (.ok (.ret (.ref (s.heap.push {cls:=.type "tuple_iterator",data:=.fields #[.ref l,.int 0 0]}).objs.size)))
    {s with heap:=(s.heap.push {cls:=.type "tuple_iterator",data:=.fields #[.ref l,.int 0 0]}).push {cls:=.type "enumerate",data:=.fields #[.none,.bool false,.ref s.heap.objs.size,rawInt 0,.none,.none]}}):=
 .of_wp fun prog w A R s h=>by
  obtain⟨hp,g,d,tk,os⟩:=s;obtain⟨hl,h⟩:=h
  have hsub:=sub_enumerate
  have hL:Heap.IsTuple (Shared.heap ⟨hp,g,d,tk,os⟩) l items:=⟨_,hl,rfl,n,rfl⟩
  wp_walk using AutoSeq1.wpAny_loadPart' hl
  refine wpAny_stack_any fun st=>Bh fun b=>?_
  cases b
  ·wp_walk using AutoSeq1.wpAny_loadPart' hl,wpAny_pyIter_tuple hL
   exact⟨_,rfl,h⟩
  ·wp_walk using AutoSeq1.wpAny_loadPart' hl,wpAny_pyIter_tuple hL
   exact⟨_,rfl,h⟩
end
theorem vo{prog:Program}{w:World}{A:Around}{E:Value→Shared→Prop}{s:Shared}{l:Addr}{items:Array Value}{n:Nat}{Q:Value→Shared→Prop}(hl:s.heap.get? l=some ⟨.type "tuple",none,.seq items n,#[]⟩)
  (h:∀h',IsEnum h' (s.heap.objs.size+1) s.heap.objs.size 0 .none→h'.IsTupleIter s.heap.objs.size l 0→(∀b o,s.heap.get? b=some o→h'.get? b=some o)→Q (.ref (s.heap.objs.size+1)) {s with heap:=h'}):wpAny (model prog w) A (call (.type "enumerate") [.ref l]) Q E s:=by
 refine callType_new PySem.F.called_enumerate (by decide) (PySem.F.typeCall_enumerate_1 _) (PySem.F.newCall_enumerate_1 _) (fun obj=>PySem.F.args_object_init_2 obj _) PySem.F.entry_enumerate_new (rU l items n) ⟨hl,?_⟩
 have hz:(s.heap.push {cls:=.type "tuple_iterator",data:=.fields #[.ref l,.int 0 0]}).objs.size=s.heap.objs.size+1:=Heap.size_push ..
 show _∧_
 rw [hz]
 have he:IsEnum ((s.heap.push {cls:=.type "tuple_iterator",data:=.fields #[.ref l,.int 0 0]}).push
   {cls:=.type "enumerate",data:=.fields #[.none,.bool false,.ref s.heap.objs.size,rawInt 0,.none,.none]}) (s.heap.objs.size+1) s.heap.objs.size 0 .none:=by
  have:=Heap.get?_push_size (s.heap.push {cls:=.type "tuple_iterator",data:=.fields #[.ref l,.int 0 0]})
   (o:={cls:=.type "enumerate",data:=.fields #[.none,.bool false,.ref s.heap.objs.size,rawInt 0,.none,.none]}) rfl
  rw [hz] at this;exact this
 exact⟨⟨_,he,rfl⟩,h _ he ⟨_,Heap.get?_push_of_some _ (Heap.get?_push_size _ rfl),rfl,rfl⟩ fun b o x=>Heap.get?_push_of_some _ (Heap.get?_push_of_some _ x)⟩
theorem dZ.aa2{τ:T}{g:G τ}(hg:v9 g){n:Nat}{env:Env}{m:Loc}{H:AH}{tg e:PE}{x:Nat}{body:List Stmt}{fp cp pos:Pos}{Q:Out→Loc→AH→Prop}(hx:τ.glob x=some (.typ "enumerate"))(hk:env.kindOf (τ.tab x)=some .globalImplicit)(hp:cD e)
  (h:Ev g n env m H e fun p H'=>p = .tup []∧Q .next m H'):dZ g n env m H (.For tg (.Call (.Name (τ.tab x) fp) [e] [] cp) body [] pos) Q:=by
 intro A s R S F
 refine wpAny_For ?_ (fun O=>rfl)
 rw [show eval (.Call (.Name (τ.tab x) fp) [e] [] cp) env=(eval (.Name (τ.tab x) fp) env >>= fun v=>callWith cp v [] (backTo cp (starEach [e] env)) []) from rfl]
 refine wpAny_bind ((Ev.glob (Q:=fun p H₁=>p = .typ "enumerate"∧H₁=H) hg hx hk ⟨rfl,rfl⟩).then R S F fun v s' p H' r S' c F' q=>?_)
 obtain⟨rfl,rfl⟩:=q
 have r':=r
 cases r'
 have noS:((backTo cp (starEach [e] env)).any (·.1))=false:=noStar fun y hy=>List.mem_singleton.mp hy▸hp
 refine callWith_of (P:=fun O=>True) (by rw [noS];rfl) (fun hh O=>⟨.machine,.inr (.inl rfl),.now⟩) ?_
 have ev:pC g n env m H' cp [e] fun l H₂=>l=[.tup []]∧Q .next m H₂:=pC.cons hp (h.mono fun p H₁ w=>pC.nil ⟨by rw [w.1],w.2⟩)
 have key:wpAny (model g.prog g.w) A (spliced (backTo cp (starEach [e] env))) (fun vs s₁=>True∧wpAny (model g.prog g.w) A (call (.type "enumerate") ([]++vs) []) (fun y s₂=>wpAny (model g.prog g.w) A (pyIter y) (fun it s₃=>
   codeAny (model g.prog g.w) A (.forLoop tg it body [] env) (fun r s'=>match r with | .ok f=>KJ g env s H' Q f s' | .error e=>cameBackBy (model g.prog g.w) A env (fun O O=>False) e s') s₃) (fun O O=>False) s₂) (fun O O=>False) s₁) (fun O O=>False) s':=
  by
  refine ev.then R S' F' fun vs s₁ l H₁ r₁ S₁ c₁ F₁ z q=>⟨trivial,?_⟩
  obtain⟨rfl,q⟩:=q
  obtain⟨v1,r2,rfl,⟨t,vs0,k,rfl,ot,rl⟩,rfl⟩:=r₁
  cases rl
  refine vo ot fun h' he hit hk=>?_
  have c2:n8 g {s₁ with heap:=h'} H₁∧Calm s₁.heap H₁ h' H₁:=S₁.kept hk s₁.toks
  have F2:=F₁.goes c2.2
  obtain⟨f1,f2,f3⟩:=bT S₁
  refine wpAny_pyIter_enum he (codeAny_forLoop_any (fun j s'=>j=0∧s'={s₁ with heap:=h'}) (fun j s' hj=>?_) 0 ⟨rfl,rfl⟩)
  obtain⟨rfl,rfl⟩:=hj
  unfold pyNext
  have hT:Shared.TypeIs {s₁ with heap:=h'} (.ref (s₁.heap.objs.size+1)) "enumerate" := ⟨_,he,rfl⟩
  refine wpAny_bind (wpAny_attempt (wpAny_callSpecial?_slot (name:=Str.ofString "__next__") hT PySem.F.slot_enumerate_next (wpAny_call_entry PySem.F.slot_enumerate_next hT PySem.F.entry_enumerate_next ?_ (PySem.F.args_enumerate_next_1 _))))
  show wpAny _ _ (field (.ref (s₁.heap.objs.size+1)) 2 >>= _) _ _ _
  refine wpAny_bind (wpAny_field he rfl (x:=.ref s₁.heap.objs.size) rfl ?_)
  refine wpAny_bind (rT R.handled hit ⟨_,hk _ _ ot,rfl,_,rfl⟩ rfl fun h2 e2 B he2=>?_)
  obtain⟨o,ho,hc⟩:=he2
  refine wpAny_bind (wpAny_isInstance (T := "StopIteration") (b:=true) ⟨o,ho,hc⟩ isSubtype_stop ?_)
  refine wpAny_pure (wpAny_execs_nil ?_)
  have k2:∀b o,s₁.heap.get? b=some o→h2.get? b=some o:=fun b o w=>B b o (Nat.ne_of_lt (Heap.lt_size w)) (hk b o w)
  obtain⟨S2,C2⟩:=S₁.kept k2 s₁.toks
  exact⟨.next,m,H₁,rfl,S2,F₁.goes C2,((c.trans c₁).trans C2).own,q⟩
 have hx':backTo cp (starEach [e] env)=(false,eval e env)::backTo cp (starEach [] env):=by rw [hp [] env];rfl
 rw [hx'] at key ⊢
 exact evalArgs_plain key
noncomputable def am7(m:Loc)(Q:Out→Loc→AH→Prop)(H:AH)(l:List PV):Prop:=sel l.isEmpty (Q .next m H) False
noncomputable def kFe(m:Loc)(Q:Out→Loc→AH→Prop)(p:PV)(H:AH):Prop:=lk p.Ls (am7 m Q H)
noncomputable def S.am8(t:Tg)(x:Nat)(e:X)(body:List S):S:=⟨fun tab s=>.For (t.to tab (G6 s 0)) (.Call (.Name (tab x) (kid (G6 s 1) 0).pos) [e.to tab (kid (G6 s 1) 1)] [] (G6 s 1).pos) (rR tab body (blk s)) [] s.pos,fun τ ns s=>(Dz .globalImplicit ns (τ.tab x)&&(match τ.glob x with|some (.typ t)=>t == "enumerate" | _=>false))&&e.ok τ ns (kid (G6 s 1) 1),fun g n m H Q=>e.wE g n m H (kFe m Q),fun{τ O} hg O O O O O O s h he w=>dZ.aa2 hg (by
  have z:=(d9 (d9 h).1).2
  cases e1:τ.glob x with
  |none=>rw [e1] at z;cases z
  |some p=>
   rw [e1] at z
   cases p<;>first|(cases z;done)|exact congrArg (fun t=>some (PV.typ t)) (eq_of_beq z)) (he.ok.look _ _ (U9 (d9 (d9 h).1).1) nofun) (e.sh _ _).plain ((e.sE hg _ (d9 h).2 he.ok w).mono fun p H' w=>(M4 w).elim fun l z=>(nQ z.2).imp (fun k=>by rw [Ep z.1,List.isEmpty_iff.mp k]) id)⟩
end Mine.Internal
namespace Mine.Internal
open PySem PySem.W PySem.Calls PyProof.Rows
section
variable{τ:T}{g:G τ}{s:Shared}{H:AH}
theorem n8.tab{h':Heap}{P:Addr}{q:Str}(S:n8 g s H)(hP:H P=some (.code q))(B:Heap.ExtBut P s.heap h')(r:jf g h' H P (.code q))(t:Nat):n8 g {s with heap:=h',toks:=t} H∧Calm s.heap H h' H:=by
 obtain⟨ps,e,_⟩:=S.obj _ _ hP
 have ne:∀b,H b=none→b≠P:=fun b z w=>by rw [w,hP] at z;cases z
 have nt:∀b o n,s.heap.get? b=some o→o.cls = .type n→b≠P:=fun b o n eb k w=>by rw [w,e] at eb;cases eb;cases k
 have pr:O5 s.heap H h' H:=⟨fun b o xs k eb O c=>B b o (nt b o _ eb c) eb,fun b o xs k eb O c z=>⟨B b o (ne b z) eb,z⟩,fun b o xs eb O c=>B b o (c.elim (nt b o _ eb) (nt b o _ eb)) eb⟩
 refine⟨⟨fun b o eb=>B b o (fun w=>?_) (S.keep b o eb),S.fresh,fun a o ea=>?_,S.gens,S.os⟩,fun b o eb z O=>B b o (ne b z) eb,fun b z w=>absurd z w,fun b o eb=>?_,pr⟩
 ·have:=S.fresh P (by rw [hP];exact nofun)
  rw [w,this] at eb;cases eb
 ·by_cases w:a=P
  ·subst w;rw [hP] at ea;cases ea;exact r
  ·exact(S.obj a o ea).keeps pr fun x ex=>B a x w ex
 ·by_cases w:b=P
  ·subst w;exact r.has
  ·exact⟨o,B b o w eb⟩
theorem v9.grow(hg:v9 g){h':Heap}(k:∀b o,g.h₀.get? b=some o→h'.get? b=some o):v9 (⟨g.w,h',g.os⟩:G τ):=by
 have pr:O5 g.h₀ (fun O=>none) h' (fun O=>none):=⟨fun b o O O e O O=>k b o e,fun b o O O e O O q=>⟨k b o e,q⟩,fun b o O e O O=>k b o e⟩
 obtain⟨mg,mb,n1,n2,n3⟩:=hg.names
 obtain⟨mg',b1,b2⟩:=hg.bm
 refine{inj:=hg.inj,Zc:=hg.Zc,X:=hg.X.keeps k,nolimit:=hg.nolimit.keeps k,aL:=hg.aL,Gy:=hg.Gy,fld:=hg.fld,meth:=hg.meth,fn:=hg.fn,rC:=hg.rC,init:=hg.init,names:=⟨mg,mb,n1.keeps k,n2.keeps k,fun x p e=>(n3 x p e).elim fun v z=>⟨v,z.1,z.2.keeps pr⟩⟩,mods:=fun e=>?_,bm:=⟨mg',b1.keeps k,fun P hP=>?_⟩,lam:=fun ns c P q e=>⟨(hg.lam ns c P q e).1.keeps k,(hg.lam ns c P q e).2⟩,sd:=fun a x p e=>?_}
 ·cases q:g.h₀.get? sysModules with
  |none=>exact hg.mods q
  |some o=>exact nomatch (k _ _ q).symm.trans e
 ·obtain⟨bm,o,c1,c2,c3,c4,c5,c6⟩:=b2 P fun o e=>hP o (k _ _ e)
  exact⟨bm,o,c1,c2,c3,c4,k _ _ c5,c6⟩
 ·obtain⟨m,v,⟨o,es,ep,e1,e2⟩,a2,r⟩:=hg.sd a x p e
  exact⟨m,v,⟨o,es,ep,k _ _ e1,e2⟩,a2,r.keeps pr⟩
noncomputable def jw(h:Heap)(H:AH):Heap:=hideAll h ((List.range h.objs.size).filter fun b=>(H b).isSome)
theorem Bj{h:Heap}{b:Addr}{o:Obj}(e:(jw h H).get? b=some o):h.get? b=some o∧H b=none:=by
 have e':=of_hideAll _ e
 refine⟨e',?_⟩
 cases q:H b with
 |none=>rfl
 |some x=>
  have:(jw h H).get? b=none:=hideAll_none _ (List.mem_filter.mpr ⟨List.mem_range.mpr (Heap.lt_size e'),by rw [q];rfl⟩)
  rw [this] at e;cases e
theorem iM{h:Heap}{b:Addr}{o:Obj}(e:h.get? b=some o)(z:H b=none):(jw h H).get? b=some o:=
 hideAll_get _ e fun w=>by have:=(List.mem_filter.mp w).2;rw [z] at this;cases this
theorem n8.base(S:n8 g s H){b:Addr}{o:Obj}(e:g.h₀.get? b=some o):(jw s.heap H).get? b=some o:=iM (S.keep b o e) (by
 cases q:H b with
 |none=>rfl
 |some x=>have:=S.fresh b (by rw [q];exact nofun);rw [this] at e;cases e)
theorem n8.wide(S:n8 g s H):n8 (⟨g.w,jw s.heap H,g.os⟩:G τ) s H:=
 ⟨fun b o e=>(Bj e).1,fun a z=>by
  cases q:(jw s.heap H).get? a with
  |none=>rfl
  |some o=>exact absurd (Bj q).2 z,S.obj,S.gens,S.os⟩
theorem n8.narrow{h':Heap}(k:∀b o,g.h₀.get? b=some o→h'.get? b=some o)(S:n8 (⟨g.w,h',g.os⟩:G τ) s H):n8 g s H:=
 ⟨fun b o e=>S.keep b o (k b o e),fun a z=>(by
  cases q:g.h₀.get? a with
  |none=>rfl
  |some o=>exact nomatch (k a o q).symm.trans (S.fresh a z)),S.obj,S.gens,S.os⟩
theorem n8.again{h':Heap}{s':Shared}{H':AH}(S:n8 (⟨g.w,h',g.os⟩:G τ) s H)(S':n8 g s' H')(c:Calm s.heap H s'.heap H'):n8 (⟨g.w,h',g.os⟩:G τ) s' H':=by
 have un:∀b o,h'.get? b=some o→H b=none:=fun b o e=>by
  cases q:H b with
  |none=>rfl
  |some x=>exact nomatch e.symm.trans (S.fresh b (by rw [q];exact nofun))
 refine⟨fun b o e=>c.keep b o (S.keep b o e) (un b o e) id,fun a z=>?_,S'.obj,S'.gens,S'.os⟩
 cases q:h'.get? a with
 |none=>rfl
 |some o=>have:=c.new a (un a o q) z;rw [S.keep a o q] at this;cases this
end
structure Mr(τ:T)(pl go:Nat)(ps:Arguments)(body:PE)(sc:Scope):Prop where
 args:∃a:Arg,a.arg=τ.tab go∧ps=⟨[],[a],none,[],[],none,[]⟩
 kind:sc.kind = .function
 co:sc.isCoroutine=false
 gen:sc.isGenerator=false
 names:sc.names=[(τ.tab go,.local),(τ.tab pl,.free)]
 body:∃p1 p2 p3,body = .Subscript (.Name (τ.tab pl) p1) (.Name (τ.tab go) p2) p3
noncomputable def rW{τ:T}(g:G τ)(pl:Nat)(q:Str)(ps:Arguments)(body:PE)(sc:Scope)(h:Heap)(f cc:Addr):Prop:=
 ∃pm c' ctv o vs t,h.get? f=some {cls:=.type "function",data:=.func (kla_fn "<lambda>" q ps body sc [(g.tab pl,cc)] pm (.ref c') ctv)}∧h.get? c'=some o∧o.cls = .type "code"∧o.data = .fields vs∧vs[1]? = some (.str q t)
section
variable{τ:T}{g:G τ}{s:Shared}{H:AH}{A:Around}
set_option tactic.hygienic true in
omit g s H A in
theorem Et{pos:Pos}{v c:Value}{i j:Nat}(n:Nat):∀{l:List Value},l.length≤n→TriplesOk l→codeAmong pos (l++[rawInt i,rawInt j,c])=some v→codeAmong pos l=some v∨v=c:=by
 have nil:codeAmong pos ([]++[rawInt i,rawInt j,c])=some v→codeAmong pos []=some v∨v=c:=fun z=>.inr (aN (show(if _ then some c else none)=some v from z)).2.symm
 induction n with
 |zero=>
  intro l h _ z
  cases List.eq_nil_of_length_eq_zero (Nat.le_zero.mp h)
  exact nil z
 |succ n ih=>
  intro l h w z
  cases l with
  |nil=>exact nil z
  |cons x l=>
   cases x<;>first|exact(show False from w).elim|skip
   case int a t=>
    cases l with
    |nil=>exact(show False from w).elim
    |cons y l=>
     cases y<;>first|exact(show False from w).elim|skip
     case int b u=>
      cases l with
      |nil=>exact(show False from w).elim
      |cons d r=>
       have z:(if(a==pos.line&&b==pos.col)=true then some d else codeAmong pos (r++[rawInt i,rawInt j,c]))=some v:=z
       show(if(a==pos.line&&b==pos.col)=true then some d else codeAmong pos r)=some v∨v=c
       by_cases q:(a==pos.line&&b==pos.col)=true
       ·rw [if_pos q] at z;rw [if_pos q];exact .inl z
       ·rw [if_neg q] at z;rw [if_neg q];exact ih (Nat.le_of_succ_le (Nat.le_of_succ_le (Nat.le_of_succ_le_succ h))) w z
theorem fcode{env:Env}{c P:Addr}{q:Str}{pos:Pos}{fl:Nat}{nm:Str}{ps:Arguments}{sc:Scope}{b:FuncBody}{M:Model}{Q:Value→Shared→Prop}{E:Value→Shared→Prop}(S:n8 g s H)(hP:H P=some (.code q))(hc:env.code = .ref c)(C:CodeHd g.h₀ c P)
  (h:∀c' h' tk,Heap.ExtBut P s.heap h'→(∃o vs t,h'.get? c'=some o∧o.cls = .type "code"∧o.data = .fields vs∧vs[1]? = some (.str q t))→jf g h' H P (.code q)→Q (.ref c') {s with heap:=h',toks:=tk}):
  wpAny M A (functionCode env pos fl nm q ps sc b) Q E s:=by
 obtain⟨qs,e,tr,cs⟩:=S.obj _ _ hP
 have C':=C.keeps S.keep
 cases k:codeAmong pos qs.toList with
 |some v=>
  obtain⟨c',o,vs,t,rfl,a2,a3,a4,a5⟩:=cs pos v k
  exact wpAny_functionCode_hit hc (C'.code e tr) k (h c' s.heap s.toks (fun O O O e=>e) ⟨o,vs,t,a2,a3,a4,a5⟩ ⟨qs,e,tr,cs⟩)
 |none=>
  refine wpAny_functionCodeX hc (C'.code e tr) (C'.tab e) k fun c' h' tk hx hge hlt hcode hrec htab hnew=>?_
  obtain⟨P',_,_,⟨⟨o',vs',e1,e2,e3,_⟩,_⟩⟩:=hnew
  obtain⟨c2,o,vs,t,r1,r2,r3,r4⟩:=hrec
  cases r1
  rw [e1] at r2;cases r2
  rw [e3] at r3;cases r3
  refine h c' h' tk hx ⟨o',vs',t,e1,e2,e3,r4⟩ ⟨_,htab.2,?_,fun pos' v kv=>?_⟩
  ·obtain⟨_,_,_,_,_,_,_,_,_,op,f1,f2,_,_,_,_,_,f8,f9,f10,_⟩:=hcode
   rw [htab.2] at f8;cases f8;cases f9;exact f10
  ·rw [Array.toList_append] at kv
   rcases Et _ (Nat.le_refl _) tr kv with kv|rfl
   ·obtain⟨c1,o1,vs1,t1,rfl,b2,b3,b4,b5⟩:=cs pos' v kv
    refine⟨c1,o1,vs1,t1,rfl,hx c1 o1 (fun w=>?_) b2,b3,b4,b5⟩
    rw [w,e] at b2;cases b2;cases b3
   ·exact⟨c',o',vs',t,rfl,e1,e2,e3,r4⟩
theorem Ms{env:Env}{m:Loc}{c P cc:Addr}{q:Str}{pl go:Nat}{ps:Arguments}{body:PE}{sc:Scope}{pos:Pos}{vc:Value}{E:Value→Shared→Prop}{k:Value→Shared→Prop}(hg:v9 g)(S:n8 g s H)(F:z9 g env m s.heap H)
  (hl:Mr τ pl go ps body sc) (hc:env.code = .ref c) (hq:env.qual ++ "<lambda>" = q) (C:CodeHd g.h₀ c P) (nP:P≠mainGlobals) (hP:H P=some (.code q)) (hcc:env.cells.lookup (τ.tab pl)=some cc) (ic:s.heap.IsCell cc (some vc))
  (h:∀s' f,n8 g s' H→Calm s.heap H s'.heap H→s.heap.get? f=none→rW g pl q ps body sc s'.heap f cc→s'.heap.IsCell cc (some vc)→k (.ref f) s'):wpAny (model g.prog g.w) A (eval (.Lambda ps body sc pos) env) k E s:=by
 have hd:defaultsOf ps env=([],[]):=by
  obtain⟨a,_,rfl⟩:=hl.args
  rfl
 refine kla_eval hd ?_
 rw [hq,makeFunction_eq]
 simp only [List.zip_nil_right,List.filterMap_nil,List.isEmpty_nil,if_true,pure_bind]
 have hcl:closureFor sc env=pure [(τ.tab pl,cc)]:=by
  unfold closureFor
  rw [hl.names]
  simp only [List.forIn_cons,List.forIn_nil,cellOf,hcc]
  rfl
 obtain⟨mg,b1,b2⟩:=hg.bm
 have hPn:∀o,g.h₀.get? P≠some o:=fun o e=>nomatch e.symm.trans (S.fresh P (by rw [hP];exact nofun))
 obtain⟨bm,ob,b2,b3,b4,b5,b6,b7,b8,b9⟩:=b2 P hPn
 unfold makeTail
 rw [hcl,F.globs]
 refine wpAny_bind (wpAny_pure ?_)
 refine wpAny_bind (wpAny_newTextTuple ?_)
 have S1:=S.push {cls:=.type "tuple",data:=.seq ([(τ.tab pl,cc)].map fun x=>Value.str x.1 0).toArray} s.toks
 refine wpAny_bind (fcode (s:={s with heap:=s.heap.push _}) (S.push _ s.toks) hP hc C fun c' h' tk hx hr ho=>?_)
 obtain⟨S2,C2⟩:=(S.push _ s.toks).tab hP hx ho tk
 refine wpAny_bind (wpAny_builtinsFor (b1.keeps S2.keep) b2 b3 (S2.keep _ _ b6) b7 b8 b9 ?_)
 refine wpAny_bind (wpAny_nsGet (b1.keeps S2.keep) ?_)
 refine wpAny_bind (wpAny_pure (wpAny_newObj_type ?_ (by size_fits)))
 obtain⟨oc,e1,e2⟩:=ic
 have hcH:H cc=none:=(F.cells _ _ hcc).1
 obtain⟨o,vs,t,r1,r2,r3,r4⟩:=hr
 have aa3:∀b o,s.heap.get? b=some o→H b=none→h'.get? b=some o:=fun b o e z=>hx b o (fun w=>by rw [w,hP] at z;cases z) (Heap.get?_push_of_some _ e)
 refine h _ _ (S2.push _ tk) ((Calm.push ..).trans (C2.trans (Calm.push ..))) ?_ ⟨_,c',_,o,vs,t,Heap.get?_push_size _ rfl,Heap.get?_push_of_some _ r1,r2,r3,r4⟩ ⟨oc,Heap.get?_push_of_some _ (aa3 _ _ e1 hcH),e2⟩
 cases e:s.heap.get? h'.objs.size with
 |none=>rfl
 |some x=>
  obtain⟨y,hy⟩:=C2.ex _ _ (Heap.get?_push_of_some _ e)
  exact absurd (Heap.lt_size hy) (Nat.lt_irrefl _)
omit g s H A in
theorem rY{K V:Type} [BEq K] [LawfulBEq K]{k y:K}{v w:V}(e:[(k,v)].lookup y=some w):y=k∧w=v:=by
 rw [List.lookup_cons] at e
 cases z:y==k with
 |true=>rw [z] at e;cases e;exact⟨eq_of_beq z,rfl⟩
 |false=>rw [z] at e;cases e
omit g s H A in
theorem eG{K V:Type} [BEq K] [LawfulBEq K]{k j y:K}{v u w:V}(e:[(k,v),(j,u)].lookup y=some w):(y=k∧w=v)∨(y=j∧w=u):=by
 rw [List.lookup_cons] at e
 cases z:y==k with
 |true=>rw [z] at e;cases e;exact .inl ⟨eq_of_beq z,rfl⟩
 |false=>rw [z] at e;exact .inr (rY e)
omit g s H A in
theorem iQ{K V:Type} [BEq K] [LawfulBEq K]{k:K}{v:V}{r:List (K×V)}:((k,v)::r).lookup k=some v:=by rw [List.lookup_cons,beq_self_eq_true]
omit g s H A in
theorem Hq{K V:Type} [BEq K] [LawfulBEq K]{k j:K}{v u:V}(ne:j≠k):[(k,v),(j,u)].lookup j=some u:=by rw [List.lookup_cons,beq_eq_false_iff_ne.mpr ne];exact iQ
theorem Mt{env:Env}{h₁:Heap}{go pl:Nat}{i:Int}{t:Tok}{D cc:Addr}{mv:Str→Option Value}(hk:env.scope.kind = .function)(e1:env.globals=mainGlobals)(e2:env.builtins=builtinsNs)
  (kd:∀y,env.kindOf y=[(g.tab go,NameKind.local),(g.tab pl,.free)].lookup y) (ne:g.tab pl≠g.tab go) (ec:env.cells=[(g.tab pl,cc)]) (hns:h₁.Ns env.locals mv) (mg:mv (g.tab go)=some (.int i t))
  (c:h₁.IsCell cc (some (.ref D))) (lH:H env.locals=none) (lB:g.h₀.get? env.locals=none) (cH:H cc=none) (c0:g.h₀.get? cc=none):z9 g env [(go,.int i),(pl,.obj D)] h₁ H:=by
 have one:∀{y c},env.cells.lookup y=some c→y=g.tab pl∧c=cc:=fun e=>rY (ec▸e)
 have kl:env.kindOf (g.tab go)=some .local:=(kd _).trans iQ
 have kf:env.kindOf (g.tab pl)=some .free:=(kd _).trans (Hq ne)
 refine⟨hk,e1,e2,⟨mv,hns,fun x p e k=>?_⟩,fun x p e k=>?_,fun x p e=>?_,lH,lB,fun y c' e=>?_,fun y z c e1 e2=>(one e1).1.trans (one e2).1.symm,fun y k=>?_⟩
 ·rcases eG e with⟨rfl,rfl⟩|⟨rfl,rfl⟩
  ·exact⟨.int i t,mg,t,rfl⟩
  ·exact nomatch kf.symm.trans k
 ·rcases eG e with⟨rfl,rfl⟩|⟨rfl,rfl⟩
  ·rcases k with k|k<;>exact nomatch kl.symm.trans k
  ·exact⟨cc,.ref D,ec▸iQ,c,rfl⟩
 ·rcases eG e with⟨rfl,rfl⟩|⟨rfl,rfl⟩
  ·exact .inl kl
  ·exact .inr (.inr kf)
 ·obtain⟨rfl,rfl⟩:=one e
  exact⟨cH,c0,_,c⟩
 ·rcases eG ((kd y).symm.trans k) with⟨_,z⟩|⟨_,z⟩<;>exact nomatch z
theorem Mu{h':Heap}{f cc D:Addr}{q:Str}{pl go n:Nat}{ps:Arguments}{body:PE}{sc:Scope}{i:Int}{Q:PV→AH→Prop}(hg:v9 g)(kk:∀b o,g.h₀.get? b=some o→h'.get? b=some o)(hl:Mr τ pl go ps body sc)(ne:pl≠go)
  (hL:rW g pl q ps body sc h' f cc) (ic:h'.IsCell cc (some (.ref D))) (c0:g.h₀.get? cc=none) (w:SubL g (.obj D) (.int i) H Q):Cl (⟨g.w,h',g.os⟩:G τ) (n+1) (.obj f) [.int i] H Q:=Dy.cl fun A s v vs R S rv rl=>by
 cases rv
 obtain⟨v1,r1,rfl,⟨t,rfl⟩,rfl⟩:=rl
 obtain⟨pm,c',ctv,o,fs,t',k1,k2,k3,k4,k5⟩:=hL
 have k1':=S.keep _ _ k1
 obtain⟨oc,c1,c2⟩:=ic
 have un:∀b o,h'.get? b=some o→H b=none:=fun b o e=>by
  cases z:H b with
  |none=>rfl
  |some x=>exact nomatch e.symm.trans (S.fresh b (by rw [z];exact nofun))
 obtain⟨a,ea,rfl⟩:=hl.args
 have hb:=rO (fd:=kla_fn "<lambda>" q ⟨[],[a],none,[],[],none,[]⟩ body sc [(g.tab pl,cc)] pm (.ref c') ctv) (vs:=[.int i t]) rfl rfl (List.nodup_cons.mpr ⟨List.not_mem_nil,List.nodup_nil⟩) rfl
 refine kla_callFunE (by have:=R.depth;exact Mine.Internal.rm3 ‹_›) k1' rfl hl.co hl.gen rfl ⟨c',o,fs,t',rfl,S.keep _ _ k2,k4,k5⟩ ?_
 rw [hb]
 have S0:n8 g s H:=S.narrow kk
 refine wpAny_pure (wpAny_newFunctionEnv (fun x hx=>?_) (fun x hx=>?_) (fun h₁ hns hsb=>⟨?_,?_⟩) hl.kind)
 ·have hx:x∈sc.names:=hx
  rw [hl.names] at hx
  rcases List.mem_cons.mp hx with rfl|hx
  ·exact nofun
  ·rw [List.mem_singleton.mp hx];exact nofun
 ·obtain rfl:x=(a.arg,.int i t):=List.mem_singleton.mp hx
  show sc.names.lookup a.arg=_
  rw [hl.names,ea];exact iQ
 ·exact(hg.nolimit.keeps S0.keep).fresh _ hsb
 show codeAny _ _ (.expr body (envX q sc s.heap.objs.size f (.ref c') [(g.tab pl,cc)])) _ _
 have hk₁:∀b o,s.heap.get? b=some o→h₁.get? b=some o:=fun b o e=>hsb.extBut b o (Nat.ne_of_lt (Heap.lt_size e)) (Heap.get?_push_of_some _ e)
 have C0:Calm s.heap H h₁ H:=⟨fun b o e O O=>hk₁ b o e,fun O a b=>absurd a b,fun b o e=>⟨o,hk₁ b o e⟩,⟨fun b o O O e O O=>hk₁ b o e,fun b o O O e O O q=>⟨hk₁ b o e,q⟩,fun b o O e O O=>hk₁ b o e⟩⟩
 have S1:n8 g ({s with heap:=h₁,toks:=s.toks+1}:Shared) H:=⟨fun b o e=>hk₁ b o (S0.keep b o e),S0.fresh,fun a o e=>(S0.obj a o e).keeps C0.q9 fun x e=>hk₁ _ x e,S0.gens,S0.os⟩
 have kd:∀y,(envX q sc s.heap.objs.size f (.ref c') [(g.tab pl,cc)]).kindOf y=[(τ.tab go,NameKind.local),(τ.tab pl,.free)].lookup y:=fun y=>by
  show sc.names.lookup y=_
  rw [hl.names]
 have F:z9 g (envX q sc s.heap.objs.size f (.ref c') [(g.tab pl,cc)]) [(go,.int i),(pl,.obj D)] h₁ H:=
  Mt hl.kind rfl rfl kd (fun z=>ne (hg.inj _ _ z)) rfl hns (by show [(a.arg,Value.int i t)].lookup (g.tab go)=_;rw [ea];exact iQ) ⟨oc,hk₁ _ _ (S.keep _ _ c1),c2⟩ (S.off (Nat.le_refl _))
   (by
    cases z:g.h₀.get? s.heap.objs.size with
    |none=>rfl
    |some o=>exact absurd (Heap.lt_size (S0.keep _ o z)) (Nat.lt_irrefl _)) (un _ _ c1) c0
 obtain⟨p1,p2,p3,rfl⟩:=hl.body
 have R1:J5 n (A.deeper (envX q sc s.heap.objs.size f (.ref c') [(g.tab pl,cc)])):=⟨R.handled,by have:=R.depth;show A.depth+1+2*n<_;lia,by have:=R.units;show A.units+3+20*n+100<_;exact Mine.Internal.rm2 ‹_›⟩
 have ev:Ev g n (envX q sc s.heap.objs.size f (.ref c') [(g.tab pl,cc)]) [(go,.int i),(pl,.obj D)] H (.Subscript (.Name (τ.tab pl) p1) (.Name (τ.tab go) p2) p3) Q:=
  Ev.sub hg (Ev.loc (x:=pl) (p:=.obj D) hg (Hq ne) (Ev.loc (x:=go) (p:=.int i) hg iQ w))
 refine kla_codeExpr (wpAny_mono (ev _ _ R1 S1 F) (fun u s' z=>?_) fun O O z=>z.elim)
 obtain⟨p,H',r,S',c,z⟩:=z
 have cc:=C0.trans c
 exact⟨u,rfl,p,H',r,S.again S' cc,cc,z⟩
theorem at3{α β:Type}{h:Heap}{a:Addr}{x:Obj}{P:Obj→α→β→Prop}(z:∃o b c,h.get? a=some o∧P o b c)(e:h.get? a=some x)(k:∀b c,P x b c→False):False:=
 z.elim fun O z=>z.elim fun b z=>z.elim fun c z=>k b c (Option.some.inj (z.1.symm.trans e)▸z.2)
theorem jf.Ry{h:Heap}{a:Addr}{o:q7}{x:Obj}{vs:Array Value}(r:jf g h H a o)(e:h.get? a=some x)(c:x.cls = .type "code")(d:x.data = .fields vs):False:=by
 cases o with
 |list l=>cases r with|mk _ _ e1 _=>cases e.symm.trans e1;exact nomatch d
 |m6 l=>exact r.elim fun O z=>at3 z.1 e fun O O w=>nomatch d.symm.trans w.2.1
 |u0 l=>exact r.elim fun O z=>at3 z.1 e fun O O w=>nomatch d.symm.trans w.2.1
 |z6 l=>exact r.elim fun O z=>at3 z.1 e fun O O w=>nomatch d.symm.trans w.2.1
 |inst C dx=>cases e.symm.trans (show h.get? a=_ from r);exact nomatch d
 |code nm=>exact r.elim fun O z=>by cases e.symm.trans z.1;cases c
 |attrs l=>exact r.elim fun O z=>at3 z.1 e fun O O w=>nomatch d.symm.trans w.1
theorem rW.wide{pl:Nat}{q:Str}{ps:Arguments}{body:PE}{sc:Scope}{f cc:Addr}(S:n8 g s H)(h:rW g pl q ps body sc s.heap f cc)(nf:H f=none):rW (⟨g.w,jw s.heap H,g.os⟩:G τ) pl q ps body sc (jw s.heap H) f cc:=by
 obtain⟨pm,c',ctv,o,fs,t',k1,k2,k3,k4,k5⟩:=h
 refine⟨pm,c',ctv,o,fs,t',iM k1 nf,iM k2 ?_,k3,k4,k5⟩
 cases z:H c' with
 |none=>rfl
 |some o=>exact((S.obj _ _ z).Ry k2 k3 k4).elim
theorem aa4(f:Addr)(c:Value)(d:Option Addr)(fd:FuncData)(sl:Array (Option Value)):keepIn [(f,⟨c,d,.func fd,sl⟩)] (.ref f)=true:=by
 unfold keepIn;simp
theorem rW.plain{h':Heap}{w:World}{os:OsState}{pl:Nat}{q:Str}{ps:Arguments}{body:PE}{sc:Scope}{f cc:Addr}(h:rW (⟨w,h',os⟩:G τ) pl q ps body sc h' f cc):Plain (⟨w,h',os⟩:G τ) (.obj f):=fun M hp H v k r=>by
 cases r
 obtain⟨pm,c',ctv,o,fs,t',k1,_⟩:=h
 exact keeps_K (aa4 f _ _ _ _) hp fun a o e=>by
  rw [List.lookup_cons] at e
  cases z:a==f with
  |true=>rw [z] at e;cases e;rw [eq_of_beq z];exact k _ _ k1
  |false=>rw [z] at e;cases e
inductive Jt(g:G τ)(n:Nat)(tm pl ret:Nat)(P:Addr)(m:Loc)(H:AH)(Q:PV→AH→Prop):Prop
 |mk {t:PV} {D fr:Addr} (e1:m.lookup tm=some t) (e2:m.lookup pl=some (.obj D)) (e3:τ.glob ret=some (.obj fr)) (hP:∀ns c q,τ.lam ns=some (c,P,q)→H P=some (.code q))
   (h:∀g':G τ,v9 g'→∀f,Plain g' (.obj f)→(∀(k:Nat) (i:Int) (v:PV) (l:List (Int×PV)) (H':AH) (Q':PV→AH→Prop),1≤k→H' D=some (.m6 l)→g8 i l=some v→Q' v H'→Cl g' k (.obj f) [.int i] H' Q')→Cl g' n (.obj fr) [t,.obj f] H Q):Jt g n tm pl ret P m H Q
noncomputable def Xj:PE→Arg
 |.Lambda ps _ _ _=>ps.args.headD default
 |_=>default
noncomputable def Rz:PE→List (Str×Const)
 |.Lambda _ _ sc _=>sc.more
 |_=>[]
noncomputable def yj:PE→PE
 |.Lambda _ b _ _=>b
 |e=>e
noncomputable abbrev aa5(tab:Nat→Str)(go:Nat)(e:PE):Arguments:=⟨[],[{Xj e with arg:=tab go}],none,[],[],none,[]⟩
noncomputable abbrev am9(tab:Nat→Str)(pl go:Nat)(e:PE):PE:=.Subscript (.Name (tab pl) (kid (yj e) 0).pos) (.Name (tab go) (kid (yj e) 1).pos) (yj e).pos
noncomputable abbrev aa6(tab:Nat→Str)(pl go:Nat)(e:PE):Scope:=⟨.function,[(tab go,.local),(tab pl,.free)],false,false,Rz e⟩
noncomputable abbrev an0(tab:Nat→Str)(tm pl go ret:Nat)(e:PE):PE:=.Call (.Name (tab ret) (kid e 0).pos) [.Name (tab tm) (kid e 1).pos,.Lambda (aa5 tab go (kid e 2)) (am9 tab pl go (kid e 2)) (aa6 tab pl go (kid e 2)) (kid e 2).pos] [] e.pos
theorem Jt.ev{ns:Ns}{env:Env}{n:Nat}{m:Loc}{tm pl go ret:Nat}{P c:Addr}{q:Str}{ps:Arguments}{body:PE}{sc:Scope}{pos Xk p0 p1:Pos}{Q:PV→AH→Prop}(hg:v9 g)(he:lN τ ns env)(hk:Dz .globalImplicit ns (τ.tab ret)=true)(hc:Dz .cell ns (τ.tab pl)=true)(el:τ.lam ns=some (c,P,q))(hl:Mr τ pl go ps body sc)(ne:pl≠go)(hpl:ZP τ ret=true)
  (w:Jt g n tm pl ret P m H Q):Ev g n env m H (.Call (.Name (τ.tab ret) p0) [.Name (τ.tab tm) p1,.Lambda ps body sc pos] [] Xk) Q:=fun A s R S F=>by
 cases w with | @mk t D fr e1 e2 e3 hP h=>?_
 obtain⟨hcode,aa7⟩:=he.code _ el
 obtain⟨C,nP⟩:=hg.lam _ _ _ _ el
 have hP:=hP _ _ _ el
 show wpAny _ _ (eval (.Name (τ.tab ret) p0) env >>= fun v=>callWith Xk v [] (backTo Xk (starEach [.Name (τ.tab tm) p1,.Lambda ps body sc pos] env)) []) _ _ _
 refine wpAny_bind ((Ev.glob (Q:=fun p H'=>p = .obj fr∧H'=H) hg e3 (he.ok.look _ _ (U9 hk) nofun) ⟨rfl,rfl⟩).then R S F fun fv s0 p H0 r S0 c0 F0 z=>Z2.calm c0 ?_)
 obtain⟨rfl,rfl⟩:=z
 refine callWith_of (P:=fun hh => ∃H':AH,(∀b o,g.h₀.get? b=some o→hh.get? b=some o)∧Rep g.tab hh H' (.obj fr) fv) rfl (fun hh ⟨H',k,r⟩=>Ve hg e3 hpl _ hh H' fv k r) ?_
 refine evalArgs_plain ?_
 refine spliced_cons ((Ev.loc (Q:=fun p H'=>p=t∧H'=H0) hg e1 ⟨rfl,rfl⟩).then R S0 F0 fun v s1 p H1 r1 S1 c1 F1 z=>?_)
 obtain⟨rfl,rfl⟩:=z
 obtain⟨cc,vc,k1,k2,k3⟩:=F1.cell pl _ e2 (.inl (he.ok.look _ _ (U9 hc) nofun))
 cases k3
 refine spliced_cons (Ms hg S1 F1 hl hcode aa7 C nP hP k1 k2 fun s2 f S2 c2 nf hL ic=>?_)
 refine spliced_nil ⟨⟨_,S2.keep,r.keeps (c1.trans c2).q9⟩,Z2.calm (c1.trans c2) ?_⟩
 have un:H1 f=none:=by
  cases z:H1 f with
  |none=>rfl
  |some o=>obtain⟨x,hx⟩:=(S1.obj _ _ z).has;exact nomatch hx.symm.trans nf
 obtain⟨q1,q2,_⟩:=F1.cells _ _ k1
 have hw:=hL.wide S2 un
 obtain⟨oc,ic1,ic2⟩:=ic
 have kk:∀b o,g.h₀.get? b=some o→(jw s2.heap H1).get? b=some o:=fun b o e=>S2.base e
 refine wpAny_mono (h ⟨g.w,jw s2.heap H1,g.os⟩ (hg.grow kk) f hw.plain (fun k i v l H' Q' k1 k2 k3 k4=>?_) A s2 fv [v,.ref f] R S2.wide (r.keeps (c1.trans c2).q9) ⟨v,_,rfl,r1.keeps c2.q9,.ref f,[],rfl,rfl,rfl⟩) (fun u s' ⟨p,H',a,b,c,d⟩=>⟨p,H',a,b.narrow kk,c,d⟩) fun O O x=>x
 obtain⟨j,rfl⟩:∃j,k=j+1:=⟨k-1,by lia⟩
 refine Mu hg kk hl ne hw ⟨oc,iM ic1 q1,ic2⟩ q2 (.od k2 k3 k4)
end
noncomputable def Vh(o:Option (Addr×Addr×Str))(P:Addr):Bool:=match o with
 |some x=>Nat.beq x.2.1 P
 |none=>false
theorem Mv{o:Option (Addr×Addr×Str)}{P:Addr}(h:Vh o P=true):∃c q,o=some (c,P,q):=by
 cases o with
 |none=>cases h
 |some x=>obtain⟨c,P',q⟩:=x;cases Nat.eq_of_beq_eq_true h;exact⟨c,q,rfl⟩
noncomputable def RB(τ:T)(ns:Ns)(tm pl go ret:Nat)(P:Addr):Bool:=
 (Dz .globalImplicit ns (τ.tab ret)&&(Dz .cell ns (τ.tab pl)&&(!Nat.beq pl go&&ZP τ ret)))&&Vh (τ.lam ns) P
noncomputable def S.Mw(bl ap:Nat)(c:X)(tm pl go ret:Nat)(P:Addr):S:=
 ⟨fun tab s=>.Expr (.Call (.Attribute (.Name (tab bl) (kid (kid (G6 s 0) 0) 0).pos) (tab ap) (kid (G6 s 0) 0).pos) [.List [c.to tab (kid (kid (G6 s 0) 1) 0),an0 tab tm pl go ret (kid (kid (G6 s 0) 1) 1)] (kid (G6 s 0) 1).pos] [] (G6 s 0).pos) s.pos,fun τ ns s=>(Ri "list" (τ.tab ap) "list.append" && ((kid (G6 s 0) 0).pos.endLine==(G6 s 0).pos.line))&&(c.ok τ ns (kid (kid (G6 s 0) 1) 0)&&RB τ ns tm pl go ret P),fun g n m H Q=>lk (m.lookup bl) fun b=>qm H "list" b∧c.wE g n m H fun p H₁=>Jt g n tm pl ret P m H₁ fun r H₂=>Cl g n (.blt "list.append") [b,.lst [p,r]] H₂ fun O H₃=>Q .next m H₃,fun{τ g} hg O O O O O O s h he w=>(M4 w).elim fun b z=>by
  obtain⟨h1,h2⟩:=d9 h
  obtain⟨h1,h3⟩:=d9 h1
  obtain⟨h2,h4⟩:=d9 h2
  obtain⟨h4,h5⟩:=d9 h4
  obtain⟨a1,a2⟩:=d9 h4
  obtain⟨a2,a3⟩:=d9 a2
  obtain⟨a3,a4⟩:=d9 a3
  obtain⟨cc,q,el⟩:=Mv h5
  refine dZ.expr (by unfold interactive;rw [he.kind];rfl) rfl ?_
  refine Ev.K4 hg (fun O O=>rfl) (Vb h1) h3 (by show(1:Nat)<30;decide) (fun e he=>List.mem_singleton.mp he▸fun O O=>rfl) (Ev.loc hg z.1 ⟨z.2.1,pC.cons (fun O O=>rfl) (Ev.list (by show(2:Nat)≤_;rw [sizeLine_eq];decide) (pC.cons (c.sh _ _).plain ((c.sE hg _ h2 he.ok z.2.2).mono fun p H₁ w=>pC.cons (fun O O=>rfl) ?_)))⟩)
  exact(Jt.ev hg he a1 a2 el ⟨⟨_,rfl,rfl⟩,rfl,rfl,rfl,rfl,_,_,_,rfl⟩ (fun z=>by rw [z,Nat.beq_refl] at a3;cases a3) a4 w).mono fun r H₂ w=>pC.nil (pC.nil w)⟩
noncomputable def defOf(p:Program):List Nat→Option (Arguments×List Stmt×Scope)
 | [i]=>match p.main.body[i]? with
  |some (.FunctionDef _ a b _ _ _ sc _ _ _)=>some (a,b,sc)
  |_=>none
 | [i,j]=>match p.main.body[i]? with
  |some (.ClassDef _ _ _ cb _ _ _ _ _ _ _)=>match cb[j]? with
   |some (.FunctionDef _ a b _ _ _ sc _ _ _)=>some (a,b,sc)
   |_=>none
  |_=>none
 |_=>none
noncomputable def fnD(p:Program)(path:List Nat)(name qual:Str)(gl:Addr)(dflt doc pm code:Value)(bl:Addr):FuncData:=match defOf p path with
 |some (a,b,sc)=>⟨name,qual,a,.stmts b,sc,gl,[],dflt,.none,doc,pm,none,code,.none,bl⟩
 |none=>⟨name,qual,⟨[],[],none,[],[],none,[]⟩,.stmts [],⟨.function,[],false,false,[]⟩,gl,[],dflt,.none,doc,pm,none,code,.none,bl⟩
structure TD where
 prog:Program
 texts:List Str
 K:Frag
 wK:List (Nat×PV)
 Vi:List (Addr×List (Nat×PV))
 wL:List (Addr×List (Nat×Addr))
 wM:List (Addr×List (Nat×Addr))
 wN:List (Addr×Addr)
 Ju:List (Addr×List Nat)
 Xl:List (Addr×(List Nat×List Nat))
 Xm:List ((Nat×Nat)×Nat)
 Mx:Option (List Nat×Addr×Addr×Str)
noncomputable def tabOf(l:List Str)(i:Nat):Str:=(l[i]?).getD ⟨Array.replicate (i+1000) 1⟩
noncomputable def lk2{α:Type}(l:List (Addr×List (Nat×α))) (a:Addr) (x:Nat):Option α:=(l.lookup a).bind fun r=>r.lookup x
noncomputable def Xn:Data→Option FuncData
 |.func fd=>some fd
 |_=>none
noncomputable def oH(K:Frag)(a:Addr):Option FuncData:=(K.lookup a).bind fun o=>Xn o.data
noncomputable def TD.T(d:TD):T where
 prog:=d.prog
 tab:=tabOf d.texts
 K:=d.K
 glob:=fun x=>d.wK.lookup x
 u0:=lk2 d.Vi
 fld:=fun C x=>(d.Ju.lookup C).any fun r=>r.elem x
 meth:=lk2 d.wL
 rC:=lk2 d.wM
 init:=fun x=>d.wN.lookup x
 fn:=fun a=>(d.Xl.lookup a).bind fun q=>(oH d.K a).map fun fd=>⟨fd,q.2⟩
 cat:=fun a b=>d.Xm.lookup (a,b)
 lam:=fun ns=>d.Mx.bind fun r=>(defOf d.prog r.1).bind fun x=>if x.2.2.names=ns then some r.2 else none
noncomputable def Mz(i:Int):Value→Bool
 |.int j _=>decide (i=j)
 |_=>false
noncomputable def MF(x:Str):Value→Bool
 |.str y _=>decide (y=x)
 |_=>false
noncomputable def Vj(f:List Value→Bool):Data→Bool
 |.seq vs _=>f vs.toList
 |_=>false
noncomputable def MJ(K:Frag)(f:List Value→Bool):Value→Bool
 |.ref a=>@Option.rec Obj (fun O=>Bool) false (fun o=>decide (o.cls = .type "tuple")&&o.dict.isNone&&(o.slots.size==0)&&Vj f o.data) (K.lookup a)
 |_=>false
theorem MK{i:Int}:∀{v:Value},Mz i v=true→∃t,v = .int i t:=fun{v} e=>by
 cases v with
 |int j t=>exact⟨t,by rw [of_decide_eq_true e]⟩
 |_=>exact nomatch (show false=true from e)
theorem MN{i:Str}:∀{v:Value},MF i v=true→∃t,v = .str i t:=fun{v} e=>by
 cases v with
 |str j t=>exact⟨t,by rw [← of_decide_eq_true e]⟩
 |_=>exact nomatch (show false=true from e)
theorem MP{K:Frag}{f:List Value→Bool}{h:Heap}{R:List Value→Prop}(X:K.In h)(z:∀vs,f vs=true→R vs){v:Value}(e:MJ K f v=true):Zb h v R:=by
 cases v with
 |ref a=>
  have e:@Option.rec Obj (fun O=>Bool) false (fun o=>decide (o.cls = .type "tuple")&&o.dict.isNone&&(o.slots.size==0)&&Vj f o.data) (K.lookup a)=true:=e
  cases q:K.lookup a with
  |none=>rw [q] at e;cases e
  |some o=>
   rw [q] at e
   obtain⟨c,d,t,s⟩:=o
   have e:=Bool.and_eq_true_iff.mp e
   have e':=Bool.and_eq_true_iff.mp e.1
   have e'':=Bool.and_eq_true_iff.mp e'.1
   cases t with
   |seq vs n=>
    refine⟨a,vs.toList,n,rfl,?_,z _ e.2⟩
    have e1:c = .type "tuple" := of_decide_eq_true e''.1
    have e2:d=none:=Option.isNone_iff_eq_none.mp e''.2
    have e3:s = #[]:=Array.eq_empty_of_size_eq_zero (of_decide_eq_true e'.2)
    rw [X _ _ q,e1,e2,e3]
   |_=>exact nomatch (show false=true from e.2)
 |_=>exact nomatch (show false=true from e)
noncomputable def Bm(tab:Nat→Str)(K:Frag):PV→Value→Bool:=PV.rec (motive_1:=fun O=>Value→Bool) (motive_2:=fun O=>List Value→Bool)
 (fun v=>decide (v = .none)) (fun b v=>decide (v = .bool b)) Mz (fun n=>MF (tab n)) (fun O f=>MJ K f) (fun O O O=>false) (fun a v=>decide (v = .ref a)) (fun n v=>decide (v = .builtin n)&&handedIn (.builtin n)) (fun n v=>decide (v = .type n)) (fun O O O=>false)
 List.isEmpty fun O O=>KN
noncomputable def Nb(tab:Nat→Str)(K:Frag):List PV→List Value→Bool:=PV.rec_1 (motive_1:=fun O=>Value→Bool) (motive_2:=fun O=>List Value→Bool)
 (fun v=>decide (v = .none)) (fun b v=>decide (v = .bool b)) Mz (fun n=>MF (tab n)) (fun O f=>MJ K f) (fun O O O=>false) (fun a v=>decide (v = .ref a)) (fun n v=>decide (v = .builtin n)&&handedIn (.builtin n)) (fun n v=>decide (v = .type n)) (fun O O O=>false)
 List.isEmpty fun O O=>KN
section
variable{tab:Nat→Str}{K:Frag}{h:Heap}{H:AH}
theorem Hr(vs:List Value)(e:vs.isEmpty=true):m8 tab h H [] vs:=List.isEmpty_iff.mp e
theorem Bo{p:PV}{l:List PV}{f:Value→Bool}{g:List Value→Bool}(x:∀v,f v=true→Rep tab h H p v)(y:∀vs,g vs=true→m8 tab h H l vs)(vs:List Value)(e:KN f g vs=true):m8 tab h H (p::l) vs:=by
 cases vs with
 |nil=>cases e
 |cons v vs=>exact⟨v,vs,rfl,x v (Bool.and_eq_true_iff.mp e).1,y vs (Bool.and_eq_true_iff.mp e).2⟩
noncomputable abbrev aa8(tab:Nat→Str)(K:Frag)(h:Heap)(H:AH)(p:PV):Prop := ∀v,Bm tab K p v=true→Rep tab h H p v
noncomputable abbrev aa9(tab:Nat→Str)(K:Frag)(h:Heap)(H:AH)(l:List PV):Prop := ∀vs,Nb tab K l vs=true→m8 tab h H l vs
theorem Hs(X:K.In h):∀p,aa8 tab K h H p:=
 PV.rec (motive_1:=aa8 tab K h H) (motive_2:=aa9 tab K h H)
  (fun v e=>of_decide_eq_true (p:=v = .none) e) (fun b v e=>of_decide_eq_true (p:=v = .bool b) e) (fun O O e=>MK e) (fun O O e=>MN e) (fun O z O e=>MP X z e) (fun O O O e=>nomatch (show false=true from e)) (fun a v e=>of_decide_eq_true (p:=v = .ref a) e)
  (fun n v e=>⟨of_decide_eq_true (p:=v = .builtin n) (Bool.and_eq_true_iff.mp e).1,(Bool.and_eq_true_iff.mp e).2⟩) (fun n v e=>of_decide_eq_true (p:=v = .type n) e) (fun O O O e=>nomatch (show false=true from e)) Hr fun O O x y=>Bo x y
theorem Eu(X:K.In h){p:PV}{v:Value}(e:Bm tab K p v=true):Rep tab h H p v:=Hs X p v e
theorem RD(X:K.In h){l:List PV}:aa9 tab K h H l:=by
 induction l with
 |nil=>exact Hr
 |cons p l ih=>exact Bo (Hs X p) ih
end
theorem mem_lookup{α:Type}{x:Nat}{p:α}:∀{l:List (Nat×α)},l.lookup x=some p→(x,p)∈l
 | [],e=>nomatch e
 | (y,q)::l,e=>by
  rw [List.lookup_cons] at e
  cases h:x==y with
  |true=>
   rw [h] at e
   cases e
   rw [beq_iff_eq.mp h]
   exact .head _
  |false=>
   rw [h] at e
   exact .tail _ (mem_lookup e)
theorem yp{α:Type}{a:Addr}{x:Nat}{p:α}{l:List (Addr×List (Nat×α))} (e:lk2 l a x=some p):∃r,(a,r)∈l∧(x,p)∈r:=by
 obtain⟨r,h,e⟩:=Option.bind_eq_some_iff.mp e
 exact⟨r,mem_lookup h,mem_lookup e⟩
noncomputable def qT(l:List Str):Bool:=l.all (fun x=>PySem.PyData.strOk x && !(x==("__debug__" : Str)) && !(x==("__classdict__" : Str))&&decide (x.cps.size<1000))
noncomputable def nameB(tab:Nat→Str)(K:Frag)(q:Nat×PV)(v:Value):Bool:=Bm tab K q.2 v && !(tab q.1==("__name__" : Str))
noncomputable def nameV(tab:Nat→Str)(K:Frag)(q:Nat×PV)(o:Option Value):Bool:=@Option.rec Value (fun O=>Bool) ((bootBuiltins (tab q.1)).any (nameB tab K q)) (Bm tab K q.2) o
noncomputable def Ew(tab:Nat→Str)(K:Frag)(q:Nat×PV):Bool:=(nsIn K mainGlobals (tab q.1)).any (nameV tab K q)
noncomputable def Nf(tab:Nat→Str)(K:Frag)(q:Addr×List Nat):Bool:=hasDictIn K q.1&&plainOver K q.1&&findIn K (.ref q.1) "__setattr__" == some (some (.builtin "object.__setattr__"))&&plainGet K q.1 "" && q.2.all fun x=>findIn K (.ref q.1) (tab x)==some none
noncomputable def Ey(tab:Nat→Str)(K:Frag)(q:Addr×List (Nat×Addr)):Bool:=plainGet K q.1 "" && q.2.all fun x=>findIn K (.ref q.1) (tab x.1)==some (some (.ref x.2))&&isFn K (.ref x.2)&&keepIn K (.ref x.2)
noncomputable def Ng(K:Frag)(a:Addr):Bool:=(oH K a).any fun fd=>keepIn K (.ref a)&&codeIn K fd.code fd.qualname
noncomputable def ab0(f:Addr):Option CFound→Bool
 |some (.val v)=>decide (v = .ref f)
 |_=>false
theorem RG{f:Addr}{o:Option CFound}(h:ab0 f o=true):o=some (.val (.ref f)):=by
 cases o with
 |none=>exact nomatch (show false=true from h)
 |some c=>cases c<;>first|exact nomatch (show false=true from h)|exact congrArg (fun v=>some (CFound.val v)) (of_decide_eq_true h)
noncomputable def Ez(tab:Nat→Str)(K:Frag)(q:Addr×List (Nat×Addr)):Bool:=specialIn K (.ref q.1) "__getattribute__" == some (some (.builtin "type.__getattribute__"))&&readsIn K q.1 (.type "type")&&q.2.all fun x=>ab0 x.2 (findCls K (.ref q.1) (.type "type") (tab x.1))&&keepIn K (.ref x.2)
noncomputable def EY(K:Frag)(q:Addr×Addr):Bool:=makesIn K q.1&&findIn K (.ref q.1) "__init__" == some (some (.ref q.2))&&isFn K (.ref q.2)&&keepIn K (.ref q.1)
noncomputable def Xo(tab:Nat→Str)(K:Frag)(q:Addr×List (Nat×PV)):Bool:=q.2.all fun x=>(nsIn K q.1 (tab x.1)).any fun o=>o.any (Bm tab K x.2)
noncomputable def Xp(K:Frag)(a:Addr):Bool:=(K.lookup a).isSome
noncomputable def Ht(d:TD):Bool:=match d.Mx with
 |some (_,c,P,_)=>codeHdIn d.K c P && !Nat.beq P mainGlobals
 |none=>true
theorem Nh{d:TD}{ns:List (Str×NameKind)}{c P:Addr}{q:Str}(e:d.T.lam ns=some (c,P,q)):∃path,d.Mx=some (path,c,P,q):=by
 obtain⟨⟨path,r⟩,h,e⟩:=Option.bind_eq_some_iff.mp e
 obtain⟨x,h2,e⟩:=Option.bind_eq_some_iff.mp e
 exact⟨path,(aN e).2▸h⟩
noncomputable def TD.ok(d:TD):Bool:=let tab:=tabOf d.texts
 d.wK.all (Ew tab d.K)&&d.Ju.all (Nf tab d.K)&&d.wL.all (Ey tab d.K)&&d.Xl.all (fun q=>Ng d.K q.1)&&d.wM.all (Ez tab d.K)&&d.wN.all (EY d.K)&&d.Vi.all (Xo tab d.K)&&Xp d.K sysModules&&Ht d
theorem lO{l:List Str}{i:Nat}(h:i<l.length):tabOf l i=l[i]:=by unfold tabOf;rw [List.getElem?_eq_getElem h];rfl
theorem gK{l:List Str}{i:Nat}(h:¬i<l.length):tabOf l i=⟨Array.replicate (i+1000) 1⟩:=by unfold tabOf;rw [List.getElem?_eq_none (by exact Nat.le_of_not_lt ‹_›)];rfl
theorem jR{l:List Str}(h:qT l=true)(i:Nat):PySem.PyData.strOk (tabOf l i)=true∧(tabOf l i==("__debug__" : Str))=false∧(tabOf l i==("__classdict__" : Str))=false:=by
 by_cases q:i<l.length
 ·rw [lO q]
  have:=List.all_eq_true.mp h _ (List.getElem_mem q)
  simp only [Bool.and_eq_true,Bool.not_eq_true',decide_eq_true_eq] at this
  exact⟨this.1.1.1,this.1.1.2,this.1.2⟩
 ·rw [gK q]
  refine⟨?_,?_,?_⟩
  ·unfold PySem.PyData.strOk
   rw [Array.all_eq_true]
   intro j hj
   simp
  ·rw [beq_eq_false_iff_ne]
   intro e
   have:=congrArg (fun x:Str=>x.cps.size) e
   simp only [Array.size_replicate] at this
   have k:("__debug__" : Str).cps.size=9:=by decide +kernel
   lia
  ·rw [beq_eq_false_iff_ne]
   intro e
   have:=congrArg (fun x:Str=>x.cps.size) e
   simp only [Array.size_replicate] at this
   have k:("__classdict__" : Str).cps.size=13:=by decide +kernel
   lia
theorem Jv{l:List Str}(h:qT l=true)(nd:l.Nodup)(i j:Nat)(e:tabOf l i=tabOf l j):i=j:=by
 have sz:∀k,k<l.length→(tabOf l k).cps.size<1000:=fun k q=>by
  rw [lO q]
  have:=List.all_eq_true.mp h _ (List.getElem_mem q)
  simp only [Bool.and_eq_true,decide_eq_true_eq] at this
  exact this.2
 by_cases q:i<l.length<;>by_cases q':j<l.length
 ·rw [lO q,lO q'] at e
  exact(List.getElem_inj nd).mp e
 ·have:=sz i q
  rw [e,gK q',Array.size_replicate] at this
  lia
 ·have:=sz j q'
  rw [← e,gK q,Array.size_replicate] at this
  lia
 ·rw [gK q,gK q'] at e
  have:=congrArg (fun x:Str=>x.cps.size) e
  simp only [Array.size_replicate] at this
  lia
theorem any_some{α:Type}{o:Option α}{f:α→Bool}(h:o.any f=true):∃x,o=some x∧f x=true:=by
 cases o with
 |none=>cases h
 |some x=>exact⟨x,rfl,h⟩
theorem Vl{d:TD}{f:Addr}{x:Fn}(e:d.T.fn f=some x):∃path,(f,path,x.ps)∈d.Xl∧oH d.K f=some x.fd:=by
 obtain⟨⟨path,ps⟩,h1,e⟩:=Option.bind_eq_some_iff.mp e
 obtain⟨fd,h2,rfl⟩:=Option.map_eq_some_iff.mp e
 exact⟨path,mem_lookup h1,h2⟩
theorem Bp{K:Frag}{a:Addr}{fd:FuncData}(e:oH K a=some fd):∃oc od osl,K.lookup a=some ⟨oc,od,.func fd,osl⟩:=by
 obtain⟨⟨oc,od,dt,osl⟩,h,e⟩:=Option.bind_eq_some_iff.mp e
 cases dt<;>first|exact nomatch (show none=some fd from e)|(cases e;exact⟨_,_,_,h⟩)
structure Base(mg mb:Str→Option Value)(h:Heap):Prop where
 g:h.Ns mainGlobals mg
 b:h.Ns builtinsNs mb
 nolimit:h.NoLimit
 builtins:∀x:Str,x≠"__name__"→mb x=bootBuiltins x
 bmain:∃bm ob,mg "__builtins__" = some (.ref bm)∧bm≠builtinsNs∧h.get? bm=some ob∧ob.cls = .type "module"∧ob.dict=some builtinsNs∧ob.data = .plain
theorem v9.of{d:TD}{g:G d.T}{mg mb:Str→Option Value}(h:d.ok=true)(ht:qT d.texts=true)(nd:d.texts.Nodup)
  (X:d.K.In g.h₀) (T:Base mg mb g.h₀) (hsd:∀q∈d.Vi,∃es n,d.K.lookup q.1=some ⟨.type "dict",none,.dict es n,#[]⟩∧KeysLit g.w.params es.toList):v9 g:=by
 have h':=h
 simp only [TD.ok,Bool.and_eq_true] at h'
 obtain⟨⟨⟨⟨⟨⟨⟨⟨h1,h2⟩,h3⟩,h4⟩,h5⟩,h6⟩,h7⟩,h8⟩,h9⟩:=h'
 refine{
  inj:=Jv ht nd
  Zc:=fun i=>(jR ht i).2.1
  X:=X
  nolimit:=T.nolimit
  names:=⟨mg,mb,T.g,T.b,fun x p e=>?_⟩
  mods:=?_
  bm:=⟨mg,T.g,fun P hP=>?_⟩
  lam:=fun ns c P q e=>?_
  aL:=fun i=>(jR ht i).1
  Gy:=fun i=>(jR ht i).2.2
  fld:=fun C x e=>?_
  meth:=fun C x f e=>?_
  fn:=fun f x e=>?_
  rC:=fun C x f e=>?_
  sd:=fun a x p e=>?_
  init:=fun C f e=>?_}
 ·have k:=List.all_eq_true.mp h1 _ (mem_lookup e)
  obtain⟨o,hv,k⟩:=any_some k
  cases o with
  |some v=>exact⟨v,.inl (mg_of X T.g hv),Eu X k⟩
  |none=>
   obtain⟨v,hb,k⟩:=any_some k
   exact⟨v,.inr ⟨mg_none_of X T.g hv,(T.builtins _ (beq_eq_false_iff_ne.mp ((Bool.not_eq_true' _).mp (d9 k).2))).trans hb⟩,Eu X (d9 k).1⟩
 ·obtain⟨o,e⟩:=Option.isSome_iff_exists.mp h8
  rw [X _ _ e];simp
 ·obtain⟨bm,ob,b1,b2,b3,b4,b5,b6⟩:=T.bmain
  refine⟨bm,ob,b1,b2,fun q=>?_,fun q=>hP ob (q▸b3),b3,b4,b5,b6⟩
  obtain⟨o,es,ep,e,hd,_⟩:=T.g
  rw [q,e] at b3;cases b3;rw [hd] at b6;cases b6
 ·obtain⟨path,e⟩:=Nh e
  unfold Ht at h9
  rw [e] at h9
  obtain⟨k1,k2⟩:=d9 h9
  exact⟨codeHd_of_K X k1,fun z=>by subst z;rw [Nat.beq_refl] at k2;cases k2⟩
 ·obtain⟨r,hr,e'⟩:=any_some e
  obtain⟨k,k5⟩:=d9 (List.all_eq_true.mp h2 _ (mem_lookup hr))
  obtain⟨k,k4⟩:=d9 k
  obtain⟨k,k3⟩:=d9 k
  exact⟨k4,(d9 k).1,beq_iff_eq.mp (List.all_eq_true.mp k5 x (List.elem_iff.mp e')),(d9 k).2,beq_iff_eq.mp k3⟩
 ·obtain⟨r,m1,m2⟩:=yp e
  have k:=d9 (List.all_eq_true.mp h3 _ m1)
  have k6:=d9 (List.all_eq_true.mp k.2 _ m2)
  exact⟨k.1,beq_iff_eq.mp (d9 k6.1).1,(d9 k6.1).2,k6.2⟩
 ·obtain⟨path,m1,m2⟩:=Vl e
  obtain⟨fd,k0,k⟩:=any_some (List.all_eq_true.mp h4 _ m1)
  cases Option.some.inj (k0.symm.trans m2)
  obtain⟨oc,od,osl,e1⟩:=Bp m2
  exact⟨oc,od,osl,e1,(d9 k).1,(d9 k).2⟩
 ·obtain⟨r,m1,m2⟩:=yp e
  obtain⟨k,k3⟩:=d9 (List.all_eq_true.mp h5 _ m1)
  obtain⟨k7,k8⟩:=d9 (List.all_eq_true.mp k3 _ m2)
  exact⟨_,beq_iff_eq.mp (d9 k).1,(d9 k).2,RG k7,k8⟩
 ·obtain⟨r,m1,m2⟩:=yp e
  obtain⟨o,hv,k⟩:=any_some (List.all_eq_true.mp (List.all_eq_true.mp h7 _ m1) _ m2)
  obtain⟨v,rfl,k⟩:=any_some k
  obtain⟨es,n,q1,q2⟩:=hsd _ m1
  exact⟨_,v,mapOf_K (prog:=g.prog) X q1 q2,find_K q1 hv,Eu X k⟩
 ·have k:=List.all_eq_true.mp h6 _ (mem_lookup e)
  have k:=d9 k
  have k1:=d9 k.1
  exact⟨(d9 k1.1).1,beq_iff_eq.mp (d9 k1.1).2,k1.2,k.2⟩
inductive aU(τ:T)(f:Addr)(ps:List Nat)(body:List S):Prop
 |mk (fd:FuncData) (x:List Stmt) (e:τ.fn f=some ⟨fd,ps⟩) (hb:fd.body = .stmts (rR τ.tab body x)) (hc:fd.closure=[]) (h1:fd.scope.isCoroutine=false) (h2:fd.scope.isGenerator=false) (h3:fd.scope.kind = .function) (h4:fd.globals=mainGlobals) (h5:fd.builtins=builtinsNs) (nd:ps.Nodup)
   (hk:∀x∈ps,Jq fd.scope.names (τ.tab x)=true) (ok:Bc τ fd.scope.names body x=true) (p1:fd.params.posonlyargs=[]) (p2:fd.params.vararg=none) (p3:fd.params.kwonlyargs=[]) (p4:fd.params.kwarg=none) (p5:fd.params.args.map (·.arg)=ps.map τ.tab) (lm:∀c,τ.lam fd.scope.names=some c→fd.code = .ref c.1∧fd.qualname ++ ".<locals>." ++ "<lambda>" = c.2.2):aU τ f ps body
noncomputable def yq(fd:FuncData):List Stmt:=match fd.body with
 |.stmts ss=>ss
 |_=>[]
noncomputable def Fb(d:TD)(f:Addr):Option FuncBody:=(d.T.fn f).map fun x=>x.fd.body
noncomputable def readAt(d:TD)(f:Addr)(body:List S):Option FuncBody:=(d.T.fn f).map fun x=>.stmts (rR d.T.tab body (yq x.fd))
noncomputable def Vm(o:Option (Addr×Addr×Str))(v:Value)(q:Str):Bool:=match o with
 |some c=>match v with
  |.ref a=>Nat.beq a c.1&&decide (q ++ ".<locals>." ++ "<lambda>" = c.2.2)
  |_=>false
 |none=>true
theorem Ni{o:Option (Addr×Addr×Str)}{v:Value}{q:Str}(h:Vm o v q=true):∀c,o=some c→v = .ref c.1∧q ++ ".<locals>." ++ "<lambda>" = c.2.2:=by
 rintro c rfl
 cases v<;>first|exact⟨congrArg Value.ref (Nat.eq_of_beq_eq_true (d9 h).1),of_decide_eq_true (d9 h).2⟩|exact nomatch (show false=true from h)
noncomputable def Nj(d:TD)(f:Addr)(ps:List Nat)(body:List S):Bool:=match d.T.fn f with
 |some ⟨fd,qs⟩=>Vm (d.T.lam fd.scope.names) fd.code fd.qualname&&(decide (qs=ps)&&(fd.closure.isEmpty&&(!fd.scope.isCoroutine&&(!fd.scope.isGenerator&&(decide (fd.scope.kind = .function)&&(decide (fd.globals=mainGlobals)&&(decide (fd.builtins=builtinsNs)&&(decide ps.Nodup &&
   (ps.all (fun x=>Jq fd.scope.names (d.T.tab x))&&(Bc d.T fd.scope.names body (yq fd)&&(fd.params.posonlyargs.isEmpty&&(fd.params.vararg.isNone&&(fd.params.kwonlyargs.isEmpty&&(fd.params.kwarg.isNone&&decide (fd.params.args.map (·.arg)=ps.map d.T.tab)))))))))))))))
 |none=>false
theorem aU.of{d:TD}{f:Addr}{ps:List Nat}{body:List S}(h:Nj d f ps body=true)(hb:Fb d f=readAt d f body):aU d.T f ps body:=by
 unfold Nj at h
 cases e:d.T.fn f with
 |none=>rw [e] at h;cases h
 |some x=>
  obtain⟨fd,qs⟩:=x
  rw [e] at h
  have hb:some fd.body=some (.stmts (rR d.T.tab body (yq fd))):=by rw [Fb,readAt,e] at hb;exact hb
  obtain⟨a0,h⟩:=d9 h
  obtain⟨a1,h⟩:=d9 h
  obtain⟨a2,h⟩:=d9 h
  obtain⟨a3,h⟩:=d9 h
  obtain⟨a4,h⟩:=d9 h
  obtain⟨a5,h⟩:=d9 h
  obtain⟨a6,h⟩:=d9 h
  obtain⟨a7,h⟩:=d9 h
  obtain⟨a8,h⟩:=d9 h
  obtain⟨a9,h⟩:=d9 h
  obtain⟨b1,h⟩:=d9 h
  obtain⟨b2,h⟩:=d9 h
  obtain⟨b3,h⟩:=d9 h
  obtain⟨b4,h⟩:=d9 h
  obtain⟨b5,b6⟩:=d9 h
  cases of_decide_eq_true a1
  exact⟨fd,_,e,Option.some.inj hb,List.isEmpty_iff.mp a2,(Bool.not_eq_true' _).mp a3,(Bool.not_eq_true' _).mp a4,of_decide_eq_true a5,of_decide_eq_true a6,of_decide_eq_true a7,of_decide_eq_true a8,List.all_eq_true.mp a9,b1,List.isEmpty_iff.mp b2,Option.isNone_iff_eq_none.mp b3,List.isEmpty_iff.mp b4,Option.isNone_iff_eq_none.mp b5,of_decide_eq_true b6,Ni a0⟩
noncomputable def codeS(s:Str):Nat:=s.cps.toList.foldl (fun a c=>a*1114112+c) 1
noncomputable def yr:List Nat→Bool
 | []=>true
 |x::l=>l.all (fun y => !Nat.beq x y)&&yr l
theorem wO:∀{l:List Nat},yr l=true→l.Nodup
 | [],_=>.nil
 |x::l,h=>by
  obtain⟨h1,h2⟩:=d9 (show(l.all (fun y => !Nat.beq x y)&&yr l)=true from h)
  exact List.nodup_cons.mpr ⟨fun m=>Nat.ne_of_beq_eq_false ((Bool.not_eq_true' _).mp (List.all_eq_true.mp h1 x m)) rfl,wO h2⟩
theorem Fd{l:List Str}(h:yr (l.map codeS)=true):l.Nodup:=
 (List.pairwise_map.mp (wO h)).imp fun ne e=>ne (congrArg codeS e)
theorem Jw{α β:Type}{f:α→β}(inj:∀a b,f a=f b→a=b){l:List α}(h:l.Nodup):(l.map f).Nodup:=List.Pairwise.map f (fun a b ne e=>ne (inj _ _ e)) h
noncomputable def jT(τ:T)(f:Addr)(k:Nat)(ds:List PV):Prop := ∀(g:G τ),v9 g→∀fd ps,τ.fn f=some ⟨fd,ps⟩→∀(s:Shared) (H:AH) (vs:List Value),n8 g s H→vs.length=k→∃ws,m8 τ.tab s.heap H ds ws∧BindsTo s fd ⟨vs,[]⟩ ((ps.map τ.tab).zip (vs++ws))
section
variable{τ:T}{g:G τ}{n:Nat}{f:Addr}{ps:List Nat}{body:List S}{H:AH}{Q:PV→AH→Prop}
theorem ab1{q:Arguments}(p1:q.posonlyargs=[])(p2:q.vararg=none)(p3:q.kwonlyargs=[])(p4:q.kwarg=none):q=⟨[],q.args,none,[],q.kw_defaults,none,q.defaults⟩:=by
 cases q
 cases p1
 cases p2
 cases p3
 cases p4
 rfl
theorem aU.Vn{l l':List PV}(o:aU τ f ps body)(hg:v9 g)(hl:l'.length≤ps.length)(hd:∀fd,τ.fn f=some ⟨fd,ps⟩→fd.params=⟨[],fd.params.args,none,[],fd.params.kw_defaults,none,fd.params.defaults⟩→fd.params.args.map (·.arg)=ps.map τ.tab→ps.Nodup→∀s vs,n8 g s H→m8 τ.tab s.heap H l vs→∃vs',m8 τ.tab s.heap H l' vs'∧BindsTo s fd ⟨vs,[]⟩ ((ps.map τ.tab).zip vs'))
  (h:I9 g n body (ps.zip l') H (Ac Q)):Dy g (n+1) (.obj f) l H Q:=by
 cases o with
 |mk fd x e hb hc h1 h2 h3 h4 h5 nd hk ok p1 p2 p3 p4 p5 lm=>
  have z:fd.params=⟨[],fd.params.args,none,[],fd.params.kw_defaults,none,fd.params.defaults⟩:=ab1 p1 p2 p3 p4
  exact Dy.body (ps:=ps) (l':=l') hg e hb hc h1 h2 h3 h4 h5 nd (fun x hx=>Hh (hk x hx)) hl (hd fd e z p5 nd) fun env he hc hq=>Bf hg ⟨by rw [he];exact h3,by rw [he],fun c e=>⟨hc.trans (lm c e).1,by rw [hq];exact(lm c e).2⟩⟩ body x ok h
theorem aU.call{l:List PV}(o:aU τ f ps body)(hg:v9 g)(hd:∀fd ps,τ.fn f=some ⟨fd,ps⟩→fd.defaults = .none)(hl:l.length=ps.length)(h:I9 g n body (ps.zip l) H (Ac Q)):Dy g (n+1) (.obj f) l H Q:=
 o.Vn hg (Nat.le_of_eq hl) (fun fd e z p5 nd s vs S r=>⟨vs,r,by
  have k:=rO (vs:=vs) z (hd fd ps e) (by rw [p5];exact Jw hg.inj nd) (by have:=congrArg List.length p5;rw [List.length_map,List.length_map] at this;rw [r.length,hl,this])
  rw [p5] at k
  exact BindsTo.of_eq k⟩) h
theorem aU.Vo{l ds:List PV}(o:aU τ f ps body)(hg:v9 g)(hd:jT τ f l.length ds)(hl:l.length+ds.length=ps.length)(h:I9 g n body (ps.zip (l++ds)) H (Ac Q)):Dy g (n+1) (.obj f) l H Q:=
 o.Vn hg (by rw [List.length_append];exact Nat.le_of_eq hl) (fun fd e O O O s vs S r=>(hd g hg fd ps e s H vs S r.length).elim fun ws k=>⟨vs++ws,r.append k.1,k.2⟩) h
structure n7(τ:T)(f:Addr)(ps:List Nat)(body:List S):Prop where
 ok:aU τ f ps body
 nd:∀fd ps,τ.fn f=some ⟨fd,ps⟩→fd.defaults = .none
theorem n7.call{l:List PV}(o:n7 τ f ps body)(hg:v9 g)(hl:l.length=ps.length)(h:I9 g n body (ps.zip l) H (Ac Q)):Dy g (n+1) (.obj f) l H Q:=o.ok.call hg o.nd hl h
end
noncomputable def Vp(d:TD)(f:Addr):Bool:=match oH d.K f with
 |some fd=>match fd.defaults with
  |.none=>true
  |_=>false
 |none=>false
theorem n7.of{d:TD}{f:Addr}{ps:List Nat}{body:List S}(h:Nj d f ps body=true)(hb:Fb d f=readAt d f body)(hn:Vp d f=true):n7 d.T f ps body:=
 ⟨aU.of h hb,fun fd ps e=>by
  obtain⟨_,_,q⟩:=Vl e
  unfold Vp at hn
  rw [show oH d.K f=some fd from q] at hn
  dsimp only at hn
  generalize fd.defaults=v at hn ⊢
  cases v<;>first|rfl|exact nomatch (show false=true from hn)⟩
theorem jT.of{d:TD}{f:Addr}{ps:List Nat}{fd:FuncData}{k:Nat}{ds:List PV}(hf:d.T.fn f=some ⟨fd,ps⟩)(ws:List Value)(hr:Nb (tabOf d.texts) d.K ds ws=true)
  (hb:∀vs:List Value,vs.length=k→∀S,peek d.K S (bindArgs fd ⟨vs,[]⟩)=some ((ps.map (tabOf d.texts)).zip (vs++ws))):jT d.T f k ds:=fun g hg fd' ps' e s H vs S hl=>by
 rw [hf] at e
 cases e
 have X:d.K.In s.heap:=hg.X.keeps S.keep
 exact⟨ws,RD X _ hr,kp_binds X (hb vs hl)⟩
section
variable{τ:T}{g:G τ}{n k:Nat}{m:Loc}{H:AH}{Q:PV→AH→Prop}{C:Bool→Prop}
theorem leB{j k n:Nat}(h:k≤n)(e:Nat.ble j k=true):j≤n:=Nat.le_trans (Nat.le_of_ble_eq_true e) h
theorem aj{k:Nat}(h:Nat.ble k 16777216=true):k≤sizeLine:=by rw [sizeLine_eq];exact Nat.le_of_ble_eq_true h
theorem n7.YT{f:Addr}{ps:List Nat}{body:List S}{l:List PV}(o:n7 τ f ps body)(hg:v9 g)(hl:l.length=ps.length)(hn:k+1≤n)(h:∀n,k≤n→I9 g n body (ps.zip l) H (Ac Q)):Dy g n (.obj f) l H Q:=by
 cases n with
 |zero=>exact absurd hn (Nat.not_succ_le_zero k)
 |succ n=>exact o.call hg hl (h n (Nat.le_of_succ_le_succ hn))
theorem n7.cl{f:Addr}{ps:List Nat}{body:List S}{l:List PV}(o:n7 τ f ps body)(hg:v9 g)(hl:l.length=ps.length)(hn:k+1≤n)(h:∀n,k≤n→I9 g n body (ps.zip l) H (Ac Q)):Cl g n (.obj f) l H Q:=(o.YT hg hl hn h).cl
theorem aU.clD{f:Addr}{ps:List Nat}{body:List S}{l ds:List PV}(o:aU τ f ps body)(hg:v9 g)(hd:jT τ f l.length ds)(hl:l.length+ds.length=ps.length)(hn:k+1≤n)(h:∀n,k≤n→I9 g n body (ps.zip (l++ds)) H (Ac Q)):Cl g n (.obj f) l H Q:=by
 cases n with
 |zero=>exact absurd hn (Nat.not_succ_le_zero k)
 |succ n=>exact(o.Vo hg hd hl (h n (Nat.le_of_succ_le_succ hn))).cl
theorem qU{p:PV}{l:List PV}{i:Int}{r:PV}(e1:p.En = some l)(e:Ef l i=some r)(h:Q r H):SubL g p (.int i) H Q:=Hi e1 e h
theorem lQ{a:Addr}{l:List PV}{i:Int}{r:PV}(o:H a=some (.list l))(e:Ef l i=some r)(h:Q r H):SubL g (.obj a) (.int i) H Q:=.ol o e h
theorem V0{a:Addr}{l:List PV}{i:Nat}{r:PV}(o:H a=some (.list l))(hi:i<2 ^ 62)(e:l[i]? = some r)(h:Q r H):SubL g (.obj a) (.int (i:Int)) H Q:=lQ o ((qR hi).trans e) h
theorem Xq{a:Addr}{k:Nat}{r:PV}(e:τ.u0 a k=some r)(h:Q r H):SubL g (.obj a) (.str k) H Q:=.sd e h
theorem o7{a:Addr}{l:List (Nat×PV)}{k:Nat}{r:PV}(o:H a=some (.u0 l))(e:g8 k l=some r)(h:Q r H):SubL g (.obj a) (.str k) H Q:=.os o e h
theorem T8{a:Addr}{l:List (Int×PV)}{k:Int}{r:PV}(o:H a=some (.m6 l))(e:g8 k l=some r)(h:Q r H):SubL g (.obj a) (.int k) H Q:=.od o e h
theorem len_list{a:Addr}{l:List PV}(o:H a=some (.list l)):Wu (.obj a) H=some l.length:=congrArg (Option.map List.length) (G5 o)
theorem z7{a:Addr}{l:List PV}{P:Prop}(o:H a=some (.list l))(h:P):qm H "list" (.obj a)∧P:=⟨.list o,h⟩
theorem rZ{a:Addr}{l:List (Int×PV)}{P:Prop}(o:H a=some (.m6 l))(h:P):qm H "dict" (.obj a)∧P:=⟨.m6 o,h⟩
theorem wQ{a:Addr}{l:List ((Int×Int)×PV)} {k q:PV} {ij:Int×Int} {Q:AH→Prop} (o:H a=some (.z6 l)) (e:pairOf k=some ij) (hl:l.length≤sizeLine) (h:Q (upd H a (.z6 (J7 ij q l)))):Aq (.obj a) k q H Q:=by
 rw [Aj e];exact .z6 o hl h
theorem set_list{a:Addr}{l:List PV}{i:Nat}{q:PV}{Q:AH→Prop}(o:H a=some (.list l))(hi:i<l.length)(hl:l.length≤sizeLine)(h:Q (upd H a (.list (l.set i q)))):Aq (.obj a) (.int i) q H Q:=.list o (Int.natCast_nonneg i) (Int.ofNat_lt.mpr hi) hl h
theorem cY{a:Addr}{l:List (Int×PV)}{i:Int}{q:PV}{Q:AH→Prop}(o:H a=some (.m6 l))(hl:l.length≤sizeLine)(h:Q (upd H a (.m6 (J7 i q l)))):Aq (.obj a) (.int i) q H Q:=.m6 o hl h
theorem wR{a:Addr}{l:List (Nat×PV)}{i:Nat}{q:PV}{Q:AH→Prop}(o:H a=some (.u0 l))(hl:l.length≤sizeLine)(h:Q (upd H a (.u0 (J7 i q l)))):Aq (.obj a) (.str i) q H Q:=.u0 o hl h
theorem ab2{a:Addr}{l:List (Int×PV)}{k:Int}(e:H a=some (.m6 l))(h:C (g8 k l).isSome):vh .In (.int k) (.obj a) H C:=.mem (.od e h)
theorem Nk{a:Addr}{l:List PV}(e:H a=some (.list l))(d:PV.W2 l=true)(h:C (!l.isEmpty)):vh .NotEq (.obj a) (.lst []) H C:=by
 have z:res H (.obj a) = .lst l:=by rw [qO,e]
 refine .ne ⟨by rw [z];exact d,rfl,.inl (show 1≤60 by decide)⟩ ?_
 rw [z]
 cases l<;>exact h
theorem Hu{l k:List PV}(e:l.length+k.length≤sizeLine)(h:Q (.tup (l++k)) H):Er g .Add (.tup l) (.tup k) H Q:=.tup e h
theorem Hv{a b c:Nat}(e:τ.cat a b=some c)(e2:g.tab c=g.tab a++g.tab b∧(g.tab a).length+(g.tab b).length≤sizeLine)(h:Q (.str c) H):Er g .Add (.str a) (.str b) H Q:=.str e2 h
theorem Nm{l:List PV}{i:Int}(h1:1≤i)(h2:i≤l.length)(h3:l.length≤sizeLine)(h:Q (.tup (l.drop i.toNat)) H):Rr true (.tup l) i H Q:=⟨⟨h1,h2,h3⟩,h⟩
end
theorem oJ(m:Loc):Y4 [] m=[]:=List.filter_eq_nil_iff.mpr fun O O=>nofun
theorem yt{x:Nat}{p:PV}{y:Nat×PV}{r:Loc}(e:Nat.beq y.1 x=true):m5 x p (y::r)=(x,p)::r:=qL e
theorem Fe{x:Nat}{p:PV}{y:Nat×PV}{r:Loc}(e:Nat.beq y.1 x=false):m5 x p (y::r)=y::m5 x p r:=qL e
theorem iR(x:Nat)(p q:PV)(m:Loc):m5 x q (m5 x p m)=m5 x q m:=by
 induction m with
 |nil=>exact yt (Nat.beq_refl x)
 |cons y r ih=>
  cases e:Nat.beq y.1 x with
  |true=>rw [yt e,yt e];exact yt (Nat.beq_refl x)
  |false=>rw [Fe e,Fe e,Fe e,ih]
theorem iT{α:Type}{f w:α→PV}{ct:CT}{we:Loc→AH→(PV→AH→Prop)→Prop}{p:PV}{l:List PV}{D:Addr}{H:AH}{fin:List PV→AH→Prop}(I:Loc→Prop)(mm:α→Loc)(xs:List α)
  (hb:∀a∈xs,∀o m,I m→bindC (upd H D o) ct (f a) m=some (mm a)∧I (mm a)) (he:∀a∈xs,∀o K,K (w a) (upd H D o)→we (mm a) (upd H D o) K) (hp:∀o,itemsOf (upd H D o) p=some l):
  ∀(acc:List PV) (m:Loc),I m→acc.length+xs.length≤sizeLine→fin (acc++xs.map w) (upd H D (.list (acc++xs.map w)))→WC ct (fun m H K=>K true H) we p l D fin (xs.map f) acc m (upd H D (.list acc)):=by
 induction xs with
 |nil=>
  intro acc m _ _ h
  rw [List.map_nil,List.append_nil] at h
  exact h
 |cons a xs ih=>
  intro acc m hm hl h
  have b:=hb a (.head _) (.list acc) m hm
  refine d7 b.1 (he a (.head _) _ _ ⟨⟨c7 ..,Nat.lt_of_lt_of_le (Nat.lt_add_of_pos_right (Nat.succ_pos _)) hl,hp _⟩,?_⟩)
  rw [iK]
  refine ih (fun a ha=>hb a (.tail _ ha)) (fun a ha=>he a (.tail _ ha)) (acc++[w a]) _ b.2 ?_ ?_
  ·rw [List.length_append,Nat.add_assoc,Nat.add_comm [w a].length];exact hl
  ·rw [List.append_assoc];exact h
theorem oK{α:Type}{f w:α→PV}{x:Nat}{caps:List Nat}{we:Loc→AH→(PV→AH→Prop)→Prop}{m:Loc}{H:AH}{fin:List PV→AH→Prop}(xs:List α)(hl:xs.length≤sizeLine)
  (he:∀a∈xs,∀D o K,H D=none→K (w a) (upd H D o)→we (m5 x (f a) (Y4 caps m)) (upd H D o) K) (h:fin (xs.map w) H):pI m caps (.one x) (fun m H K=>K true H) we fin (.tup (xs.map f)) H:=fun D hD=>
 iT (ct:=.one x) (f:=f) (w:=w) (fun m' => ∀q,m5 x q m'=m5 x q (Y4 caps m)) (fun a=>m5 x (f a) (Y4 caps m)) xs (fun a O o m' hm=>⟨congrArg some (hm _),fun q=>iR ..⟩) (fun a ha o K k=>he a ha D o K hD k) (fun O=>rfl) [] _ (fun O=>rfl) (by rw [List.length_nil,Nat.zero_add];exact hl) (by
  rw [List.nil_append,bV hD];exact h)
section
variable{τ:T}{g:G τ}{n:Nat}{H:AH}{Q:PV→AH→Prop}{s:Shared}
noncomputable abbrev jx(l:List Nat):List PV:=l.map fun(i:Nat)=>PV.int (i:Int)
theorem Bq{h:Heap}:∀{l:List Nat} {vs:List Value},m8 g.tab h H (jx l) vs→IntsAre vs (l.map Int.ofNat)
 | [],_,r=>by cases r;exact .nil
 |x::l,_,⟨v,r,e,⟨t,e'⟩,z⟩=>by subst e;subst e';exact .cons _ t (Bq z)
theorem Br{h:Heap}:∀{l:List Nat} {vs:List Value},IntsAre vs (l.map Int.ofNat)→m8 g.tab h H (jx l) vs
 | [],_,r=>by cases r;rfl
 |x::l,_,r=>by
  rw [List.map_cons] at r
  cases r with
  |cons _ t z=>exact⟨_,_,rfl,⟨t,rfl⟩,Br z⟩
theorem Np{ns:List Int}{l:List Nat}(p:ns.Perm (l.map Int.ofNat)):∃l':List Nat,ns=l'.map Int.ofNat∧l'.Perm l:=by
 have h:∀x∈ns,∃k:Nat,x=Int.ofNat k:=fun x hx=>by
  obtain⟨k,_,rfl⟩:=List.mem_map.mp (p.mem_iff.mp hx)
  exact⟨k,rfl⟩
 have e:ns=(ns.map Int.toNat).map Int.ofNat:=by
  clear p
  induction ns with
  |nil=>rfl
  |cons x ns ih=>
   obtain⟨k,rfl⟩:=h x (.head _)
   rw [List.map_cons,List.map_cons,← ih fun y hy=>h y (.tail _ hy)];rfl
 refine⟨_,e,?_⟩
 have:=p.map Int.toNat
 rwa [List.map_map,show Int.toNat ∘ Int.ofNat=id from rfl,List.map_id] at this
theorem Jx{a:Addr}{l:List Nat}(e:H a=some (.list (jx (0::l)))) (hz:l.length<63) (q:∀l':List Nat,(0::l').Perm (0::l)→Q (.lst (jx (0::l'))) H):Cl g n (.blt "sorted") [.obj a] H Q:=.b1 fun A s v1 R S h1=>by
 cases h1
 obtain⟨ws,k,o,vg⟩:=S.obj _ _ e
 refine sorted_ints (⟨_,o,rfl,_,rfl⟩:s.heap.IsList a ws.toArray) (Bq vg) (by rw [vg.length,List.length_map,List.length_cons];exact Nat.succ_lt_succ hz) fun out ns' I' p pw=>?_
 obtain⟨l',rfl,p'⟩:=Np p
 cases l' with
 |nil=>exact absurd p'.length_eq (by simp)
 |cons z l'=>
  obtain rfl:z=0:=by
   rcases List.mem_cons.mp (p'.mem_iff.mpr (.head _)) with h|h
   ·exact h.symm
   ·exact Nat.le_zero.mp (Int.ofNat_le.mp ((List.pairwise_cons.mp pw).1 _ (List.mem_map_of_mem h)))
  obtain⟨c,hc⟩:=sortedAll_at s.heap ws out
  obtain⟨S',C'⟩:=S.kept (h':=sortedAll s.heap ws out) (fun b o=>sortedAll_old) s.toks
  have hn:=untracked (S.push (s:=s) {cls:=.type "list",data:=.seq #[] 0} s.toks)
  exact⟨.lst (jx (0::l')),H,⟨_,out.toList,c,rfl,hc,(size_push' s.heap _)▸hn,Br I'⟩,S',C',q l' p'⟩
theorem RJ{a:Addr}{l:List (Int×PV)}(hg:v9 g)(e:H a=some (.m6 l))(hz:l.length<2 ^ 62)(q:Q (.int l.length) H):Cl g n (.blt "len") [.obj a] H Q:=.b1 fun A s v1 R S h1=>by
 cases h1
 obtain⟨kvs,hd,r⟩:=S.obj _ _ e
 refine call_len_dict (knd:=intKind g.prog g.w) (beq_eq_false_iff_ne.mpr fun z=>hg.mods (z▸S.fresh a (by rw [e];exact nofun))) hd (by rw [r.length];lia) ?_
 rw [r.length]
 exact GR (p:=True) S q
end
noncomputable abbrev pw:Program:=PySem.Challenge.pw_ot0049_02
noncomputable abbrev fnAt:=fnD pw
noncomputable abbrev J0:Addr:=219
noncomputable def gk:Str:=Str.ofString "with_blocks.<locals>.<lambda>"
noncomputable abbrev zS(x:String):Str:=Str.ofString x
noncomputable abbrev zT(x:String)(t:Nat):Value:=.str (Str.ofString x) t
noncomputable abbrev zK(P:Params)(x:String)(t:Nat)(v:Value):DictEntry:=⟨PyData.keyHash P (Str.ofString x),.str (Str.ofString x) t,v⟩
noncomputable abbrev zC(x y:String)(a b c:Nat)(i j k:Int)(d e:Addr)(u v w:Value)(f:Addr)(n:Int)(m:Nat):Obj:=⟨.type "code",none,.fields #[.str (Str.ofString x) a,.str (Str.ofString y) b,.str (Str.ofString "/claim/cut.py") c,.int i 0,.int j 0,.int 0 0,.int 0 0,.int k 0,.ref d,.bool true,.int 181 0,.ref e,u,v,w,.ref f,.int n 0,.int i 0,.str (Str.ofString "/claim/cut.py") m],#[]⟩
section
variable(P:Params)
noncomputable def K:Frag:=[
 (1,⟨.type "dict",none,.dict #[zK P "builtins" 162 (.ref 4),zK P "__main__" 163 (.ref 5)] 2,#[]⟩),(2,⟨.none,none,.dict #[zK P "type.__subclasses__.Exception.0" 224 (.int 39 0),zK P "type.__subclasses__.Exception.n" 225 (.int 1 0)] 2,#[]⟩),(3,⟨.type "dict",none,.dict #[zK P "__name__" 165 (zT "law_ot0049_02" 1482),zK P "__doc__" 166 (.none),zK P "__package__" 167 (.none),zK P "__loader__" 168 (.builtin "__main__.__loader__#opaque"),zK P "__spec__" 169 (.none),zK P "__annotations__" 170 (.ref 6),zK P "__builtins__" 171 (.ref 4),zK P "__file__" 173 (zT "/claim/cut.py" 172),zK P "__cached__" 174 (.none),zK P "_wall" 193 (.ref 21),zK P "LendError" 227 (.ref 39),zK P "PatternFault" 243 (.ref 52),zK P "COPY" 247 (zT "Copy" 246),zK P "DROP" 249 (zT "Drop" 248),zK P "parts_of" 257 (.ref 61),zK P "rebuilt" 266 (.ref 68),zK P "substituted" 272 (.ref 73),zK P "with_regions" 278 (.ref 78),zK P "no_region" 285 (.ref 85),zK P "erased" 292 (.ref 92),zK P "matched" 305 (.ref 99),zK P "impl_bounds" 317 (.ref 106),zK P "is_copy" 323 (.ref 111),zK P "field_rows" 332 (.ref 118),zK P "fields_of" 338 (.ref 123),zK P "has_drop" 347 (.ref 130),zK P "needs_drop" 353 (.ref 135),zK P "Body" 441 (.ref 196),zK P "successors" 447 (.ref 205),zK P "retargeted" 453 (.ref 210),zK P "reachable" 463 (.ref 217),zK P "with_blocks" 478 (.ref 224),zK P "field_type" 488 (.ref 231),zK P "projected" 499 (.ref 238),zK P "place_type" 511 (.ref 245),zK P "RESULT" 515 (.int 0 514),zK P "Scopes" 680 (.ref 373),zK P "BOOL_build_places" 684 (.ref 378),zK P "USIZE" 687 (.ref 379),zK P "OUT_OF_BOUNDS" 689 (zT "index out of bounds" 688),zK P "longer" 697 (.ref 386),zK P "PlaceBuilder" 784 (.ref 445),zK P "Binding" 826 (.ref 471),zK P "rows_of" 832 (.ref 480),zK P "alternatives" 838 (.ref 485),zK P "parts_at" 844 (.ref 490),zK P "bindings_at" 855 (.ref 497),zK P "mentions" 865 (.ref 504),zK P "is_plain_name" 872 (.ref 511),zK P "is_kept_on" 878 (.ref 516),zK P "MatchBuilder" 1043 (.ref 618),zK P "BOOL_build_exprs" 1047 (.ref 621),zK P "UNIT" 1049 (.ref 623),zK P "NEVER" 1051 (.ref 624),zK P "PLACES" 1056 (.ref 625),zK P "CHECKED" 1064 (.ref 626),zK P "VERBS" 1086 (.ref 627),zK P "is_quiet" 1093 (.ref 634),zK P "Loop" 1128 (.ref 651),zK P "ExprBuilder" 1383 (.ref 827),zK P "lower" 1393 (.ref 836),zK P "TypedFn" 1432 (.ref 853),zK P "World" 1481 (.ref 882),zK P "_law_kind" 1485 (zT "u8" 1484),zK P "_law_int" 1488 (.ref 887),zK P "_law_bool" 1490 (.ref 888),zK P "_law_unit" 1492 (.ref 890),zK P "_law_pool" 1501 (.ref 897),zK P "_law_take" 1510 (.ref 904),zK P "_law_one" 1518 (.ref 911),zK P "_law_block" 1529 (.ref 918),zK P "_law_asked" 1536 (.ref 925),zK P "_law_statement" 1550 (.ref 932),zK P "_law_done" 1563 (.ref 939),zK P "_law_gone_through" 1573 (.ref 946),zK P "_law_rounds" 1589 (.ref 953),zK P "_law_due" 1598 (.ref 960),zK P "_law_const" 1605 (.ref 967),zK P "_law_local" 1612 (.ref 974),zK P "_law_tree" 1618 (.ref 979),zK P "_law_choice" 1628 (.ref 986),zK P "_law_typed" 1636 (.ref 993),zK P "_law_ring" 1654 (.ref 1000),zK P "_law_read" 1664 (.ref 1007),zK P "_law_counted" 1677 (.ref 1014),zK P "_law_made" 1683 (.ref 1019),zK P "_law_stepped" 1694 (.ref 1026),zK P "_law_walked" 1700 (.ref 1031),zK P "_law_is_right" 1706 (.ref 1036),zK P "law" 1717 (.ref 1043)] 90,#[]⟩),(60,zC "parts_of" "parts_of" 250 251 252 16 1 3 55 56 .none (.ref 57) (.ref 58) 59 255 256),(61,⟨.type "function",none,.func (fnAt [7] (zS "parts_of") (zS "parts_of") 3 (.none) (.none) (zT "lendcore.types" 244) (.ref 60) 0),#[]⟩),(110,zC "is_copy" "is_copy" 318 319 320 74 3 3 107 108 .none .none .none 109 321 322),(111,⟨.type "function",none,.func (fnAt [15] (zS "is_copy") (zS "is_copy") 3 (.none) (.none) (zT "lendcore.types" 244) (.ref 110) 0),#[]⟩),(134,zC "needs_drop" "needs_drop" 348 349 350 111 2 3 131 132 .none .none .none 133 351 352),(135,⟨.type "function",none,.func (fnAt [19] (zS "needs_drop") (zS "needs_drop") 3 (.none) (.none) (zT "lendcore.types" 244) (.ref 134) 0),#[]⟩),(143,⟨.type "tuple",none,.seq #[.none,.none] 0,#[]⟩),(149,zC "__init__" "Body.__init__" 368 369 370 130 6 3 144 145 .none (.ref 146) (.ref 147) 148 377 378),(150,⟨.type "function",none,.func (fnAt [21,0] (zS "__init__") (zS "Body.__init__") 3 (.ref 143) (.none) (zT "lendcore.mir" 354) (.ref 149) 0),#[]⟩),(156,zC "type_of" "Body.type_of" 380 381 382 137 2 3 151 152 .none (.ref 153) (.ref 154) 155 385 386),(157,⟨.type "function",none,.func (fnAt [21,1] (zS "type_of") (zS "Body.type_of") 3 (.none) (.none) (zT "lendcore.mir" 354) (.ref 156) 0),#[]⟩),(170,zC "statements" "Body.statements" 395 396 397 143 2 3 165 166 .none (.ref 167) (.ref 168) 169 400 401),(171,⟨.type "function",none,.func (fnAt [21,3] (zS "statements") (zS "Body.statements") 3 (.none) (.none) (zT "lendcore.mir" 354) (.ref 170) 0),#[]⟩),(177,zC "terminator" "Body.terminator" 403 404 405 146 2 3 172 173 .none (.ref 174) (.ref 175) 176 408 409),(178,⟨.type "function",none,.func (fnAt [21,4] (zS "terminator") (zS "Body.terminator") 3 (.none) (.none) (zT "lendcore.mir" 354) (.ref 177) 0),#[]⟩),(186,⟨.type "tuple",none,.seq #[.bool true,.none] 0,#[]⟩),(192,zC "new_local" "Body.new_local" 419 420 421 152 4 3 187 188 .none (.ref 189) (.ref 190) 191 426 427),(193,⟨.type "function",none,.func (fnAt [21,6] (zS "new_local") (zS "Body.new_local") 3 (.ref 186) (.none) (zT "lendcore.mir" 354) (.ref 192) 0),#[]⟩),(195,⟨.type "dict",none,.dict #[zK P "__module__" 363 (zT "lendcore.mir" 354),zK P "__firstlineno__" 367 (.int 128 366),zK P "__init__" 379 (.ref 150),zK P "type_of" 387 (.ref 157),zK P "args" 394 (.ref 164),zK P "statements" 402 (.ref 171),zK P "terminator" 410 (.ref 178),zK P "spot" 418 (.ref 185),zK P "new_local" 428 (.ref 193),zK P "__static_attributes__" 434 (.ref 194),zK P "__dict__" 436 (.ref 197),zK P "__weakref__" 438 (.ref 198),zK P "__doc__" 439 (.none)] 4,#[]⟩),(196,⟨.type "type",none,.cls {name:=(zS "Body"),bases:=[.type "object"],mro:=[.ref 196,.type "object"],ns:=195,qualname:=(zS "Body"),hasDict:=true,slotNames:=[],subclasses:=[],abstract:=false,collection:=none,hasDel:=false},#[none,none,some (zT "Body" 356),some (zT "Body" 364),some (.builtin "object.__new__"),some (.bool true)]⟩),(204,zC "successors" "successors" 442 443 444 155 1 3 201 202 .none .none .none 203 445 446),(205,⟨.type "function",none,.func (fnAt [22] (zS "successors") (zS "successors") 3 (.none) (.none) (zT "lendcore.mir" 354) (.ref 204) 0),#[]⟩),(209,zC "retargeted" "retargeted" 448 449 450 174 2 3 206 207 .none .none .none 208 451 452),(210,⟨.type "function",none,.func (fnAt [23] (zS "retargeted") (zS "retargeted") 3 (.none) (.none) (zT "lendcore.mir" 354) (.ref 209) 0),#[]⟩),(216,zC "reachable" "reachable" 454 455 456 188 1 3 211 212 .none (.ref 213) (.ref 214) 215 461 462),(217,⟨.type "function",none,.func (fnAt [24] (zS "reachable") (zS "reachable") 3 (.none) (.none) (zT "lendcore.mir" 354) (.ref 216) 0),#[]⟩),(223,zC "with_blocks" "with_blocks" 464 465 466 196 2 3 218 219 .none (.ref 220) (.ref 221) 222 476 477),(224,⟨.type "function",none,.func (fnAt [25] (zS "with_blocks") (zS "with_blocks") 3 (.none) (.none) (zT "lendcore.mir" 354) (.ref 223) 0),#[]⟩),(256,zC "__init__" "Scopes.__init__" 528 529 530 234 3 3 253 254 .none .none .none 255 531 532),(257,⟨.type "function",none,.func (fnAt [31,0] (zS "__init__") (zS "Scopes.__init__") 3 (.none) (.none) (zT "lendcore.scopes" 512) (.ref 256) 0),#[]⟩),(263,zC "user" "Scopes.user" 534 535 536 247 2 3 258 259 .none (.ref 260) (.ref 261) 262 539 540),(264,⟨.type "function",none,.func (fnAt [31,1] (zS "user") (zS "Scopes.user") 3 (.none) (.none) (zT "lendcore.scopes" 512) (.ref 263) 0),#[]⟩),(265,⟨.type "tuple",none,.seq #[.bool true,.none] 0,#[]⟩),(271,zC "new_local" "Scopes.new_local" 542 543 544 250 4 3 266 267 .none (.ref 268) (.ref 269) 270 549 550),(272,⟨.type "function",none,.func (fnAt [31,2] (zS "new_local") (zS "Scopes.new_local") 3 (.ref 265) (.none) (zT "lendcore.scopes" 512) (.ref 271) 0),#[]⟩),(278,zC "type_of" "Scopes.type_of" 552 553 554 253 2 3 273 274 .none (.ref 275) (.ref 276) 277 557 558),(279,⟨.type "function",none,.func (fnAt [31,3] (zS "type_of") (zS "Scopes.type_of") 3 (.none) (.none) (zT "lendcore.scopes" 512) (.ref 278) 0),#[]⟩),(285,zC "new_block" "Scopes.new_block" 560 561 562 256 1 3 280 281 .none (.ref 282) (.ref 283) 284 564 565),(286,⟨.type "function",none,.func (fnAt [31,4] (zS "new_block") (zS "Scopes.new_block") 3 (.none) (.none) (zT "lendcore.scopes" 512) (.ref 285) 0),#[]⟩),(292,zC "note" "Scopes.note" 567 568 569 260 1 3 287 288 .none (.ref 289) (.ref 290) 291 571 572),(293,⟨.type "function",none,.func (fnAt [31,5] (zS "note") (zS "Scopes.note") 3 (.none) (.none) (zT "lendcore.scopes" 512) (.ref 292) 0),#[]⟩),(299,zC "put" "Scopes.put" 574 575 576 263 2 3 294 295 .none (.ref 296) (.ref 297) 298 579 580),(300,⟨.type "function",none,.func (fnAt [31,6] (zS "put") (zS "Scopes.put") 3 (.none) (.none) (zT "lendcore.scopes" 512) (.ref 299) 0),#[]⟩),(306,zC "close" "Scopes.close" 582 583 584 267 2 3 301 302 .none (.ref 303) (.ref 304) 305 587 588),(307,⟨.type "function",none,.func (fnAt [31,7] (zS "close") (zS "Scopes.close") 3 (.none) (.none) (zT "lendcore.scopes" 512) (.ref 306) 0),#[]⟩),(313,zC "end" "Scopes.end" 590 591 592 271 2 3 308 309 .none (.ref 310) (.ref 311) 312 595 596),(314,⟨.type "function",none,.func (fnAt [31,8] (zS "end") (zS "Scopes.end") 3 (.none) (.none) (zT "lendcore.scopes" 512) (.ref 313) 0),#[]⟩),(320,zC "go" "Scopes.go" 598 599 600 275 2 3 315 316 .none (.ref 317) (.ref 318) 319 603 604),(321,⟨.type "function",none,.func (fnAt [31,9] (zS "go") (zS "Scopes.go") 3 (.none) (.none) (zT "lendcore.scopes" 512) (.ref 320) 0),#[]⟩),(327,zC "push" "Scopes.push" 606 607 608 279 1 3 322 323 .none (.ref 324) (.ref 325) 326 610 611),(328,⟨.type "function",none,.func (fnAt [31,10] (zS "push") (zS "Scopes.push") 3 (.none) (.none) (zT "lendcore.scopes" 512) (.ref 327) 0),#[]⟩),(334,zC "declare" "Scopes.declare" 613 614 615 283 2 3 329 330 .none (.ref 331) (.ref 332) 333 618 619),(335,⟨.type "function",none,.func (fnAt [31,11] (zS "declare") (zS "Scopes.declare") 3 (.none) (.none) (zT "lendcore.scopes" 512) (.ref 334) 0),#[]⟩),(348,zC "finish" "Scopes.finish" 629 630 631 290 2 3 343 344 .none (.ref 345) (.ref 346) 347 637 638),(349,⟨.type "function",none,.func (fnAt [31,13] (zS "finish") (zS "Scopes.finish") 3 (.none) (.none) (zT "lendcore.scopes" 512) (.ref 348) 0),#[]⟩),(355,zC "pop" "Scopes.pop" 640 641 642 299 1 3 350 351 .none (.ref 352) (.ref 353) 354 644 645),(356,⟨.type "function",none,.func (fnAt [31,14] (zS "pop") (zS "Scopes.pop") 3 (.none) (.none) (zT "lendcore.scopes" 512) (.ref 355) 0),#[]⟩),(362,zC "leave" "Scopes.leave" 647 648 649 303 2 3 357 358 .none (.ref 359) (.ref 360) 361 653 654),(363,⟨.type "function",none,.func (fnAt [31,15] (zS "leave") (zS "Scopes.leave") 3 (.none) (.none) (zT "lendcore.scopes" 512) (.ref 362) 0),#[]⟩),(369,zC "finished" "Scopes.finished" 656 657 658 307 1 3 364 365 .none (.ref 366) (.ref 367) 368 661 662),(370,⟨.type "function",none,.func (fnAt [31,16] (zS "finished") (zS "Scopes.finished") 3 (.none) (.none) (zT "lendcore.scopes" 512) (.ref 369) 0),#[]⟩),(372,⟨.type "dict",none,.dict #[zK P "__module__" 523 (zT "lendcore.scopes" 512),zK P "__firstlineno__" 527 (.int 232 526),zK P "__init__" 533 (.ref 257),zK P "user" 541 (.ref 264),zK P "new_local" 551 (.ref 272),zK P "type_of" 559 (.ref 279),zK P "new_block" 566 (.ref 286),zK P "note" 573 (.ref 293),zK P "put" 581 (.ref 300),zK P "close" 589 (.ref 307),zK P "end" 597 (.ref 314),zK P "go" 605 (.ref 321),zK P "push" 612 (.ref 328),zK P "declare" 620 (.ref 335),zK P "hold" 628 (.ref 342),zK P "finish" 639 (.ref 349),zK P "pop" 646 (.ref 356),zK P "leave" 655 (.ref 363),zK P "finished" 663 (.ref 370),zK P "__static_attributes__" 673 (.ref 371),zK P "__dict__" 675 (.ref 374),zK P "__weakref__" 677 (.ref 375),zK P "__doc__" 678 (.none)] 4,#[]⟩),(373,⟨.type "type",none,.cls {name:=(zS "Scopes"),bases:=[.type "object"],mro:=[.ref 373,.type "object"],ns:=372,qualname:=(zS "Scopes"),hasDict:=true,slotNames:=[],subclasses:=[.ref 445],abstract:=false,collection:=none,hasDel:=false},#[none,none,some (zT "Scopes" 516),some (zT "Scopes" 524),some (.builtin "object.__new__"),some (.bool true)]⟩),(399,zC "temp" "PlaceBuilder.temp" 710 711 712 320 2 3 394 395 .none (.ref 396) (.ref 397) 398 716 717),(400,⟨.type "function",none,.func (fnAt [37,0] (zS "temp") (zS "PlaceBuilder.temp") 3 (.none) (.none) (zT "lendcore.build_places" 681) (.ref 399) 0),#[]⟩),(406,zC "operand_of" "PlaceBuilder.operand_of" 719 720 721 325 3 3 401 402 .none (.ref 403) (.ref 404) 405 725 726),(407,⟨.type "function",none,.func (fnAt [37,1] (zS "operand_of") (zS "PlaceBuilder.operand_of") 3 (.none) (.none) (zT "lendcore.build_places" 681) (.ref 406) 0),#[]⟩),(413,zC "place" "PlaceBuilder.place" 728 729 730 328 2 3 408 409 .none (.ref 410) (.ref 411) 412 735 736),(414,⟨.type "function",none,.func (fnAt [37,2] (zS "place") (zS "PlaceBuilder.place") 3 (.none) (.none) (zT "lendcore.build_places" 681) (.ref 413) 0),#[]⟩),(434,zC "operand" "PlaceBuilder.operand" 761 762 763 358 2 3 429 430 .none (.ref 431) (.ref 432) 433 766 767),(435,⟨.type "function",none,.func (fnAt [37,5] (zS "operand") (zS "PlaceBuilder.operand") 3 (.none) (.none) (zT "lendcore.build_places" 681) (.ref 434) 0),#[]⟩),(444,⟨.type "dict",none,.dict #[zK P "__module__" 705 (zT "lendcore.build_places" 681),zK P "__firstlineno__" 709 (.int 318 708),zK P "temp" 718 (.ref 400),zK P "operand_of" 727 (.ref 407),zK P "place" 737 (.ref 414),zK P "indexed" 749 (.ref 421),zK P "asserted" 760 (.ref 428),zK P "operand" 768 (.ref 435),zK P "borrow" 778 (.ref 442),zK P "__static_attributes__" 781 (.ref 443),zK P "__doc__" 782 (.none)] 2,#[]⟩),(445,⟨.type "type",none,.cls {name:=(zS "PlaceBuilder"),bases:=[.ref 373],mro:=[.ref 445,.ref 373,.type "object"],ns:=444,qualname:=(zS "PlaceBuilder"),hasDict:=true,slotNames:=[],subclasses:=[.ref 618],abstract:=false,collection:=none,hasDel:=false},#[some (.ref 387),none,some (zT "PlaceBuilder" 698),some (zT "PlaceBuilder" 706),some (.builtin "object.__new__"),some (.bool true)]⟩),(460,zC "__init__" "Binding.__init__" 799 800 801 373 4 3 455 456 .none (.ref 457) (.ref 458) 459 806 807),(461,⟨.type "function",none,.func (fnAt [39,0] (zS "__init__") (zS "Binding.__init__") 3 (.none) (.none) (zT "lendcore.build_match" 785) (.ref 460) 0),#[]⟩),(470,⟨.type "dict",none,.dict #[zK P "__module__" 794 (zT "lendcore.build_match" 785),zK P "__firstlineno__" 798 (.int 371 797),zK P "__init__" 808 (.ref 461),zK P "rvalue" 815 (.ref 468),zK P "__static_attributes__" 819 (.ref 469),zK P "__dict__" 821 (.ref 472),zK P "__weakref__" 823 (.ref 473),zK P "__doc__" 824 (.none)] 4,#[]⟩),(471,⟨.type "type",none,.cls {name:=(zS "Binding"),bases:=[.type "object"],mro:=[.ref 471,.type "object"],ns:=470,qualname:=(zS "Binding"),hasDict:=true,slotNames:=[],subclasses:=[],abstract:=false,collection:=none,hasDel:=false},#[none,none,some (zT "Binding" 787),some (zT "Binding" 795),some (.builtin "object.__new__"),some (.bool true)]⟩),(484,zC "alternatives" "alternatives" 833 834 835 387 1 3 481 482 .none .none .none 483 836 837),(485,⟨.type "function",none,.func (fnAt [41] (zS "alternatives") (zS "alternatives") 3 (.none) (.none) (zT "lendcore.build_match" 785) (.ref 484) 0),#[]⟩),(489,zC "parts_at" "parts_at" 839 840 841 401 2 3 486 487 .none .none .none 488 842 843),(490,⟨.type "function",none,.func (fnAt [42] (zS "parts_at") (zS "parts_at") 3 (.none) (.none) (zT "lendcore.build_match" 785) (.ref 489) 0),#[]⟩),(496,zC "bindings_at" "bindings_at" 845 846 847 413 2 3 491 492 .none (.ref 493) (.ref 494) 495 853 854),(497,⟨.type "function",none,.func (fnAt [43] (zS "bindings_at") (zS "bindings_at") 3 (.none) (.none) (zT "lendcore.build_match" 785) (.ref 496) 0),#[]⟩),(510,zC "is_plain_name" "is_plain_name" 866 867 868 427 1 3 505 506 .none (.ref 507) (.ref 508) 509 870 871),(511,⟨.type "function",none,.func (fnAt [45] (zS "is_plain_name") (zS "is_plain_name") 3 (.none) (.none) (zT "lendcore.build_match" 785) (.ref 510) 0),#[]⟩),(515,zC "is_kept_on" "is_kept_on" 873 874 875 429 1 3 512 513 .none .none .none 514 876 877),(516,⟨.type "function",none,.func (fnAt [46] (zS "is_kept_on") (zS "is_kept_on") 3 (.none) (.none) (zT "lendcore.build_match" 785) (.ref 515) 0),#[]⟩),(593,zC "let_bound" "MatchBuilder.let_bound" 990 991 992 544 3 3 588 589 .none (.ref 590) (.ref 591) 592 999 1000),(594,⟨.type "function",none,.func (fnAt [47,10] (zS "let_bound") (zS "MatchBuilder.let_bound") 3 (.none) (.none) (zT "lendcore.build_match" 785) (.ref 593) 0),#[]⟩),(614,zC "bind_params" "MatchBuilder.bind_params" 1025 1026 1027 575 2 3 609 610 .none (.ref 611) (.ref 612) 613 1034 1035),(615,⟨.type "function",none,.func (fnAt [47,13] (zS "bind_params") (zS "MatchBuilder.bind_params") 3 (.none) (.none) (zT "lendcore.build_match" 785) (.ref 614) 0),#[]⟩),(617,⟨.type "dict",none,.dict #[zK P "__module__" 886 (zT "lendcore.build_match" 785),zK P "__firstlineno__" 890 (.int 435 889),zK P "branch" 902 (.ref 530),zK P "told" 912 (.ref 537),zK P "test" 929 (.ref 544),zK P "bind" 937 (.ref 551),zK P "lent" 943 (.ref 556),zK P "guarded" 949 (.ref 561),zK P "arm_entry" 962 (.ref 568),zK P "anew" 971 (.ref 575),zK P "arm_into" 977 (.ref 580),zK P "match_into" 989 (.ref 587),zK P "let_bound" 1001 (.ref 594),zK P "bind_all" 1014 (.ref 601),zK P "bind_one" 1024 (.ref 608),zK P "bind_params" 1036 (.ref 615),zK P "__static_attributes__" 1040 (.ref 616),zK P "__doc__" 1041 (.none)] 2,#[]⟩),(618,⟨.type "type",none,.cls {name:=(zS "MatchBuilder"),bases:=[.ref 445],mro:=[.ref 618,.ref 445,.ref 373,.type "object"],ns:=617,qualname:=(zS "MatchBuilder"),hasDict:=true,slotNames:=[],subclasses:=[.ref 827],abstract:=false,collection:=none,hasDel:=false},#[some (.ref 517),none,some (zT "MatchBuilder" 879),some (zT "MatchBuilder" 887),some (.builtin "object.__new__"),some (.bool true)]⟩),(621,⟨.type "tuple",none,.seq #[zT "bool" 1046] 0,#[]⟩),(622,⟨.type "tuple",none,.seq #[] 0,#[]⟩),(623,⟨.type "tuple",none,.seq #[zT "tuple" 1048,.ref 622] 0,#[]⟩),(625,⟨.type "tuple",none,.seq #[zT "local" 1052,zT "deref" 1053,zT "field" 1054,zT "index" 1055] 0,#[]⟩),(626,⟨.type "tuple",none,.seq #[zT "+" 1057,zT "-" 1058,zT "*" 1059,zT "/" 1060,zT "%" 1061,zT "<<" 1062,zT ">>" 1063] 0,#[]⟩),(627,⟨.type "dict",none,.dict #[zK P "+" 1065 (zT "add" 1066),zK P "-" 1067 (zT "subtract" 1068),zK P "*" 1069 (zT "multiply" 1070),zK P "/" 1071 (zT "divide" 1072),zK P "%" 1073 (zT "calculate the remainder" 1074),zK P "<<" 1075 (zT "shift left" 1076),zK P ">>" 1077 (zT "shift right" 1078)] 7,#[]⟩),(633,zC "is_quiet" "is_quiet" 1087 1088 1089 588 1 3 628 629 .none (.ref 630) (.ref 631) 632 1091 1092),(634,⟨.type "function",none,.func (fnAt [55] (zS "is_quiet") (zS "is_quiet") 3 (.none) (.none) (zT "lendcore.build_exprs" 1044) (.ref 633) 0),#[]⟩),(647,zC "__init__" "Loop.__init__" 1106 1107 1108 594 5 3 642 643 .none (.ref 644) (.ref 645) 646 1114 1115),(648,⟨.type "function",none,.func (fnAt [56,0] (zS "__init__") (zS "Loop.__init__") 3 (.none) (.none) (zT "lendcore.build_exprs" 1044) (.ref 647) 0),#[]⟩),(650,⟨.type "dict",none,.dict #[zK P "__module__" 1101 (zT "lendcore.build_exprs" 1044),zK P "__firstlineno__" 1105 (.int 592 1104),zK P "__init__" 1116 (.ref 648),zK P "__static_attributes__" 1121 (.ref 649),zK P "__dict__" 1123 (.ref 652),zK P "__weakref__" 1125 (.ref 653),zK P "__doc__" 1126 (.none)] 4,#[]⟩),(651,⟨.type "type",none,.cls {name:=(zS "Loop"),bases:=[.type "object"],mro:=[.ref 651,.type "object"],ns:=650,qualname:=(zS "Loop"),hasDict:=true,slotNames:=[],subclasses:=[],abstract:=false,collection:=none,hasDel:=false},#[none,none,some (zT "Loop" 1094),some (zT "Loop" 1102),some (.builtin "object.__new__"),some (.bool true)]⟩),(668,zC "__init__" "ExprBuilder.__init__" 1141 1142 1143 601 3 3 663 664 .none (.ref 665) (.ref 666) 667 1147 1148),(669,⟨.type "function",none,.func (fnAt [57,0] (zS "__init__") (zS "ExprBuilder.__init__") 3 (.none) (.none) (zT "lendcore.build_exprs" 1044) (.ref 668) 0),#[]⟩),(675,zC "assign" "ExprBuilder.assign" 1150 1151 1152 605 3 3 670 671 .none (.ref 672) (.ref 673) 674 1156 1157),(676,⟨.type "function",none,.func (fnAt [57,1] (zS "assign") (zS "ExprBuilder.assign") 3 (.none) (.none) (zT "lendcore.build_exprs" 1044) (.ref 675) 0),#[]⟩),(682,zC "put_unit" "ExprBuilder.put_unit" 1159 1160 1161 608 2 3 677 678 .none (.ref 679) (.ref 680) 681 1164 1165),(683,⟨.type "function",none,.func (fnAt [57,2] (zS "put_unit") (zS "ExprBuilder.put_unit") 3 (.none) (.none) (zT "lendcore.build_exprs" 1044) (.ref 682) 0),#[]⟩),(694,zC "operands" "ExprBuilder.operands" 1177 1178 1179 616 2 3 691 692 .none .none .none 693 1180 1181),(695,⟨.type "function",none,.func (fnAt [57,4] (zS "operands") (zS "ExprBuilder.operands") 3 (.none) (.none) (zT "lendcore.build_exprs" 1044) (.ref 694) 0),#[]⟩),(699,zC "operand_ahead" "ExprBuilder.operand_ahead" 1183 1184 1185 619 3 3 696 697 .none .none .none 698 1186 1187),(700,⟨.type "function",none,.func (fnAt [57,5] (zS "operand_ahead") (zS "ExprBuilder.operand_ahead") 3 (.none) (.none) (zT "lendcore.build_exprs" 1044) (.ref 699) 0),#[]⟩),(706,zC "truth" "ExprBuilder.truth" 1189 1190 1191 625 2 3 701 702 .none (.ref 703) (.ref 704) 705 1195 1196),(707,⟨.type "function",none,.func (fnAt [57,6] (zS "truth") (zS "ExprBuilder.truth") 3 (.none) (.none) (zT "lendcore.build_exprs" 1044) (.ref 706) 0),#[]⟩),(713,zC "fork" "ExprBuilder.fork" 1198 1199 1200 632 2 3 708 709 .none (.ref 710) (.ref 711) 712 1205 1206),(714,⟨.type "function",none,.func (fnAt [57,7] (zS "fork") (zS "ExprBuilder.fork") 3 (.none) (.none) (zT "lendcore.build_exprs" 1044) (.ref 713) 0),#[]⟩),(720,zC "must" "ExprBuilder.must" 1208 1209 1210 637 4 3 715 716 .none (.ref 717) (.ref 718) 719 1216 1217),(721,⟨.type "function",none,.func (fnAt [57,8] (zS "must") (zS "ExprBuilder.must") 3 (.none) (.none) (zT "lendcore.build_exprs" 1044) (.ref 720) 0),#[]⟩),(727,zC "into" "ExprBuilder.into" 1219 1220 1221 642 3 3 722 723 .none (.ref 724) (.ref 725) 726 1226 1227),(728,⟨.type "function",none,.func (fnAt [57,9] (zS "into") (zS "ExprBuilder.into") 3 (.none) (.none) (zT "lendcore.build_exprs" 1044) (.ref 727) 0),#[]⟩),(734,zC "into_scalar" "ExprBuilder.into_scalar" 1229 1230 1231 666 3 3 729 730 .none (.ref 731) (.ref 732) 733 1237 1238),(735,⟨.type "function",none,.func (fnAt [57,10] (zS "into_scalar") (zS "ExprBuilder.into_scalar") 3 (.none) (.none) (zT "lendcore.build_exprs" 1044) (.ref 734) 0),#[]⟩),(741,zC "put_binary" "ExprBuilder.put_binary" 1240 1241 1242 679 6 3 736 737 .none (.ref 738) (.ref 739) 740 1251 1252),(742,⟨.type "function",none,.func (fnAt [57,11] (zS "put_binary") (zS "ExprBuilder.put_binary") 3 (.none) (.none) (zT "lendcore.build_exprs" 1044) (.ref 741) 0),#[]⟩),(760,zC "into_deed" "ExprBuilder.into_deed" 1274 1275 1276 722 3 3 755 756 .none (.ref 757) (.ref 758) 759 1282 1283),(761,⟨.type "function",none,.func (fnAt [57,14] (zS "into_deed") (zS "ExprBuilder.into_deed") 3 (.none) (.none) (zT "lendcore.build_exprs" 1044) (.ref 760) 0),#[]⟩),(767,zC "put_over" "ExprBuilder.put_over" 1285 1286 1287 736 4 3 762 763 .none (.ref 764) (.ref 765) 766 1293 1294),(768,⟨.type "function",none,.func (fnAt [57,15] (zS "put_over") (zS "ExprBuilder.put_over") 3 (.none) (.none) (zT "lendcore.build_exprs" 1044) (.ref 767) 0),#[]⟩),(781,zC "into_if" "ExprBuilder.into_if" 1307 1308 1309 752 3 3 776 777 .none (.ref 778) (.ref 779) 780 1316 1317),(782,⟨.type "function",none,.func (fnAt [57,17] (zS "into_if") (zS "ExprBuilder.into_if") 3 (.none) (.none) (zT "lendcore.build_exprs" 1044) (.ref 781) 0),#[]⟩),(788,zC "into_scope" "ExprBuilder.into_scope" 1319 1320 1321 765 3 3 783 784 .none (.ref 785) (.ref 786) 787 1325 1326),(789,⟨.type "function",none,.func (fnAt [57,18] (zS "into_scope") (zS "ExprBuilder.into_scope") 3 (.none) (.none) (zT "lendcore.build_exprs" 1044) (.ref 788) 0),#[]⟩),(795,zC "into_block" "ExprBuilder.into_block" 1328 1329 1330 770 3 3 790 791 .none (.ref 792) (.ref 793) 794 1335 1336),(796,⟨.type "function",none,.func (fnAt [57,19] (zS "into_block") (zS "ExprBuilder.into_block") 3 (.none) (.none) (zT "lendcore.build_exprs" 1044) (.ref 795) 0),#[]⟩),(802,zC "put_statement" "ExprBuilder.put_statement" 1338 1339 1340 780 2 3 797 798 .none (.ref 799) (.ref 800) 801 1344 1345),(803,⟨.type "function",none,.func (fnAt [57,20] (zS "put_statement") (zS "ExprBuilder.put_statement") 3 (.none) (.none) (zT "lendcore.build_exprs" 1044) (.ref 802) 0),#[]⟩),(809,zC "into_way" "ExprBuilder.into_way" 1347 1348 1349 790 3 3 804 805 .none (.ref 806) (.ref 807) 808 1354 1355),(810,⟨.type "function",none,.func (fnAt [57,21] (zS "into_way") (zS "ExprBuilder.into_way") 3 (.none) (.none) (zT "lendcore.build_exprs" 1044) (.ref 809) 0),#[]⟩),(816,zC "put_value" "ExprBuilder.put_value" 1357 1358 1359 806 3 3 811 812 .none (.ref 813) (.ref 814) 815 1363 1364),(817,⟨.type "function",none,.func (fnAt [57,22] (zS "put_value") (zS "ExprBuilder.put_value") 3 (.none) (.none) (zT "lendcore.build_exprs" 1044) (.ref 816) 0),#[]⟩),(823,zC "into_loop" "ExprBuilder.into_loop" 1366 1367 1368 812 3 3 818 819 .none (.ref 820) (.ref 821) 822 1374 1375),(824,⟨.type "function",none,.func (fnAt [57,23] (zS "into_loop") (zS "ExprBuilder.into_loop") 3 (.none) (.none) (zT "lendcore.build_exprs" 1044) (.ref 823) 0),#[]⟩),(826,⟨.type "dict",none,.dict #[zK P "__module__" 1136 (zT "lendcore.build_exprs" 1044),zK P "__firstlineno__" 1140 (.int 599 1139),zK P "__init__" 1149 (.ref 669),zK P "assign" 1158 (.ref 676),zK P "put_unit" 1166 (.ref 683),zK P "kept" 1176 (.ref 690),zK P "operands" 1182 (.ref 695),zK P "operand_ahead" 1188 (.ref 700),zK P "truth" 1197 (.ref 707),zK P "fork" 1207 (.ref 714),zK P "must" 1218 (.ref 721),zK P "into" 1228 (.ref 728),zK P "into_scalar" 1239 (.ref 735),zK P "put_binary" 1253 (.ref 742),zK P "into_lazy" 1267 (.ref 749),zK P "into_made" 1273 (.ref 754),zK P "into_deed" 1284 (.ref 761),zK P "put_over" 1295 (.ref 768),zK P "into_call" 1306 (.ref 775),zK P "into_if" 1318 (.ref 782),zK P "into_scope" 1327 (.ref 789),zK P "into_block" 1337 (.ref 796),zK P "put_statement" 1346 (.ref 803),zK P "into_way" 1356 (.ref 810),zK P "put_value" 1365 (.ref 817),zK P "into_loop" 1376 (.ref 824),zK P "__static_attributes__" 1380 (.ref 825),zK P "__doc__" 1381 (.none)] 2,#[]⟩),(827,⟨.type "type",none,.cls {name:=(zS "ExprBuilder"),bases:=[.ref 618],mro:=[.ref 827,.ref 618,.ref 445,.ref 373,.type "object"],ns:=826,qualname:=(zS "ExprBuilder"),hasDict:=true,slotNames:=[],subclasses:=[],abstract:=false,collection:=none,hasDel:=false},#[some (.ref 656),none,some (zT "ExprBuilder" 1129),some (zT "ExprBuilder" 1137),some (.builtin "object.__new__"),some (.bool true)]⟩),(835,zC "lower" "lower" 1384 1385 1386 821 2 3 830 831 .none (.ref 832) (.ref 833) 834 1391 1392),(836,⟨.type "function",none,.func (fnAt [58] (zS "lower") (zS "lower") 3 (.none) (.none) (zT "lendcore.build_exprs" 1044) (.ref 835) 0),#[]⟩),(849,zC "__init__" "TypedFn.__init__" 1408 1409 1410 836 6 3 844 845 .none (.ref 846) (.ref 847) 848 1417 1418),(850,⟨.type "function",none,.func (fnAt [60,0] (zS "__init__") (zS "TypedFn.__init__") 3 (.none) (.none) (zT "lendcore.check_exprs" 1394) (.ref 849) 0),#[]⟩),(852,⟨.type "dict",none,.dict #[zK P "__module__" 1403 (zT "lendcore.check_exprs" 1394),zK P "__firstlineno__" 1407 (.int 834 1406),zK P "__init__" 1419 (.ref 850),zK P "__static_attributes__" 1425 (.ref 851),zK P "__dict__" 1427 (.ref 854),zK P "__weakref__" 1429 (.ref 855),zK P "__doc__" 1430 (.none)] 4,#[]⟩),(853,⟨.type "type",none,.cls {name:=(zS "TypedFn"),bases:=[.type "object"],mro:=[.ref 853,.type "object"],ns:=852,qualname:=(zS "TypedFn"),hasDict:=true,slotNames:=[],subclasses:=[],abstract:=false,collection:=none,hasDel:=false},#[none,none,some (zT "TypedFn" 1396),some (zT "TypedFn" 1404),some (.builtin "object.__new__"),some (.bool true)]⟩),(865,⟨.type "tuple",none,.seq #[.none] 0,#[]⟩),(871,zC "__init__" "World.__init__" 1447 1448 1449 845 2 3 866 867 .none (.ref 868) (.ref 869) 870 1452 1453),(872,⟨.type "function",none,.func (fnAt [62,0] (zS "__init__") (zS "World.__init__") 3 (.ref 865) (.none) (zT "lendcore.world" 1433) (.ref 871) 0),#[]⟩),(881,⟨.type "dict",none,.dict #[zK P "__module__" 1442 (zT "lendcore.world" 1433),zK P "__firstlineno__" 1446 (.int 843 1445),zK P "__init__" 1454 (.ref 872),zK P "is_field_seen" 1465 (.ref 879),zK P "__static_attributes__" 1474 (.ref 880),zK P "__dict__" 1476 (.ref 883),zK P "__weakref__" 1478 (.ref 884),zK P "__doc__" 1479 (.none)] 4,#[]⟩),(882,⟨.type "type",none,.cls {name:=(zS "World"),bases:=[.type "object"],mro:=[.ref 882,.type "object"],ns:=881,qualname:=(zS "World"),hasDict:=true,slotNames:=[],subclasses:=[],abstract:=false,collection:=none,hasDel:=false},#[none,none,some (zT "World" 1435),some (zT "World" 1443),some (.builtin "object.__new__"),some (.bool true)]⟩),(887,⟨.type "tuple",none,.seq #[zT "int" 1486,zT "u8" 1487] 0,#[]⟩),(888,⟨.type "tuple",none,.seq #[zT "bool" 1489] 0,#[]⟩),(889,⟨.type "tuple",none,.seq #[] 0,#[]⟩),(890,⟨.type "tuple",none,.seq #[zT "tuple" 1491,.ref 889] 0,#[]⟩),(896,zC "_law_pool" "_law_pool" 1493 1494 1495 862 1 3 891 892 .none (.ref 893) (.ref 894) 895 1499 1500),(897,⟨.type "function",none,.func (fnAt [68] (zS "_law_pool") (zS "_law_pool") 3 (.none) (.none) (zT "law_ot0049_02" 1482) (.ref 896) 0),#[]⟩),(903,zC "_law_take" "_law_take" 1502 1503 1504 866 2 3 898 899 .none (.ref 900) (.ref 901) 902 1508 1509),(904,⟨.type "function",none,.func (fnAt [69] (zS "_law_take") (zS "_law_take") 3 (.none) (.none) (zT "law_ot0049_02" 1482) (.ref 903) 0),#[]⟩),(910,zC "_law_one" "_law_one" 1511 1512 1513 873 2 3 905 906 .none (.ref 907) (.ref 908) 909 1516 1517),(911,⟨.type "function",none,.func (fnAt [70] (zS "_law_one") (zS "_law_one") 3 (.none) (.none) (zT "law_ot0049_02" 1482) (.ref 910) 0),#[]⟩),(917,zC "_law_block" "_law_block" 1519 1520 1521 875 3 3 912 913 .none (.ref 914) (.ref 915) 916 1527 1528),(918,⟨.type "function",none,.func (fnAt [71] (zS "_law_block") (zS "_law_block") 3 (.none) (.none) (zT "law_ot0049_02" 1482) (.ref 917) 0),#[]⟩),(924,zC "_law_asked" "_law_asked" 1530 1531 1532 882 1 3 919 920 .none (.ref 921) (.ref 922) 923 1534 1535),(925,⟨.type "function",none,.func (fnAt [72] (zS "_law_asked") (zS "_law_asked") 3 (.none) (.none) (zT "law_ot0049_02" 1482) (.ref 924) 0),#[]⟩),(931,zC "_law_statement" "_law_statement" 1537 1538 1539 884 3 3 926 927 .none (.ref 928) (.ref 929) 930 1548 1549),(932,⟨.type "function",none,.func (fnAt [73] (zS "_law_statement") (zS "_law_statement") 3 (.none) (.none) (zT "law_ot0049_02" 1482) (.ref 931) 0),#[]⟩),(938,zC "_law_done" "_law_done" 1551 1552 1553 902 2 3 933 934 .none (.ref 935) (.ref 936) 937 1561 1562),(939,⟨.type "function",none,.func (fnAt [74] (zS "_law_done") (zS "_law_done") 3 (.none) (.none) (zT "law_ot0049_02" 1482) (.ref 938) 0),#[]⟩),(945,zC "_law_gone_through" "_law_gone_through" 1564 1565 1566 919 2 3 940 941 .none (.ref 942) (.ref 943) 944 1571 1572),(946,⟨.type "function",none,.func (fnAt [75] (zS "_law_gone_through") (zS "_law_gone_through") 3 (.none) (.none) (zT "law_ot0049_02" 1482) (.ref 945) 0),#[]⟩),(952,zC "_law_rounds" "_law_rounds" 1574 1575 1576 925 2 3 947 948 .none (.ref 949) (.ref 950) 951 1587 1588),(953,⟨.type "function",none,.func (fnAt [76] (zS "_law_rounds") (zS "_law_rounds") 3 (.none) (.none) (zT "law_ot0049_02" 1482) (.ref 952) 0),#[]⟩),(959,zC "_law_due" "_law_due" 1590 1591 1592 936 1 3 954 955 .none (.ref 956) (.ref 957) 958 1596 1597),(960,⟨.type "function",none,.func (fnAt [77] (zS "_law_due") (zS "_law_due") 3 (.none) (.none) (zT "law_ot0049_02" 1482) (.ref 959) 0),#[]⟩),(966,zC "_law_const" "_law_const" 1599 1600 1601 942 1 3 961 962 .none (.ref 963) (.ref 964) 965 1603 1604),(967,⟨.type "function",none,.func (fnAt [78] (zS "_law_const") (zS "_law_const") 3 (.none) (.none) (zT "law_ot0049_02" 1482) (.ref 966) 0),#[]⟩),(973,zC "_law_local" "_law_local" 1606 1607 1608 944 1 3 968 969 .none (.ref 970) (.ref 971) 972 1610 1611),(974,⟨.type "function",none,.func (fnAt [79] (zS "_law_local") (zS "_law_local") 3 (.none) (.none) (zT "law_ot0049_02" 1482) (.ref 973) 0),#[]⟩),(978,zC "_law_tree" "_law_tree" 1613 1614 1615 946 3 3 975 976 .none .none .none 977 1616 1617),(979,⟨.type "function",none,.func (fnAt [80] (zS "_law_tree") (zS "_law_tree") 3 (.none) (.none) (zT "law_ot0049_02" 1482) (.ref 978) 0),#[]⟩),(985,zC "_law_choice" "_law_choice" 1619 1620 1621 948 3 3 980 981 .none (.ref 982) (.ref 983) 984 1626 1627),(986,⟨.type "function",none,.func (fnAt [81] (zS "_law_choice") (zS "_law_choice") 3 (.none) (.none) (zT "law_ot0049_02" 1482) (.ref 985) 0),#[]⟩),(992,zC "_law_typed" "_law_typed" 1629 1630 1631 951 1 3 987 988 .none (.ref 989) (.ref 990) 991 1634 1635),(993,⟨.type "function",none,.func (fnAt [82] (zS "_law_typed") (zS "_law_typed") 3 (.none) (.none) (zT "law_ot0049_02" 1482) (.ref 992) 0),#[]⟩),(999,zC "_law_ring" "_law_ring" 1637 1638 1639 964 1 3 994 995 .none (.ref 996) (.ref 997) 998 1652 1653),(1000,⟨.type "function",none,.func (fnAt [83] (zS "_law_ring") (zS "_law_ring") 3 (.none) (.none) (zT "law_ot0049_02" 1482) (.ref 999) 0),#[]⟩),(1006,zC "_law_read" "_law_read" 1655 1656 1657 972 2 3 1001 1002 .none (.ref 1003) (.ref 1004) 1005 1662 1663),(1007,⟨.type "function",none,.func (fnAt [84] (zS "_law_read") (zS "_law_read") 3 (.none) (.none) (zT "law_ot0049_02" 1482) (.ref 1006) 0),#[]⟩),(1013,zC "_law_counted" "_law_counted" 1665 1666 1667 979 4 3 1008 1009 .none (.ref 1010) (.ref 1011) 1012 1675 1676),(1014,⟨.type "function",none,.func (fnAt [85] (zS "_law_counted") (zS "_law_counted") 3 (.none) (.none) (zT "law_ot0049_02" 1482) (.ref 1013) 0),#[]⟩),(1018,zC "_law_made" "_law_made" 1678 1679 1680 985 3 3 1015 1016 .none .none .none 1017 1681 1682),(1019,⟨.type "function",none,.func (fnAt [86] (zS "_law_made") (zS "_law_made") 3 (.none) (.none) (zT "law_ot0049_02" 1482) (.ref 1018) 0),#[]⟩),(1025,zC "_law_stepped" "_law_stepped" 1684 1685 1686 999 4 3 1020 1021 .none (.ref 1022) (.ref 1023) 1024 1692 1693),(1026,⟨.type "function",none,.func (fnAt [87] (zS "_law_stepped") (zS "_law_stepped") 3 (.none) (.none) (zT "law_ot0049_02" 1482) (.ref 1025) 0),#[]⟩),(1030,zC "_law_walked" "_law_walked" 1695 1696 1697 1011 1 3 1027 1028 .none .none .none 1029 1698 1699),(1031,⟨.type "function",none,.func (fnAt [88] (zS "_law_walked") (zS "_law_walked") 3 (.none) (.none) (zT "law_ot0049_02" 1482) (.ref 1030) 0),#[]⟩),(1035,zC "_law_is_right" "_law_is_right" 1701 1702 1703 1033 2 3 1032 1033 .none .none .none 1034 1704 1705),(1036,⟨.type "function",none,.func (fnAt [89] (zS "_law_is_right") (zS "_law_is_right") 3 (.none) (.none) (zT "law_ot0049_02" 1482) (.ref 1035) 0),#[]⟩),(1042,zC "law" "law" 1707 1708 1709 1039 1 3 1037 1038 .none (.ref 1039) (.ref 1040) 1041 1715 1716),(1043,⟨.type "function",none,.func (fnAt [90] (zS "law") (zS "law") 3 (.none) (.none) (zT "law_ot0049_02" 1482) (.ref 1042) 0),#[]⟩)]
end
noncomputable def asK:List Addr:=[1,2,3,60,61,110,111,134,135,143,149,150,156,157,170,171,177,178,186,192,193,195,196,204,205,209,210,216,217,223,224,256,257,263,264,265,271,272,278,279,285,286,292,293,299,300,306,307,313,314,320,321,327,328,334,335,348,349,355,356,362,363,369,370,372,373,399,400,406,407,413,414,434,435,444,445,460,461,470,471,484,485,489,490,496,497,510,511,515,516,593,594,614,615,617,618,621,622,623,625,626,627,633,634,647,648,650,651,668,669,675,676,682,683,694,695,699,700,706,707,713,714,720,721,727,728,734,735,741,742,760,761,767,768,781,782,788,789,795,796,802,803,809,810,816,817,823,824,826,827,835,836,849,850,852,853,865,871,872,881,882,887,888,889,890,896,897,903,904,910,911,917,918,924,925,931,932,938,939,945,946,952,953,959,960,966,967,973,974,978,979,985,986,992,993,999,1000,1006,1007,1013,1014,1018,1019,1025,1026,1030,1031,1035,1036,1042,1043]
noncomputable def wK:List (Nat×PV):=[(42,.str 444),(20,.obj 61),(43,.obj 111),(69,.typ "range"),(31,.blt "len"),(76,.typ "list"),(9,.typ "tuple"),(94,.obj 205),(98,.obj 196),(100,.obj 210),(56,.typ "dict"),(132,.obj 135),(137,.obj 224),(138,.blt "sorted"),(140,.obj 217),(178,.obj 485),(59,.typ "enumerate"),(182,.obj 490),(183,.obj 471),(184,.obj 497),(187,.blt "any"),(188,.obj 516),(219,.obj 511),(223,.obj 634),(226,.obj 618),(230,.tup [.str 77,.str 107,.str 106,.str 97]),(231,.blt "all"),(232,.tup [.str 45]),(264,.tup [.str 321,.str 260,.str 322,.str 265,.str 266,.str 447,.str 448]),(272,.obj 627),(285,.tup [.str 9,.tup []]),(291,.int 0),(292,.obj 651),(294,.obj 827),(307,.blt "max"),(32,.typ "int"),(312,.obj 904),(373,.obj 932),(319,.obj 911),(376,.obj 918),(378,.obj 925),(329,.obj 1014),(330,.str 355),(380,.obj 946),(381,.obj 953),(336,.obj 939),(342,.tup [.str 32,.str 355]),(348,.obj 993),(343,.tup [.str 45]),(351,.tup [.str 9,.tup []]),(346,.obj 974),(383,.obj 967),(384,.obj 979),(385,.obj 986),(386,.obj 1000),(357,.obj 1007),(358,.obj 1019),(360,.obj 1026),(366,.obj 836),(368,.obj 853),(370,.obj 882),(364,.obj 1031),(365,.obj 960),(371,.obj 897),(372,.obj 1036)]
noncomputable def Vi:List (Addr×List (Nat×PV)):=[(627,[(321,.str 331),(260,.str 332),(322,.str 333),(265,.str 428),(266,.str 432),(447,.str 436),(448,.str 440)])]
noncomputable def wL:List (Addr×List (Nat×Addr)):=[(196,[(112,157),(99,171),(81,178),(124,193)]),(373,[(150,264),(124,272),(112,279),(120,286),(126,293),(128,300),(127,307),(282,314),(222,321),(208,328),(142,335),(135,349),(65,356),(290,363),(296,370)]),(445,[(146,400),(166,407),(111,414),(162,435),(150,264),(124,272),(112,279),(120,286),(126,293),(128,300),(127,307),(282,314),(222,321),(208,328),(142,335),(135,349),(65,356),(290,363),(296,370)]),(471,[]),(618,[(287,594),(295,615),(146,400),(166,407),(111,414),(162,435),(150,264),(124,272),(112,279),(120,286),(126,293),(128,300),(127,307),(282,314),(222,321),(208,328),(142,335),(135,349),(65,356),(290,363),(296,370)]),(651,[]),(827,[(159,676),(279,683),(258,695),(228,700),(276,707),(275,714),(263,721),(147,728),(238,735),(259,742),(243,761),(280,768),(252,782),(283,789),(255,796),(284,803),(249,810),(289,817),(288,824),(287,594),(295,615),(146,400),(166,407),(111,414),(162,435),(150,264),(124,272),(112,279),(120,286),(126,293),(128,300),(127,307),(282,314),(222,321),(208,328),(142,335),(135,349),(65,356),(290,363),(296,370)]),(853,[]),(882,[])]
noncomputable def wM:List (Addr×List (Nat×Addr)):=[(196,[(4,150)]),(373,[(4,257)]),(445,[(4,257)]),(471,[(4,461)]),(618,[(4,257)]),(651,[(4,648)]),(827,[(4,669)]),(853,[(4,850)]),(882,[(4,872)])]
noncomputable def wN:List (Addr×Addr):=[(196,150),(373,257),(445,257),(471,461),(618,257),(651,648),(827,669),(853,850),(882,872)]
noncomputable def Ju:List (Addr×List Nat):=[(196,[40,71,75,73,74]),(373,[37,38,115,116,92,3,117,118,64]),(445,[37,38,115,116,92,3,117,118,64]),(471,[77,170,111]),(618,[37,38,115,116,92,3,117,118,64]),(651,[224,165,136,111]),(827,[225,64,3,37,38,115,116,92,117,118]),(853,[119,75,39,122,92]),(882,[298,53,52,121,41,44,299,300])]
noncomputable def Xl:List (Addr×(List Nat×List Nat)):=[(61,([7],[6])),(111,([15],[6,37,38])),(135,([19],[6,37])),(150,([21,0],[1,40,71,72,73,74])),(157,([21,1],[1,77])),(171,([21,3],[1,78])),(178,([21,4],[1,78])),(193,([21,6],[1,6,80,40])),(205,([22],[81])),(210,([23],[81,90])),(217,([24],[92])),(224,([25],[92,95])),(257,([31,0],[1,114,37])),(264,([31,1],[1,123])),(272,([31,2],[1,6,80,40])),(279,([31,3],[1,77])),(286,([31,4],[1])),(293,([31,5],[1])),(300,([31,6],[1,125])),(307,([31,7],[1,81])),(314,([31,8],[1,81])),(321,([31,9],[1,78])),(328,([31,10],[1])),(335,([31,11],[1,77])),(349,([31,13],[1,130])),(356,([31,14],[1])),(363,([31,15],[1,136])),(370,([31,16],[1])),(400,([37,0],[1,6])),(407,([37,1],[1,111,6])),(414,([37,2],[1,145])),(435,([37,5],[1,145])),(461,([39,0],[1,77,170,111])),(485,([41],[25])),(490,([42],[25,111])),(497,([43],[25,111])),(511,([45],[25])),(516,([46],[145])),(594,([47,10],[1,25,145])),(615,([47,13],[1,39])),(634,([55],[145])),(648,([56,0],[1,224,165,136,111])),(669,([57,0],[1,114,37])),(676,([57,1],[1,111,192])),(683,([57,2],[1,111])),(695,([57,4],[1,227])),(700,([57,5],[1,145,229])),(707,([57,6],[1,145])),(714,([57,7],[1,77])),(721,([57,8],[1,162,163,164])),(728,([57,9],[1,111,145])),(735,([57,10],[1,111,145])),(742,([57,11],[1,111,194,28,29,6])),(761,([57,14],[1,111,145])),(768,([57,15],[1,101,162,6])),(782,([57,17],[1,111,145])),(789,([57,18],[1,111,145])),(796,([57,19],[1,111,145])),(803,([57,20],[1,125])),(810,([57,21],[1,111,145])),(817,([57,22],[1,111,145])),(824,([57,23],[1,111,145])),(836,([58],[114,37])),(850,([60,0],[1,119,91,39,122,92])),(872,([62,0],[1,298])),(897,([68],[304])),(904,([69],[308,309])),(911,([70],[308,311])),(918,([71],[308,374,313])),(925,([72],[308])),(932,([73],[308,374,313])),(939,([74],[325,36])),(946,([75],[325,26])),(953,([76],[325,36])),(960,([77],[26])),(967,([78],[89])),(974,([79],[28])),(979,([80],[26,356,344])),(986,([81],[274,26,27])),(993,([82],[36])),(1000,([83],[36])),(1007,([84],[338,162])),(1014,([85],[7,194,326,327])),(1019,([86],[92,338,192])),(1026,([87],[92,338,340,125])),(1031,([88],[92])),(1036,([89],[26,153])),(1043,([90],[304]))]
noncomputable abbrev eH:Addr:=196
noncomputable abbrev Jy:Addr:=471
noncomputable abbrev gM:Addr:=651
noncomputable abbrev I5:Addr:=827
noncomputable abbrev cZ:Addr:=853
noncomputable abbrev lR:Addr:=882
noncomputable abbrev sy:Addr:=61
noncomputable abbrev wU:Addr:=111
noncomputable abbrev lU:Addr:=135
noncomputable abbrev gO:Addr:=150
noncomputable abbrev sG:Addr:=157
noncomputable abbrev V1:Addr:=171
noncomputable abbrev V2:Addr:=178
noncomputable abbrev dg:Addr:=193
noncomputable abbrev lV:Addr:=205
noncomputable abbrev lW:Addr:=210
noncomputable abbrev pJ:Addr:=217
noncomputable abbrev jy:Addr:=224
noncomputable abbrev vp:Addr:=257
noncomputable abbrev cF:Addr:=264
noncomputable abbrev T5:Addr:=272
noncomputable abbrev dh:Addr:=279
noncomputable abbrev aV:Addr:=286
noncomputable abbrev cG:Addr:=293
noncomputable abbrev eO:Addr:=300
noncomputable abbrev gP:Addr:=307
noncomputable abbrev lY:Addr:=314
noncomputable abbrev pK:Addr:=321
noncomputable abbrev jz:Addr:=328
noncomputable abbrev dj:Addr:=335
noncomputable abbrev Z1:Addr:=349
noncomputable abbrev eU:Addr:=356
noncomputable abbrev gQ:Addr:=363
noncomputable abbrev bW:Addr:=370
noncomputable abbrev Z4:Addr:=400
noncomputable abbrev R2:Addr:=407
noncomputable abbrev Y5:Addr:=414
noncomputable abbrev K6:Addr:=435
noncomputable abbrev sH:Addr:=461
noncomputable abbrev gR:Addr:=485
noncomputable abbrev sJ:Addr:=490
noncomputable abbrev jA:Addr:=497
noncomputable abbrev fW:Addr:=511
noncomputable abbrev lZ:Addr:=516
noncomputable abbrev R7:Addr:=594
noncomputable abbrev O7:Addr:=615
noncomputable abbrev sO:Addr:=634
noncomputable abbrev Bs:Addr:=648
noncomputable abbrev jU:Addr:=669
noncomputable abbrev Y6:Addr:=676
noncomputable abbrev V3:Addr:=683
noncomputable abbrev eV:Addr:=695
noncomputable abbrev I3:Addr:=700
noncomputable abbrev Z5:Addr:=707
noncomputable abbrev aW:Addr:=714
noncomputable abbrev aX:Addr:=721
noncomputable abbrev G3:Addr:=728
noncomputable abbrev R3:Addr:=735
noncomputable abbrev R8:Addr:=742
noncomputable abbrev w6:Addr:=761
noncomputable abbrev eX:Addr:=768
noncomputable abbrev N6:Addr:=782
noncomputable abbrev R9:Addr:=789
noncomputable abbrev G4:Addr:=796
noncomputable abbrev N8:Addr:=803
noncomputable abbrev u5:Addr:=810
noncomputable abbrev J8:Addr:=817
noncomputable abbrev dz:Addr:=824
noncomputable abbrev yu:Addr:=836
noncomputable abbrev sS:Addr:=850
noncomputable abbrev mj:Addr:=872
noncomputable abbrev pL:Addr:=897
noncomputable abbrev pN:Addr:=904
noncomputable abbrev jV:Addr:=911
noncomputable abbrev V4:Addr:=918
noncomputable abbrev mq:Addr:=925
noncomputable abbrev dD:Addr:=932
noncomputable abbrev pO:Addr:=939
noncomputable abbrev Z6:Addr:=946
noncomputable abbrev jB:Addr:=953
noncomputable abbrev sU:Addr:=960
noncomputable abbrev mz:Addr:=967
noncomputable abbrev mD:Addr:=974
noncomputable abbrev pP:Addr:=979
noncomputable abbrev vq:Addr:=986
noncomputable abbrev Q7:Addr:=993
noncomputable abbrev pQ:Addr:=1000
noncomputable abbrev pR:Addr:=1007
noncomputable abbrev aY:Addr:=1014
noncomputable abbrev pU:Addr:=1019
noncomputable abbrev gU:Addr:=1026
noncomputable abbrev jC:Addr:=1031
noncomputable abbrev fX:Addr:=1036
noncomputable abbrev Bt:Addr:=1043
noncomputable def texts:List Str:=[zS "k",zS "self",zS "message",zS "spot",zS "__init__",zS "Exception",zS "told",zS "kind",zS "ref",zS "tuple",zS "box",zS "array",zS "adt",zS "parts",zS "table",zS "param",zS "rebuilt",zS "get",zS "substituted",zS "part",zS "parts_of",zS "change",zS "with_regions",zS "region",zS "no_region",zS "pattern",zS "some",zS "others",zS "one",zS "other",zS "zip",zS "len",zS "int",zS "var",zS "intvar",zS "matched",zS "row",zS "world",zS "bounds",zS "params",zS "name",zS "traits",zS "COPY",zS "is_copy",zS "impls",zS "bool",zS "never",zS "trait",zS "impl_bounds",zS "erased",zS "self_type",zS "variant",zS "variants",zS "adts",zS "types",zS "regions",zS "dict",zS "field_rows",zS "str",zS "enumerate",zS "put_in",zS "DROP",zS "seen",zS "left",zS "here",zS "pop",zS "extend",zS "append",zS "has_drop",zS "range",zS "fields_of",zS "arg_count",zS "locals_told",zS "blocks",zS "spots",zS "locals",zS "list",zS "local",zS "block",zS "point",zS "is_mut",zS "terminator",zS "word",zS "found",zS "goto",zS "switch",zS "call",zS "drop",zS "assert",zS "value",zS "turned",zS "rows",zS "body",zS "waiting",zS "successors",zS "kept",zS "places",zS "index",zS "Body",zS "statements",zS "retargeted",zS "goal",zS "LendError",zS "a type without fields: ",zS "projection",zS "downcast",zS "field",zS "deref",zS "field_type",zS " of ",zS "no ",zS "place",zS "type_of",zS "projected",zS "typed_fn",zS "args",zS "first_user",zS "alias",zS "frames",zS "path",zS "new_block",zS "sigs",zS "result",zS "n",zS "new_local",zS "statement",zS "note",zS "close",zS "put",zS "live",zS "frame",zS "is_living",zS "needs_drop",zS "following",zS "dead",zS "finish",zS "depth",zS "with_blocks",zS "sorted",zS "unreachable",zS "reachable",zS "step",zS "declare",zS "copy",zS "move",zS "e",zS "temp",zS "into",zS "longer",zS "indexed",zS "user",zS "base",zS "is_there",zS "many",zS "USIZE",zS "BOOL_build_places",zS "const",zS "asserted",zS "OUT_OF_BOUNDS",zS "assign",zS "binary",zS "<",zS "operand",zS "expected",zS "text",zS "behind",zS "operand_of",zS "auto",zS "two-phase",zS "shared",zS "mode",zS "use",zS "mut",zS "lots",zS "lot",zS "or",zS "fields",zS "bind",zS "alternatives",zS "rows_of",zS "inner",zS "at",zS "parts_at",zS "Binding",zS "bindings_at",zS "isinstance",zS "borrow",zS "any",zS "is_kept_on",zS "fail",zS "bad",zS "good",zS "rvalue",zS "test",zS "op",zS "bound",zS ">=",zS "<=",zS "branch",zS "discriminant",zS "binding",zS "place_type",zS "guard",zS "bindings",zS "ahead",zS "lent",zS "holds",zS "mentions",zS "push",zS "PatternFault",zS "a guard that looks at what a mutable reference binds",zS "guarded",zS "locals_now",zS "arm",zS "inside",zS "arm_entry",zS "anew",zS "arm_into",zS "is_kept",zS "is_plain_name",zS "bind_all",zS "bind_one",zS "go",zS "is_quiet",zS "head",zS "loops",zS "MatchBuilder",zS "es",zS "operand_ahead",zS "late",zS "PLACES",zS "all",zS "BOOL_build_exprs",zS "yes",zS "no",zS "lazy",zS "unary",zS "cast",zS "into_scalar",zS "repeat",zS "into_made",zS "update",zS "print",zS "into_deed",zS "loop",zS "break",zS "continue",zS "return",zS "panic",zS "into_way",zS "into_call",zS "if",zS "into_if",zS "match",zS "match_into",zS "into_block",zS "no expression: ",zS "into_lazy",zS "operands",zS "put_binary",zS "-",zS "pair",zS "is_zero",zS "must",zS "CHECKED",zS "/",zS "%",zS "checked",zS " with overflow",zS "==",zS " by zero",zS "attempt to ",zS "VERBS",zS "settled",zS "asked",zS "fork",zS "truth",zS "&&",zS "||",zS "put_unit",zS "put_over",zS "NEVER",zS "end",zS "into_scope",zS "put_statement",zS "UNIT",zS "let",zS "let_bound",zS "into_loop",zS "put_value",zS "leave",zS "RESULT",zS "Loop",zS "builder",zS "ExprBuilder",zS "bind_params",zS "finished",zS "hold",zS "modules",zS "consts",zS "bodies",zS "number",zS "module",zS "_wall",zS "script",zS "script_cell",zS "large",zS "max",zS "source",zS "top",zS "digit",zS "things",zS "_law_take",zS "deep",zS "way",zS "choice",zS "sum",zS "_law_truth",zS "_law_number",zS "_law_one",zS "_law_deed",zS "+",zS "*",zS "compared",zS "not",zS "run",zS "a",zS "b",zS "is_over",zS "_law_counted",zS "_law_kind",zS "add",zS "subtract",zS "multiply",zS "first",zS "_law_worth",zS "_law_done",zS "_law_sum",zS "cells",zS "is_so",zS "prints",zS "done",zS "_law_int",zS "_law_bool",zS "tail",zS "both",zS "_law_local",zS "!",zS "_law_typed",zS "do",zS "_law_act",zS "_law_unit",zS "ill",zS "whole",zS "low",zS "u8",zS "told_now",zS "_law_read",zS "_law_made",zS "turn",zS "_law_stepped",zS "key",zS "begins",zS "tree",zS "_law_walked",zS "_law_due",zS "lower",zS "t",zS "TypedFn",zS "f",zS "World",zS "_law_pool",zS "_law_is_right",zS "_law_statement",zS "book",zS "counter",zS "_law_block",zS "ring",zS "_law_asked",zS "open",zS "_law_gone_through",zS "_law_rounds",zS "most",zS "_law_const",zS "_law_tree",zS "_law_choice",zS "_law_ring",zS "leaves",zS "grows",zS "last",zS "told_one",zS "cell",zS "big",zS "mixed",zS "drawn",zS "steps",zS "_law_U8",zS "slot",zS "wild",zS "due",zS "is_open",zS "_law_pattern",zS "_law_BOOL",zS "events",zS "event",zS "_law_event",zS "begin",zS "gone",zS "arms",zS "x",zS "guards",zS "_law_ways",zS "_law_way_right",zS "",zS "_law_scrutinee",zS "_law_arms",zS "_law_right",zS "_law_is_refused",zS "g",zS "attempt to add",zS "attempt to add with overflow",zS "attempt to add by zero",zS "attempt to subtract",zS "attempt to subtract with overflow",zS "attempt to subtract by zero",zS "attempt to multiply",zS "attempt to multiply with overflow",zS "attempt to multiply by zero",zS "divide",zS "attempt to divide",zS "attempt to divide with overflow",zS "attempt to divide by zero",zS "calculate the remainder",zS "attempt to calculate the remainder",zS "attempt to calculate the remainder with overflow",zS "attempt to calculate the remainder by zero",zS "shift left",zS "attempt to shift left",zS "attempt to shift left with overflow",zS "attempt to shift left by zero",zS "shift right",zS "attempt to shift right",zS "attempt to shift right with overflow",zS "attempt to shift right by zero",zS "Copy",zS "Drop",zS ".0",zS "<<",zS ">>"]
noncomputable def Xm:List ((Nat×Nat)×Nat):=[((271,331),419),((419,268),420),((419,270),421),((271,332),422),((422,268),423),((422,270),424),((271,333),425),((425,268),426),((425,270),427),((271,428),429),((429,268),430),((429,270),431),((271,432),433),((433,268),434),((433,270),435),((271,436),437),((437,268),438),((437,270),439),((271,440),441),((441,268),442),((441,270),443)]
noncomputable abbrev Fg:List S:=[.asg (.name 7) (.at (.loc 6) 0),.iff (.cmp .Eq (.loc 7) (.str 8)) [.bad] [],.iff (.or [.cmp .Eq (.loc 7) (.str 10),.cmp .Eq (.loc 7) (.str 11)]) [.bad] [],.iff (.cmp .Eq (.loc 7) (.str 9)) [.ret (.at (.loc 6) 1)] [],.ret (.jt (.cmp .Eq (.loc 7) (.str 12)) (.at (.loc 6) 3) (.tup []))]
noncomputable abbrev Jz:List S:=[.asg (.name 7) (.at (.loc 6) 0),.iff (.cmp .In (.loc 7) (.tup [.str 32,.str 45,.str 46,.str 34])) [.ret (.Hj true)] [],.iff (.cmp .Eq (.loc 7) (.str 8)) [.bad] [],.iff (.or [.cmp .Eq (.loc 7) (.str 9),.cmp .Eq (.loc 7) (.str 11)]) [.ret (.cmp .Eq (.comp [37,38] (.one 19) (.loc 19) (.call 20 [.loc 6]) [.not (.call 43 [.loc 19,.loc 37,.loc 38])] [(446,.local),(19,.local),(43,.globalImplicit),(38,.free),(37,.free)]) (.lst []))] [],.bad,.bad,.bad,.bad]
noncomputable abbrev yw:List S:=[.asg (.name 62) (.bH []),.asg (.name 63) (.bH [.loc 6]),.while (.cmp .NotEq (.loc 63) (.lst [])) [.asg (.name 64) (.K4 (.loc 63) "list" 65 "list.pop" []),.iff (.cmp .In (.at (.loc 64) 0) (.tup [.str 10,.str 15])) [.bad] [],.iff (.cmp .In (.at (.loc 64) 0) (.tup [.str 9,.str 11])) [.expr (.K4 (.loc 63) "list" 66 "list.extend" [.call 20 [.loc 64]])] [.iff (.and [.cmp .Eq (.at (.loc 64) 0) (.str 12),.cmp .NotIn (.loc 64) (.loc 62)]) [.bad,.bad,.bad] []]],.ret (.Hj false)]
noncomputable abbrev Bu:List S:=[.asg (.attr (.loc 1) 40) (.loc 40),.asg (.attr (.loc 1) 71) (.loc 71),.asg (.attr (.loc 1) 75) (.call 76 [.loc 72]),.asg (.attr (.loc 1) 73) (.jt (.cmp .Is (.loc 73) .none) (.bH []) (.loc 73)),.asg (.attr (.loc 1) 74) (.jt (.cmp .Is (.loc 74) .none) (.cW 2) (.loc 74))]
noncomputable abbrev sV:List S:=[.ret (.at (.sub (.attr (.loc 1) 75) (.loc 77)) 0)]
noncomputable abbrev mF:List S:=[.ret (.at (.sub (.attr (.loc 1) 73) (.loc 78)) 0)]
noncomputable abbrev mG:List S:=[.ret (.at (.sub (.attr (.loc 1) 73) (.loc 78)) 1)]
noncomputable abbrev oM:List S:=[.expr (.K4 (.attr (.loc 1) 75) "list" 67 "list.append" [.tup [.loc 6,.loc 80,.loc 40]]),.ret (.bin .Sub (.call 31 [.attr (.loc 1) 75]) (.int 1))]
noncomputable abbrev yx:List S:=[.asg (.name 82) (.at (.loc 81) 0),.iff (.cmp .Eq (.loc 82) (.str 84)) [.asg (.name 6) (.lst [.at (.loc 81) 1])] [.iff (.cmp .Eq (.loc 82) (.str 85)) [.asg (.name 6) (.bin .Add (.comp [] (.many [89,78]) (.loc 78) (.at (.loc 81) 2) [] [(446,.local),(89,.local),(78,.local)]) (.lst [.at (.loc 81) 3]))] [.iff (.cmp .Eq (.loc 82) (.str 86)) [.asg (.name 6) (.lst [.at (.loc 81) 4])] [.iff (.cmp .Eq (.loc 82) (.str 87)) [.asg (.name 6) (.lst [.at (.loc 81) 2])] [.iff (.cmp .Eq (.loc 82) (.str 88)) [.asg (.name 6) (.lst [.at (.loc 81) 4])] [.asg (.name 6) (.lst [])]]]]],.asg (.name 83) (.bH []),.for (.name 78) (.loc 6) [.iff (.and [.cmp .IsNot (.loc 78) .none,.cmp .NotIn (.loc 78) (.loc 83)]) [.expr (.K4 (.loc 83) "list" 67 "list.append" [.loc 78])] []],.ret (.loc 83)]
noncomputable abbrev yC:List S:=[.asg (.name 82) (.at (.loc 81) 0),.iff (.cmp .Eq (.loc 82) (.str 84)) [.ret (.tup [.str 84,.Hl 90 [.at (.loc 81) 1]])] [],.iff (.cmp .Eq (.loc 82) (.str 85)) [.asg (.name 91) (.call 9 [.comp [90] (.many [89,78]) (.tup [.loc 89,.Hl 90 [.loc 78]]) (.at (.loc 81) 2) [] [(446,.local),(89,.local),(78,.local),(90,.free)]]),.ret (.tup [.str 85,.at (.loc 81) 1,.loc 91,.jt (.cmp .Is (.at (.loc 81) 3) .none) .none (.Hl 90 [.at (.loc 81) 3])])] [],.iff (.cmp .Eq (.loc 82) (.str 86)) [.bad] [],.iff (.cmp .Eq (.loc 82) (.str 87)) [.bad] [],.iff (.cmp .Eq (.loc 82) (.str 88)) [.ret (.bin .Add (.slT (.loc 81) (.int 4)) (.tup [.Hl 90 [.at (.loc 81) 4]]))] [],.ret (.loc 81)]
noncomputable abbrev Bv:List S:=[.swap [83,93] [.bH [],.bH [.int 0]],.while (.cmp .NotEq (.loc 93) (.lst [])) [.asg (.name 78) (.K4 (.loc 93) "list" 65 "list.pop" []),.iff (.cmp .NotIn (.loc 78) (.loc 83)) [.expr (.K4 (.loc 83) "list" 67 "list.append" [.loc 78]),.expr (.K4 (.loc 93) "list" 66 "list.extend" [.slR (.call 94 [.meth (.loc 92) 81 [.loc 78]])])] []],.ret (.loc 83)]
noncomputable abbrev vA:List S:=[.asg (.name 96) (.cW 0),.for (.name 78) (.loc 95) [.asg (.sub (.loc 96) (.loc 78)) (.call 31 [.loc 96])],.swap [73,74] [.bH [],.cW 2],.for (.name 78) (.loc 95) [.asg (.tup [.name 99,.name 81]) (.sub (.attr (.loc 92) 73) (.loc 78)),.Mw 73 67 (.call 76 [.loc 99]) 81 96 101 100 J0,.for (.name 97) (.call 69 [.bin .Add (.call 31 [.loc 99]) (.int 1)]) [.iff (.cmp .In (.tup [.loc 78,.loc 97]) (.attr (.loc 92) 74)) [.asg (.sub (.loc 74) (.tup [.sub (.loc 96) (.loc 78),.loc 97])) (.sub (.attr (.loc 92) 74) (.tup [.loc 78,.loc 97]))] []]],.ret (.call 98 [.attr (.loc 92) 40,.attr (.loc 92) 71,.attr (.loc 92) 75,.loc 73,.loc 74])]
noncomputable abbrev vB:List S:=[.asg (.attr (.loc 1) 37) (.loc 37),.asg (.attr (.loc 1) 38) (.jt (.cmp .In (.attr (.loc 114) 119) (.attr (.loc 37) 121)) (.call 56 [.attr (.sub (.attr (.loc 37) 121) (.attr (.loc 114) 119)) 39]) (.cW 1)),.asg (.name 91) (.Wm (.lst [.tup [.attr (.loc 114) 122,.Hj true,.none]]) (.comp [] (.one 25) (.tup [.at (.loc 25) 1,.Hj false,.none]) (.attr (.loc 114) 39) [] [(446,.local),(25,.local)])),.asg (.attr (.loc 1) 115) (.call 76 [.call 69 [.int 1,.call 31 [.loc 91]]]),.asg (.attr (.loc 1) 116) (.call 31 [.loc 91]),.expr (.K4 (.loc 91) "list" 66 "list.extend" [.comp [] (.many [40,6,80]) (.tup [.loc 6,.loc 80,.loc 40]) (.attr (.loc 114) 75) [] [(446,.local),(40,.local),(6,.local),(80,.local)]]),.asg (.attr (.loc 1) 92) (.call 98 [.attr (.loc 114) 119,.call 31 [.attr (.loc 1) 115],.loc 91]),.asg (.attr (.loc 1) 3) (.int 0),.asg (.attr (.loc 1) 117) (.cW 0),.asg (.attr (.loc 1) 118) (.bH []),.asg (.attr (.loc 1) 64) (.meth (.loc 1) 120 [])]
noncomputable abbrev vC:List S:=[.ret (.bin .Add (.attr (.loc 1) 116) (.loc 123))]
noncomputable abbrev jW:List S:=[.ret (.meth (.attr (.loc 1) 92) 124 [.loc 6,.loc 80,.loc 40])]
noncomputable abbrev oN:List S:=[.ret (.meth (.attr (.loc 1) 92) 112 [.loc 77])]
noncomputable abbrev jX:List S:=[.expr (.K4 (.attr (.attr (.loc 1) 92) 73) "list" 67 "list.append" [.bH [.bH [],.none]]),.ret (.bin .Sub (.call 31 [.attr (.attr (.loc 1) 92) 73]) (.int 1))]
noncomputable abbrev vD:List S:=[.asg (.sub (.attr (.attr (.loc 1) 92) 74) (.tup [.attr (.loc 1) 64,.call 31 [.meth (.attr (.loc 1) 92) 99 [.attr (.loc 1) 64]]])) (.attr (.loc 1) 3)]
noncomputable abbrev yD:List S:=[.expr (.meth (.loc 1) 126 []),.expr (.K4 (.meth (.attr (.loc 1) 92) 99 [.attr (.loc 1) 64]) "list" 67 "list.append" [.loc 125])]
noncomputable abbrev sW:List S:=[.expr (.meth (.loc 1) 126 []),.asg (.sub (.sub (.attr (.attr (.loc 1) 92) 73) (.attr (.loc 1) 64)) (.int 1)) (.loc 81)]
noncomputable abbrev yE:List S:=[.expr (.meth (.loc 1) 127 [.loc 81]),.asg (.attr (.loc 1) 64) (.meth (.loc 1) 120 [])]
noncomputable abbrev Bw:List S:=[.expr (.meth (.loc 1) 127 [.tup [.str 84,.loc 78]]),.asg (.attr (.loc 1) 64) (.loc 78)]
noncomputable abbrev vG:List S:=[.expr (.K4 (.attr (.loc 1) 118) "list" 67 "list.append" [.bH []]),.ret (.bin .Sub (.call 31 [.attr (.loc 1) 118]) (.int 1))]
noncomputable abbrev oO:List S:=[.expr (.meth (.loc 1) 128 [.tup [.str 129,.loc 77]]),.expr (.K4 (.sub (.attr (.loc 1) 118) (.neg (.int 1))) "list" 67 "list.append" [.tup [.loc 77,.Hj true]])]
noncomputable abbrev qp:List S:=[.for (.tup [.name 77,.name 131]) (.slR (.loc 130)) [.iff (.call 132 [.meth (.loc 1) 112 [.loc 77],.attr (.loc 1) 37]) [.bad,.bad,.bad] [],.iff (.loc 131) [.expr (.meth (.loc 1) 128 [.tup [.str 134,.loc 77]])] []]]
noncomputable abbrev yF:List S:=[.expr (.meth (.loc 1) 135 [.sub (.attr (.loc 1) 118) (.neg (.int 1))]),.expr (.K4 (.attr (.loc 1) 118) "list" 65 "list.pop" [])]
noncomputable abbrev sX:List S:=[.for (.name 130) (.slR (.slF (.attr (.loc 1) 118) (.loc 136))) [.expr (.meth (.loc 1) 135 [.loc 130])]]
noncomputable abbrev mH:List S:=[.for (.name 78) (.attr (.attr (.loc 1) 92) 73) [.iff (.cmp .Is (.at (.loc 78) 1) .none) [.asg (.sub (.loc 78) (.int 1)) (.tup [.str 139])] []],.ret (.call 137 [.attr (.loc 1) 92,.call 138 [.call 140 [.attr (.loc 1) 92]]])]
noncomputable abbrev jh:List S:=[.asg (.name 77) (.meth (.loc 1) 124 [.loc 6]),.expr (.meth (.loc 1) 142 [.loc 77]),.ret (.loc 77)]
noncomputable abbrev bJ:List S:=[.ret (.tup [.jt (.call 43 [.loc 6,.attr (.loc 1) 37,.attr (.loc 1) 38]) (.str 143) (.str 144),.loc 111])]
noncomputable abbrev gV:List S:=[.asg (.name 7) (.at (.loc 145) 0),.iff (.cmp .Eq (.loc 7) (.str 77)) [.ret (.jt (.cmp .In (.at (.loc 145) 3) (.attr (.loc 1) 117)) (.sub (.attr (.loc 1) 117) (.at (.loc 145) 3)) (.tup [.meth (.loc 1) 150 [.at (.loc 145) 3],.tup []]))] [],.iff (.cmp .Eq (.loc 7) (.str 107)) [.bad] [],.iff (.cmp .Eq (.loc 7) (.str 106)) [.bad] [],.iff (.cmp .Eq (.loc 7) (.str 97)) [.bad] [],.asg (.name 77) (.meth (.loc 1) 146 [.at (.loc 145) 1]),.expr (.meth (.loc 1) 147 [.tup [.loc 77,.tup []],.loc 145]),.ret (.tup [.loc 77,.tup []])]
noncomputable abbrev eY:List S:=[.iff (.cmp .Eq (.at (.loc 145) 0) (.str 156)) [.ret (.tup [.str 156,.at (.loc 145) 1,.at (.loc 145) 3])] [],.ret (.meth (.loc 1) 166 [.meth (.loc 1) 111 [.loc 145],.at (.loc 145) 1])]
noncomputable abbrev sY:List S:=[.asg (.attr (.loc 1) 77) (.loc 77),.asg (.attr (.loc 1) 170) (.loc 170),.asg (.attr (.loc 1) 111) (.loc 111)]
noncomputable abbrev sZ:List S:=[.asg (.name 7) (.at (.loc 25) 0),.iff (.cmp .Eq (.loc 7) (.str 175)) [.bad] [],.iff (.and [.cmp .Eq (.loc 7) (.str 177),.cmp .IsNot (.at (.loc 25) 4) .none]) [.bad] [],.iff (.cmp .Eq (.loc 7) (.str 107)) [.bad] [],.iff (.cmp .Eq (.loc 7) (.str 176)) [.bad] [],.iff (.cmp .Eq (.loc 7) (.str 51)) [.bad,.bad] [],.ret (.lst [.loc 25])]
noncomputable abbrev Fi:List S:=[.asg (.name 7) (.at (.loc 25) 0),.iff (.cmp .Eq (.loc 7) (.str 177)) [.ret (.jt (.cmp .Is (.at (.loc 25) 4) .none) (.lst []) (.lst [.tup [.at (.loc 25) 4,.loc 111]]))] [],.iff (.cmp .Eq (.loc 7) (.str 107)) [.bad] [],.iff (.cmp .Eq (.loc 7) (.str 176)) [.bad] [],.iff (.cmp .Eq (.loc 7) (.str 51)) [.bad,.bad] [],.bad]
noncomputable abbrev vH:List S:=[.asg (.name 83) (.jt (.cmp .Eq (.at (.loc 25) 0) (.str 177)) (.bH [.call 183 [.at (.loc 25) 2,.at (.loc 25) 3,.loc 111]]) (.bH [])),.for (.tup [.name 19,.name 3]) (.call 182 [.loc 25,.loc 111]) [.bad],.ret (.loc 83)]
noncomputable abbrev qu:List S:=[.ret (.and [.cmp .Eq (.at (.loc 25) 0) (.str 177),.cmp .Is (.at (.loc 25) 4) .none,.cmp .In (.at (.loc 25) 3) (.tup [.str 144,.str 143])])]
noncomputable abbrev yG:List S:=[.iff (.cmp .In (.at (.loc 145) 0) (.tup [.str 9,.str 11])) [.ret (.call 187 [.comp [] (.one 19) (.call 188 [.loc 19]) (.at (.loc 145) 3) [] [(446,.local),(19,.local),(188,.globalImplicit)]])] [],.iff (.cmp .Eq (.at (.loc 145) 0) (.str 12)) [.bad] [],.ret (.cmp .Eq (.at (.loc 145) 0) (.str 186))]
noncomputable abbrev cI:List S:=[.asg (.name 26) (.call 184 [.at (.call 178 [.loc 25]) 0,.tup [.int 0,.tup []]]),.for (.name 200) (.loc 26) [.expr (.meth (.loc 1) 142 [.meth (.loc 1) 150 [.attr (.loc 200) 77]])],.iff (.cmp .Is (.loc 145) .none) [.aa1] [],.asg (.name 218) (.call 188 [.loc 145]),.iff (.not (.loc 218)) [.expr (.meth (.loc 1) 208 [])] [],.iff (.call 219 [.loc 25]) [.expr (.meth (.loc 1) 147 [.tup [.meth (.loc 1) 150 [.at (.loc 25) 2],.tup []],.loc 145])] [.bad],.iff (.not (.loc 218)) [.expr (.meth (.loc 1) 65 [])] []]
noncomputable abbrev aZ:List S:=[.am8 (.tup [.name 181,.name 25]) 59 (.loc 39) [.bad,.bad,.bad]]
noncomputable abbrev Fj:List S:=[.iff (.cmp .Eq (.at (.loc 145) 0) (.str 106)) [.ret (.call 223 [.at (.loc 145) 3])] [],.ret (.cmp .In (.at (.loc 145) 0) (.tup [.str 156,.str 77]))]
noncomputable abbrev Bx:List S:=[.asg (.attr (.loc 1) 224) (.loc 224),.asg (.attr (.loc 1) 165) (.loc 165),.asg (.attr (.loc 1) 136) (.loc 136),.asg (.attr (.loc 1) 111) (.loc 111)]
noncomputable abbrev jY:List S:=[.expr (.Lq 226 4 [.loc 1,.loc 114,.loc 37]),.asg (.attr (.loc 1) 225) (.cW 0)]
noncomputable abbrev gW:List S:=[.expr (.meth (.loc 1) 128 [.tup [.str 159,.loc 111,.loc 192]])]
noncomputable abbrev eZ:List S:=[.expr (.meth (.loc 1) 159 [.loc 111,.tup [.str 9,.tup []]])]
noncomputable abbrev fj:List S:=[.ret (.comp [1,227] (.one 181) (.meth (.loc 1) 228 [.sub (.loc 227) (.loc 181),.slF (.loc 227) (.bin .Add (.loc 181) (.int 1))]) (.call 69 [.call 31 [.loc 227]]) [] [(446,.local),(181,.local),(227,.free),(1,.free)])]
noncomputable abbrev ak:List S:=[.asg (.name 162) (.meth (.loc 1) 162 [.loc 145]),.iff (.and [.cmp .In (.at (.loc 145) 0) (.glob 230),.not (.call 231 [.comp [] (.one 28) (.call 223 [.loc 28]) (.loc 229) [] [(446,.local),(28,.local),(223,.globalImplicit)]])]) [.ret (.meth (.loc 1) 95 [.loc 162,.at (.loc 145) 1])] [],.ret (.loc 162)]
noncomputable abbrev ji:List S:=[.asg (.name 77) (.meth (.loc 1) 146 [.glob 232]),.expr (.meth (.loc 1) 208 []),.expr (.meth (.loc 1) 147 [.tup [.loc 77,.tup []],.loc 145]),.expr (.meth (.loc 1) 65 []),.ret (.loc 77)]
noncomputable abbrev jZ:List S:=[.swap [233,234] [.meth (.loc 1) 120 [],.meth (.loc 1) 120 []],.expr (.meth (.loc 1) 127 [.tup [.str 85,.tup [.str 143,.tup [.loc 77,.tup []]],.tup [.tup [.Hj false,.loc 234]],.loc 233]]),.ret (.tup [.loc 233,.loc 234])]
noncomputable abbrev kh:List S:=[.asg (.name 133) (.meth (.loc 1) 120 []),.expr (.meth (.loc 1) 127 [.tup [.str 88,.loc 162,.loc 163,.loc 164,.loc 133]]),.asg (.attr (.loc 1) 64) (.loc 133)]
noncomputable abbrev kj:List S:=[.Xi [.name 3,.attr (.loc 1) 3] [.attr (.loc 1) 3,.at (.loc 145) 2],.iff (.or [.cmp .In (.at (.loc 145) 0) (.glob 230),.cmp .Eq (.at (.loc 145) 0) (.str 156)]) [.expr (.meth (.loc 1) 159 [.loc 111,.tup [.str 171,.meth (.loc 1) 162 [.loc 145]]])] [.iff (.cmp .In (.at (.loc 145) 0) (.tup [.str 160,.str 235,.str 236,.str 237])) [.expr (.meth (.loc 1) 238 [.loc 111,.loc 145])] [.iff (.cmp .In (.at (.loc 145) 0) (.tup [.str 186,.str 9,.str 11,.str 239,.str 12,.str 10])) [.expr (.meth (.loc 1) 240 [.loc 111,.loc 145])] [.iff (.cmp .In (.at (.loc 145) 0) (.tup [.str 159,.str 241,.str 242])) [.expr (.meth (.loc 1) 243 [.loc 111,.loc 145])] [.iff (.cmp .In (.at (.loc 145) 0) (.tup [.str 244,.str 245,.str 246,.str 247,.str 248])) [.expr (.meth (.loc 1) 249 [.loc 111,.loc 145])] [.iff (.cmp .Eq (.at (.loc 145) 0) (.str 86)) [.expr (.meth (.loc 1) 250 [.loc 111,.loc 145])] [.iff (.cmp .Eq (.at (.loc 145) 0) (.str 251)) [.expr (.meth (.loc 1) 252 [.loc 111,.loc 145])] [.iff (.cmp .Eq (.at (.loc 145) 0) (.str 253)) [.expr (.meth (.loc 1) 254 [.loc 111,.loc 145])] [.iff (.cmp .Eq (.at (.loc 145) 0) (.str 78)) [.expr (.meth (.loc 1) 255 [.loc 111,.loc 145])] [.bad]]]]]]]]],.asg (.attr (.loc 1) 3) (.loc 3)]
noncomputable abbrev bK:List S:=[.iff (.cmp .Eq (.at (.loc 145) 0) (.str 235)) [.expr (.meth (.loc 1) 257 [.loc 111,.loc 145])] [.iff (.cmp .Eq (.at (.loc 145) 0) (.str 237)) [.expr (.meth (.loc 1) 159 [.loc 111,.tup [.str 237,.meth (.loc 1) 162 [.at (.loc 145) 3],.at (.loc 145) 1]])] [.iff (.cmp .Eq (.at (.loc 145) 0) (.str 160)) [.asg (.tup [.name 28,.name 29]) (.meth (.loc 1) 258 [.tup [.at (.loc 145) 4,.at (.loc 145) 5]]),.expr (.meth (.loc 1) 259 [.loc 111,.at (.loc 145) 3,.loc 28,.loc 29,.at (.at (.loc 145) 4) 1])] [.iff (.cmp .Eq (.at (.loc 145) 3) (.str 260)) [.expr (.meth (.loc 1) 259 [.loc 111,.str 260,.tup [.str 156,.at (.loc 145) 1,.int 0],.meth (.loc 1) 162 [.at (.loc 145) 4],.at (.loc 145) 1])] [.expr (.meth (.loc 1) 159 [.loc 111,.tup [.str 236,.at (.loc 145) 3,.meth (.loc 1) 162 [.at (.loc 145) 4]]])]]]]]
noncomputable abbrev cJ:List S:=[.iff (.or [.cmp .NotIn (.loc 194) (.glob 264),.cmp .NotEq (.at (.loc 6) 0) (.str 32)]) [.expr (.meth (.loc 1) 159 [.loc 111,.tup [.str 160,.loc 194,.loc 28,.loc 29]]),.aa1] [],.iff (.cmp .In (.loc 194) (.tup [.str 265,.str 266])) [.asg (.name 262) (.meth (.loc 1) 146 [.glob 232]),.expr (.meth (.loc 1) 159 [.tup [.loc 262,.tup []],.tup [.str 160,.str 269,.loc 29,.tup [.str 156,.loc 6,.int 0]]]),.expr (.meth (.loc 1) 263 [.tup [.str 143,.tup [.loc 262,.tup []]],.Hj false,.bin .Add (.bin .Add (.str 271) (.sub (.glob 272) (.loc 194))) (.str 270)])] [],.asg (.name 261) (.meth (.loc 1) 146 [.tup [.str 9,.tup [.loc 6,.glob 232]]]),.expr (.meth (.loc 1) 159 [.tup [.loc 261,.tup []],.tup [.str 267,.loc 194,.loc 28,.loc 29]]),.expr (.meth (.loc 1) 263 [.tup [.str 143,.tup [.loc 261,.tup [.tup [.str 106,.int 1]]]],.Hj false,.bin .Add (.bin .Add (.str 271) (.sub (.glob 272) (.loc 194))) (.str 268)]),.expr (.meth (.loc 1) 159 [.loc 111,.tup [.str 171,.tup [.str 143,.tup [.loc 261,.tup [.tup [.str 106,.int 0]]]]]])]
noncomputable abbrev dF:List S:=[.iff (.cmp .Eq (.at (.loc 145) 0) (.str 242)) [.expr (.meth (.loc 1) 128 [.tup [.str 242,.meth (.loc 1) 162 [.at (.loc 145) 3]]])] [.iff (.cmp .Eq (.at (.loc 145) 0) (.str 159)) [.asg (.name 162) (.meth (.loc 1) 228 [.at (.loc 145) 4,.tup [.at (.loc 145) 3]]),.iff (.and [.cmp .Eq (.at (.loc 162) 0) (.str 144),.cmp .In (.at (.at (.loc 145) 4) 0) (.glob 230),.call 132 [.at (.at (.loc 145) 3) 1,.attr (.loc 1) 37]]) [.asg (.name 162) (.meth (.loc 1) 95 [.loc 162,.at (.at (.loc 145) 4) 1])] [],.expr (.meth (.loc 1) 280 [.meth (.loc 1) 111 [.at (.loc 145) 3],.loc 162,.at (.at (.loc 145) 3) 1])] [.asg (.name 162) (.meth (.loc 1) 228 [.at (.loc 145) 5,.tup [.at (.loc 145) 4]]),.asg (.name 101) (.meth (.loc 1) 111 [.at (.loc 145) 4]),.expr (.meth (.loc 1) 259 [.loc 101,.at (.loc 145) 3,.tup [.str 143,.loc 101],.loc 162,.at (.at (.loc 145) 4) 1])]],.expr (.meth (.loc 1) 279 [.loc 111])]
noncomputable abbrev fB:List S:=[.iff (.call 132 [.loc 6,.attr (.loc 1) 37]) [.bad,.bad,.bad] [],.expr (.meth (.loc 1) 159 [.loc 101,.tup [.str 171,.loc 162]])]
noncomputable abbrev gn:List S:=[.asg (.tup [.name 233,.name 234]) (.meth (.loc 1) 275 [.meth (.loc 1) 276 [.at (.loc 145) 3]]),.asg (.name 165) (.meth (.loc 1) 120 []),.asg (.attr (.loc 1) 64) (.loc 233),.expr (.meth (.loc 1) 283 [.loc 111,.at (.loc 145) 4]),.expr (.meth (.loc 1) 127 [.tup [.str 84,.loc 165]]),.asg (.attr (.loc 1) 64) (.loc 234),.iff (.cmp .Is (.at (.loc 145) 5) .none) [.expr (.meth (.loc 1) 279 [.loc 111])] [.expr (.meth (.loc 1) 283 [.loc 111,.at (.loc 145) 5])],.expr (.meth (.loc 1) 222 [.loc 165])]
noncomputable abbrev cL:List S:=[.expr (.meth (.loc 1) 208 []),.expr (.meth (.loc 1) 147 [.loc 111,.loc 145]),.expr (.meth (.loc 1) 65 [])]
noncomputable abbrev cN:List S:=[.expr (.meth (.loc 1) 208 []),.for (.name 125) (.at (.loc 145) 3) [.expr (.meth (.loc 1) 284 [.loc 125])],.iff (.cmp .IsNot (.at (.loc 145) 4) .none) [.expr (.meth (.loc 1) 147 [.loc 111,.at (.loc 145) 4])] [.iff (.cmp .Eq (.at (.loc 145) 1) (.glob 285)) [.expr (.meth (.loc 1) 279 [.loc 111])] []],.expr (.meth (.loc 1) 65 [])]
noncomputable abbrev ao:List S:=[.Xi [.name 3,.attr (.loc 1) 3] [.attr (.loc 1) 3,.at (.loc 125) 1],.iff (.cmp .Eq (.at (.loc 125) 0) (.str 286)) [.expr (.meth (.loc 1) 287 [.at (.loc 125) 2,.at (.loc 125) 3])] [.expr (.meth (.loc 1) 208 []),.expr (.meth (.loc 1) 147 [.tup [.meth (.loc 1) 146 [.at (.at (.loc 125) 2) 1],.tup []],.at (.loc 125) 2]),.expr (.meth (.loc 1) 65 [])],.asg (.attr (.loc 1) 3) (.loc 3)]
noncomputable abbrev fC:List S:=[.iff (.cmp .Eq (.at (.loc 145) 0) (.str 244)) [.expr (.meth (.loc 1) 288 [.loc 111,.loc 145])] [.iff (.cmp .Eq (.at (.loc 145) 0) (.str 248)) [.expr (.meth (.loc 1) 282 [.tup [.str 248,.at (.loc 145) 3]])] [.iff (.cmp .Eq (.at (.loc 145) 0) (.str 247)) [.expr (.meth (.loc 1) 289 [.tup [.glob 291,.tup []],.at (.loc 145) 3]),.expr (.meth (.loc 1) 290 [.int 0]),.expr (.meth (.loc 1) 282 [.tup [.str 247]])] [.asg (.name 244) (.sub (.attr (.loc 1) 225) (.at (.loc 145) 3)),.iff (.cmp .Eq (.at (.loc 145) 0) (.str 245)) [.expr (.meth (.loc 1) 289 [.attr (.loc 244) 111,.at (.loc 145) 4])] [],.expr (.meth (.loc 1) 290 [.attr (.loc 244) 136]),.expr (.meth (.loc 1) 282 [.tup [.str 84,.jt (.cmp .Eq (.at (.loc 145) 0) (.str 245)) (.attr (.loc 244) 165) (.attr (.loc 244) 224)]])]]]]
noncomputable abbrev dG:List S:=[.iff (.cmp .Is (.loc 145) .none) [.expr (.meth (.loc 1) 279 [.loc 111])] [.expr (.meth (.loc 1) 147 [.loc 111,.loc 145])]]
noncomputable abbrev dH:List S:=[.swap [224,165] [.meth (.loc 1) 120 [],.meth (.loc 1) 120 []],.asg (.sub (.attr (.loc 1) 225) (.at (.loc 145) 3)) (.call 292 [.loc 224,.loc 165,.call 31 [.attr (.loc 1) 118],.loc 111]),.expr (.meth (.loc 1) 222 [.loc 224]),.expr (.meth (.loc 1) 208 []),.expr (.meth (.loc 1) 147 [.tup [.meth (.loc 1) 146 [.at (.at (.loc 145) 4) 1],.tup []],.at (.loc 145) 4]),.expr (.meth (.loc 1) 65 []),.expr (.meth (.loc 1) 127 [.tup [.str 84,.loc 224]]),.asg (.attr (.loc 1) 64) (.loc 165)]
noncomputable abbrev RK:List S:=[.asg (.name 293) (.call 294 [.loc 114,.loc 37]),.expr (.meth (.loc 293) 208 []),.for (.name 77) (.attr (.loc 293) 115) [.expr (.meth (.loc 293) 297 [.loc 77])],.expr (.meth (.loc 293) 208 []),.expr (.meth (.loc 293) 295 [.attr (.loc 114) 39]),.expr (.meth (.loc 293) 147 [.tup [.glob 291,.tup []],.attr (.loc 114) 92]),.expr (.meth (.loc 293) 65 []),.expr (.meth (.loc 293) 65 []),.expr (.meth (.loc 293) 127 [.tup [.str 247]]),.ret (.meth (.loc 293) 296 [])]
noncomputable abbrev tu:List S:=[.asg (.attr (.loc 1) 119) (.loc 119),.asg (.attr (.loc 1) 75) (.loc 91),.asg (.attr (.loc 1) 39) (.loc 39),.asg (.attr (.loc 1) 122) (.loc 122),.asg (.attr (.loc 1) 92) (.loc 92)]
noncomputable abbrev yH:List S:=[.asg (.attr (.loc 1) 298) (.loc 298),.asg (.attr (.loc 1) 53) (.cW 1),.asg (.attr (.loc 1) 52) (.cW 1),.asg (.attr (.loc 1) 121) (.cW 1),.asg (.attr (.loc 1) 41) (.cW 1),.asg (.attr (.loc 1) 44) (.bH []),.asg (.attr (.loc 1) 299) (.cW 1),.asg (.attr (.loc 1) 300) (.cW 1)]
noncomputable abbrev BJ:List S:=[.asg (.name 305) (.jt (.cmp .Gt (.call 31 [.loc 304]) (.int 0)) (.at (.loc 304) 0) (.int 0)),.asg (.name 306) (.call 307 [.call 32 [.loc 305],.call 32 [.bin .Sub (.neg (.int 1)) (.loc 305)]]),.ret (.bH [.bin .Mult (.loc 306) (.call 32 [.cmp .GtE (.loc 306) (.bin .Pow (.int 10) (.int 18))]),.bin .Mod (.call 32 [.bin .Mult (.bin .Add (.bin .Mod (.loc 306) (.int 2147483629)) (.int 17)) (.int 48271)]) (.int 2147483647)])]
noncomputable abbrev BK:List S:=[.iff (.cmp .Gt (.at (.loc 308) 0) (.int 0)) [.asg (.name 310) (.bin .Mod (.call 32 [.at (.loc 308) 0]) (.loc 309)),.asg (.sub (.loc 308) (.int 0)) (.bin .FloorDiv (.at (.loc 308) 0) (.loc 309)),.ret (.loc 310)] [],.asg (.sub (.loc 308) (.int 1)) (.bin .Mod (.call 32 [.bin .Add (.bin .Mult (.at (.loc 308) 1) (.int 39373)) (.int 7)]) (.int 2147483647)),.ret (.bin .Mod (.bin .FloorDiv (.bin .Mod (.call 32 [.bin .Mult (.at (.loc 308) 1) (.at (.loc 308) 1)]) (.int 2147483629)) (.int 32)) (.loc 309))]
noncomputable abbrev Fl:List S:=[.ret (.sub (.loc 311) (.call 312 [.loc 308,.call 31 [.loc 311]]))]
noncomputable abbrev yI:List S:=[.asg (.name 83) (.bH []),.for (.name 359) (.call 69 [.bin .Add (.int 1) (.call 312 [.loc 308,.int 3])]) [.iff (.cmp .Gt (.sub (.loc 374) (.str 153)) (.int 0)) [.asg (.sub (.loc 374) (.str 153)) (.bin .Sub (.sub (.loc 374) (.str 153)) (.int 1)),.expr (.K4 (.loc 83) "list" 67 "list.append" [.call 373 [.loc 308,.loc 374,.loc 313]])] []],.ret (.loc 83)]
noncomputable abbrev yJ:List S:=[.ret (.tup [.call 312 [.loc 308,.int 3],.call 319 [.loc 308,.lst [.str 161,.str 196,.str 269]],.call 312 [.loc 308,.int 6]])]
noncomputable abbrev oR:List S:=[.swap [314,111] [.call 312 [.loc 308,.int 9],.call 312 [.loc 308,.int 3]],.iff (.or [.cmp .Eq (.loc 314) (.int 0),.and [.cmp .Eq (.loc 313) (.int 0),.cmp .Gt (.loc 314) (.int 3)]]) [.ret (.tup [.str 242,.loc 111])] [],.iff (.cmp .Lt (.loc 314) (.int 4)) [.ret (.tup [.str 241,.loc 111,.call 319 [.loc 308,.lst [.str 321,.str 321,.str 260,.str 322]],.bin .Add (.int 1) (.call 312 [.loc 308,.int 4])])] [],.iff (.cmp .Eq (.loc 314) (.int 4)) [.ret (.tup [.str 315,.call 378 [.loc 308],.call 376 [.loc 308,.loc 374,.bin .Sub (.loc 313) (.int 1)],.call 376 [.loc 308,.loc 374,.bin .Sub (.loc 313) (.int 1)]])] [],.iff (.and [.cmp .Eq (.loc 314) (.int 5),.cmp .NotEq (.sub (.loc 374) (.str 379)) (.lst [])]) [.ret (.tup [.str 315,.call 378 [.loc 308],.lst [.tup [.call 319 [.loc 308,.lst [.str 245,.str 246]],.call 319 [.loc 308,.sub (.loc 374) (.str 379)]]],.lst []])] [],.iff (.and [.cmp .Eq (.loc 314) (.int 6),.cmp .Eq (.call 312 [.loc 308,.int 3]) (.int 0)]) [.ret (.tup [.str 315,.call 378 [.loc 308],.lst [.tup [.str 247,.loc 111]],.lst []])] [],.swap [375,301] [.sub (.loc 374) (.str 75),.bin .Add (.int 30) (.sub (.loc 374) (.str 75))],.asg (.sub (.loc 374) (.str 75)) (.bin .Add (.sub (.loc 374) (.str 75)) (.int 1)),.expr (.K4 (.sub (.loc 374) (.str 379)) "list" 67 "list.append" [.loc 301]),.asg (.name 26) (.call 376 [.loc 308,.loc 374,.bin .Sub (.loc 313) (.int 1)]),.expr (.K4 (.sub (.loc 374) (.str 379)) "list" 65 "list.pop" []),.ret (.tup [.str 377,.loc 301,.loc 375,.bin .Add (.int 1) (.call 312 [.loc 308,.int 3]),.loc 26,.jt (.cmp .Eq (.call 312 [.loc 308,.int 2]) (.int 0)) (.loc 111) .none])]
noncomputable abbrev BL:List S:=[.swap [82,338] [.at (.loc 36) 0,.sub (.loc 325) (.str 338)],.iff (.cmp .Eq (.loc 82) (.str 242)) [.expr (.K4 (.sub (.loc 325) (.str 340)) "list" 67 "list.append" [.sub (.loc 338) (.at (.loc 36) 1)])] [.iff (.cmp .Eq (.loc 82) (.str 241)) [.asg (.tup [.name 89,.name 328]) (.call 329 [.glob 330,.at (.loc 36) 2,.sub (.loc 338) (.at (.loc 36) 1),.at (.loc 36) 3]),.iff (.loc 328) [.ret (.tup [.str 248,.bin .Add (.bin .Add (.str 271) (.sub (.Xb [321,260,322] [.str 331,.str 332,.str 333]) (.at (.loc 36) 2))) (.str 268)])] [],.asg (.sub (.loc 338) (.at (.loc 36) 1)) (.loc 89)] [.iff (.cmp .Eq (.loc 82) (.str 315)) [.asg (.name 339) (.at (.call 329 [.glob 330,.at (.at (.loc 36) 1) 1,.sub (.loc 338) (.at (.at (.loc 36) 1) 0),.at (.at (.loc 36) 1) 2]) 0),.ret (.call 380 [.loc 325,.jt (.loc 339) (.at (.loc 36) 2) (.at (.loc 36) 3)])] [.iff (.cmp .Eq (.loc 82) (.str 377)) [.ret (.call 381 [.loc 325,.loc 36])] [.ret (.jt (.cmp .Eq (.loc 82) (.str 247)) (.tup [.str 247,.sub (.loc 338) (.at (.loc 36) 1)]) (.loc 36))]]]],.ret (.tup [])]
noncomputable abbrev jj:List S:=[.for (.name 36) (.loc 26) [.asg (.name 63) (.call 336 [.loc 325,.loc 36]),.iff (.cmp .NotEq (.loc 63) (.tup [])) [.ret (.loc 63)] []],.ret (.tup [])]
noncomputable abbrev vI:List S:=[.asg (.tup [.name 82,.name 301,.name 375,.name 382,.name 26,.name 101]) (.loc 36),.for (.name 359) (.call 69 [.loc 382]) [.asg (.name 63) (.call 380 [.loc 325,.loc 26]),.iff (.cmp .Eq (.loc 63) (.tup [.str 245,.loc 301])) [.brk] [],.iff (.and [.cmp .NotEq (.loc 63) (.tup []),.cmp .NotEq (.loc 63) (.tup [.str 246,.loc 301])]) [.ret (.loc 63)] []],.iff (.cmp .IsNot (.loc 101) .none) [.asg (.sub (.sub (.loc 325) (.str 338)) (.loc 101)) (.int 7)] [],.ret (.tup [])]
noncomputable abbrev Fo:List S:=[.asg (.name 325) (.Xb [338,340] [.ak5 [0,1,2] [.int 3,.int 250,.int 0],.bH []]),.asg (.name 63) (.call 380 [.loc 325,.loc 26]),.iff (.and [.cmp .NotEq (.loc 63) (.tup []),.cmp .Eq (.at (.loc 63) 0) (.str 248)]) [.ret (.tup [.loc 63,.sub (.loc 325) (.str 340)])] [],.ret (.tup [.tup [.str 341,.jt (.cmp .NotEq (.loc 63) (.tup [])) (.at (.loc 63) 1) (.at (.sub (.loc 325) (.str 338)) 0)],.sub (.loc 325) (.str 340)])]
noncomputable abbrev yK:List S:=[.ret (.tup [.str 156,.glob 342,.int 0,.loc 89])]
noncomputable abbrev yL:List S:=[.ret (.tup [.str 77,.glob 342,.int 0,.loc 28])]
noncomputable abbrev BP:List S:=[.ret (.tup [.str 78,.loc 356,.int 0,.call 9 [.comp [] (.one 36) (.tup [.str 349,.int 0,.call 348 [.loc 36]]) (.loc 26) [] [(446,.local),(36,.local),(348,.globalImplicit)]],.loc 344])]
noncomputable abbrev vJ:List S:=[.asg (.name 276) (.tup [.str 160,.glob 343,.int 0,.at (.loc 274) 1,.call 346 [.at (.loc 274) 0],.call 383 [.at (.loc 274) 2]]),.ret (.tup [.str 251,.glob 351,.int 0,.loc 276,.call 384 [.loc 26,.glob 351,.none],.jt (.cmp .Eq (.loc 27) (.lst [])) .none (.call 384 [.loc 27,.glob 351,.none])])]
noncomputable abbrev yM:List S:=[.asg (.name 82) (.at (.loc 36) 0),.iff (.cmp .Eq (.loc 82) (.str 242)) [.ret (.tup [.str 242,.glob 351,.int 0,.call 346 [.at (.loc 36) 1]])] [],.iff (.cmp .Eq (.loc 82) (.str 241)) [.ret (.tup [.str 241,.glob 351,.int 0,.at (.loc 36) 2,.call 346 [.at (.loc 36) 1],.call 383 [.at (.loc 36) 3]])] [],.iff (.cmp .Eq (.loc 82) (.str 315)) [.ret (.call 385 [.at (.loc 36) 1,.at (.loc 36) 2,.at (.loc 36) 3])] [],.iff (.cmp .Eq (.loc 82) (.str 377)) [.ret (.call 386 [.loc 36])] [],.iff (.cmp .Eq (.loc 82) (.str 247)) [.ret (.tup [.str 247,.tup [.str 46],.int 0,.call 346 [.at (.loc 36) 1]])] [],.ret (.jt (.cmp .Eq (.loc 82) (.str 245)) (.tup [.str 245,.tup [.str 46],.int 0,.at (.loc 36) 1,.call 383 [.int 7]]) (.tup [.str 246,.tup [.str 46],.int 0,.at (.loc 36) 1]))]
noncomputable abbrev BR:List S:=[.asg (.tup [.name 82,.name 301,.name 375,.name 382,.name 26,.name 101]) (.loc 36),.asg (.name 387) (.tup [.str 251,.glob 351,.int 0,.tup [.str 160,.glob 343,.int 0,.str 196,.call 346 [.loc 375],.call 383 [.loc 382]],.call 384 [.lst [.tup [.str 245,.loc 301]],.glob 351,.none],.none]),.asg (.name 388) (.tup [.str 241,.glob 351,.int 0,.str 321,.call 346 [.loc 375],.call 383 [.int 1]]),.asg (.name 180) (.bin .Add (.call 9 [.lst [.tup [.str 349,.int 0,.loc 387],.tup [.str 349,.int 0,.loc 388]]]) (.at (.call 384 [.loc 26,.glob 351,.none]) 3)),.asg (.name 377) (.tup [.str 244,.glob 342,.int 0,.loc 301,.tup [.str 78,.glob 351,.int 0,.loc 180,.none]]),.asg (.name 389) (.jt (.cmp .Is (.loc 101) .none) (.loc 377) (.tup [.str 159,.glob 351,.int 0,.call 346 [.loc 101],.loc 377])),.ret (.tup [.str 78,.glob 351,.int 0,.tup [.tup [.str 286,.int 0,.tup [.str 177,.glob 342,.loc 375,.str 143,.none],.call 383 [.int 0]],.tup [.str 349,.int 0,.loc 389]],.none])]
noncomputable abbrev BW:List S:=[.iff (.cmp .Eq (.at (.loc 162) 0) (.str 156)) [.ret (.at (.loc 162) 2)] [],.asg (.name 83) (.K4 (.loc 338) "dict" 17 "dict.get" [.at (.at (.loc 162) 1) 0,.str 352]),.for (.name 141) (.at (.at (.loc 162) 1) 1) [.asg (.name 83) (.jt (.cmp .NotEq (.loc 83) (.str 352)) (.sub (.loc 83) (.at (.loc 141) 1)) (.loc 83))],.ret (.loc 83)]
noncomputable abbrev tB:List S:=[.iff (.cmp .In (.loc 194) (.lst [.str 161,.str 196,.str 269])) [.ret (.tup [.jt (.cmp .Eq (.loc 194) (.str 161)) (.cmp .Lt (.loc 326) (.loc 327)) (.jt (.cmp .Eq (.loc 194) (.str 196)) (.cmp .GtE (.loc 326) (.loc 327)) (.cmp .Eq (.loc 326) (.loc 327))),.Hj false])] [],.asg (.name 353) (.jt (.cmp .Eq (.loc 194) (.str 321)) (.bin .Add (.loc 326) (.loc 327)) (.jt (.cmp .Eq (.loc 194) (.str 260)) (.bin .Sub (.loc 326) (.loc 327)) (.bin .Mult (.loc 326) (.loc 327)))),.asg (.tup [.name 354,.name 153]) (.jt (.cmp .Eq (.loc 7) (.str 355)) (.tup [.int 0,.int 256]) (.tup [.bin .Sub (.int 0) (.bin .Pow (.int 2) (.int 31)),.bin .Pow (.int 2) (.int 32)])),.ret (.tup [.bin .Add (.bin .Mod (.bin .Sub (.loc 353) (.loc 354)) (.loc 153)) (.loc 354),.not (.Rb .Lt (.loc 354) (.loc 353) (.bin .Add (.loc 354) (.loc 153)))])]
noncomputable abbrev BX:List S:=[.iff (.cmp .Eq (.at (.loc 192) 0) (.str 9)) [.aa0 26 [338] (.one 28) (.call 357 [.loc 338,.loc 28]) (.at (.loc 192) 1) [] [(446,.local),(28,.local),(357,.globalImplicit),(338,.free)],.ret (.jt (.cmp .In (.str 352) (.loc 26)) (.str 352) (.call 9 [.loc 26]))] [],.iff (.cmp .Eq (.at (.loc 192) 0) (.str 236)) [.asg (.name 89) (.call 357 [.loc 338,.at (.loc 192) 2]),.ret (.jt (.cmp .Eq (.loc 89) (.str 352)) (.str 352) (.not (.loc 89)))] [],.iff (.cmp .NotIn (.at (.loc 192) 0) (.lst [.str 160,.str 267])) [.ret (.jt (.cmp .Eq (.at (.loc 192) 0) (.str 171)) (.call 357 [.loc 338,.at (.loc 192) 1]) (.str 352))] [],.swap [326,327] [.call 357 [.loc 338,.at (.loc 192) 2],.call 357 [.loc 338,.at (.loc 192) 3]],.iff (.cmp .In (.str 352) (.lst [.loc 326,.loc 327])) [.ret (.str 352)] [],.asg (.name 356) (.call 329 [.glob 330,.at (.loc 192) 1,.loc 326,.loc 327]),.ret (.jt (.cmp .Eq (.at (.loc 192) 0) (.str 267)) (.loc 356) (.at (.loc 356) 0))]
noncomputable abbrev tC:List S:=[.iff (.cmp .Eq (.at (.loc 125) 0) (.str 134)) [.expr (.K4 (.loc 338) "dict" 65 "dict.pop" [.at (.loc 125) 1,.none])] [.iff (.cmp .Eq (.at (.loc 125) 0) (.str 242)) [.expr (.K4 (.loc 340) "list" 67 "list.append" [.call 357 [.loc 338,.at (.loc 125) 1]]),.ret (.cmp .NotEq (.sub (.loc 340) (.neg (.int 1))) (.str 352))] [.iff (.cmp .Eq (.at (.loc 125) 0) (.str 159)) [.asg (.name 89) (.call 358 [.loc 92,.loc 338,.at (.loc 125) 2]),.iff (.or [.cmp .Eq (.loc 89) (.str 352),.cmp .NotEq (.at (.at (.loc 125) 1) 1) (.tup [])]) [.ret (.Hj false)] [],.asg (.sub (.loc 338) (.at (.at (.loc 125) 1) 0)) (.loc 89)] []]],.ret (.Hj true)]
noncomputable abbrev vK:List S:=[.Xi [.name 338,.name 340,.name 64] [.cW 0,.bH [],.int 0],.for (.name 359) (.call 69 [.int 900]) [.iff (.cmp .NotEq (.comp [92,338,340] (.one 28) (.loc 28) (.meth (.loc 92) 99 [.loc 64]) [.not (.call 360 [.loc 92,.loc 338,.loc 340,.loc 28])] [(446,.local),(28,.local),(360,.globalImplicit),(92,.free),(338,.free),(340,.free)]) (.lst [])) [.ret .none] [],.asg (.name 282) (.meth (.loc 92) 81 [.loc 64]),.iff (.cmp .Eq (.at (.loc 282) 0) (.str 247)) [.ret (.tup [.tup [.str 341,.call 357 [.loc 338,.tup [.str 143,.tup [.int 0,.tup []]]]],.loc 340])] [],.iff (.cmp .Eq (.at (.loc 282) 0) (.str 84)) [.asg (.name 64) (.at (.loc 282) 1)] [.iff (.cmp .Eq (.at (.loc 282) 0) (.str 88)) [.asg (.name 89) (.call 357 [.loc 338,.at (.loc 282) 1]),.iff (.or [.cmp .Eq (.loc 89) (.str 352),.cmp .NotEq (.loc 89) (.at (.loc 282) 2)]) [.ret (.jt (.cmp .Eq (.loc 89) (.str 352)) .none (.tup [.tup [.str 248,.at (.loc 282) 3],.loc 340]))] [],.asg (.name 64) (.at (.loc 282) 4)] [.iff (.cmp .Eq (.at (.loc 282) 0) (.str 85)) [.asg (.name 89) (.call 357 [.loc 338,.at (.loc 282) 1]),.asg (.name 91) (.bin .Add (.comp [89] (.many [361,78]) (.loc 78) (.at (.loc 282) 2) [.cmp .Eq (.loc 361) (.loc 89)] [(446,.local),(361,.local),(78,.local),(89,.free)]) (.lst [.at (.loc 282) 3])),.asg (.name 64) (.at (.loc 91) 0)] [.ret .none]]]],.ret .none]
noncomputable abbrev qw:List S:=[.aa0 362 [] (.many [28,89]) (.tup [.str 286,.int 0,.tup [.str 177,.glob 342,.loc 28,.str 143,.none],.call 383 [.loc 89]]) (.lst [.tup [.int 0,.int 3],.tup [.int 1,.int 250],.tup [.int 2,.int 0]]) [] [(446,.local),(28,.local),(89,.local),(342,.globalImplicit),(383,.globalImplicit)],.asg (.name 363) (.call 384 [.loc 26,.glob 342,.call 346 [.int 0]]),.asg (.name 353) (.bin .Add (.slT (.loc 363) (.int 3)) (.tup [.bin .Add (.call 9 [.loc 362]) (.at (.loc 363) 3),.at (.loc 363) 4])),.asg (.name 92) (.call 366 [.call 368 [.str 369,.bin .Mult (.lst [.tup [.str 123,.glob 342,.Hj true]]) (.loc 153),.tup [],.glob 342,.loc 353],.call 370 []]),.ret (.cmp .Eq (.call 364 [.loc 92]) (.call 365 [.loc 26]))]
noncomputable abbrev ab3:List S:=[.asg (.name 308) (.call 371 [.loc 304]),.asg (.name 374) (.Xb [75,153,379] [.int 4,.int 9,.bH []]),.asg (.name 390) (.lst [.tup [.str 377,.int 90,.int 3,.int 2,.lst [.tup [.str 241,.int 0,.str 321,.int 1],.tup [.str 315,.tup [.int 2,.str 269,.int 0],.lst [.tup [.str 246,.int 90]],.lst []],.tup [.str 242,.int 1]],.int 2],.tup [.str 242,.int 0]]),.iff (.not (.call 372 [.loc 390,.int 4])) [.ret (.Hj false)] [],.asg (.name 26) (.bin .Add (.call 376 [.loc 308,.loc 374,.int 2]) (.call 376 [.loc 308,.loc 374,.int 2])),.ret (.call 372 [.loc 26,.sub (.loc 374) (.str 75)])]
noncomputable def Mx:Option (List Nat×Addr×Addr×Str):=some ([25],223,219,gk)
noncomputable def o9(P:Params):TD:=⟨pw,texts,K P,wK,Vi,wL,wM,wN,Ju,Xl,Xm,Mx⟩
theorem ok1:qT texts=true:=by kernel_rfl
theorem ok2(P:Params):(wK.all (Ew (tabOf texts) (K P)))=true:=by kernel_rfl
theorem ok3(P:Params):(Ju.all (Nf (tabOf texts) (K P)))=true:=by kernel_rfl
theorem ok4(P:Params):(wL.all (Ey (tabOf texts) (K P)))=true:=by kernel_rfl
theorem ok5(P:Params):(Xl.all (fun q=>Ng (K P) q.1))=true:=by kernel_rfl
theorem ok6(P:Params):(wM.all (Ez (tabOf texts) (K P)))=true:=by kernel_rfl
theorem ok7(P:Params):(wN.all (EY (K P)))=true:=by kernel_rfl
theorem ok8(P:Params):(Vi.all (Xo (tabOf texts) (K P)))=true:=by kernel_rfl
theorem ok9(P:Params):Xp (K P) sysModules=true:=by kernel_rfl
theorem an1(P:Params):Ht (o9 P)=true:=by kernel_rfl
theorem Xr(P:Params):(o9 P).ok=true:=by
 show(wK.all (Ew (tabOf texts) (K P))&&Ju.all (Nf (tabOf texts) (K P))&&wL.all (Ey (tabOf texts) (K P))&&Xl.all (fun q=>Ng (K P) q.1)&&wM.all (Ez (tabOf texts) (K P))&&wN.all (EY (K P))&&Vi.all (Xo (tabOf texts) (K P))&&Xp (K P) sysModules&&Ht (o9 P))=true
 rw [ok2,ok3,ok4,ok5,ok6,ok7,ok8,ok9,an1];rfl
theorem BZ:texts.Nodup:=Fd (by kernel_rfl)
theorem Ca(P:Params):n7 (o9 P).T sy [6] Fg:=n7.of (by kernel_rfl) (by kernel_rfl) (by kernel_rfl)
theorem Fp(P:Params):n7 (o9 P).T wU [6,37,38] Jz:=n7.of (by kernel_rfl) (by kernel_rfl) (by kernel_rfl)
theorem vL(P:Params):n7 (o9 P).T lU [6,37] yw:=n7.of (by kernel_rfl) (by kernel_rfl) (by kernel_rfl)
theorem mJ(P:Params):aU (o9 P).T gO [1,40,71,72,73,74] Bu:=aU.of (by kernel_rfl) (by kernel_rfl)
theorem qx(P:Params):n7 (o9 P).T sG [1,77] sV:=n7.of (by kernel_rfl) (by kernel_rfl) (by kernel_rfl)
theorem bw(P:Params):n7 (o9 P).T V1 [1,78] mF:=n7.of (by kernel_rfl) (by kernel_rfl) (by kernel_rfl)
theorem bx(P:Params):n7 (o9 P).T V2 [1,78] mG:=n7.of (by kernel_rfl) (by kernel_rfl) (by kernel_rfl)
theorem mK(P:Params):aU (o9 P).T dg [1,6,80,40] oM:=aU.of (by kernel_rfl) (by kernel_rfl)
theorem vM(P:Params):n7 (o9 P).T lV [81] yx:=n7.of (by kernel_rfl) (by kernel_rfl) (by kernel_rfl)
theorem vN(P:Params):n7 (o9 P).T lW [81,90] yC:=n7.of (by kernel_rfl) (by kernel_rfl) (by kernel_rfl)
theorem yN(P:Params):n7 (o9 P).T pJ [92] Bv:=n7.of (by kernel_rfl) (by kernel_rfl) (by kernel_rfl)
theorem tD(P:Params):n7 (o9 P).T jy [92,95] vA:=n7.of (by kernel_rfl) (by kernel_rfl) (by kernel_rfl)
theorem tE(P:Params):n7 (o9 P).T vp [1,114,37] vB:=n7.of (by kernel_rfl) (by kernel_rfl) (by kernel_rfl)
theorem tH(P:Params):n7 (o9 P).T cF [1,123] vC:=n7.of (by kernel_rfl) (by kernel_rfl) (by kernel_rfl)
theorem jk(P:Params):aU (o9 P).T T5 [1,6,80,40] jW:=aU.of (by kernel_rfl) (by kernel_rfl)
theorem mO(P:Params):n7 (o9 P).T dh [1,77] oN:=n7.of (by kernel_rfl) (by kernel_rfl) (by kernel_rfl)
theorem Z7(P:Params):n7 (o9 P).T aV [1] jX:=n7.of (by kernel_rfl) (by kernel_rfl) (by kernel_rfl)
theorem tK(P:Params):n7 (o9 P).T cG [1] vD:=n7.of (by kernel_rfl) (by kernel_rfl) (by kernel_rfl)
theorem vO(P:Params):n7 (o9 P).T eO [1,125] yD:=n7.of (by kernel_rfl) (by kernel_rfl) (by kernel_rfl)
theorem qy(P:Params):n7 (o9 P).T gP [1,81] sW:=n7.of (by kernel_rfl) (by kernel_rfl) (by kernel_rfl)
theorem vP(P:Params):n7 (o9 P).T lY [1,81] yE:=n7.of (by kernel_rfl) (by kernel_rfl) (by kernel_rfl)
theorem yO(P:Params):n7 (o9 P).T pK [1,78] Bw:=n7.of (by kernel_rfl) (by kernel_rfl) (by kernel_rfl)
theorem tL(P:Params):n7 (o9 P).T jz [1] vG:=n7.of (by kernel_rfl) (by kernel_rfl) (by kernel_rfl)
theorem mQ(P:Params):n7 (o9 P).T dj [1,77] oO:=n7.of (by kernel_rfl) (by kernel_rfl) (by kernel_rfl)
theorem oU(P:Params):n7 (o9 P).T Z1 [1,130] qp:=n7.of (by kernel_rfl) (by kernel_rfl) (by kernel_rfl)
theorem vQ(P:Params):n7 (o9 P).T eU [1] yF:=n7.of (by kernel_rfl) (by kernel_rfl) (by kernel_rfl)
theorem qz(P:Params):n7 (o9 P).T gQ [1,136] sX:=n7.of (by kernel_rfl) (by kernel_rfl) (by kernel_rfl)
theorem kE(P:Params):n7 (o9 P).T bW [1] mH:=n7.of (by kernel_rfl) (by kernel_rfl) (by kernel_rfl)
theorem gY(P:Params):n7 (o9 P).T Z4 [1,6] jh:=n7.of (by kernel_rfl) (by kernel_rfl) (by kernel_rfl)
theorem bA(P:Params):n7 (o9 P).T R2 [1,111,6] bJ:=n7.of (by kernel_rfl) (by kernel_rfl) (by kernel_rfl)
theorem W0(P:Params):n7 (o9 P).T Y5 [1,145] gV:=n7.of (by kernel_rfl) (by kernel_rfl) (by kernel_rfl)
theorem J9(P:Params):n7 (o9 P).T K6 [1,145] eY:=n7.of (by kernel_rfl) (by kernel_rfl) (by kernel_rfl)
theorem qC(P:Params):n7 (o9 P).T sH [1,77,170,111] sY:=n7.of (by kernel_rfl) (by kernel_rfl) (by kernel_rfl)
theorem qD(P:Params):n7 (o9 P).T gR [25] sZ:=n7.of (by kernel_rfl) (by kernel_rfl) (by kernel_rfl)
theorem Cd(P:Params):n7 (o9 P).T sJ [25,111] Fi:=n7.of (by kernel_rfl) (by kernel_rfl) (by kernel_rfl)
theorem tO(P:Params):n7 (o9 P).T jA [25,111] vH:=n7.of (by kernel_rfl) (by kernel_rfl) (by kernel_rfl)
theorem oV(P:Params):n7 (o9 P).T fW [25] qu:=n7.of (by kernel_rfl) (by kernel_rfl) (by kernel_rfl)
theorem vR(P:Params):n7 (o9 P).T lZ [145] yG:=n7.of (by kernel_rfl) (by kernel_rfl) (by kernel_rfl)
theorem bL(P:Params):n7 (o9 P).T R7 [1,25,145] cI:=n7.of (by kernel_rfl) (by kernel_rfl) (by kernel_rfl)
theorem aq(P:Params):n7 (o9 P).T O7 [1,39] aZ:=n7.of (by kernel_rfl) (by kernel_rfl) (by kernel_rfl)
theorem Ce(P:Params):n7 (o9 P).T sO [145] Fj:=n7.of (by kernel_rfl) (by kernel_rfl) (by kernel_rfl)
theorem yP(P:Params):n7 (o9 P).T Bs [1,224,165,136,111] Bx:=n7.of (by kernel_rfl) (by kernel_rfl) (by kernel_rfl)
theorem jl(P:Params):n7 (o9 P).T jU [1,114,37] jY:=n7.of (by kernel_rfl) (by kernel_rfl) (by kernel_rfl)
theorem gq(P:Params):n7 (o9 P).T Y6 [1,111,192] gW:=n7.of (by kernel_rfl) (by kernel_rfl) (by kernel_rfl)
theorem dI(P:Params):n7 (o9 P).T V3 [1,111] eZ:=n7.of (by kernel_rfl) (by kernel_rfl) (by kernel_rfl)
theorem dJ(P:Params):n7 (o9 P).T eV [1,227] fj:=n7.of (by kernel_rfl) (by kernel_rfl) (by kernel_rfl)
theorem G9(P:Params):n7 (o9 P).T I3 [1,145,229] ak:=n7.of (by kernel_rfl) (by kernel_rfl) (by kernel_rfl)
theorem gZ(P:Params):n7 (o9 P).T Z5 [1,145] ji:=n7.of (by kernel_rfl) (by kernel_rfl) (by kernel_rfl)
theorem jm(P:Params):n7 (o9 P).T aW [1,77] jZ:=n7.of (by kernel_rfl) (by kernel_rfl) (by kernel_rfl)
theorem jo(P:Params):n7 (o9 P).T aX [1,162,163,164] kh:=n7.of (by kernel_rfl) (by kernel_rfl) (by kernel_rfl)
theorem J6(P:Params):n7 (o9 P).T G3 [1,111,145] kj:=n7.of (by kernel_rfl) (by kernel_rfl) (by kernel_rfl)
theorem bB(P:Params):n7 (o9 P).T R3 [1,111,145] bK:=n7.of (by kernel_rfl) (by kernel_rfl) (by kernel_rfl)
theorem bM(P:Params):n7 (o9 P).T R8 [1,111,194,28,29,6] cJ:=n7.of (by kernel_rfl) (by kernel_rfl) (by kernel_rfl)
theorem J3(P:Params):n7 (o9 P).T w6 [1,111,145] dF:=n7.of (by kernel_rfl) (by kernel_rfl) (by kernel_rfl)
theorem dK(P:Params):n7 (o9 P).T eX [1,101,162,6] fB:=n7.of (by kernel_rfl) (by kernel_rfl) (by kernel_rfl)
theorem fD(P:Params):n7 (o9 P).T N6 [1,111,145] gn:=n7.of (by kernel_rfl) (by kernel_rfl) (by kernel_rfl)
theorem bN(P:Params):n7 (o9 P).T R9 [1,111,145] cL:=n7.of (by kernel_rfl) (by kernel_rfl) (by kernel_rfl)
theorem R4(P:Params):n7 (o9 P).T G4 [1,111,145] cN:=n7.of (by kernel_rfl) (by kernel_rfl) (by kernel_rfl)
theorem M5(P:Params):n7 (o9 P).T N8 [1,125] ao:=n7.of (by kernel_rfl) (by kernel_rfl) (by kernel_rfl)
theorem G8(P:Params):n7 (o9 P).T u5 [1,111,145] fC:=n7.of (by kernel_rfl) (by kernel_rfl) (by kernel_rfl)
theorem S5(P:Params):n7 (o9 P).T J8 [1,111,145] dG:=n7.of (by kernel_rfl) (by kernel_rfl) (by kernel_rfl)
theorem cO(P:Params):n7 (o9 P).T dz [1,111,145] dH:=n7.of (by kernel_rfl) (by kernel_rfl) (by kernel_rfl)
theorem Nq(P:Params):n7 (o9 P).T yu [114,37] RK:=n7.of (by kernel_rfl) (by kernel_rfl) (by kernel_rfl)
theorem qF(P:Params):n7 (o9 P).T sS [1,119,91,39,122,92] tu:=n7.of (by kernel_rfl) (by kernel_rfl) (by kernel_rfl)
theorem vU(P:Params):aU (o9 P).T mj [1,298] yH:=aU.of (by kernel_rfl) (by kernel_rfl)
theorem yQ(P:Params):n7 (o9 P).T pL [304] BJ:=n7.of (by kernel_rfl) (by kernel_rfl) (by kernel_rfl)
theorem yR(P:Params):n7 (o9 P).T pN [308,309] BK:=n7.of (by kernel_rfl) (by kernel_rfl) (by kernel_rfl)
theorem pW(P:Params):n7 (o9 P).T jV [308,311] Fl:=n7.of (by kernel_rfl) (by kernel_rfl) (by kernel_rfl)
theorem vV(P:Params):n7 (o9 P).T V4 [308,374,313] yI:=n7.of (by kernel_rfl) (by kernel_rfl) (by kernel_rfl)
theorem vW(P:Params):n7 (o9 P).T mq [308] yJ:=n7.of (by kernel_rfl) (by kernel_rfl) (by kernel_rfl)
theorem bY(P:Params):n7 (o9 P).T dD [308,374,313] oR:=n7.of (by kernel_rfl) (by kernel_rfl) (by kernel_rfl)
theorem K7(P:Params):n7 (o9 P).T pO [325,36] BL:=n7.of (by kernel_rfl) (by kernel_rfl) (by kernel_rfl)
theorem iu(P:Params):n7 (o9 P).T Z6 [325,26] jj:=n7.of (by kernel_rfl) (by kernel_rfl) (by kernel_rfl)
theorem tQ(P:Params):n7 (o9 P).T jB [325,36] vI:=n7.of (by kernel_rfl) (by kernel_rfl) (by kernel_rfl)
theorem Cg(P:Params):n7 (o9 P).T sU [26] Fo:=n7.of (by kernel_rfl) (by kernel_rfl) (by kernel_rfl)
theorem vX(P:Params):n7 (o9 P).T mz [89] yK:=n7.of (by kernel_rfl) (by kernel_rfl) (by kernel_rfl)
theorem vY(P:Params):n7 (o9 P).T mD [28] yL:=n7.of (by kernel_rfl) (by kernel_rfl) (by kernel_rfl)
theorem yS(P:Params):n7 (o9 P).T pP [26,356,344] BP:=n7.of (by kernel_rfl) (by kernel_rfl) (by kernel_rfl)
theorem iw(P:Params):n7 (o9 P).T vq [274,26,27] vJ:=n7.of (by kernel_rfl) (by kernel_rfl) (by kernel_rfl)
theorem I6(P:Params):n7 (o9 P).T Q7 [36] yM:=n7.of (by kernel_rfl) (by kernel_rfl) (by kernel_rfl)
theorem yU(P:Params):n7 (o9 P).T pQ [36] BR:=n7.of (by kernel_rfl) (by kernel_rfl) (by kernel_rfl)
theorem yV(P:Params):n7 (o9 P).T pR [338,162] BW:=n7.of (by kernel_rfl) (by kernel_rfl) (by kernel_rfl)
theorem fY(P:Params):n7 (o9 P).T aY [7,194,326,327] tB:=n7.of (by kernel_rfl) (by kernel_rfl) (by kernel_rfl)
theorem yW(P:Params):n7 (o9 P).T pU [92,338,192] BX:=n7.of (by kernel_rfl) (by kernel_rfl) (by kernel_rfl)
theorem qG(P:Params):n7 (o9 P).T gU [92,338,340,125] tC:=n7.of (by kernel_rfl) (by kernel_rfl) (by kernel_rfl)
theorem tR(P:Params):n7 (o9 P).T jC [92] vK:=n7.of (by kernel_rfl) (by kernel_rfl) (by kernel_rfl)
theorem oW(P:Params):n7 (o9 P).T fX [26,153] qw:=n7.of (by kernel_rfl) (by kernel_rfl) (by kernel_rfl)
theorem Xu(P:Params):n7 (o9 P).T Bt [304] ab3:=n7.of (by kernel_rfl) (by kernel_rfl) (by kernel_rfl)
noncomputable abbrev ab4:=@PySem.W.Fast.tw10110043849684766642
theorem Ci:@segRunT=ab4:=PySem.W.Fast.te10110043849684766642
noncomputable abbrev Hw:=@PySem.W.Fast.tw14364793385576792824
theorem mR:@treeTable=Hw:=PySem.W.Fast.te14364793385576792824
noncomputable abbrev RL:=@PySem.W.Fast.tw12563942051412417395
theorem tU:@execs=RL:=PySem.W.Fast.te12563942051412417395
noncomputable abbrev RM:Env:={scope:=pw.main.scope,locals:=mainNs,globals:=mainNs,cells:=[],code:=.ref 13,frame:=some 14}
noncomputable abbrev p0:Pos:={line:=0,col:=0,endLine:=0,endCol:=0}
noncomputable abbrev S_(s:String)(t:Nat):Value:=.str (Str.ofString s) t
noncomputable def o11:Obj:=⟨.type "tuple",none,.seq #[] 0,#[]⟩
noncomputable def o12:Obj:=⟨.none,none,.fields #[],#[]⟩
noncomputable def o13:Obj:=⟨.type "code",none,.fields #[S_ "<module>" 182,S_ "<module>" 183,S_ "/claim/cut.py" 184,.int 1 0,.int 0 0,.int 0 0,.int 0 0,.int 0 0,.ref 11,.bool false,.int 181 0,.ref 12,.none,.none,.none,.none,.int 185 0,.int 1 0,S_ "/claim/cut.py" 186],#[]⟩
noncomputable def o14:Obj:=⟨.type "frame",none,.plain,#[some (.ref 13),some (.ref 3),some (.ref 3),none,some (S_ "__main__" 164),none,some (.ref 0)]⟩
noncomputable def Nr:List Obj→Nat→BT→BT
 | [],_,t=>t
 |o::r,i,t=>Nr r (i+1) (t.ins i o)
noncomputable def saT(P:Params):BT:=Nr [boot_o_0 P,boot_o_1 P,boot_o_2 P,boot_o_3 P,boot_o_4 P,boot_o_5 P,boot_o_6 P,boot_o_7 P,boot_o_8 P,boot_o_9 P,boot_o_10 P,o11,o12,o13,o14] 0 .nil
noncomputable def sa(P:Params)(os:OsState):SharedT:=⟨saT P,15,(boot_heap P).life,Array.mk [],boot_drawn,187,os⟩
noncomputable def Nt:Code:=.body (behindTheImports pw) RM
noncomputable abbrev Xv:=@PySem.W.Fast.tw4187177175401517315
theorem wV:@openSeen = @Xv:=PySem.W.Fast.te4187177175401517315
noncomputable def ab5:Nat:=90
noncomputable def qv:Program:={pw with main:={pw.main with body:=(pw.main.body[ab5]?).toList}}
noncomputable def loose:List Str:=[Str.ofString "_wall",Str.ofString "LendError",Str.ofString "PatternFault",Str.ofString "COPY",Str.ofString "DROP",Str.ofString "parts_of",Str.ofString "rebuilt",Str.ofString "substituted",Str.ofString "with_regions",Str.ofString "no_region",Str.ofString "erased",Str.ofString "matched",Str.ofString "impl_bounds",Str.ofString "is_copy",Str.ofString "field_rows",Str.ofString "fields_of",Str.ofString "has_drop",Str.ofString "needs_drop",Str.ofString "Body",Str.ofString "successors",Str.ofString "retargeted",Str.ofString "reachable",Str.ofString "with_blocks",Str.ofString "field_type",Str.ofString "projected",Str.ofString "place_type",Str.ofString "RESULT",Str.ofString "Scopes",Str.ofString "BOOL_build_places",Str.ofString "USIZE",Str.ofString "OUT_OF_BOUNDS",Str.ofString "longer",Str.ofString "PlaceBuilder",Str.ofString "Binding",Str.ofString "rows_of",Str.ofString "alternatives",Str.ofString "parts_at",Str.ofString "bindings_at",Str.ofString "mentions",Str.ofString "is_plain_name",Str.ofString "is_kept_on",Str.ofString "MatchBuilder",Str.ofString "BOOL_build_exprs",Str.ofString "UNIT",Str.ofString "NEVER",Str.ofString "PLACES",Str.ofString "CHECKED",Str.ofString "VERBS",Str.ofString "is_quiet",Str.ofString "Loop",Str.ofString "ExprBuilder",Str.ofString "lower",Str.ofString "TypedFn",Str.ofString "World",Str.ofString "_law_kind",Str.ofString "_law_int",Str.ofString "_law_bool",Str.ofString "_law_unit",Str.ofString "_law_pool",Str.ofString "_law_take",Str.ofString "_law_one",Str.ofString "_law_block",Str.ofString "_law_asked",Str.ofString "_law_statement",Str.ofString "_law_done",Str.ofString "_law_gone_through",Str.ofString "_law_rounds",Str.ofString "_law_due",Str.ofString "_law_const",Str.ofString "_law_local",Str.ofString "_law_tree",Str.ofString "_law_choice",Str.ofString "_law_typed",Str.ofString "_law_ring",Str.ofString "_law_read",Str.ofString "_law_counted",Str.ofString "_law_made",Str.ofString "_law_stepped",Str.ofString "_law_walked",Str.ofString "_law_is_right"]
noncomputable abbrev p1:Pos:={line:=1039,col:=0,endLine:=1046,endCol:=46}
noncomputable def Xt(_:Shared):Bool:=true
set_option maxHeartbeats 0
noncomputable abbrev Hx:=@PySem.W.Fast.tw15667345088766844465
theorem Fq:@topGo = @Hx:=PySem.W.Fast.te15667345088766844465
noncomputable abbrev Vq:=@PySem.W.Fast.tw11892475500146522536
theorem Nu:@denote = @Vq:=PySem.W.Fast.te11892475500146522536
noncomputable abbrev Vr:=@PySem.W.Fast.tw14374325043358763698
theorem Nv:@segRun = @Vr:=PySem.W.Fast.te14374325043358763698
noncomputable abbrev Vs:=@PySem.W.Fast.tw1066825118222455980
theorem Nx:@blockStart = @Vs:=PySem.W.Fast.te1066825118222455980
theorem an2(w:World)(os:OsState):Hx Hw pw w 11 (some (.ref 6)) 12 ⟨boot_heap w.params,Array.mk [],boot_drawn,boot_toks,os⟩ (topStub pw)=some ((sa w.params os).abs,⟨Vq Hw Nt,Nt,p0,[topFrame p0]⟩):=by kernel_rfl
theorem an3(w:World)(os:OsState):Vr Hw pw w 11 (some (.ref 6)) 1 1 (sa w.params os).abs ⟨(Vs (behindTheImports pw) RM).wrap (fun O=>doneF .next) deadEnd id id,Nt,p0,[topFrame p0]⟩=some (.next,(sa w.params os).abs,Nt,p0):=by kernel_rfl
theorem an4(w:World)(s:Shared):topRun treeTable pw w 11 (some (.ref 6)) 2 s ⟨doneF .next,Nt,p1,[topFrame p0]⟩=some s:=by kernel_rfl
theorem ab6(w:World):((boot_heap w.params).isNs mainGlobals,(boot_heap w.params).objs.size,(boot_heap w.params).nsMap mainGlobals "__annotations__")=(true,11,some (.ref 6)):=by kernel_rfl
theorem an5:opening pw=plainProg pw.main.scope.names:=by kernel_rfl
theorem an6(s:Shared):fenceModules? pw s=some s:=by kernel_rfl
theorem RN{p q:Program}{loose:List Str}{Xt:Shared→Bool}{α:Type}{Yf:Shared→α}{Ya:World→α}{N:Nat}(h:∀w:World,∃(H0:Heap) (d:Drawn) (k m0 M j:Nat) (ann:Option Value),(fencedOpening treeTable p w N).map (fun s=>(s.heap,s.gens,s.drawn,s.toks))=some (H0,Array.mk [],d,k)∧(H0.isNs mainGlobals,H0.objs.size,H0.nsMap mainGlobals "__annotations__")=(true,m0,ann)∧M+j=N∧
  ∀os,∃s1,topRun treeTable p w m0 ann M ⟨H0,Array.mk [],d,k,os⟩ (topStub p)=some s1∧(staticsOk (importedModules p.main.body) H0 s1.heap&&namesBound p s1.heap&&gensDone s1&&laidKept H0 s1.heap)=true∧
   openSeen q loose (importedModules p.main.body) Xt true s1=openGood q loose∧Yf s1=Ya w):LeftO p q loose Xt Yf Ya N:=fun w=>by
 obtain⟨H0,d,k,m0,M,j,ann,h1,h2,h3,h4⟩:=h w
 obtain⟨⟨h,gs,d',k',os⟩,e1,e2⟩:=Option.map_eq_some_iff.mp h1
 obtain⟨rfl,rfl,rfl,rfl⟩:h=H0∧gs=Array.mk []∧d'=d∧k'=k:=by simpa using e2
 obtain⟨z1,z2,z3⟩:h.isNs mainGlobals=true∧h.objs.size=m0∧h.nsMap mainGlobals "__annotations__" = ann:=by simpa using h2
 obtain⟨s1,r,k1,k2,k3⟩:=h4 os
 have top:topFrom treeTable p w N ⟨h,Array.mk [],d',k',os⟩=some s1:=by
  have r:=topRun_mono j _ _ _ _ r
  rw [h3] at r
  unfold topFrom
  dsimp only
  rw [z1,z2,z3,r]
  show(match staticsOk (importedModules p.main.body) h s1.heap&&namesBound p s1.heap&&gensDone s1&&laidKept h s1.heap with|true=>some s1|false=>none)=_
  rw [k1]
 unfold openEnds
 rw [e1]
 show(topFrom treeTable p w N _).map _=_
 rw [top]
 exact congrArg some (Prod.ext k2 k3)
theorem six{A B C D E F:Type}{a a':A}{b b':B}{c c':C}{d d':D}{e e':E}{f f':F}(h:(a,b,c,d,e,f)=(a',b',c',d',e',f')):a=a'∧b=b'∧c=c'∧d=d'∧e=e'∧f=f':=by
 simpa using h
theorem run_mk{p:Program}{w:World}{m0 n1 n2:Nat}{ann:Option Value}{s0:Shared}{sa s:SharedT}{env:Env}{b:List Stmt}{c:Code}{q q1 q2:Pos}(h1:topGo treeTable p w m0 ann n1 s0 (topStub p)=some (sa.abs,⟨denote treeTable (.body b env),c,q,[topFrame q]⟩))
  (h2:segRun treeTable p w m0 ann 1 1 sa.abs (blockOf b env c q [topFrame q])=some (.next,sa.abs,c,q1)) (h3:segRunT treeTable p w m0 ann 1 n2 sa (piecesOf b env c q1 [topFrame q])=some (.next,s,c,q2)) (h4:topRun treeTable p w m0 ann 2 s.abs ⟨doneF .next,c,q2,[topFrame q]⟩=some s.abs):
  topRun treeTable p w m0 ann (n1+(1+(n2+2))) s0 (topStub p)=some s.abs:=by
 have z:=piece_app (rest:=[]) (q:=q) (segRun_of h3) (piece_nil h4)
 rw [List.append_nil] at z
 exact go_top h1 (piece_block h2 z)
noncomputable def tV(p q:Program)(loose:List Str)(K:Frag)(n:Nat)(c:Code)(p1:Pos)(H0:Heap)(r:Option (Flow×SharedT×Code×Pos)):Prop:=
 r.map (fun r=>((r.1,r.2.2),(staticsOk (importedModules p.main.body) H0 r.2.1.abs.heap&&namesBound p r.2.1.abs.heap&&gensDone r.2.1.abs&&laidKept H0 r.2.1.abs.heap),K.map (fun q=>r.2.1.tree.get q.1),r.2.1.n,(),openSeen q loose (importedModules p.main.body) Xt true r.2.1.abs))=some ((Flow.next,c,p1),true,K.map (fun q=>some q.2),n,(),openGood q loose)
noncomputable def Hy(o:Obj):Bool:=match o.data with
 |.freed=>false
 |_=>true
theorem Ny{o:Obj}(h:Hy o=true):alive o=some o:=by
 obtain⟨c,d,x,sl⟩:=o
 cases x<;>first|rfl|cases h
theorem ab7{K:Frag}{T:BT}{n:Nat}{life:Life}(h1:K.map (fun q=>T.get q.1)=K.map fun q=>some q.2)(h2:K.all (fun q=>Nat.blt q.1 n&&Hy q.2)=true):(K.map (·.1)).map (absHeap T n life).get? = K.map fun q=>some q.2:=by
 rw [List.map_map]
 refine List.map_congr_left fun q hq=>?_
 obtain⟨a,b⟩:=d9 (List.all_eq_true.mp h2 q hq)
 exact(abs_get (Nat.le_of_ble_eq_true a) (List.map_inj_left.mp h1 q hq)).trans (Ny b)
theorem tV.of{p q:Program}{loose:List Str}{K:Frag}{n:Nat}{c:Code}{p1:Pos}{H0:Heap}{r:Option (Flow×SharedT×Code×Pos)}(h:tV p q loose K n c p1 H0 r)(hK:K.all (fun q=>Nat.blt q.1 n&&Hy q.2)=true):
  ∃s:SharedT,r=some (.next,s,c,p1)∧(staticsOk (importedModules p.main.body) H0 s.abs.heap&&namesBound p s.abs.heap&&gensDone s.abs&&laidKept H0 s.abs.heap)=true∧openSeen q loose (importedModules p.main.body) Xt true s.abs=openGood q loose∧(K.map (·.1)).map s.abs.heap.get? = K.map fun q=>some q.2:=by
 obtain⟨⟨f,⟨T,m,life,gs,d,k,os⟩,c',p'⟩,r1,r2⟩:=Option.map_eq_some_iff.mp h
 obtain⟨h1,h2,h3,h4,_,h6⟩:=six r2
 obtain⟨rfl,rfl,rfl⟩:f = .next∧c'=c∧p'=p1:=by simpa using h1
 obtain rfl:m=n:=h4
 exact⟨_,r1,h2,h6,ab7 h3 hK⟩
noncomputable def KT(P:Params):Frag:=(J0,tabObj #[])::K P
noncomputable def Ran(w:World):Prop := ∀os:OsState,tV pw qv loose (KT w.params) 1044 Nt p1 (boot_heap w.params) (segRunT treeTable pw w 11 (some (.ref 6)) 1 6813 (sa w.params os) (piecesOf (behindTheImports pw) RM Nt p0 [topFrame p0]))
theorem an7(w:World):Ran (w.withFollow "special-get-raises" false):=by
 unfold Ran tV piecesOf
 rw [Ci,mR,tU,wV]
 intro os
 kernel_rfl
theorem an8(w:World):Ran (w.withFollow "special-get-raises" true):=by
 unfold Ran tV piecesOf
 rw [Ci,mR,tU,wV]
 intro os
 kernel_rfl
theorem ran(w:World):Ran w:=byRow2 "special-get-raises" an7 an8 w
theorem an9(P:Params):(KT P).all (fun q=>Nat.blt q.1 1044&&Hy q.2)=true:=by kernel_rfl
theorem as_(P:Params):J0::asK=(KT P).map (·.1):=by kernel_rfl
theorem pre'(w:World)(os:OsState):topGo treeTable pw w 11 (some (.ref 6)) 12 ⟨boot_heap w.params,Array.mk [],boot_drawn,boot_toks,os⟩ (topStub pw)=some ((sa w.params os).abs,⟨denote treeTable Nt,Nt,p0,[topFrame p0]⟩):=by
 rw [Fq,mR,Nu];exact an2 w os
theorem ao0(w:World)(os:OsState):segRun treeTable pw w 11 (some (.ref 6)) 1 1 (sa w.params os).abs (blockOf (behindTheImports pw) RM Nt p0 [topFrame p0])=some (.next,(sa w.params os).abs,Nt,p0):=by
 unfold blockOf
 rw [Nv,mR,Nx];exact an3 w os
noncomputable def tW:Hook:=kHook KT (J0::asK) as_
theorem ab8:LeftO pw qv loose Xt tW.obs tW.val 7000:=RN fun w=>⟨_,_,_,_,_,172,_,boot_open (N:=7000) an5 (by decide) an6 w,ab6 w,rfl,fun os=>by
 obtain⟨s,r,k1,k2,k3⟩:=(ran w os).of (an9 w.params)
 exact⟨s.abs,run_mk (pre' w os) (ao0 w os) r (an4 w s.abs),k1,k2,(congrArg (List.map s.abs.heap.get?) (as_ w.params)).trans k3⟩⟩
noncomputable abbrev j8:OpenLaw:=PySem.Challenge.rw_ot0049_02
set_option maxHeartbeats 0
theorem pX:@noRoadLSs = @PySem.W.Fast.tw8326940854005059898:=PySem.W.Fast.te8326940854005059898
theorem bZ:@namesMeet = @PySem.W.Fast.tw17119622794617984870:=PySem.W.Fast.te17119622794617984870
theorem Cj:@sreFenced = @PySem.W.Fast.tw11788848310118352699:=PySem.W.Fast.te11788848310118352699
theorem tZ:@namesResolve = @PySem.W.Fast.tw8377067652309620493:=PySem.W.Fast.te8377067652309620493
theorem uc:@lookedIntoSs = @PySem.W.Fast.tw12862048085361865435:=PySem.W.Fast.te12862048085361865435
theorem Ck:@defStands = @PySem.W.Fast.tw9558739934217749035:=PySem.W.Fast.te9558739934217749035
theorem ud:@noClassBlock = @PySem.W.Fast.tw8179353310426384613:=PySem.W.Fast.te8179353310426384613
theorem mU:@OpenLaw.namesIt = @PySem.W.Fast.tw16286561074155671207:=PySem.W.Fast.te16286561074155671207
theorem qH:@OpenLaw.reads = @PySem.W.Fast.tw6984425678791042302:=PySem.W.Fast.te6984425678791042302
theorem Ft:@footLine = @PySem.W.Fast.tw10501279942588096481:=PySem.W.Fast.te10501279942588096481
theorem RP:@attrL = @PySem.W.Fast.tw17868728402115742887:=PySem.W.Fast.te17868728402115742887
theorem Y7:@Program.boundNames = @PySem.W.Fast.tw18344453789297297638:=PySem.W.Fast.te18344453789297297638
theorem Fv:@readsOut = @PySem.W.Fast.tw13343964577679436407:=PySem.W.Fast.te13343964577679436407
theorem mV:@importedModules = @PySem.W.Fast.tw5923862056798008813:=PySem.W.Fast.te5923862056798008813
theorem W9:@OpenLaw.own = @PySem.W.Fast.tw10792542408131684335:=PySem.W.Fast.te10792542408131684335
theorem yX:@worldNames = @PySem.W.Fast.tw14412699480532031325:=PySem.W.Fast.te14412699480532031325
theorem vZ:@moduleNames = @PySem.W.Fast.tw9807087744658564304:=PySem.W.Fast.te9807087744658564304
theorem dM:@OpenLaw.bound' = @PySem.W.Fast.tw797321630700447069:=PySem.W.Fast.te797321630700447069
theorem jD:@OpenLaw.may = @PySem.W.Fast.tw9572597257264208301:=PySem.W.Fast.te9572597257264208301
theorem lo1:sreFenced pw.main=true:=by rw [Cj];kernel_rfl
theorem lo2:((moduleNames pw.main.body).isEmpty||lookedIntoSs (moduleNames pw.main.body) pw.main.body)=true:=by rw [vZ,uc];kernel_rfl
theorem lo3:namesResolve pw=true:=by rw [tZ];kernel_rfl
theorem lo4:pw.boundNames.all (fun n => !worldNames.contains n)=true:=by rw [Y7,yX];kernel_rfl
theorem lo5:noRoadLSs {strict := !(importedModules pw.main.body).all cThrough.contains,foot:=none,bare:=(["vars","dir","locals"]:List Str).filter (readsOut pw pw.main.body)} pw.main.body=true:=by rw [pX,mV,Fv];kernel_rfl
theorem lo6:namesMeet pw pw.main.body (fun O n=>attrL n)=true:=by rw [bZ,RP];kernel_rfl
theorem ls2:decide (j8.foot≤(behindTheImports j8.prog).length)=true:=by kernel_rfl
theorem ls3:j8.footing.all footLine=true:=by rw [Ft];kernel_rfl
theorem ls4:noClassBlock j8.prog j8.footing=true:=by rw [ud];kernel_rfl
theorem ls5:j8.most.all (fun n=>decide (63≤n))=true:=by kernel_rfl
theorem ls6:j8.bound.all (fun n=>decide (2 ^ 63≤n))=true:=by kernel_rfl
theorem ls7:noRoadLSs {strict:=true,foot:=some j8.bound',writes:=j8.writes,may:=j8.may} j8.footing=true:=by rw [pX,dM,jD];kernel_rfl
theorem ls8:defStands j8.about j8.above=true:=by rw [Ck];kernel_rfl
theorem ls9:j8.namesIt=true:=by rw [mU];kernel_rfl
theorem ao2:(["type","isinstance","issubclass","getattr","hasattr"]:List Str).all (fun n=>j8.about != [n])=true:=by kernel_rfl
theorem ao3:j8.bound'.all (fun n => !builtinNamed n||j8.about==[n] || !j8.reads n)=true:=by rw [dM,qH,PySem.W.Fast.named_eq];kernel_rfl
theorem ao4:(!j8.writes||(j8.prog.main.body.flatMap importedNames).all fun n => !j8.reads n)=true:=by kernel_rfl
theorem ao5:(j8.prog.main.body.flatMap importedNames).all (fun n => !j8.reads n||(drawsOf n j8.prog.main.body).all fun mn=>mn.2 != ("attrgetter" : Str)&&mn.2 != ("methodcaller" : Str))=true:=by kernel_rfl
theorem ao6:namesMeet j8.prog j8.footing (fun sc n=>(!(["type","isinstance","issubclass","getattr","hasattr"]:List Str).contains n||sc.names.lookup n==some .globalImplicit)&&(j8.may != some n||sc.kind == .module||sc.names.lookup n==some .globalImplicit))=true:=by rw [bZ,jD];kernel_rfl
theorem ao7:j8.own.contains j8.name=true:=by rw [W9];kernel_rfl
theorem ao8:(j8.own.eraseDups.length==j8.own.length)=true:=by rw [W9];kernel_rfl
theorem ao9:j8.own.all (fun n => !builtinNamed n)=true:=by rw [W9,PySem.W.Fast.named_eq];kernel_rfl
theorem ap0:namesMeet j8.prog j8.above (fun O n => !j8.own.contains n)=true:=by rw [bZ,W9];kernel_rfl
theorem ap1:namesMeet j8.prog j8.footing (fun sc n=>sc.kind == .module||sc.names.lookup n != some .globalExplicit)=true:=by rw [bZ];kernel_rfl
theorem lo_:looksOpen pw=true:=look_both (look_both (look_both (look_both (look_both lo1 lo2) lo3) lo4) lo5) lo6
theorem ab9:j8.row.partSaid=true:=
 look_both (look_both (look_both (look_both (look_both (look_both (look_both (look_both (look_both (look_both (look_both (look_both (look_both lo_ rfl) rfl) rfl) rfl) (by kernel_rfl)) rfl) (by kernel_rfl)) (by kernel_rfl)) (by kernel_rfl)) rfl) rfl) rfl) rfl
theorem bn_:pw.boundNames.contains j8.name=true:=by rw [Y7];kernel_rfl
theorem ap2:j8.row.wellSaid=true:=look_both (look_both ab9 bn_) (by kernel_rfl)
theorem ac0:j8.wellSaid=true:=by
 have z:=look_both (look_both (look_both (look_both (look_both (look_both (look_both (look_both (look_both (look_both (look_both (look_both (look_both (look_both (look_both (look_both (look_both (look_both ap2 ls2) ls3) ls4) ls5) ls6) ls7) ls8) ls9) ao2) ao3) ao4) ao5) ao6) ao7) ao8) ao9) ap0) ap1
 exact z
theorem Nz:(PySem.W.defOf qv j8.row.name).isSome=true:=by kernel_rfl
noncomputable def Cm:DefRec×List (Str×PySem.Expr):=(PySem.W.defOf qv j8.row.name).get Nz
theorem RQ:PySem.W.defOf qv j8.row.name=some (Cm.1,Cm.2):=(Option.some_get Nz).symm
noncomputable abbrev ac1:=@PySem.W.Fast.tw10235530238920679567
theorem NK:@Program.theDef = @ac1:=PySem.W.Fast.te10235530238920679567
theorem RT:j8.row.prog.theDef j8.row.name=some (Cm.1.params,Cm.1.body,Cm.1.scope):=by
 rw [NK];kernel_rfl
theorem kw_:kwWritten? Cm.1.params.kwonlyargs Cm.1.params.kw_defaults=some Cm.2:=by kernel_rfl
theorem ok_:(chainsOk qv&&opensWell j8.row.prog&&(frees j8.row.toRowW&&j8.row.within.isEmpty))=true:=by kernel_rfl
theorem ac2:j8.row.prog.bare:=⟨rfl,rfl,rfl,rfl,rfl,by kernel_rfl⟩
theorem Vt:j8.row.toRowW.promised:=⟨[.list []],by kernel_rfl,by kernel_rfl⟩
theorem jE:∀{xs:List WData},WShape.hasItems [] xs .int=true→∃is:List Int,xs=is.map WData.int
 | [],_=>⟨[],rfl⟩
 |x::xs,h=>by
  obtain⟨h1,h2⟩:=d9 (show(WShape.has [] x .int&&WShape.hasItems [] xs .int)=true from h)
  obtain⟨is,rfl⟩:=jE h2
  cases x<;>first|exact nomatch (show false=true from h1)|exact⟨_::is,rfl⟩
theorem lay_ints{R:WRecords}{cl:Str→Option Addr}{P:Params}{ord:List DictEntry→List DictEntry}:∀(is:List Int) (s:Shared),∃vs t,layAllW R cl P ord (is.map WData.int) s=some (vs,{s with toks:=t})∧∀tab h H,m8 tab h H (is.map PV.int) vs
 | [],s=>⟨[],s.toks,rfl,fun O O O=>rfl⟩
 |i::is,s=>by
  obtain⟨vs,t,e,r⟩:=lay_ints (R:=R) (cl:=cl) (P:=P) (ord:=ord) is {s with toks:=s.toks+1}
  refine⟨.int i s.toks::vs,t,?_,fun tab h H=>⟨_,_,rfl,⟨_,rfl⟩,r tab h H⟩⟩
  show(match layAllW R cl P ord (is.map WData.int) {s with toks:=s.toks+1} with|some r=>some (Value.int i s.toks::r.1,r.2)|none=>none)=_
  rw [e]
theorem Xw(P:Params):KeysLit P []:=trivial
theorem RV{P:Params}{e:DictEntry}{r:List DictEntry}{x:Str}{t:Tok}(h1:e.key = .str x t)(h2:e.hash=PyData.keyHash P x)(h:KeysLit P r):KeysLit P (e::r):=⟨⟨x,t,h1,h2⟩,h⟩
theorem ac3(P:Params):∀q∈Vi,∃es n,(K P).lookup q.1=some ⟨.type "dict",none,.dict es n,#[]⟩∧KeysLit P es.toList:=by
 intro q hq
 cases hq with
 |head=>exact⟨_,_,rfl,by repeat' first|exact Xw P|refine RV rfl rfl ?_⟩
 |tail _ h=>cases h
theorem RW(P:Params):nsIn (K P) mainGlobals j8.row.name=some (some (.ref Bt)):=by kernel_rfl
theorem RX{xs:List WData}(h:j8.row.pre.holds [] {args:=[.list xs]}=true):xs.length≤63:=by
 have z:=condW_of (X := !decide ((63:Int)<(xs.length:Int))) (holds_andW h).1 rfl
 have z:=of_decide_eq_false ((Bool.not_eq_true' _).mp z)
 lia
theorem post_(a:List WData):j8.row.claim.post a (.bool true) a=true:=by
 have h:j8.row.post.value [] {args:=a,res:=some (.bool true),after:=a}=some (.bool (same (.bool true) (.bool true))):=rfl
 show(true&&(match j8.row.post.value [] {args:=a,res:=some (.bool true),after:=a} with|some (.bool true)=>true|_=>false))=true
 rw [h,same_self];rfl
noncomputable def erase(h:Heap)(a:Addr):Heap:=h.update a fun o=>{o with data:=.freed}
theorem uf(h:Heap)(a:Addr):(erase h a).get? a=none:=by
 obtain⟨objs,l⟩:=h
 show(match(objs.modify a _)[a]? with|some ⟨_,_,.freed,_⟩=>none|o=>o)=none
 rw [Array.getElem?_modify,if_pos rfl]
 cases objs[a]? <;> rfl
theorem ug{h:Heap}{a b:Addr}{o:Obj}(e:(erase h a).get? b=some o):h.get? b=some o:=by
 by_cases z:b=a
 ·rw [z,uf] at e;cases e
 ·exact((Heap.SameBut.update h a _).2 b z).symm.trans e
theorem NP(P:Params):(K P).lookup J0=none:=by kernel_rfl
theorem NQ(P:Params):∃o vs,(K P).lookup 223=some o∧o.cls = .type "code"∧o.data = .fields vs∧vs[11]? = some (.ref J0):=⟨_,_,rfl,rfl,rfl,rfl⟩
theorem RZ{w:World}{p:Program}{loose:List Str}{mean:ExcName→Option Value}{mg mb:Str→Option Value}{h:Heap}(T:Top p loose mean mg mb h)(X:(KT w.params).In h):(K w.params).In (erase h J0)∧Base mg mb (erase h J0):=by
 have B:Heap.SameBut J0 h (erase h J0):=Heap.SameBut.update h J0 _
 refine⟨fun a o e=>?_,T.g.sameBut B (by decide),T.b.sameBut B (by decide),T.nolimit.sameBut B (by decide),T.builtins,?_⟩
 ·have ne:a≠J0:=fun z=>by rw [z,NP] at e;cases e
  refine(B.2 a ne).trans (X a o ?_)
  show List.lookup a ((J0,tabObj #[])::K w.params)=some o
  rw [List.lookup_cons,beq_eq_false_iff_ne.mpr ne]
  exact e
 ·obtain⟨bm,ob,h1,h2,h3,h4,r⟩:=T.bmain
  refine⟨bm,ob,h1,h2,(B.2 bm fun z=>?_).trans h3,h4,r⟩
  have e:=X J0 (tabObj #[]) rfl
  rw [z,e] at h3
  cases h3
  cases h4
noncomputable abbrev H0:AH:=upd (fun O=>none) J0 (.code gk)
set_option tactic.hygienic true in
theorem JD(main:∀(w:World) (g:G (o9 w.params).T),g.w=w→v9 g→∀xs:List Int,xs.length≤63→Dy g 150 (.obj Bt) [.lst (xs.map .int)] H0 fun r H'=>r = .bool true∧H' J0=some (.code gk)):j8.Holds:=by
 refine holds_law ac0 fun said=>⟨said,Vt,open_anyG (r:=j8.row.toRowW) (run:=fun f vs=>PySem.call f vs) (tree:=fun vs=>do match ← nsGet mainNs j8.row.name with
   |some f=>do ret (← PySem.call f vs)
   |none=>unsupported "claim.caller:no-such-global") (Xt:=Xt) (XP:=fun O O=>True) (Yf:=tW.obs) (Ya:=tW.val) (YP:=tW.says) ab8 tW.of tW.keeps (fun O O=>trivial) (fun O O O O O=>trivial) (fun O O=>recFacts_nil rfl) rfl ok_ ac2 Vt
  (fun vs w s mg f Q E hg hf h=>wpAny_bind (wpAny_nsGet hg (by rw [hf];exact wpAny_bind (wpAny_mono h (fun O O x=>wpAny_pure x) fun O O x=>x))))
  (fun w s hg G n hn=>?_) fun w s₀ s₁ mg mb G Y args vs as hpre hlay L low=>?_⟩
 ·obtain rfl:n=j8.row.name:=List.mem_singleton.mp hn
  exact pinned_of_view hg G RQ RT kw_
 ·have X:(KT w.params).In s₁.heap:=kIn_of Y
  have XB:=RZ G.T X
  refine⟨.ref Bt,mg_of XB.1 XB.2.g (RW w.params),?_⟩
  obtain⟨p1,p2⟩:=d9 (show(WShape.hasAll [] args [.list .int]&&j8.row.pre.holds [] {args:=args})=true from hpre)
  cases args with
  |nil=>cases p1
  |cons d r=>
  obtain⟨q1,q2⟩:=d9 (show(WShape.has [] d (.list .int)&&WShape.hasAll [] r [])=true from p1)
  cases r with
  |cons _ _=>cases q2
  |nil=>
  cases d<;>try exact nomatch (show false=true from q1)
  rename_i xs
  have q3:WShape.hasItems [] xs .int=true:=by
   have:(WShape.hasItems [] xs .int||false)=true:=q1
   rwa [Bool.or_false] at this
  obtain⟨is,rfl⟩:=jE q3
  have hlen:is.length≤63:=by have:=RX p2;rwa [List.length_map] at this
  obtain⟨ord,_,hl⟩:=L.laid
  obtain⟨ws,t,e,rp⟩:=lay_ints (R:=[]) (cl:=classAt s₀.heap) (P:=w.params) (ord:=ord) is s₀
  have hl':(match(match layAllW [] (classAt s₀.heap) w.params ord (is.map WData.int) s₀ with
   |some r=>some (Value.ref r.2.heap.objs.size,({r.2 with heap:=r.2.heap.push {cls:=.type "list",data:=.seq r.1.toArray}}:Shared))
   |Option.none=>Option.none) with
   |some a=>some ([a.1],a.2)
   |Option.none=>Option.none)=some (vs,s₁):=hl
  rw [e] at hl'
  obtain⟨rfl,rfl⟩:[Value.ref s₀.heap.objs.size]=vs∧({s₀ with heap:=s₀.heap.push {cls:=.type "list",data:=.seq ws.toArray},toks:=t}:Shared)=s₁:=by simpa using hl'
  let hh:Heap:=s₀.heap.push {cls:=.type "list",data:=.seq ws.toArray}
  let g:Mine.Internal.G (o9 w.params).T:=⟨w,erase hh J0,s₀.os⟩
  have hg:v9 g:=v9.of (Xr w.params) ok1 BZ XB.1 XB.2 (ac3 w.params)
  have tb:hh.get? J0=some (tabObj #[]):=X J0 _ rfl
  have lst:hh.get? s₀.heap.objs.size=some {cls:=.type "list",data:=.seq ws.toArray}:=Heap.get?_push_size _ rfl
  have ne:s₀.heap.objs.size≠J0:=fun z=>by rw [z,tb] at lst;cases lst
  have S:n8 g {s₀ with heap:=hh,toks:=t} H0:=by
   refine⟨fun b o e=>ug e,fun b e=>?_,fun b o e=>?_,L.gens,rfl⟩
   ·by_cases z:b=J0
    ·rw [z];exact uf hh J0
    ·exact absurd (d8 z) e
   ·have e:upd (fun O=>none) J0 (.code gk) b=some o:=e
    by_cases z:b=J0
    ·rw [z,c7] at e
     cases e
     rw [z]
     exact⟨#[],tb,trivial,fun O O h=>nomatch h⟩
    ·rw [d8 z] at e;cases e
  have R:J5 150 callerA:=⟨rfl,by decide,by decide⟩
  refine wpAny_call (codeAny_mono (main w g rfl hg is hlen callerA _ _ _ R S rfl ⟨_,[],rfl,⟨s₀.heap.objs.size,ws,0,rfl,lst,d8 ne,rp _ _ _⟩,rfl⟩) fun r s' ⟨u,eu,p,H',y,z,c,q,qt⟩=>?_)
  subst eu q
  cases y
  have old:OldK hh s'.heap:=by
   obtain⟨ps,k1,k2,k3⟩:=z.obj _ _ qt
   refine⟨fun b o e=>?_,fun b o e=>?_⟩
   ·by_cases q:b=J0
    ·subst q
     rw [tb] at e
     cases e
     obtain⟨oc,vs,c1,c2,c3,c4⟩:=NQ w.params
     exact .inr (.inl ⟨⟨223,oc,vs,ug (XB.1 _ _ c1),c2,c3,c4⟩,rfl,#[],ps,rfl,by rw [Array.empty_append];exact k1⟩)
    ·exact .inl (z.keep b o (((Heap.SameBut.update hh J0 _).2 b q).trans e))
   ·by_cases q:b=J0
    ·subst q;exact⟨_,k1⟩
    ·exact⟨o,z.keep b o (((Heap.SameBut.update hh J0 _).2 b q).trans e)⟩
  exact⟨.inl ⟨_,.bool true,[],rfl,fun O=>rfl,ReadsW.bool _,post_ _,fun O=>⟨List.nodup_nil,fun O h=>(nomatch h)⟩⟩,old,z.os,.of_eq z.gens⟩
inductive Role where
 |self|dx|body|O1|locs|blks|spots|frs|alias
 |bl (i:Nat)|st (i:Nat)|fr (i:Nat)
inductive X4:PV→Prop
 |int (k:Nat):X4 (.tup [.str 32,.str k])
 |bool:X4 (.tup [.str 45])
 |never:X4 (.tup [.str 46])
inductive Simple:PV→Prop
 |one {p:PV}:X4 p→Simple p
 |tup {l:List PV}:(∀p∈l,X4 p)→l.length≤2→Simple (.tup [.str 9,.tup l])
structure Mem where
 tys:List PV
 blks:List (List PV×PV)
 here:Nat
 frs:List (List (Nat×Bool))
 sz:Nat
structure Fix where
 world:PV
 bounds:PV
 args:PV
 fu:Int
 path:PV
 argc:PV
 loops:PV
structure uY where
 spot:PV
 sp:List ((Int×Int)×PV)
 rows:List PV
noncomputable def wg(x:Nat×Bool):PV:=.tup [.int (x.1:Int),.bool x.2]
section
variable(c:Fix)(M:Mem)(L:Role→Addr)(x:uY)
noncomputable abbrev dxL:List (Nat×PV):=[(37,c.world),(38,c.bounds),(115,c.args),(116,.int c.fu),(92,.obj (L .body)),(3,x.spot),(117,.obj (L .alias)),(118,.obj (L .frs)),(64,.int M.here),(225,c.loops)]
noncomputable abbrev ac4:List (Nat×PV):=[(40,c.path),(71,c.argc),(75,.obj (L .locs)),(73,.obj (L .blks)),(74,.obj (L .spots))]
noncomputable def V5:Nat→Nat→List PV
 |_,0=>[]
 |i,k+1=>PV.obj (L (.bl i))::V5 (i+1) k
noncomputable def O2:Nat→Nat→List PV
 |_,0=>[]
 |i,k+1=>PV.obj (L (.fr i))::O2 (i+1) k
noncomputable def S9:Role→Option q7
 |.self=>some (.inst I5 (L .dx))
 |.dx=>some (.attrs (dxL c M L x))
 |.body=>some (.inst eH (L .O1))
 |.O1=>some (.attrs (ac4 c L))
 |.locs=>some (.list x.rows)
 |.blks=>some (.list (V5 L 0 M.blks.length))
 |.spots=>some (.z6 x.sp)
 |.frs=>some (.list (O2 L 0 M.frs.length))
 |.alias=>some (.m6 [])
 |.bl i=>M.blks[i]?.map fun b=>.list [.obj (L (.st i)),b.2]
 |.st i=>M.blks[i]?.map fun b=>.list b.1
 |.fr i=>M.frs.reverse[i]?.map fun f=>.list (f.map wg)
noncomputable def Mem.tick(M:Mem):Mem:={M with sz:=M.sz+1}
noncomputable def Mem.put(M:Mem)(s:PV):Mem:={M with blks:=M.blks.modify M.here fun b=>(b.1++[s],b.2),sz:=M.sz+1}
noncomputable def Mem.close(M:Mem)(t:PV):Mem:={M with blks:=M.blks.modify M.here fun b=>(b.1,t),sz:=M.sz+1}
noncomputable def Mem.to(M:Mem)(b:Nat):Mem:={M with here:=b}
noncomputable def Mem.j5(M:Mem):Mem:={M with blks:=M.blks++[([],.none)],sz:=M.sz+1}
noncomputable def Mem.newL(M:Mem)(ty:PV):Mem:={M with tys:=M.tys++[ty],sz:=M.sz+1}
noncomputable def Mem.push(M:Mem):Mem:={M with frs:=[]::M.frs,sz:=M.sz+1}
noncomputable def Mem.add(M:Mem)(x:Nat×Bool):Mem:={M with frs:=(match M.frs with|f::fs=>(f++[x])::fs | []=>[]),sz:=M.sz+1}
noncomputable def Mem.drop(M:Mem):Mem:={M with frs:=M.frs.tail}
inductive R5:List PV→List PV→Prop
 |nil:R5 [] []
 |cons {t a b:PV} {ts rows:List PV}:R5 ts rows→R5 (t::ts) (.tup [t,a,b]::rows)
structure kZ(M:Mem):Prop where
 tys:M.tys.length≤M.sz
 blks:M.blks.length≤M.sz
 sts:∀b∈M.blks,b.1.length≤M.sz
 frs:M.frs.length≤M.sz
 zZ:∀f∈M.frs,f.length≤M.sz
 here:M.here<M.blks.length
 simple:∀t∈M.tys,Simple t
 JF:∀f∈M.frs,∀y∈f,y.1<M.tys.length
structure s8(H:AH):Prop where
 inj:∀r r',S9 c M L x r≠none→S9 c M L x r'≠none→L r=L r'→r=r'
 at_:∀r o,S9 c M L x r=some o→H (L r)=some o
 rows:R5 M.tys x.rows
 sp:x.sp.length≤M.sz
 ok:kZ M
noncomputable def Framed(R H:AH):Prop := ∀b o,R b=some o→H b=some o∧∀r,S9 c M L x r≠none→L r≠b
end
noncomputable def o8(c:Fix)(self:Addr)(M:Mem)(R H:AH):Prop := ∃L x,L .self=self∧s8 c M L x H∧Framed c M L x R H
section
variable{c:Fix}{M M':Mem}{L:Role→Addr}{x x':uY}{H R:AH}
theorem s8.self(B:s8 c M L x H):H (L .self)=some (.inst I5 (L .dx)):=B.at_ .self _ rfl
theorem s8.dx(B:s8 c M L x H):H (L .dx)=some (.attrs (dxL c M L x)):=B.at_ .dx _ rfl
theorem s8.body(B:s8 c M L x H):H (L .body)=some (.inst eH (L .O1)):=B.at_ .body _ rfl
theorem s8.O1(B:s8 c M L x H):H (L .O1)=some (.attrs (ac4 c L)):=B.at_ .O1 _ rfl
theorem s8.bl(B:s8 c M L x H){i:Nat}{b:List PV×PV}(e:M.blks[i]? = some b):H (L (.bl i))=some (.list [.obj (L (.st i)),b.2]):=B.at_ (.bl i) _ (congrArg (Option.map _) e)
theorem s8.st(B:s8 c M L x H){i:Nat}{b:List PV×PV}(e:M.blks[i]? = some b):H (L (.st i))=some (.list b.1):=B.at_ (.st i) _ (congrArg (Option.map _) e)
theorem s8.fr(B:s8 c M L x H){i:Nat}{b:List (Nat×Bool)}(e:M.frs.reverse[i]? = some b):H (L (.fr i))=some (.list (b.map wg)):=B.at_ (.fr i) _ (congrArg (Option.map _) e)
theorem s8.turn{r0:Role}{o1:q7}(B:s8 c M L x H)(h0:S9 c M L x r0≠none)(h1:S9 c M' L x' r0=some o1)(h2:∀r,r≠r0→S9 c M' L x' r=S9 c M L x r∨S9 c M' L x' r=none)
  (hr:R5 M'.tys x'.rows) (hs:x'.sp.length≤M'.sz) (ok:kZ M'):s8 c M' L x' (upd H (L r0) o1):=by
 have sub:∀r,S9 c M' L x' r≠none→S9 c M L x r≠none:=fun r h=>by
  by_cases e:r=r0
  ·subst e;exact h0
  ·rcases h2 r e with q|q
   ·rw [← q];exact h
   ·exact absurd q h
 refine⟨fun r r' h h'=>B.inj r r' (sub r h) (sub r' h'),fun r o h=>?_,hr,hs,ok⟩
 by_cases e:r=r0
 ·subst e;rw [h1] at h;cases h;exact c7 ..
 ·have ne:L r≠L r0:=fun z=>e (B.inj r r0 (sub r (by rw [h];simp)) h0 z)
  rw [d8 ne]
  rcases h2 r e with q|q
  ·exact B.at_ r o (q▸h)
  ·rw [q] at h;cases h
theorem Framed.turn{r0:Role}{o1:q7}(F:Framed c M L x R H)(h0:S9 c M L x r0≠none)(h1:S9 c M' L x' r0=some o1)(h2:∀r,r≠r0→S9 c M' L x' r=S9 c M L x r∨S9 c M' L x' r=none):Framed c M' L x' R (upd H (L r0) o1):=fun b o e=>by
 obtain⟨e1,e2⟩:=F b o e
 refine⟨by rw [d8 (fun z=>e2 r0 h0 z.symm)];exact e1,fun r h=>e2 r ?_⟩
 by_cases e:r=r0
 ·subst e;exact h0
 ·rcases h2 r e with q|q
  ·rw [← q];exact h
  ·exact absurd q h
theorem o8.turn{r0:Role}{o1:q7}(B:s8 c M L x H)(F:Framed c M L x R H)(x':uY)(h0:S9 c M L x r0≠none)(h1:S9 c M' L x' r0=some o1)(h2:∀r,r≠r0→S9 c M' L x' r=S9 c M L x r∨S9 c M' L x' r=none)
  (hr:R5 M'.tys x'.rows) (hs:x'.sp.length≤M'.sz) (ok:kZ M'):o8 c (L .self) M' R (upd H (L r0) o1):=⟨L,x',rfl,B.turn h0 h1 h2 hr hs ok,F.turn h0 h1 h2⟩
theorem o8.el{C:Addr→Prop}{self:Addr}(B:o8 c self M R H)(k:∀L x,s8 c M L x H→Framed c M L x R H→C (L .self)):C self:=by
 obtain⟨L,x,rfl,B,F⟩:=B
 exact k L x B F
theorem wW(L:Role→Addr):∀(k i j:Nat),j<k→(V5 L i k)[j]? = some (.obj (L (.bl (i+j))))
 |0,_,_,h=>absurd h (Nat.not_lt_zero _)
 |k+1,i,0,h=>rfl
 |k+1,i,j+1,h=>by
  show(V5 L (i+1) k)[j]? = _
  rw [wW L k (i+1) j (by exact Nat.le_of_succ_le_succ ‹_›),Nat.add_right_comm];rfl
theorem wX(L:Role→Addr):∀(k i j:Nat),j<k→(O2 L i k)[j]? = some (.obj (L (.fr (i+j))))
 |0,_,_,h=>absurd h (Nat.not_lt_zero _)
 |k+1,i,0,h=>rfl
 |k+1,i,j+1,h=>by
  show(O2 L (i+1) k)[j]? = _
  rw [wX L k (i+1) j (by exact Nat.le_of_succ_le_succ ‹_›),Nat.add_right_comm];rfl
theorem iU(L:Role→Addr):∀(k i:Nat),(V5 L i k).length=k
 |0,_=>rfl
 |k+1,i=>congrArg (·+ 1) (iU L k (i+1))
theorem M9(L:Role→Addr):∀(k i:Nat),(O2 L i k).length=k
 |0,_=>rfl
 |k+1,i=>congrArg (·+ 1) (M9 L k (i+1))
theorem uh(L:Role→Addr):∀(k i:Nat),V5 L i (k+1)=V5 L i k++[.obj (L (.bl (i+k)))]
 |0,_=>rfl
 |k+1,i=>by
  show _::V5 L (i+1) (k+1)=_
  rw [uh L k (i+1),Nat.add_right_comm];rfl
theorem fG(L:Role→Addr):∀(k i:Nat),O2 L i (k+1)=O2 L i k++[.obj (L (.fr (i+k)))]
 |0,_=>rfl
 |k+1,i=>by
  show _::O2 L (i+1) (k+1)=_
  rw [fG L k (i+1),Nat.add_right_comm];rfl
theorem kJ{L L':Role→Addr}:∀(k i:Nat),(∀j,i≤j→j<i+k→L (.bl j)=L' (.bl j))→V5 L i k=V5 L' i k
 |0,_,_=>rfl
 |k+1,i,h=>by
  show PV.obj (L (.bl i))::_=PV.obj (L' (.bl i))::_
  rw [h i (Nat.le_refl _) (by lia),kJ k (i+1) fun j a b=>h j (by exact Nat.le_of_lt ‹_›) (by lia)]
theorem kO{L L':Role→Addr}:∀(k i:Nat),(∀j,i≤j→j<i+k→L (.fr j)=L' (.fr j))→O2 L i k=O2 L' i k
 |0,_,_=>rfl
 |k+1,i,h=>by
  show PV.obj (L (.fr i))::_=PV.obj (L' (.fr i))::_
  rw [h i (Nat.le_refl _) (by lia),kO k (i+1) fun j a b=>h j (by exact Nat.le_of_lt ‹_›) (by lia)]
end
theorem get_modify{α:Type}(f:α→α):∀(l:List α) (h i:Nat),(l.modify h f)[i]? = if h=i then l[i]?.map f else l[i]? := fun l h i=>by
 rw [List.getElem?_modify]
 by_cases e:h=i
 ·rw [if_pos e,e];simp
 ·rw [if_neg e];simp [e]
theorem lookup_none{l:List (Nat×PV)}{x:Nat}(h:(l.map (·.1)).elem x=false):l.lookup x=none:=by
 induction l with
 |nil=>rfl
 |cons q l ih=>
  rw [List.map_cons,List.elem_cons] at h
  rw [List.lookup_cons]
  cases e:x==q.1 with
  |true=>rw [e] at h;cases h
  |false=>rw [e] at h;exact ih h
theorem pY{k:Nat}(h:k≤sizeLine):k<2 ^ 62:=Nat.lt_of_le_of_lt h (by rw [sizeLine_eq];decide)
section
variable{P:Params}{g:G (o9 P).T}(hg:v9 g){n:Nat}{m:Loc}{c:Fix}{M M':Mem}{L:Role→Addr}{x x':uY}{H R:AH}{Q:PV→AH→Prop}{W:Loc→AH→Prop}{self:Addr}
theorem o8.attr(B:o8 c self M R H){k:Nat}(hf:(o9 P).T.fld I5 k=true)(h:∀L x,L .self=self→s8 c M L x H→Framed c M L x R H→∃q,(dxL c M L x).lookup k=some q∧Q q H):j9 g k Q (.obj self) H:=by
 obtain⟨L,x,rfl,B,F⟩:=B
 obtain⟨q,e1,e2⟩:=h L x rfl B F
 exact .mk B.self B.dx hf e1 e2
theorem o8.me(B:o8 c self M R H){k:Nat}{f:Addr}{K:Addr→Addr→AH→Prop}(hf:(o9 P).T.meth I5 k=some f)(hx:[37,38,115,116,92,3,117,118,64,225].elem k=false)(h:K self f H):MethP g k K (.obj self) H:=by
 revert h
 apply o8.el B
 intro L x B F
 intro h
 exact MethP.mk B.self B.dx hf (lookup_none hx) h
theorem o8.world(B:o8 c self M R H)(h:Q c.world H):j9 g 37 Q (.obj self) H:=B.attr rfl fun O O O O O=>⟨_,rfl,h⟩
theorem o8.bounds(B:o8 c self M R H)(h:Q c.bounds H):j9 g 38 Q (.obj self) H:=B.attr rfl fun O O O O O=>⟨_,rfl,h⟩
theorem o8.spot(B:o8 c self M R H)(h:∀q,Q q H):j9 g 3 Q (.obj self) H:=B.attr rfl fun O O O O O=>⟨_,rfl,h _⟩
theorem NT(M':Mem)(e:M'=M∨∃b,M'=M.to b)(r:Role)(ne:r≠.dx)(x':uY)(e1:x'.rows=x.rows)(e2:x'.sp=x.sp):S9 c M' L x' r=S9 c M L x r:=by
 obtain⟨_,_,_⟩:=x
 obtain⟨_,_,_⟩:=x'
 cases e1
 cases e2
 rcases e with rfl|⟨b,rfl⟩<;>cases r<;>first|rfl|exact absurd rfl ne
theorem o8.O4(B:o8 c self M R H){q:PV}{W:AH→Prop}(h:∀H',o8 c self M R H'→W H'):ju g 3 q W (.obj self) H:=by
 revert h
 apply o8.el B
 intro L x B F
 intro h
 exact ju.mk B.self B.dx rfl (Nat.le_of_ble_eq_true rfl) (h _ (o8.turn (r0:=.dx) B F {x with spot:=q} nofun rfl (fun r ne=>.inl (NT M (.inl rfl) r ne _ rfl rfl)) B.rows B.sp B.ok))
theorem o8.iV(B:o8 c self M R H){b:Nat}{W:AH→Prop}(hb:b<M.blks.length)(h:∀H',o8 c self (M.to b) R H'→W H'):ju g 64 (.int b) W (.obj self) H:=by
 revert h
 apply o8.el B
 intro L x B F
 intro h
 exact ju.mk B.self B.dx rfl (Nat.le_of_ble_eq_true rfl) (h _ (o8.turn (r0:=.dx) B F x nofun rfl (fun r ne=>.inl (NT _ (.inr ⟨b,rfl⟩) r ne _ rfl rfl)) B.rows B.sp ⟨B.ok.tys,B.ok.blks,B.ok.sts,B.ok.frs,B.ok.zZ,hb,B.ok.simple,B.ok.JF⟩))
theorem qW(B:s8 c M L x H){i:Nat}(hl:i<M.blks.length)(hi:M.sz≤sizeLine)(h:Q (.obj (L (.bl i))) H):SubL g (.obj (L .blks)) (.int (i:Int)) H Q:=
 V0 (B.at_ .blks _ rfl) (pY (Nat.le_trans (Nat.le_of_lt hl) (Nat.le_trans B.ok.blks hi))) ((wW L _ _ _ hl).trans (by rw [Nat.zero_add])) h
include hg in
theorem wj(B:s8 c M L x H){i:Nat}{b:List PV×PV}(e:M.blks[i]? = some b)(hi:M.sz≤sizeLine)(hn:1≤n)(h:Q (.obj (L (.st i))) H):Cl g n (.obj V1) [.obj (L .body),.int i] H Q:=
 (bw P).cl hg rfl hn fun n hn=>j9.mk B.body B.O1 rfl rfl (qW B (List.getElem?_eq_some_iff.mp e).1 hi (V0 (i:=0) (B.bl e) (Nat.le_of_ble_eq_true rfl) rfl h))
include hg in
theorem Cp(B:s8 c M L x H)(e:m.lookup 1=some (.obj (L .self))) {b:List PV×PV} (eb:M.blks[M.here]? = some b) (hi:M.sz≤sizeLine) (hn:1≤n) (h:Q (.obj (L (.st M.here))) H):
  j9 g 92 (MethP g 99 fun a f H₁=>Az g n [.attr (.loc 1) 64] m H₁ fun l H₂=>Cl g n (.obj f) (.obj a::l) H₂ Q) (.obj (L .self)) H:=
 .mk B.self B.dx rfl rfl (.mk B.body B.O1 rfl rfl (d7 e (j9.mk B.self B.dx rfl rfl (wj hg B eb hi hn h))))
theorem s8.blk(B:s8 c M L x H):∃b,M.blks[M.here]? = some b:=by
 exact⟨_,List.getElem?_eq_getElem B.ok.here⟩
theorem kZ.mono{k:Nat}(o:kZ M)(h:M.sz≤k):kZ {M with sz:=k}:=⟨Nat.le_trans o.tys h,Nat.le_trans o.blks h,fun b hb=>Nat.le_trans (o.sts b hb) h,Nat.le_trans o.frs h,fun f hf=>Nat.le_trans (o.zZ f hf) h,o.here,o.simple,o.JF⟩
noncomputable def gA(c:Fix)(L:Role→Addr)(M:Mem)(R H:AH):Prop := ∃x,s8 c M L x H∧Framed c M L x R H
theorem gA.QF(B:gA c L M R H):o8 c (L .self) M R H:=B.elim fun x z=>⟨L,x,rfl,z⟩
theorem o8.told{C:Addr→Prop}(B:o8 c self M R H)(k:∀L,gA c L M R H→C (L .self)):C self:=B.el fun L x B F=>k L ⟨x,B,F⟩
theorem o8.Vu{r0:Role}{o1:q7}(B:s8 c M L x H)(F:Framed c M L x R H)(x':uY)(h0:S9 c M L x r0≠none)(h1:S9 c M' L x' r0=some o1)(h2:∀r,r≠r0→S9 c M' L x' r=S9 c M L x r∨S9 c M' L x' r=none)
  (hr:R5 M'.tys x'.rows) (hs:x'.sp.length≤M'.sz) (ok:kZ M'):gA c L M' R (upd H (L r0) o1):=⟨x',B.turn h0 h1 h2 hr hs ok,F.turn h0 h1 h2⟩
include hg in
theorem Vv(B:gA c L M R H)(hz:M.tick.sz≤sizeLine)(hn:2≤n)(h:∀H',gA c L M.tick R H'→Q .none H'):Cl g n (.obj cG) [.obj (L .self)] H Q:=by
 have hi:M.sz≤sizeLine:=Nat.le_of_succ_le hz
 obtain⟨x,B,F⟩:=B
 obtain⟨b,eb⟩:=B.blk
 refine(tK P).cl hg rfl hn fun n hn=>j9.mk B.self B.dx rfl rfl (j9.mk B.self B.dx rfl rfl (.mk B.body B.O1 rfl rfl (j9.mk B.self B.dx rfl rfl ?_)))
 refine Cp hg B rfl eb hi hn (T4 (k:=b.1.length) (len_list (B.st eb)) (pY (Nat.le_trans (B.ok.sts b (List.mem_of_getElem? eb)) hi)) ?_)
 refine wQ (B.at_ .spots _ rfl) rfl (Nat.le_trans B.sp hi) (h _ ?_)
 exact o8.Vu (M':=M.tick) (r0:=.spots) B F {x with sp:=J7 ((M.here:Int),(b.1.length:Int)) x.spot x.sp} nofun rfl (fun r ne=>.inl (by cases r<;>first|rfl|exact absurd rfl ne)) B.rows
  (Nat.le_trans (gH ..) (Nat.add_le_add_right B.sp 1)) (B.ok.mono (Nat.le_succ _))
include hg in
theorem Sd(B:o8 c self M R H)(hz:M.tick.sz≤sizeLine)(hn:2≤n)(h:∀H',o8 c self M.tick R H'→Q .none H'):Cl g n (.obj cG) [.obj self] H Q:=by
 revert h
 apply B.told
 intro L B h
 exact Vv hg B hz hn fun H B=>h H B.QF
theorem kZ.put(o:kZ M)(s:PV):kZ (M.put s):=by
 refine⟨Nat.le_succ_of_le o.tys,?_,fun b hb=>?_,Nat.le_succ_of_le o.frs,fun f hf=>Nat.le_succ_of_le (o.zZ f hf),?_,o.simple,o.JF⟩
 ·show(M.blks.modify _ _).length≤_
  rw [List.length_modify];exact Nat.le_succ_of_le o.blks
 ·obtain⟨i,hi⟩:=List.mem_iff_getElem?.mp hb
  rw [show(M.put s).blks=M.blks.modify M.here fun b=>(b.1++[s],b.2) from rfl,get_modify] at hi
  split at hi
  ·obtain⟨b',e,rfl⟩:=Option.map_eq_some_iff.mp hi
   show(b'.1++[s]).length≤_
   rw [List.length_append]
   exact Nat.succ_le_succ (o.sts b' (List.mem_of_getElem? e))
  ·exact Nat.le_succ_of_le (o.sts b (List.mem_of_getElem? hi))
 ·show _<(M.blks.modify _ _).length
  rw [List.length_modify];exact o.here
theorem kZ.close(o:kZ M)(s:PV):kZ (M.close s):=by
 refine⟨Nat.le_succ_of_le o.tys,?_,fun b hb=>?_,Nat.le_succ_of_le o.frs,fun f hf=>Nat.le_succ_of_le (o.zZ f hf),?_,o.simple,o.JF⟩
 ·show(M.blks.modify _ _).length≤_
  rw [List.length_modify];exact Nat.le_succ_of_le o.blks
 ·obtain⟨i,hi⟩:=List.mem_iff_getElem?.mp hb
  rw [show(M.close s).blks=M.blks.modify M.here fun b=>(b.1,s) from rfl,get_modify] at hi
  split at hi
  ·obtain⟨b',e,rfl⟩:=Option.map_eq_some_iff.mp hi
   exact Nat.le_succ_of_le (o.sts b' (List.mem_of_getElem? e))
  ·exact Nat.le_succ_of_le (o.sts b (List.mem_of_getElem? hi))
 ·show _<(M.blks.modify _ _).length
  rw [List.length_modify];exact o.here
set_option tactic.hygienic true in
theorem Hz{k:Nat}{f:List PV×PV→List PV×PV}(r:Role)(h1:∀b,(f b).2=b.2∨r≠.bl M.here)(h2:∀b,(f b).1=b.1∨r≠.st M.here):S9 c {M with blks:=M.blks.modify M.here f,sz:=k} L x r=S9 c M L x r:=by
 cases r<;>try rfl
 case blks=>show some (q7.list (V5 L 0 (M.blks.modify M.here f).length))=_;rw [List.length_modify];rfl
 case bl i=>
  show Option.map _ (M.blks.modify M.here f)[i]? = _
  rw [get_modify]
  split
  ·next e=>
   rw [Option.map_map]
   refine congrArg (fun z=>Option.map z M.blks[i]?) (funext fun b=>?_)
   rcases h1 b with z|z
   ·show q7.list [.obj (L (.st i)),(f b).2]=_;rw [z]
   ·exact absurd (congrArg Role.bl e.symm) z
  ·rfl
 case st i=>
  show Option.map _ (M.blks.modify M.here f)[i]? = _
  rw [get_modify]
  split
  ·next e=>
   rw [Option.map_map]
   refine congrArg (fun z=>Option.map z M.blks[i]?) (funext fun b=>?_)
   rcases h2 b with z|z
   ·show q7.list (f b).1=_;rw [z]
   ·exact absurd (congrArg Role.st e.symm) z
  ·rfl
include hg in
theorem putL{s:PV}(B:gA c L M R H)(hz:(M.tick.put s).sz≤sizeLine)(hn:3≤n)(h:∀H',gA c L (M.tick.put s) R H'→Q .none H'):Cl g n (.obj eO) [.obj (L .self),s] H Q:=by
 have hi:M.tick.sz≤sizeLine:=Nat.le_of_succ_le hz
 refine(vO P).cl hg rfl hn fun n hn=>B.QF.me rfl rfl (Vv hg B hi hn fun H B=>?_)
 obtain⟨x,B,F⟩:=B
 obtain⟨b,eb⟩:=B.blk
 refine Cp hg B rfl eb hi (leB hn rfl) (z7 (B.st eb) (w5 (B.st eb) (Nat.le_trans (B.ok.sts b (List.mem_of_getElem? eb)) hi) (h _ ?_)))
 refine o8.Vu (M':=M.tick.put s) (r0:=.st M.here) B F x ?_ ?_ (fun r ne=>.inl (Hz r (fun O=>.inl rfl) fun O=>.inr ne)) B.rows (Nat.le_succ_of_le B.sp) (B.ok.put s)
 ·rw [S9,show M.tick.blks[M.here]? = _ from eb];exact nofun
 ·show Option.map _ (M.blks.modify M.here _)[M.here]? = _
  rw [get_modify,if_pos rfl,show M.blks[M.here]? = _ from eb];rfl
include hg in
theorem Fw{s:PV}(B:o8 c self M R H)(hz:(M.tick.put s).sz≤sizeLine)(hn:3≤n)(h:∀H',o8 c self (M.tick.put s) R H'→Q .none H'):Cl g n (.obj eO) [.obj self,s] H Q:=by
 revert h
 apply B.told
 intro L B h
 exact putL hg B hz hn fun H B=>h H B.QF
end
section
variable{P:Params}{g:G (o9 P).T}(hg:v9 g){n:Nat}{m:Loc}{c:Fix}{M M':Mem}{L L':Role→Addr}{x x':uY}{H H' R:AH}{Q:PV→AH→Prop}{W:Loc→AH→Prop}{self:Addr}
noncomputable def Ext(H H':AH):Prop := ∀b o,H b=some o→H' b=some o
theorem Ext.refl:Ext H H:=fun O O e=>e
theorem Ext.trans{xK:AH}(a:Ext H H')(b:Ext H' xK):Ext H xK:=fun x o e=>b x o (a x o e)
theorem Ext.new{a:Addr}{o:q7}(h:H a=none):Ext H (upd H a o):=fun b q e=>by
 rw [d8 fun z=>by rw [z,h] at e;cases e];exact e
theorem Ext.upd{a:Addr}{o:q7}(h:H a=none)(E:Ext H H'):Ext H (upd H' a o):=fun b q e=>by
 rw [d8 fun z=>by rw [z,h] at e;cases e];exact E b q e
theorem s8.ext(B:s8 c M L x H)(E:Ext H H'):s8 c M L x H':=⟨B.inj,fun r o e=>E _ _ (B.at_ r o e),B.rows,B.sp,B.ok⟩
theorem o8.ext(B:o8 c self M R H)(E:Ext H H'):o8 c self M R H':=by
 obtain⟨L,x,e,B,F⟩:=B
 exact⟨L,x,e,B.ext E,fun b o q=>⟨E _ _ (F b o q).1,(F b o q).2⟩⟩
theorem o8.grow(B:s8 c M L x H)(F:Framed c M L x R H)(N:Role→Prop)(old:∀r,¬N r→S9 c M' L' x' r≠none→S9 c M L x r≠none∧L' r=L r)(new:∀r,N r→H (L' r)=none)
  (inj:∀r r',N r→N r'→L' r=L' r'→r=r') (at_:∀r o,S9 c M' L' x' r=some o→H' (L' r)=some o) (fr:∀b o,H b=some o→(∀r,S9 c M L x r≠none→L r≠b)→H' b=some o)
  (hr:R5 M'.tys x'.rows) (hs:x'.sp.length≤M'.sz) (ok:kZ M'):o8 c (L' .self) M' R H':=by
 have st:∀r,S9 c M L x r≠none→H (L r)≠none:=fun r h=>by
  cases e:S9 c M L x r with
  |none=>exact absurd e h
  |some o=>rw [B.at_ r o e];exact nofun
 refine⟨L',x',rfl,⟨fun r r' h h' e=>?_,at_,hr,hs,ok⟩,fun b o e=>⟨fr b o (F b o e).1 (F b o e).2,fun r h z=>?_⟩⟩
 ·by_cases q:N r<;>by_cases q':N r'
  ·exact inj r r' q q' e
  ·obtain⟨i,j⟩:=old r' q' h'
   exact absurd (by rw [← j,← e];exact new r q) (st r' i)
  ·obtain⟨i,j⟩:=old r q h
   exact absurd (by rw [← j,e];exact new r' q') (st r i)
  ·obtain⟨i,j⟩:=old r q h
   obtain⟨i',j'⟩:=old r' q' h'
   exact B.inj r r' i i' (by rw [← j,← j',e])
 ·by_cases q:N r
  ·have:=new r q
   rw [z,(F b o e).1] at this;cases this
  ·obtain⟨i,j⟩:=old r q h
   exact(F b o e).2 r i (by rw [← j];exact z)
noncomputable def wY(L:Role→Addr)(k:Nat)(a b:Addr):Role→Addr
 |.st i=>if i=k then a else L (.st i)
 |.bl i=>if i=k then b else L (.bl i)
 |r=>L r
theorem kZ.j5(o:kZ M):kZ M.j5:=by
 refine⟨Nat.le_succ_of_le o.tys,?_,fun b hb=>?_,Nat.le_succ_of_le o.frs,fun f hf=>Nat.le_succ_of_le (o.zZ f hf),?_,o.simple,o.JF⟩
 ·show(M.blks++[([],PV.none)]).length≤_
  rw [List.length_append];exact Nat.succ_le_succ o.blks
 ·rcases List.mem_append.mp hb with h|h
  ·exact Nat.le_succ_of_le (o.sts b h)
  ·rw [List.mem_singleton.mp h];exact Nat.zero_le _
 ·show _<(M.blks++[([],PV.none)]).length
  rw [List.length_append];exact Nat.lt_succ_of_lt o.here
theorem Cq(i:Nat)(ne:i≠M.blks.length):M.j5.blks[i]? = M.blks[i]? := by
 show(M.blks++[([],PV.none)])[i]? = _
 by_cases h:i<M.blks.length
 ·exact List.getElem?_append_left h
 ·rw [List.getElem?_append_right (Nat.le_of_not_lt h),List.getElem?_eq_none (Nat.le_of_not_lt h)]
  exact List.getElem?_eq_none (show 1≤_ by lia)
theorem wZ:M.j5.blks[M.blks.length]? = some ([],.none):=by
 show(M.blks++[([],PV.none)])[_]? = _
 rw [List.getElem?_append_right (Nat.le_refl _),Nat.sub_self];rfl
set_option tactic.hygienic true in
theorem Cr{a b:Addr}(r:Role)(h1:r≠.blks)(h2:r≠.bl M.blks.length)(h3:r≠.st M.blks.length):S9 c M.j5 (wY L M.blks.length a b) x r=S9 c M L x r∧wY L M.blks.length a b r=L r:=by
 cases r<;>try exact⟨rfl,rfl⟩
 case blks=>exact absurd rfl h1
 case frs=>exact⟨congrArg (fun z=>some (q7.list z)) (kO _ _ fun O O O=>rfl),rfl⟩
 case bl i=>
  have ne:i≠M.blks.length:=fun z=>h2 (z▸rfl)
  have e2:∀{y z:Addr},(if i=M.blks.length then y else z)=z:=if_neg ne
  refine⟨?_,e2⟩
  show Option.map _ M.j5.blks[i]? = _
  rw [Cq i ne]
  refine congrArg (fun z=>Option.map z M.blks[i]?) (funext fun b=>?_)
  show q7.list [.obj (if i=M.blks.length then a else L (.st i)),b.2]=_
  rw [e2]
 case st i=>
  have ne:i≠M.blks.length:=fun z=>h3 (z▸rfl)
  refine⟨?_,if_neg ne⟩
  show Option.map _ M.j5.blks[i]? = _
  rw [Cq i ne];rfl
theorem Sg(B:s8 c M L x H)(F:Framed c M L x R H){a b:Addr}(ha:H a=none)(hb:H b=none)(ne:b≠a):
  o8 c (L .self) M.j5 R (upd (upd (upd H a (.list [])) b (.list [.obj a,.none])) (L .blks) (.list (V5 L 0 M.blks.length++[.obj b]))):=by
 have key:∀y o,H y=some o→y≠L .blks→upd (upd (upd H a (.list [])) b (.list [.obj a,.none])) (L .blks) (.list (V5 L 0 M.blks.length++[.obj b])) y=some o:=fun y o e q=>by
  rw [d8 q];exact Ext.new (by rw [d8 ne];exact hb) y o (Ext.new ha y o e)
 have hk:=B.at_ .blks _ rfl
 have na:a≠L .blks:=fun z=>by rw [z,hk] at ha;cases ha
 have nb:b≠L .blks:=fun z=>by rw [z,hk] at hb;cases hb
 have wb:wY L M.blks.length a b (.bl M.blks.length)=b:=if_pos rfl
 have ws:wY L M.blks.length a b (.st M.blks.length)=a:=if_pos rfl
 refine o8.grow (L':=wY L M.blks.length a b) (x':=x) B F (fun r=>r = .bl M.blks.length∨r = .st M.blks.length) (fun r h v=>?_) (fun r h=>?_) (fun r r' h h' e=>?_) (fun r o e=>?_) (fun y o e q=>key y o e fun z=>q .blks nofun z.symm) B.rows (Nat.le_succ_of_le B.sp) B.ok.j5
 ·by_cases q:r = .blks
  ·subst q;exact⟨nofun,rfl⟩
  ·obtain⟨e1,e2⟩:=Cr (c:=c) (L:=L) (x:=x) (a:=a) (b:=b) r q (fun z=>h (.inl z)) (fun z=>h (.inr z))
   exact⟨e1▸v,e2⟩
 ·rcases h with rfl|rfl
  ·rw [wb];exact hb
  ·rw [ws];exact ha
 ·rcases h with rfl|rfl<;>rcases h' with rfl|rfl
  ·rfl
  ·rw [wb,ws] at e;exact absurd e ne
  ·rw [wb,ws] at e;exact absurd e.symm ne
  ·rfl
 ·by_cases q1:r = .blks
  ·subst q1
   show upd _ (L .blks) _ (L .blks)=_
   rw [c7,← e]
   show _=some (q7.list (V5 _ 0 (M.blks++[([],PV.none)]).length))
   rw [List.length_append,List.length_singleton,uh,Nat.zero_add,wb,kJ M.blks.length 0 fun j O h=>?_]
   exact(if_neg (show j≠M.blks.length by lia)).symm
  ·by_cases q2:r = .bl M.blks.length
   ·subst q2
    rw [wb,d8 nb,c7,← e]
    show _=Option.map _ M.j5.blks[_]?
    rw [wZ]
    show _=some (q7.list [.obj (wY L M.blks.length a b (.st M.blks.length)),.none])
    rw [ws]
   ·by_cases q3:r = .st M.blks.length
    ·subst q3
     rw [ws,d8 na,d8 fun z=>ne z.symm,c7,← e]
     show _=Option.map _ M.j5.blks[_]?
     rw [wZ];rfl
    ·obtain⟨e1,e2⟩:=Cr (c:=c) (L:=L) (x:=x) (a:=a) (b:=b) r q1 q2 q3
     rw [e2]
     refine key _ _ (B.at_ r o (e1▸e)) fun z=>q1 (B.inj r .blks (by rw [← e1,e];exact nofun) nofun z)
theorem JG(B:o8 c self M R H)(hz:M.j5.sz≤sizeLine)(h:∀H',o8 c self M.j5 R H'→Q .none H'):
  j9 g 92 (j9 g 73 fun p H₁=>qm H₁ "list" p∧Az g n [.bH [.bH [],.none]] m H₁ fun l H₂=>Cl g n (.blt "list.append") (p::l) H₂ Q) (.obj self) H:=by
 revert h
 apply o8.el B
 intro L x B F h
 refine .mk B.self B.dx rfl rfl (.mk B.body B.O1 rfl rfl (z7 (B.at_ .blks _ rfl) fun a ha b hb=>?_))
 have ne:b≠a:=fun z=>by rw [z,c7] at hb;cases hb
 rw [d8 ne] at hb
 exact w5 (Ext.new (by rw [d8 ne];exact hb) _ _ (Ext.new ha _ _ (B.at_ .blks _ rfl))) (by rw [iU];exact Nat.le_trans B.ok.blks (Nat.le_of_succ_le hz)) (h _ (Sg B F ha hb ne))
theorem Oa(B:o8 c self M R H)(hz:M.sz≤sizeLine)(h:Q (.int M.blks.length) H):j9 g 92 (j9 g 73 fun p H=>Cl g n (.blt "len") [p] H Q) (.obj self) H:=by
 apply o8.el B
 intro L x B F
 exact .mk B.self B.dx rfl rfl (.mk B.body B.O1 rfl rfl (T4 (len_list (B.at_ .blks _ rfl)) (by rw [iU];exact pY (Nat.le_trans B.ok.blks hz)) (by rw [iU];exact h)))
theorem Xx{k:Nat}(h:Q (.int (k:Int)) H):Q (.int (((k+1:Nat):Int)-1)) H:=by
 rw [show((k+1:Nat):Int)-1=k by lia]
 exact h
include hg in
theorem K8(B:o8 c self M R H)(hz:M.j5.sz≤sizeLine)(hn:1≤n)(h:∀H',o8 c self M.j5 R H'→Q (.int M.blks.length) H'):Cl g n (.obj aV) [.obj self] H Q:=
 (Z7 P).cl hg rfl hn fun n hn=>JG B hz fun H B=>Oa B hz (by
  rw [show M.j5.blks.length=M.blks.length+1 from List.length_append]
  exact Xx (Q:=Q) (h _ B))
end
section
variable{P:Params}{g:G (o9 P).T}(hg:v9 g){n:Nat}{m:Loc}{c:Fix}{M M':Mem}{L L':Role→Addr}{x x':uY}{H H' R:AH}{Q:PV→AH→Prop}{W:Loc→AH→Prop}{self:Addr}
include hg in
theorem bC{t:PV}(B:o8 c self M R H)(hz:(M.tick.close t).sz≤sizeLine)(hn:3≤n)(h:∀H',o8 c self (M.tick.close t) R H'→Q .none H'):Cl g n (.obj gP) [.obj self,t] H Q:=by
 refine(qy P).cl hg rfl hn fun n hn=>B.me rfl rfl (Sd hg B (Nat.le_of_succ_le hz) hn fun H B=>?_)
 revert h
 apply o8.el B
 intro L x B F h
 obtain⟨b,eb⟩:=B.blk
 refine j9.mk B.self B.dx rfl rfl (.mk B.body B.O1 rfl rfl (j9.mk B.self B.dx rfl rfl (qW B B.ok.here (Nat.le_of_succ_le hz) (set_list (i:=1) (B.bl eb) (Nat.lt_succ_self 1) (aj rfl) (h _ ?_)))))
 refine o8.turn (M':=M.tick.close t) (r0:=.bl M.here) B F x ?_ ?_ (fun r ne=>.inl (Hz r (fun O=>.inr ne) fun O=>.inl rfl)) B.rows (Nat.le_succ_of_le B.sp) (B.ok.close t)
 ·rw [S9,show M.tick.blks[M.here]? = _ from eb];exact nofun
 ·show Option.map _ (M.blks.modify M.here _)[M.here]? = _
  rw [get_modify,if_pos rfl,show M.blks[M.here]? = _ from eb];rfl
include hg in
theorem Ob{b:Nat}(B:o8 c self M R H)(hb:b<M.blks.length)(hz:(M.tick.close (.tup [.str 84,.int b])).sz≤sizeLine) (hn:4≤n) (h:∀H',o8 c self ((M.tick.close (.tup [.str 84,.int b])).to b) R H'→Q .none H'):Cl g n (.obj pK) [.obj self,.int b] H Q:=
 (yO P).cl hg rfl hn fun n hn=>B.me rfl rfl (bC hg B hz hn fun H B=>B.iV (by show b<(M.tick.blks.modify _ _).length;rw [List.length_modify];exact hb) h)
include hg in
theorem HB{i:Int}(B:o8 c self M R H)(hn:1≤n)(h:Q (.int (c.fu+i)) H):Cl g n (.obj cF) [.obj self,.int i] H Q:=
 (tH P).cl hg rfl hn fun n hn=>B.attr rfl fun O O O O O=>⟨_,rfl,h⟩
theorem R5.get{ts rows:List PV}(h:R5 ts rows):∀{i:Nat} {t:PV},ts[i]? = some t→∃a b,rows[i]? = some (.tup [t,a,b]):=by
 induction h with
 |nil=>intro i t e;cases e
 |cons h ih=>
  intro i t e
  cases i with
  |zero=>cases e;exact⟨_,_,rfl⟩
  |succ i=>exact ih e
theorem R5.length{ts rows:List PV}(h:R5 ts rows):rows.length=ts.length:=by
 induction h with
 |nil=>rfl
 |cons h ih=>exact congrArg (·+ 1) ih
theorem R5.snoc{ts rows:List PV}(h:R5 ts rows)(t a b:PV):R5 (ts++[t]) (rows++[.tup [t,a,b]]):=by
 induction h with
 |nil=>exact .cons .nil
 |cons h ih=>exact .cons ih
include hg in
theorem Sq(B:o8 c self M R H){i:Nat}{t:PV}(e:M.tys[i]? = some t)(hz:M.sz≤sizeLine)(hn:2≤n)(h:Q t H):Cl g n (.obj dh) [.obj self,.int i] H Q:=by
 apply o8.el B
 intro L x B F
 obtain⟨a,b,er⟩:=B.rows.get e
 exact(mO P).cl hg rfl hn fun n hn=>j9.mk B.self B.dx rfl rfl (MethP.mk B.body B.O1 rfl rfl ((qx P).cl hg rfl hn fun n O=>j9.mk B.body B.O1 rfl rfl
  (V0 (B.at_ .locs _ rfl) (pY (Nat.le_trans (Nat.le_of_lt (List.getElem?_eq_some_iff.mp e).1) (Nat.le_trans B.ok.tys hz))) er h)))
theorem kZ.newL(o:kZ M){t:PV}(s:Simple t):kZ (M.newL t):=by
 refine⟨?_,Nat.le_succ_of_le o.blks,fun b hb=>Nat.le_succ_of_le (o.sts b hb),Nat.le_succ_of_le o.frs,fun f hf=>Nat.le_succ_of_le (o.zZ f hf),o.here,fun y hy=>?_,fun f hf y hy=>by
  show y.1<(M.tys++[t]).length
  rw [List.length_append];exact Nat.lt_succ_of_lt (o.JF f hf y hy)⟩
 ·show(M.tys++[t]).length≤_
  rw [List.length_append];exact Nat.succ_le_succ o.tys
 ·rcases List.mem_append.mp hy with h|h
  ·exact o.simple y h
  ·rw [List.mem_singleton.mp h];exact s
noncomputable def uY.row(x:uY)(t a b:PV):uY:={x with rows:=x.rows++[.tup [t,a,b]]}
theorem Ss{t:PV}(a b:PV)(B:s8 c M L x H)(F:Framed c M L x R H)(s:Simple t):s8 c (M.newL t) L (x.row t a b) (upd H (L .locs) (.list (x.rows++[.tup [t,a,b]])))∧Framed c (M.newL t) L (x.row t a b) R (upd H (L .locs) (.list (x.rows++[.tup [t,a,b]]))):=
 have h2:∀r,r≠.locs→S9 c (M.newL t) L (x.row t a b) r=S9 c M L x r∨S9 c (M.newL t) L (x.row t a b) r=none:=fun r ne=>.inl (by cases r<;>first|rfl|exact absurd rfl ne)
 ⟨B.turn (r0:=.locs) nofun rfl h2 (B.rows.snoc t a b) (Nat.le_succ_of_le B.sp) (B.ok.newL s),F.turn (r0:=.locs) nofun rfl h2⟩
theorem O8{k:Nat}{vs:List Value}(h:vs.length=k+1):∃a r,vs=a::r∧r.length=k:=by
 cases vs with
 |nil=>cases h
 |cons a r=>exact⟨a,r,rfl,Nat.succ.inj h⟩
theorem Sv{vs:List Value}(h:vs.length=0):vs=[]:=List.length_eq_zero_iff.mp h
theorem len2{vs:List Value}(h:vs.length=2):∃a b,vs=[a,b]:=by
 obtain⟨a,r,e1,h1⟩:=O8 h
 obtain⟨b,r',e2,h2⟩:=O8 h1
 exact⟨a,b,by rw [e1,e2,Sv h2]⟩
theorem d4:jT (o9 P).T dg 4 []:=jT.of (fd:=_) (ps:=_) rfl [] rfl fun vs h S=>by
 obtain⟨a,r,e1,h1⟩:=O8 h
 obtain⟨b,r',e2,h2⟩:=O8 h1
 obtain⟨c,d,e3⟩:=len2 h2
 rw [e1,e2,e3];rfl
theorem d2:jT (o9 P).T T5 2 [.bool true,.none]:=jT.of (fd:=_) (ps:=_) rfl [.bool true,.none] rfl fun vs h S=>by
 obtain⟨a,b,rfl⟩:=len2 h
 rfl
include hg in
theorem yZ{t:PV}(B:o8 c self M R H)(s:Simple t)(hz:(M.newL t).sz≤sizeLine)(hn:2≤n)(h:∀H',o8 c self (M.newL t) R H'→Q (.int M.tys.length) H'):Cl g n (.obj T5) [.obj self,t] H Q:=by
 revert h
 apply o8.el B
 intro L x B F h
 have hr:=B.rows.length
 have z:=Ss (.bool true) .none B F s
 refine(jk P).clD hg d2 rfl hn fun n hn=>j9.mk B.self B.dx rfl rfl (MethP.mk B.body B.O1 rfl rfl ((mK P).clD hg d4 rfl hn fun n O=>j9.mk B.body B.O1 rfl rfl (z7 (B.at_ .locs _ rfl) (w5 (B.at_ .locs _ rfl) (hr▸Nat.le_trans B.ok.tys (Nat.le_of_succ_le hz)) ?_))))
 refine j9.mk z.1.body z.1.O1 rfl rfl (T4 (k:=M.tys.length+1) ((len_list (c7 ..)).trans (congrArg some (List.length_append.trans (congrArg (·+ 1) hr)))) (pY (Nat.le_trans (Nat.succ_le_succ B.ok.tys) hz)) (Xx (Q:=Q) (h _ ⟨L,_,rfl,z.1,z.2⟩)))
end
section
variable{P:Params}{g:G (o9 P).T}(hg:v9 g){n:Nat}{m:Loc}{c:Fix}{M M':Mem}{L L':Role→Addr}{x x':uY}{H H' R:AH}{Q:PV→AH→Prop}{W:Loc→AH→Prop}{self:Addr}
include hg in
theorem Fx{t w b:PV}(s:X4 t)(hn:1≤n)(h:Q (.bool true) H):Cl g n (.obj wU) [t,w,b] H Q:=(Fp P).cl hg rfl hn fun n O=>by cases s<;>exact h
include hg in
theorem Cu{l:List PV}(hn:1≤n)(h:Q (.tup l) H):Cl g n (.obj sy) [.tup [.str 9,.tup l]] H Q:=(Ca P).cl hg rfl hn fun n O=>h
theorem X4.d{t:PV}(s:X4 t):t.isD=true:=by cases s<;>rfl
theorem HD{l:List PV}(h:∀t∈l,PV.isD t=true):PV.W2 l=true:=by
 induction l with
 |nil=>rfl
 |cons x l ih=>exact Bool.and_eq_true_iff.mpr ⟨h x (.head _),ih fun t ht=>h t (.tail _ ht)⟩
theorem Simple.d{t:PV}(s:Simple t):t.isD=true:=by
 cases s with
 |one s=>exact s.d
 |@tup l h _=>
  show(true&&(PV.W2 l&&true))=true
  rw [HD fun t ht=>(h t ht).d];rfl
noncomputable def Sw:PV→Nat
 |.tup [_,.tup l]=>l.length+1
 |_=>1
noncomputable def wt:List PV→Nat
 | []=>0
 |t::l=>Sw t+wt l
set_option tactic.hygienic true in
theorem Oc(p:PV):1≤Sw p:=by
 cases p<;>try exact Nat.le_refl 1
 rename_i l
 cases l with
 |nil=>exact Nat.le_refl 1
 |cons a l=>
  cases l with
  |nil=>exact Nat.le_refl 1
  |cons b l=>
   cases l with
   |cons _ _=>cases b<;>exact Nat.le_refl 1
   |nil=>cases b<;>first|exact Nat.le_refl 1|exact Nat.succ_le_succ (Nat.zero_le _)
theorem Od(l k:List PV):wt (l++k)=wt l+wt k:=by
 induction l with
 |nil=>exact(Nat.zero_add _).symm
 |cons x l ih=>show Sw x+wt (l++k)=Sw x+wt l+wt k;rw [ih,Nat.add_assoc]
theorem JH{l:List PV}(h:∀t∈l,X4 t):wt l=l.length:=by
 induction l with
 |nil=>rfl
 |cons x l ih=>
  show Sw x+wt l=_
  rw [ih fun t ht=>h t (.tail _ ht),show Sw x=1 by cases h x (.head _)<;>rfl,List.length_cons,Nat.add_comm]
theorem Oe:∀l:List PV,l.length≤wt l
 | []=>Nat.le_refl _
 |x::l=>by
  show l.length+1≤Sw x+wt l
  have h1:=Oc x
  have:=Oe l
  lia
inductive NdI(m0:Loc)(a1:Addr)(H:AH)(j:Nat)(m':Loc)(H':AH):Prop
 |mk (l:List PV) (hm:m'=m0∨∃q,m'=m0++[(64,q)]) (e:H' a1=some (.list l)) (hs:∀t∈l,Simple t) (hw:wt l≤j) (hj:j≤20) (E:Ext H H'):NdI m0 a1 H j m' H'
include hg in
theorem jF{t w:PV}(s:Simple t)(hn:2≤n)(h:∀H',Ext H H'→Q (.bool false) H'):Cl g n (.obj lU) [t,w] H Q:=by
 refine(vL P).cl hg rfl hn fun n hn a0 h0 a1 h1=>?_
 have ne:a1≠a0:=fun z=>by rw [z,c7] at h1;cases h1
 have h1':H a1=none:=by rw [← h1,d8 ne]
 let m0:Loc:=[(6,t),(37,w),(62,.obj a0),(63,.obj a1)]
 refine yh.mk (NdI m0 a1 H) 20 ⟨[t],.inl rfl,c7 ..,fun y hy=>List.mem_singleton.mp hy▸s,?_,Nat.le_refl _,Ext.upd h1' (Ext.new h0)⟩ ?_
 ·cases s with
  |one s=>cases s<;>exact(show 1+0≤20 by decide)
  |@tup l h k=>show l.length+1+0≤20;exact Nat.lt_of_le_of_lt ‹_› (by decide)
 intro j m' H' z
 obtain⟨l,hm,e,hs,hw,hj,E⟩:=z
 have lk:m'.lookup 63=some (.obj a1):=by rcases hm with rfl|⟨q,rfl⟩<;>rfl
 refine d7 lk (Nk e (HD fun t ht=>(hs t ht).d) ?_)
 rcases List.eq_nil_or_concat l with rfl|⟨l,p,rfl⟩
 ·exact h _ E
 rw [List.concat_eq_append] at *
 rw [Od] at hw
 have hw:wt l+(Sw p+0)≤j:=hw
 have hl:=Oe l
 have hsz:l.length+1≤sizeLine:=by have:=Oc p;rw [sizeLine_eq];lia
 refine cB (by cases l<;>rfl) (d7 lk (z7 e (xV e hsz ?_)))
 have hs':∀t∈l,Simple t:=fun t ht=>hs t (List.mem_append_left _ ht)
 have m2:m5 64 p m'=m0++[(64,p)]:=by rcases hm with rfl|⟨q,rfl⟩<;>rfl
 show I9 g n _ (m5 64 p m') _ _
 rw [m2]
 cases hs p (List.mem_append_right _ (.head _)) with
 |one hp=>
  have hw1:Sw p=1:=by cases hp<;>rfl
  have fin:∃i,i<j∧NdI m0 a1 H i (m0++[(64,p)]) (upd H' a1 (.list l)):=⟨j-1,by lia,l,.inr ⟨_,rfl⟩,c7 ..,hs',by lia,by lia,Ext.upd h1' E⟩
  cases hp<;>exact fin
 |@tup ts h k=>
  have hw1:wt l+(ts.length+1+0)≤j:=hw
  refine z7 (c7 ..) (Cu hg hn (oh (c7 ..) (.inl rfl) (by rw [sizeLine_eq];lia) ?_))
  exact⟨j-1,by lia,l++ts,.inr ⟨_,rfl⟩,c7 ..,fun y hy=>(List.mem_append.mp hy).elim (hs' y) fun z=>.one (h y z),by rw [Od,JH h];exact Mine.Internal.qh2 ‹_›,by exact Nat.le_trans (Nat.sub_le ..) ‹_›,Ext.upd h1' (Ext.upd h1' E)⟩
end
section
variable{P:Params}{g:G (o9 P).T}(hg:v9 g){n:Nat}{m:Loc}{c:Fix}{M M':Mem}{L L':Role→Addr}{x x':uY}{H H' R:AH}{Q:PV→AH→Prop}{W:Loc→AH→Prop}{self:Addr}
theorem cg{α:Type}(f:α)(fs:List α)(i:Nat):(f::fs).reverse[i]? = if i=fs.length then some f else fs.reverse[i]? := by
 rw [List.reverse_cons]
 by_cases h:i<fs.length
 ·rw [List.getElem?_append_left (by rw [List.length_reverse];exact h),if_neg (Nat.ne_of_lt h)]
 ·rw [List.getElem?_append_right (by rw [List.length_reverse];exact Nat.le_of_not_lt h),List.length_reverse]
  by_cases e:i=fs.length
  ·rw [if_pos e,e,Nat.sub_self];rfl
  ·rw [if_neg e]
   exact(List.getElem?_eq_none (show 1≤i-fs.length by lia)).trans (List.getElem?_eq_none (by rw [List.length_reverse];exact Nat.le_of_not_lt h)).symm
noncomputable def pZ(L:Role→Addr)(k:Nat)(a:Addr):Role→Addr
 |.fr i=>if i=k then a else L (.fr i)
 |r=>L r
theorem kZ.push(o:kZ M):kZ M.push:=by
 refine⟨Nat.le_succ_of_le o.tys,Nat.le_succ_of_le o.blks,fun b hb=>Nat.le_succ_of_le (o.sts b hb),Nat.succ_le_succ o.frs,fun f hf=>?_,o.here,o.simple,fun f hf y hy=>?_⟩
 ·rcases List.mem_cons.mp hf with rfl|h
  ·exact Nat.zero_le _
  ·exact Nat.le_succ_of_le (o.zZ f h)
 ·rcases List.mem_cons.mp hf with rfl|h
  ·cases hy
  ·exact o.JF f h y hy
set_option tactic.hygienic true in
theorem Cv{a:Addr}(r:Role)(h1:r≠.frs)(h2:r≠.fr M.frs.length):S9 c M.push (pZ L M.frs.length a) x r=S9 c M L x r∧pZ L M.frs.length a r=L r:=by
 cases r<;>try exact⟨rfl,rfl⟩
 case frs=>exact absurd rfl h1
 case blks=>exact⟨congrArg (fun z=>some (q7.list z)) (kJ _ _ fun O O O=>rfl),rfl⟩
 case fr i=>
  have ne:i≠M.frs.length:=fun z=>h2 (z▸rfl)
  refine⟨?_,if_neg ne⟩
  show Option.map _ ([]::M.frs).reverse[i]? = _
  rw [cg,if_neg ne];rfl
theorem Sx(B:s8 c M L x H)(F:Framed c M L x R H){a:Addr}(ha:H a=none):s8 c M.push (pZ L M.frs.length a) x (upd (upd H a (.list [])) (L .frs) (.list (O2 L 0 M.frs.length++[.obj a])))∧
  Framed c M.push (pZ L M.frs.length a) x R (upd (upd H a (.list [])) (L .frs) (.list (O2 L 0 M.frs.length++[.obj a]))):=by
 have hk:=B.at_ .frs _ rfl
 have na:a≠L .frs:=fun z=>by rw [z,hk] at ha;cases ha
 have key:∀y o,H y=some o→y≠L .frs→upd (upd H a (.list [])) (L .frs) (.list (O2 L 0 M.frs.length++[.obj a])) y=some o:=fun y o e q=>by
  rw [d8 q];exact Ext.new ha y o e
 have wb:pZ L M.frs.length a (.fr M.frs.length)=a:=if_pos rfl
 have st:∀r,S9 c M L x r≠none→H (L r)≠none:=fun r h=>by
  cases e:S9 c M L x r with
  |none=>exact absurd e h
  |some o=>rw [B.at_ r o e];exact nofun
 have old:∀r,r≠.fr M.frs.length→S9 c M.push (pZ L M.frs.length a) x r≠none→S9 c M L x r≠none∧pZ L M.frs.length a r=L r:=fun r h v=>by
  by_cases q:r = .frs
  ·subst q;exact⟨nofun,rfl⟩
  ·obtain⟨e1,e2⟩:=Cv (c:=c) (L:=L) (x:=x) (a:=a) r q h
   exact⟨e1▸v,e2⟩
 refine⟨⟨fun r r' h h' e=>?_,fun r o e=>?_,B.rows,Nat.le_succ_of_le B.sp,B.ok.push⟩,fun y o e=>⟨key y o (F y o e).1 fun z=>(F y o e).2 .frs nofun z.symm,fun r h z=>?_⟩⟩
 ·by_cases q:r = .fr M.frs.length<;>by_cases q':r' = .fr M.frs.length
  ·rw [q,q']
  ·obtain⟨i,j⟩:=old r' q' h'
   rw [q,wb,j] at e
   exact absurd ha (e▸st r' i)
  ·obtain⟨i,j⟩:=old r q h
   rw [q',wb,j] at e
   exact absurd ha (e.symm▸st r i)
  ·obtain⟨i,j⟩:=old r q h
   obtain⟨i',j'⟩:=old r' q' h'
   exact B.inj r r' i i' (by rw [← j,← j',e])
 ·by_cases q1:r = .frs
  ·subst q1
   show upd _ (L .frs) _ (L .frs)=_
   rw [c7,← e]
   show _=some (q7.list (O2 _ 0 (M.frs.length+1)))
   rw [fG,Nat.zero_add,wb,kO M.frs.length 0 fun j O h=>?_]
   exact(if_neg (show j≠M.frs.length by lia)).symm
  ·by_cases q2:r = .fr M.frs.length
   ·subst q2
    rw [wb,d8 na,c7,← e]
    show _=Option.map _ ([]::M.frs).reverse[_]?
    rw [cg,if_pos rfl];rfl
   ·obtain⟨e1,e2⟩:=Cv (c:=c) (L:=L) (x:=x) (a:=a) r q1 q2
    rw [e2]
    refine key _ _ (B.at_ r o (e1▸e)) fun z=>q1 (B.inj r .frs (by rw [← e1,e];exact nofun) nofun z)
 ·by_cases q:r = .fr M.frs.length
  ·rw [q,wb] at z
   rw [z,(F y o e).1] at ha;cases ha
  ·obtain⟨i,j⟩:=old r q h
   exact(F y o e).2 r i (by rw [← j];exact z)
include hg in
theorem au(B:o8 c self M R H)(hz:M.push.sz≤sizeLine)(hn:1≤n)(h:∀H',o8 c self M.push R H'→Q (.int M.frs.length) H'):Cl g n (.obj jz) [.obj self] H Q:=by
 revert h
 apply o8.el B
 intro L x B F h
 refine(tL P).cl hg rfl hn fun n O=>j9.mk B.self B.dx rfl rfl (z7 (B.at_ .frs _ rfl) fun a ha=>w5 (Ext.new ha _ _ (B.at_ .frs _ rfl)) (by rw [M9];exact Nat.le_trans B.ok.frs (Nat.le_of_succ_le hz)) ?_)
 have z:=Sx B F ha
 exact j9.mk z.1.self z.1.dx rfl rfl (T4 (k:=M.frs.length+1) ((len_list (c7 ..)).trans (congrArg some (by rw [List.length_append,M9];rfl))) (pY (Nat.le_trans (Nat.succ_le_succ B.ok.frs) hz)) (Xx (Q:=Q) (h _ ⟨pZ L M.frs.length a,x,rfl,z.1,z.2⟩)))
theorem Vw(B:s8 c M L x H){f:List (Nat×Bool)}{fs:List (List (Nat×Bool))} (e:M.frs=f::fs) (hi:M.sz≤sizeLine):Ef (O2 L 0 M.frs.length) (-1)=some (.obj (L (.fr fs.length)))∧H (L (.fr fs.length))=some (.list (f.map wg)):=by
 have hl:M.frs.length=fs.length+1:=by rw [e];rfl
 refine⟨?_,B.fr (by rw [e,cg,if_pos rfl])⟩
 unfold Ef
 rw [M9,hl,if_neg (by decide),if_pos ⟨by lia,by decide⟩]
 rw [show((-1:Int)+((fs.length+1:Nat):Int)).toNat=fs.length by lia,wX L _ _ _ (Nat.lt_succ_self _),Nat.zero_add]
set_option tactic.hygienic true in
theorem kZ.add(o:kZ M)(y:Nat×Bool)(hy:y.1<M.tys.length):kZ (M.add y):=by
 refine⟨Nat.le_succ_of_le o.tys,Nat.le_succ_of_le o.blks,fun b hb=>Nat.le_succ_of_le (o.sts b hb),?_,fun f hf=>?_,o.here,o.simple,fun f hf z hz=>?_⟩
 ·have:=o.frs
  unfold Mem.add
  dsimp only
  split<;>rename_i e<;>rw [e] at this<;>exact Nat.le_succ_of_le this
 ·unfold Mem.add at hf ⊢
  dsimp only at hf ⊢
  split at hf
  ·rename_i f' fs e
   rcases List.mem_cons.mp hf with rfl|h
   ·rw [List.length_append];exact Nat.succ_le_succ (o.zZ f' (by rw [e];exact .head _))
   ·exact Nat.le_succ_of_le (o.zZ f (by rw [e];exact .tail _ h))
  ·cases hf
 ·show z.1<M.tys.length
  unfold Mem.add at hf
  dsimp only at hf
  split at hf
  ·rename_i f' fs e
   rcases List.mem_cons.mp hf with rfl|h
   ·rcases List.mem_append.mp hz with h|h
    ·exact o.JF f' (by rw [e];exact .head _) z h
    ·rw [List.mem_singleton.mp h];exact hy
   ·exact o.JF f (by rw [e];exact .tail _ h) z hz
  ·cases hf
set_option tactic.hygienic true in
theorem Sy{f:List (Nat×Bool)}{fs:List (List (Nat×Bool))} (e:M.frs=f::fs) (y:Nat×Bool) (r:Role) (h:r≠.fr fs.length):S9 c (M.add y) L x r=S9 c M L x r:=by
 have e2:(M.add y).frs=(f++[y])::fs:=by unfold Mem.add;dsimp only;rw [e]
 cases r<;>try rfl
 case frs=>show some (q7.list (O2 L 0 (M.add y).frs.length))=some (q7.list (O2 L 0 M.frs.length));rw [e2,e];rfl
 case fr i=>
  have ne:i≠fs.length:=fun z=>h (z▸rfl)
  show Option.map _ (M.add y).frs.reverse[i]? = Option.map _ M.frs.reverse[i]?
  rw [e2,e,cg,cg,if_neg ne,if_neg ne]
include hg in
theorem SJ(B:s8 c M L x H)(F:Framed c M L x R H){f:List (Nat×Bool)}{fs:List (List (Nat×Bool))} (e:M.frs=f::fs) (y:Nat×Bool) (hy:y.1<M.tys.length):o8 c (L .self) (M.add y) R (upd H (L (.fr fs.length)) (.list (f.map wg++[wg y]))):=by
 have e2:(M.add y).frs=(f++[y])::fs:=by unfold Mem.add;dsimp only;rw [e]
 refine o8.turn (M':=M.add y) (r0:=.fr fs.length) B F x ?_ ?_ (fun r ne=>.inl (Sy e y r ne)) B.rows (Nat.le_succ_of_le B.sp) (B.ok.add y hy)
 ·show Option.map _ M.frs.reverse[_]? ≠none
  rw [e,cg,if_pos rfl];exact nofun
 ·show Option.map _ (M.add y).frs.reverse[_]? = _
  rw [e2,cg,if_pos rfl]
  show some (q7.list ((f++[y]).map wg))=_
  rw [List.map_append];rfl
include hg in
theorem uo{i:Nat}(B:o8 c self M R H)(hi:i<M.tys.length)(hf:M.frs≠[])(hz:((M.tick.put (.tup [.str 129,.int i])).add (i,true)).sz≤sizeLine) (hn:4≤n) (h:∀H',o8 c self ((M.tick.put (.tup [.str 129,.int i])).add (i,true)) R H'→Q .none H'):Cl g n (.obj dj) [.obj self,.int i] H Q:=by
 refine(mQ P).cl hg rfl hn fun n hn=>B.me rfl rfl (Fw hg B (Nat.le_of_succ_le hz) hn fun H B=>?_)
 revert h
 apply o8.el B
 intro L x B F h
 obtain⟨f,fs,e⟩:=List.exists_cons_of_ne_nil hf
 have z:=Vw B (f:=f) (fs:=fs) e (Nat.le_of_succ_le hz)
 exact j9.mk B.self B.dx rfl rfl (lQ (B.at_ .frs _ rfl) z.1 (z7 z.2 (w5 z.2 (by rw [List.length_map];exact Nat.le_trans (B.ok.zZ f (by rw [show(M.tick.put _).frs=M.frs from rfl,e];exact .head _)) (Nat.le_of_succ_le hz)) (h _ (SJ hg B F (f:=f) (fs:=fs) e (i,true) hi)))))
noncomputable def Mem.temp(M:Mem)(t:PV):Mem:=((M.newL t).tick.put (.tup [.str 129,.int M.tys.length])).add (M.tys.length,true)
include hg in
theorem mW{t:PV}(B:o8 c self M R H)(s:Simple t)(hf:M.frs≠[])(hz:(M.temp t).sz≤sizeLine)(hn:5≤n)(h:∀H',o8 c self (M.temp t) R H'→Q (.int M.tys.length) H'):Cl g n (.obj Z4) [.obj self,t] H Q:=
 (gY P).cl hg rfl hn fun n hn=>B.me rfl rfl (yZ hg B s (Nat.le_of_add_right_le (k:=3) hz) (leB hn rfl) fun H B=>B.me rfl rfl (uo hg B (by show _<(M.tys++[t]).length;rw [List.length_append];exact Nat.lt_succ_self _) hf hz hn h))
end
noncomputable def Mem.fin:Mem→List (Nat×Bool)→Mem
 |M,[]=>M
 |M,(i,true)::r=>Mem.fin (M.tick.put (.tup [.str 134,.int (i:Int)])) r
 |M,(_,false)::r=>Mem.fin M r
noncomputable def Mem.pop(M:Mem):Mem:=(M.fin (M.frs.headD []).reverse).drop
section
variable{P:Params}{g:G (o9 P).T}(hg:v9 g){n:Nat}{m:Loc}{c:Fix}{M M':Mem}{L L':Role→Addr}{x x':uY}{H H' R:AH}{Q:PV→AH→Prop}{W:Loc→AH→Prop}{self:Addr}
theorem X5:∀(l:List (Nat×Bool)) (M:Mem),(M.fin l).frs=M.frs∧(M.fin l).tys=M.tys∧(M.fin l).here=M.here∧(M.fin l).sz≤M.sz+2*l.length∧M.sz≤(M.fin l).sz
 | [],M=>⟨rfl,rfl,rfl,Nat.le_refl _,Nat.le_refl _⟩
 | (i,true)::r,M=>by
  obtain⟨a,b,h,d,e⟩:=X5 r (M.tick.put (.tup [.str 134,.int (i:Int)]))
  have d:_≤M.sz+1+1+2*r.length:=d
  have e:M.sz+1+1≤_:=e
  refine⟨a,b,h,?_,?_⟩
  ·show(Mem.fin _ r).sz≤M.sz+2*(r.length+1);lia
  ·show M.sz≤(Mem.fin _ r).sz;lia
 | (_,false)::r,M=>by
  obtain⟨a,b,h,d,e⟩:=X5 r M
  refine⟨a,b,h,?_,e⟩
  show(Mem.fin _ r).sz≤M.sz+2*(r.length+1);lia
theorem uq(l:List (Nat×Bool))(M:Mem):M.sz≤(M.fin l).sz:=(X5 l M).2.2.2.2
theorem gA.ext(B:gA c L M R H)(E:Ext H H'):gA c L M R H':=B.elim fun x z=>⟨x,z.1.ext E,fun b o q=>⟨E _ _ (z.2 b o q).1,(z.2 b o q).2⟩⟩
include hg in
theorem Fy{p:PV}{full:List PV}{m0:Loc}{Q':Out→Loc→AH→Prop}(hn:5≤n)(hm0:m0=[(1,.obj (L .self)),(130,p)]) (fin:∀m' H',gA c L M' R H'→Q' .next m' H'):∀(r:List (Nat×Bool)) (M:Mem) (H:AH) (m':Loc),gA c L M R H→(m'=m0∨∃a b,m'=m0++[(77,a),(131,b)])→
  (∀y∈r,y.1<M.tys.length)→(M.fin r).sz≤sizeLine→M.fin r=M'→DG (fun q m H Q=>(Tg.tup [.name 77,.name 131]).w g n q m H Q) (fun m H Q=>I9 g n [.iff (.call 132 [.meth (.loc 1) 112 [.loc 77],.attr (.loc 1) 37]) [.bad,.bad,.bad] [],.iff (.loc 131) [.expr (.meth (.loc 1) 128 [.tup [.str 134,.loc 77]])] []] m H Q) (.lst full) full Q' (r.map wg) m' H:=by
 intro r
 induction r with
 |nil=>exact fun M H m' B O O O e=>fin m' H (e▸B)
 |cons y r ih=>
  intro M H m' B hm hv hz e
  obtain⟨i,b⟩:=y
  have hi:i<M.tys.length:=hv _ (.head _)
  have m2:m5 131 (.bool b) (m5 77 (.int (i:Int)) m')=m0++[(77,.int (i:Int)),(131,.bool b)]:=by
   rcases hm with rfl|⟨a,b,rfl⟩<;>subst hm0<;>rfl
  show I9 g n _ (m5 131 (.bool b) (m5 77 (.int (i:Int)) m')) _ _
  rw [m2]
  have es:M.tys[i]? = some M.tys[i]:=List.getElem?_eq_getElem hi
  have hs:Simple M.tys[i]:=B.elim fun x z=>z.1.ok.simple _ (List.getElem_mem hi)
  have h0:=Nat.le_trans (uq ((i,b)::r) M) hz
  subst hm0
  refine B.QF.me rfl rfl (Sq hg B.QF es h0 (leB hn rfl) (B.QF.world (jF hg hs (leB hn rfl) fun H' E=>?_)))
  have B:=B.ext E
  cases b with
  |false=>exact ih M H' _ B (.inr ⟨_,_,rfl⟩) (fun y hy=>hv y (.tail _ hy)) hz e
  |true=>exact B.QF.me rfl rfl (putL hg B (Nat.le_trans (uq r _) hz) (leB hn rfl) fun H' B=>ih _ H' _ B (.inr ⟨_,_,rfl⟩) (fun y hy=>hv y (.tail _ hy)) hz e)
include hg in
theorem ac5{p:PV}{l:List (Nat×Bool)}(B:gA c L M R H)(hp:v7 H p=some (l.map wg))(hv:∀y∈l,y.1<M.tys.length)(hl:l.length≤sizeLine)(hz:(M.fin l.reverse).sz≤sizeLine)(hn:6≤n)(h:∀H',gA c L (M.fin l.reverse) R H'→Q .none H'):Cl g n (.obj Z1) [.obj (L .self),p] H Q:=by
 refine(oU P).cl hg rfl hn fun n hn=>d7 hp (cB (Nat.ble_eq_true_of_le (by rw [List.length_map];exact hl)) ?_)
 rw [← List.map_reverse]
 exact Fy hg (m0:=[(1,.obj (L .self)),(130,p)]) hn rfl (fun m' H' B=>h H' B) l.reverse M H _ B (.inl rfl) (fun y hy=>hv y (List.mem_reverse.mp hy)) hz rfl
include hg in
theorem finish_ok{p:PV}{l:List (Nat×Bool)}(B:o8 c self M R H)(hp:v7 H p=some (l.map wg))(hv:∀y∈l,y.1<M.tys.length)(hl:l.length≤sizeLine)(hz:(M.fin l.reverse).sz≤sizeLine)(hn:6≤n)(h:∀H',o8 c self (M.fin l.reverse) R H'→Q .none H'):Cl g n (.obj Z1) [.obj self,p] H Q:=by
 revert h
 apply B.told
 intro L B h
 exact ac5 hg B hp hv hl hz hn fun H B=>h H B.QF
theorem Xy{f:List (Nat×Bool)}{fs:List (List (Nat×Bool))} (e:M.frs=f::fs):M.pop=(M.fin f.reverse).drop:=by unfold Mem.pop;rw [e];rfl
set_option tactic.hygienic true in
theorem pop_at{M':Mem}{f:List (Nat×Bool)}{fs:List (List (Nat×Bool))} (B:s8 c M' L x H) (F:Framed c M' L x R H) (e:M'.frs=f::fs):o8 c (L .self) M'.drop R (upd H (L .frs) (.list (O2 L 0 fs.length))):=by
 have img:∀r,r≠.frs→S9 c M'.drop L x r=S9 c M' L x r∨S9 c M'.drop L x r=none:=fun r ne=>by
  cases r<;>try exact .inl rfl
  case frs=>exact absurd rfl ne
  case fr i=>
   show Option.map _ M'.frs.tail.reverse[i]? = Option.map _ M'.frs.reverse[i]? ∨Option.map _ M'.frs.tail.reverse[i]? = none
   rw [e,cg]
   by_cases q:i=fs.length
   ·refine .inr ?_
    show Option.map _ fs.reverse[i]? = none
    rw [List.getElem?_eq_none (by rw [List.length_reverse,q];exact Nat.le_refl _)];rfl
   ·rw [if_neg q];exact .inl rfl
 have o:=B.ok
 refine o8.turn (r0:=.frs) B F x nofun ?_ img B.rows B.sp ⟨o.tys,o.blks,o.sts,?_,fun z hz=>o.zZ z (List.mem_of_mem_tail hz),o.here,o.simple,fun z hz=>o.JF z (List.mem_of_mem_tail hz)⟩
 ·show some (q7.list (O2 L 0 M'.frs.tail.length))=_
  rw [e];rfl
 ·show M'.frs.tail.length≤_
  rw [List.length_tail];exact Nat.le_trans (Nat.sub_le _ _) o.frs
theorem SM(B:o8 c self M R H){f:List (Nat×Bool)}{fs:List (List (Nat×Bool))} (e:M.frs=f::fs) (hi:M.sz≤sizeLine) (h:∀a,H a=some (.list (f.map wg))→(∀y∈f,y.1<M.tys.length)∧f.length≤M.sz→Q (.obj a) H):j9 g 118 (fun p H=>SubL g p (.int (-1)) H Q) (.obj self) H:=by
 apply o8.el B
 intro L x B F
 have z:=Vw B e hi
 exact .mk B.self B.dx rfl rfl (lQ (B.at_ .frs _ rfl) z.1 (h _ z.2 ⟨B.ok.JF f (by rw [e];exact .head _),B.ok.zZ f (by rw [e];exact .head _)⟩))
theorem SN(B:o8 c self M R H){f:List (Nat×Bool)}{fs:List (List (Nat×Bool))} (e:M.frs=f::fs) (hi:M.sz≤sizeLine) (h:∀q H',o8 c self M.drop R H'→Q q H'):j9 g 118 (fun p H=>qm H "list" p∧Cl g n (.blt "list.pop") [p] H Q) (.obj self) H:=by
 revert h
 apply o8.el B
 intro L x B F h
 have h5:H (L .frs)=some (.list (O2 L 0 fs.length++[.obj (L (.fr fs.length))])):=by
  rw [B.at_ .frs _ rfl,e]
  show some (q7.list (O2 L 0 (fs.length+1)))=_
  rw [fG,Nat.zero_add]
 exact .mk B.self B.dx rfl rfl (z7 h5 (xV h5 (by have:=B.ok.frs;rw [e] at this;rw [M9];exact Nat.le_trans this hi) (h _ _ (pop_at B F e))))
include hg in
theorem Xz{f:List (Nat×Bool)}{fs:List (List (Nat×Bool))} (B:o8 c self M R H) (e:M.frs=f::fs) (hz:M.pop.sz≤sizeLine) (hn:7≤n) (h:∀H',o8 c self M.pop R H'→Q .none H'):Cl g n (.obj eU) [.obj self] H Q:=by
 rw [Xy e] at hz h
 have h0:M.sz≤sizeLine:=Nat.le_trans (uq f.reverse M) hz
 exact(vQ P).cl hg rfl hn fun n hn=>B.me rfl rfl (SM B e h0 fun a ea z=>finish_ok hg B (G5 ea) z.1 (Nat.le_trans z.2 h0) hz hn fun H B=>SN B ((X5 f.reverse M).1.trans e) hz fun O H B=>h H B)
end
section
variable{c:Fix}{M:Mem}{self:Addr}{R R' H:AH}{D:Addr}{o o':q7}
theorem o8.ac6(B:o8 c self M R' H)(h:∀b o,R b=some o→R' b=some o):o8 c self M R H:=by
 obtain⟨L,x,e,B,F⟩:=B
 exact⟨L,x,e,B,fun b o z=>F b o (h b o z)⟩
theorem o8.newR(B:o8 c self M R H)(h:H D=none):o8 c self M (upd R D o) (upd H D o):=by
 obtain⟨L,x,e,B,F⟩:=B
 refine⟨L,x,e,B.ext (Ext.new h),fun b q z=>?_⟩
 by_cases k:b=D
 ·subst k
  rw [c7] at z ⊢
  exact⟨z,fun r hr w=>by
   cases i:S9 c M L x r with
   |none=>exact hr i
   |some o'=>rw [← w,B.at_ r o' i] at h;cases h⟩
 ·rw [d8 k] at z
  exact⟨Ext.new h b q (F b q z).1,(F b q z).2⟩
theorem o8.XC(B:o8 c self M (upd R D o) H):o8 c self M (upd R D o') (upd H D o'):=by
 obtain⟨L,x,e,B,F⟩:=B
 have hD:=(F D o (c7 ..)).2
 refine⟨L,x,e,⟨B.inj,fun r q i=>?_,B.rows,B.sp,B.ok⟩,fun b q z=>?_⟩
 ·rw [d8 (hD r (by rw [i];exact nofun))];exact B.at_ r q i
 ·by_cases k:b=D
  ·subst k
   rw [c7] at z ⊢
   exact⟨z,hD⟩
  ·rw [d8 k] at z ⊢
   exact F b q (by rw [d8 k];exact z)
theorem o8.ap5(B:o8 c self M (upd R D o) H)(h:R D=none):o8 c self M R (del H D):=by
 obtain⟨L,x,e,B,F⟩:=B
 have hD:=(F D o (c7 ..)).2
 refine⟨L,x,e,⟨B.inj,fun r q i=>?_,B.rows,B.sp,B.ok⟩,fun b q z=>?_⟩
 ·rw [del,if_neg (hD r (by rw [i];exact nofun))];exact B.at_ r q i
 ·have ne:b≠D:=fun k=>by rw [k,h] at z;cases z
  rw [del,if_neg ne]
  exact F b q (by rw [d8 ne];exact z)
theorem o8.inR(B:o8 c self M (upd R D o) H):H D=some o:=by
 obtain⟨L,x,e,B,F⟩:=B
 exact(F D o (c7 ..)).1
theorem o8.SQ(B:o8 c self M R H)(h:H D=none):R D=none:=by
 obtain⟨L,x,e,B,F⟩:=B
 cases k:R D with
 |none=>rfl
 |some o=>rw [(F D o k).1] at h;cases h
theorem o8.ap6(B:o8 c self M (upd R D o) H)(h:R D=none):o8 c self M R H:=B.ac6 fun b q z=>by
 rw [d8 fun e=>by rw [e,h] at z;cases z];exact z
end
noncomputable def z8(M:Mem):Nat:=(M.frs.map List.length).sum
noncomputable def Mem.phi(M:Mem):Nat:=M.sz+2*z8 M
noncomputable def j7(p:PV):PV:=.tup [.str 143,p]
noncomputable def m7(i:Nat):PV:=.tup [.int (i:Int),.tup []]
noncomputable def Mem.asg(M:Mem)(p rv:PV):Mem:=M.tick.put (.tup [.str 159,p,rv])
noncomputable def Mem.cls(M:Mem)(t:PV):Mem:=M.tick.close t
noncomputable def I7(o:PV):PV:=.tup [.str 171,o]
noncomputable def j6:PV:=.tup [.str 9,.tup []]
theorem HF(M:Mem)(t:PV):(M.cls t).phi=M.phi+2:=by
 show M.sz+1+1+2*z8 M=M.sz+2*z8 M+2;lia
theorem Og(M:Mem):M.j5.phi=M.phi+1:=by
 show M.sz+1+2*z8 M=M.sz+2*z8 M+1;exact Nat.add_right_comm ..
theorem Oh{M:Mem}(h:M.frs≠[])(t:PV):(M.temp t).phi=M.phi+6:=by
 obtain⟨f,fs,e⟩:=List.exists_cons_of_ne_nil h
 have e2:(M.temp t).frs=(f++[(M.tys.length,true)])::fs:=by
  show(match M.frs with|f::fs=>(f++[(M.tys.length,true)])::fs | []=>[])=_
  rw [e]
 show M.sz+1+1+1+1+2*z8 (M.temp t)=M.sz+2*z8 M+6
 unfold z8
 rw [e2,e]
 simp only [List.map_cons,List.sum_cons,List.length_append,List.length_singleton]
 lia
noncomputable def HJ(i y:Nat):PV:=.tup [.str 85,j7 (m7 i),.tup [.tup [.bool false,.int (y+1:Nat)]],.int (y:Int)]
noncomputable def q8(b:Nat):PV:=.tup [.str 84,.int (b:Int)]
noncomputable def u9(i:Nat)(M:Mem):Mem:=M.j5.j5.cls (HJ i M.blks.length)
noncomputable def jG(M:Mem)(o x t:PV):Mem:=(M.j5.cls (.tup [.str 88,o,x,t,.int M.blks.length])).to M.blks.length
noncomputable def Mem.qX(M:Mem)(b:Nat):Mem:=(M.cls (q8 b)).to b
theorem M6(M:Mem):M.j5.blks.length=M.blks.length+1:=List.length_append
theorem qY(M:Mem)(t:PV):(M.cls t).blks.length=M.blks.length:=List.length_modify ..
section
variable{P:Params}{g:G (o9 P).T}(hg:v9 g){n:Nat}{m:Loc}{c:Fix}{M M':Mem}{L L':Role→Addr}{x x':uY}{H H' R:AH}{Q:PV→AH→Prop}{W:Loc→AH→Prop}{self:Addr}
include hg in
theorem W4{p rv:PV}(B:o8 c self M R H)(hz:(M.asg p rv).sz≤sizeLine)(hn:4≤n)(h:∀H',o8 c self (M.asg p rv) R H'→Q .none H'):Cl g n (.obj Y6) [.obj self,p,rv] H Q:=
 (gq P).cl hg rfl hn fun n hn=>B.me rfl rfl (Fw hg B hz hn h)
include hg in
theorem Y8{p:PV}(B:o8 c self M R H)(hz:(M.asg p j6).sz≤sizeLine)(hn:5≤n)(h:∀H',o8 c self (M.asg p j6) R H'→Q .none H'):Cl g n (.obj V3) [.obj self,p] H Q:=
 (dI P).cl hg rfl hn fun n hn=>B.me rfl rfl (W4 hg B hz hn h)
include hg in
theorem jH{p t:PV}(B:o8 c self M R H)(s:X4 t)(hn:2≤n)(h:Q (j7 p) H):Cl g n (.obj R2) [.obj self,p,t] H Q:=
 (bA P).cl hg rfl hn fun n hn=>B.world (B.bounds (Fx hg s hn h))
include hg in
theorem SX{i:Nat}(B:o8 c self M R H)(hz:(u9 i M).sz≤sizeLine)(hn:4≤n)(h:∀H',o8 c self (u9 i M) R H'→Q (.tup [.int M.blks.length,.int (M.blks.length+1:Nat)]) H'):Cl g n (.obj aW) [.obj self,.int i] H Q:=
 (jm P).cl hg rfl hn fun n hn=>B.me rfl rfl (K8 hg B (Nat.le_of_add_right_le (k:=3) hz) (leB hn rfl) fun H B=>B.me rfl rfl (K8 hg B (Nat.le_of_add_right_le (k:=2) hz) (leB hn rfl) fun H B=>by
  rw [M6]
  exact B.me rfl rfl (bC hg B hz hn h)))
include hg in
theorem Tc{o x t:PV}(B:o8 c self M R H)(hz:(jG M o x t).sz≤sizeLine)(hn:4≤n)(h:∀H',o8 c self (jG M o x t) R H'→Q .none H'):Cl g n (.obj aX) [.obj self,o,x,t] H Q:=
 (jo P).cl hg rfl hn fun n hn=>B.me rfl rfl (K8 hg B (Nat.le_of_add_right_le (k:=2) hz) (leB hn rfl) fun H B=>B.me rfl rfl (bC hg B hz hn fun H B=>B.iV (by rw [show(M.j5.tick.close _).blks.length=M.j5.blks.length from qY _ _,M6];exact Nat.lt_succ_self _) h))
end
end Mine.Internal
namespace Mine.Internal
open PySem PySem.W PySem.Calls PyProof.Rows
inductive Op where|add|sub|mul|lt|ge|eq
noncomputable def Op.s:Op→Nat
 |.add=>321 | .sub=>260 | .mul=>322 | .lt=>161 | .ge=>196 | .eq=>269
noncomputable def Op.ar:Op→Bool
 |.add=>true | .sub=>true | .mul=>true|_=>false
noncomputable def Op.msg:Op→Nat
 |.add=>420 | .sub=>423|_=>426
noncomputable abbrev s6:PV:=.tup [.str 32,.str 355]
noncomputable abbrev T9:PV:=.tup [.str 45]
noncomputable abbrev mX:PV:=.tup [.str 9,.tup [s6,T9]]
noncomputable def K1(t v:PV):PV:=.tup [.str 156,t,v]
noncomputable def YW(i k:Nat):PV:=.tup [.int (i:Int),.tup [.tup [.str 106,.int (k:Int)]]]
noncomputable def J4(p:PV)(op:Op)(a b:PV)(M:Mem):Mem:=if op.ar then
  (jG ((M.temp mX).asg (m7 M.tys.length) (.tup [.str 267,.str op.s,a,b])) (j7 (YW M.tys.length 1)) (.bool false) (.str op.msg)).asg p (I7 (j7 (YW M.tys.length 0)))
 else M.asg p (.tup [.str 160,.str op.s,a,b])
noncomputable def inScope(into:PV→Mem→Mem)(p:PV)(M:Mem):Mem:=(into p M.push).pop
structure Gr(M M':Mem)(k:Nat):Prop where
 frs:∀f fs,M.frs=f::fs→∃l,M'.frs=(f++l)::fs
 tys:∃l,M'.tys=M.tys++l
 blks:M.blks.length≤M'.blks.length
 sz:M.sz≤M'.sz
 phi:M'.phi≤M.phi+k
section
variable{M M' M'':Mem}{k k':Nat}
theorem Gr.trans(a:Gr M M' k)(b:Gr M' M'' k'):Gr M M'' (k+k'):=by
 refine⟨fun f fs e=>?_,?_,Nat.le_trans a.blks b.blks,Nat.le_trans a.sz b.sz,?_⟩
 ·obtain⟨l,e1⟩:=a.frs f fs e
  obtain⟨l',e2⟩:=b.frs _ _ e1
  exact⟨l++l',by rw [e2,List.append_assoc]⟩
 ·obtain⟨l,e1⟩:=a.tys
  obtain⟨l',e2⟩:=b.tys
  exact⟨l++l',by rw [e2,e1,List.append_assoc]⟩
 ·have:=a.phi;have:=b.phi;lia
theorem Fz{α:Type}(l:List α):∃k,l=l++k:=⟨[],(List.append_nil l).symm⟩
theorem Gr.fits(a:Gr M M' k)(h:M'.sz≤sizeLine):M.sz≤sizeLine:=Nat.le_trans a.sz h
theorem XD(s:PV):Gr M (M.tick.put s) 2:=⟨fun f fs e=>⟨[],by rw [List.append_nil];exact e⟩,Fz _,by show _≤(M.blks.modify _ _).length;rw [List.length_modify];exact Nat.le_refl _,Nat.le_add_right _ 2,Nat.le_of_eq (HF M s)⟩
theorem XF(p rv:PV):Gr M (M.asg p rv) 2:=XD _
theorem XH(t:PV):Gr M (M.cls t) 2:=⟨fun f fs e=>⟨[],by rw [List.append_nil];exact e⟩,Fz _,by show _≤(M.blks.modify _ _).length;rw [List.length_modify];exact Nat.le_refl _,Nat.le_add_right _ 2,Nat.le_of_eq (HF M t)⟩
theorem ac7(b:Nat):Gr M (M.to b) 0:=⟨fun f fs e=>⟨[],by rw [List.append_nil];exact e⟩,Fz _,Nat.le_refl _,Nat.le_refl _,Nat.le_refl _⟩
theorem Td:Gr M M.j5 1:=⟨fun f fs e=>⟨[],by rw [List.append_nil];exact e⟩,Fz _,by show _≤(M.blks++[_]).length;rw [List.length_append];exact Nat.le_succ _,Nat.le_succ _,Nat.le_of_eq (Og M)⟩
theorem Te(h:M.frs≠[])(t:PV):Gr M (M.temp t) 6:=⟨fun f fs e=>⟨[(M.tys.length,true)],by
  show(match M.frs with|f::fs=>(f++[(M.tys.length,true)])::fs | []=>[])=_
  rw [e]⟩,⟨[t],rfl⟩,by show _≤(M.blks.modify _ _).length;rw [List.length_modify];exact Nat.le_refl _,Nat.le_add_right _ 4,Nat.le_of_eq (Oh h t)⟩
theorem U0{f:List (Nat×Bool)}{fs:List (List (Nat×Bool))} (e:M.frs=f::fs):M.pop.frs=fs∧M.pop.tys=M.tys∧M.pop.here=M.here:=by
 obtain⟨f1,f2,f3,f4,f5⟩:=X5 f.reverse M
 have pp:M.pop=(M.fin f.reverse).drop:=by unfold Mem.pop;rw [e];rfl
 rw [pp]
 exact⟨by show(M.fin f.reverse).frs.tail=_;rw [f1,e];rfl,f2,f3⟩
theorem mY:∀(l:List (Nat×Bool)) (M:Mem),(M.fin l).blks.length=M.blks.length
 | [],_=>rfl
 | (i,true)::r,M=>(mY r _).trans (List.length_modify ..)
 | (_,false)::r,M=>mY r M
theorem T6(M:Mem):M.sz≤M.pop.sz:=uq _ M
theorem Tf(o x t:PV):Gr M (jG M o x t) 3:=(Td.trans (XH _)).trans (ac7 _)
end
theorem ac8(P:Params)(op:Op)(h:op.ar=true):∃v j,(o9 P).T.u0 627 op.s=some (.str v)∧(o9 P).T.cat 271 v=some j∧(o9 P).T.cat j 268=some op.msg∧
  tabOf texts j=tabOf texts 271++tabOf texts v∧tabOf texts op.msg=tabOf texts j++tabOf texts 268∧(tabOf texts 271).length+(tabOf texts v).length≤100∧(tabOf texts j).length+(tabOf texts 268).length≤100:=by
 cases op<;>first|(cases h;done)|skip
 ·exact⟨331,419,rfl,rfl,rfl,by kernel_rfl,by kernel_rfl,by decide +kernel,by decide +kernel⟩
 ·exact⟨332,422,rfl,rfl,rfl,by kernel_rfl,by kernel_rfl,by decide +kernel,by decide +kernel⟩
 ·exact⟨333,425,rfl,rfl,rfl,by kernel_rfl,by kernel_rfl,by decide +kernel,by decide +kernel⟩
section
variable{P:Params}{g:G (o9 P).T}(hg:v9 g){n:Nat}{c:Fix}{M:Mem}{H R:AH}{Q:PV→AH→Prop}{self:Addr}
include hg
theorem jJ{p o1 o2:PV}{op:Op}(B:o8 c self M R H)(hf:M.frs≠[])(hz:(J4 p op o1 o2 M).sz≤sizeLine)(hn:6≤n)(h:∀H',o8 c self (J4 p op o1 o2 M) R H'→Q .none H'):Cl g n (.obj R8) [.obj self,p,.str op.s,o1,o2,s6] H Q:=by
 refine(bM P).cl hg rfl hn fun n hn=>?_
 unfold J4 at hz h
 cases har:op.ar with
 |false=>
  rw [har] at hz h
  cases op<;>first|(cases har;done)|exact B.me rfl rfl (W4 hg B hz (leB hn rfl) h)
 |true=>
  rw [har] at hz h
  obtain⟨v,j,k1,k2,k3,k4,k5,k6,k7⟩:=ac8 P op har
  have t:=Te hf mX
  have a:=XF (M:=M.temp mX) (m7 M.tys.length) (.tup [.str 267,.str op.s,o1,o2])
  have st:Simple mX:=.tup (fun p h=>by
   rcases List.mem_cons.mp h with rfl|h
   ·exact .int _
   ·rw [List.mem_singleton.mp h];exact .bool) (Nat.le_refl _)
  have h3:=Nat.le_of_add_right_le (k:=2) hz
  have h2:=(Tf (M:=(M.temp mX).asg (m7 M.tys.length) (.tup [.str 267,.str op.s,o1,o2])) (j7 (YW M.tys.length 1)) (.bool false) (.str op.msg)).fits h3
  have e1:([.str 321,.str 260,.str 322,.str 265,.str 266,.str 447,.str 448].any fun y=>PV.eqv y (.str op.s))=true:=by cases op<;>first|rfl|(cases har;done)
  have e2:([.str 265,.str 266].any fun y=>PV.eqv y (.str op.s))=false:=by cases op<;>first|rfl|(cases har;done)
  refine xH (congrArg (fun x => !x) e1) (xH e2 (B.me rfl rfl (mW hg B st hf (a.fits h2) hn fun H B=>B.me rfl rfl (W4 hg B h2 (leB hn rfl) fun H B=>?_))))
  refine B.me rfl rfl (Xq k1 (Hv k2 ⟨k4,Nat.le_trans k6 (aj rfl)⟩ (Hv k3 ⟨k5,Nat.le_trans k7 (aj rfl)⟩ (Tc hg B h3 (leB hn rfl) fun H B=>?_))))
  exact B.me rfl rfl (W4 hg B hz (leB hn rfl) h)
end
end Mine.Internal
namespace Mine.Internal
open PySem PySem.W PySem.Calls PyProof.Rows
inductive F where
 |nil|cons (s r:F)|jK (p:Nat)|upd (op:Op) (p:Nat) (k:Int)|ch (op:Op) (p:Nat) (k:Int) (a b:F)|ring (x c:Nat) (goal:Option Nat) (rows:F)|ret (p:Nat)|brk (x:Nat)|cont (x:Nat)
noncomputable abbrev fH:PV:=.tup [.str 46]
noncomputable def iy(p:Nat):PV:=.tup [.str 77,s6,.int 0,.int (p:Int)]
noncomputable def aA(k:Int):PV:=.tup [.str 156,s6,.int 0,.int k]
noncomputable def treeT(l:List PV):PV:=.tup [.str 78,j6,.int 0,.tup l,.none]
noncomputable def DK(t:PV):PV:=.tup [.str 349,.int 0,t]
noncomputable def Oi(op:Op)(p:Nat)(k:Int):PV:=.tup [.str 160,T9,.int 0,.str op.s,iy p,aA k]
noncomputable def fZ(c:Nat):PV:=.tup [.str 177,s6,.int (c:Int),.str 143,.none]
noncomputable def ur(x:Nat)(l:List PV):PV:=.tup [.str 244,s6,.int 0,.int (x:Int),treeT l]
noncomputable def Cy(goal:Option Nat)(t:PV):PV:=match goal with
 |none=>t
 |some p=>.tup [.str 159,j6,.int 0,iy p,t]
noncomputable def F.isNil:F→Bool
 |.nil=>true
 |_=>false
noncomputable def F.ty:F→PV
 |.ret _=>fH
 |.brk _=>fH
 |.cont _=>fH
 |_=>j6
noncomputable def F.td:F→PV×List PV
 |.nil=>(.none,[])
 |.cons s r=>(.none,DK s.td.1::r.td.2)
 |.jK p=>(.tup [.str 242,j6,.int 0,iy p],[])
 |.upd op p k=>(.tup [.str 241,j6,.int 0,.str op.s,iy p,aA k],[])
 |.ch op p k a b=>(.tup [.str 251,j6,.int 0,Oi op p k,treeT a.td.2,if b.isNil then .none else treeT b.td.2],[])
 |.ring x c goal rows=>(.tup [.str 78,j6,.int 0,.tup [.tup [.str 286,.int 0,fZ c,aA 0],DK (Cy goal (ur x rows.td.2))],.none],[])
 |.ret p=>(.tup [.str 247,fH,.int 0,iy p],[])
 |.brk x=>(.tup [.str 245,fH,.int 0,.int (x:Int),aA 7],[])
 |.cont x=>(.tup [.str 246,fH,.int 0,.int (x:Int)],[])
structure LI where
 head:Nat
 behind:Nat
 depth:Nat
 place:PV
noncomputable abbrev bG:=Nat→Option LI
noncomputable def bG.set(l:bG)(x:Nat)(i:LI):bG:=fun y=>if y=x then some i else l y
noncomputable def Mem.leave(M:Mem)(d:Nat):Mem:=(M.frs.take (M.frs.length-d)).foldl (fun M f=>M.fin f.reverse) M
noncomputable def Mem.bO(M:Mem)(t:PV):Mem:=(M.cls t).j5.to M.blks.length
noncomputable def Mem.FJ(M:Mem)(i:Nat):Mem:=(M.tick.put (.tup [.str 129,.int ((1+i:Nat):Int)])).add (1+i,true)
noncomputable def inBlock(d:Mem→Mem)(p:PV)(M:Mem):Mem:=((d M.push).asg p j6).pop
noncomputable def jq(t:PV)(d:PV→Mem→Mem)(M:Mem):Mem:=(d (m7 M.push.tys.length) (M.push.temp t)).pop
noncomputable def Q8(i:Nat)(k:Int)(M:Mem):Mem:=((M.FJ i).push.asg (m7 (1+i)) (I7 (K1 s6 (.int k)))).pop
noncomputable def w7(op:Op)(p:Nat)(k:Int)(M:Mem):Mem:=inScope (fun q M=>M.asg q (.tup [.str 160,.str op.s,j7 (m7 (1+p)),K1 s6 (.int k)])) (m7 M.tys.length) (M.temp T9)
noncomputable def ac9(p:Nat)(q:PV)(M:Mem):Mem:=(M.tick.put (.tup [.str 242,j7 (m7 (1+p))])).asg q j6
noncomputable def ad0(op:Op)(p:Nat)(k:Int)(q:PV)(M:Mem):Mem:=(J4 (m7 (1+p)) op (j7 (m7 (1+p))) (K1 s6 (.int k)) M).asg q j6
noncomputable def JK(op:Op)(p:Nat)(k:Int)(a b:PV→Mem→Mem)(q:PV)(M:Mem):Mem:=
 let M1:=w7 op p k M
 let y:=M1.blks.length
 let M2:=u9 M.tys.length M1
 let z:=M2.blks.length
 (b q (((a q (M2.j5.to y)).cls (q8 z)).to (y+1))).qX z
noncomputable def M7(d:LI→Mem→Mem)(q:PV)(M:Mem):Mem:=
 let h:=M.blks.length
 let M2:=M.j5.j5.qX h
 (((inBlock (d ⟨h,h+1,M.frs.length,q⟩) (m7 M2.push.tys.length) (M2.push.temp j6)).pop).cls (q8 h)).to (h+1)
noncomputable def Y9(goal:Option Nat)(lp:PV→Mem→Mem)(q:PV)(M:Mem):Mem:=match goal with
 |none=>lp q M
 |some p=>((lp (m7 M.tys.length) (M.temp s6)).asg (m7 (1+p)) (I7 (j7 (m7 M.tys.length)))).asg q j6
noncomputable def T7(goal:Option Nat):PV:=match goal with
 |none=>s6
 |some _=>j6
noncomputable def HN(c:Nat)(goal:Option Nat)(lp:PV→Mem→Mem):PV→Mem→Mem:=inBlock fun M=>jq (T7 goal) (Y9 goal lp) (Q8 c 0 M)
noncomputable def JL:PV:=.tup [.str 247]
noncomputable def FN(o:Option LI)(M:Mem):Mem:=match o with
 |none=>M
 |some i=>((M.asg i.place (I7 (K1 s6 (.int 7)))).leave i.depth).bO (q8 i.behind)
noncomputable def uw(o:Option LI)(M:Mem):Mem:=match o with
 |none=>M
 |some i=>(M.leave i.depth).bO (q8 i.head)
noncomputable def XJ(p:Nat)(M:Mem):Mem:=((M.asg (m7 0) (I7 (j7 (m7 (1+p))))).leave 0).bO JL
noncomputable def cP(nil:Bool)(d:Mem→Mem):PV→Mem→Mem:=if nil then fun q M=>M.asg q j6 else inScope (inBlock d)
noncomputable def F.low:F→(bG→PV→Mem→Mem)×(bG→Mem→Mem)
 |.nil=>(fun O O M=>M,fun O M=>M)
 |.cons s r=>(fun O O M=>M,fun l M=>r.low.2 l (jq s.ty (s.low.1 l) M))
 |.jK p=>(fun O=>ac9 p,fun O M=>M)
 |.upd op p k=>(fun O=>ad0 op p k,fun O M=>M)
 |.ch op p k a b=>(fun l=>JK op p k (inScope (inBlock (a.low.2 l))) (cP b.isNil (b.low.2 l)),fun O M=>M)
 |.ring x c goal rows=>(fun l=>HN c goal (M7 fun i=>rows.low.2 (l.set x i)),fun O M=>M)
 |.ret p=>(fun O O=>XJ p,fun O M=>M)
 |.brk x=>(fun l O=>FN (l x),fun O M=>M)
 |.cont x=>(fun l O=>uw (l x),fun O M=>M)
end Mine.Internal
namespace Mine.Internal
open PySem PySem.W PySem.Calls PyProof.Rows
structure Gw(M M':Mem)(k j:Nat):Prop where
 frs:∀f fs,M.frs=f::fs→∃l,l.length≤j∧M'.frs=(f++l)::fs
 tys:∃l,M'.tys=M.tys++l
 blks:M.blks.length≤M'.blks.length
 sz:M.sz≤M'.sz
 up:M'.sz≤M.sz+k
section
variable{M M' M'':Mem}{k k' j j':Nat}
theorem Gw.trans(a:Gw M M' k j)(b:Gw M' M'' k' j'):Gw M M'' (k+k') (j+j'):=by
 refine⟨fun f fs e=>?_,?_,Nat.le_trans a.blks b.blks,Nat.le_trans a.sz b.sz,?_⟩
 ·obtain⟨l,h1,e1⟩:=a.frs f fs e
  obtain⟨l',h2,e2⟩:=b.frs _ _ e1
  exact⟨l++l',by rw [List.length_append];exact Nat.add_le_add h1 h2,by rw [e2,List.append_assoc]⟩
 ·obtain⟨l,e1⟩:=a.tys
  obtain⟨l',e2⟩:=b.tys
  exact⟨l++l',by rw [e2,e1,List.append_assoc]⟩
 ·exact Nat.le_trans b.up ((Nat.add_assoc ..)▸Nat.add_le_add_right a.up k')
theorem Gw.le(a:Gw M M' k j)(h:k≤k')(i:j≤j'):Gw M M' k' j':=⟨fun f fs e=>(a.frs f fs e).imp fun O z=>⟨Nat.le_trans z.1 i,z.2⟩,a.tys,a.blks,a.sz,Nat.le_trans a.up (Nat.add_le_add_left h _)⟩
theorem Gw.ne(a:Gw M M' k j)(h:M.frs≠[]):M'.frs≠[]:=by
 obtain⟨f,fs,e⟩:=List.exists_cons_of_ne_nil h
 obtain⟨l,_,e1⟩:=a.frs f fs e
 rw [e1];exact nofun
theorem Gw.fits(a:Gw M M' k j)(h:M'.sz≤sizeLine):M.sz≤sizeLine:=Nat.le_trans a.sz h
theorem Gw.fl(a:Gw M M' k j)(h:M.frs≠[]):z8 M'≤z8 M+j:=by
 obtain⟨f,fs,e⟩:=List.exists_cons_of_ne_nil h
 obtain⟨l,h1,e1⟩:=a.frs f fs e
 unfold z8
 rw [e1,e,List.map_cons,List.map_cons,List.sum_cons,List.sum_cons,List.length_append]
 lia
theorem mZ(h1:M'.frs=M.frs)(h2:M'.tys=M.tys)(h3:M.blks.length≤M'.blks.length)(h4:M'.sz=M.sz+k):Gw M M' k 0:=
 ⟨fun f fs e=>⟨[],Nat.le_refl _,by rw [List.append_nil];exact h1.trans e⟩,⟨[],by rw [List.append_nil];exact h2⟩,h3,h4▸Nat.le_add_right ..,Nat.le_of_eq h4⟩
theorem Gw.refl:Gw M M 0 0:=mZ rfl rfl (Nat.le_refl _) rfl
theorem zc(s:PV):Gw M (M.tick.put s) 2 0:=mZ rfl rfl (by show _≤(M.blks.modify _ _).length;rw [List.length_modify];exact Nat.le_refl _) rfl
theorem u6(p rv:PV):Gw M (M.asg p rv) 2 0:=zc _
theorem cQ(t:PV):Gw M (M.cls t) 2 0:=mZ rfl rfl (by show _≤(M.blks.modify _ _).length;rw [List.length_modify];exact Nat.le_refl _) rfl
theorem ni(b:Nat):Gw M (M.to b) 0 0:=mZ rfl rfl (Nat.le_refl _) rfl
theorem X6:Gw M M.j5 1 0:=mZ rfl rfl (by show _≤(M.blks++[_]).length;rw [List.length_append];exact Nat.le_succ _) rfl
theorem Oj(x:Nat×Bool):Gw M (M.add x) 1 1:=⟨fun f fs e=>⟨[x],Nat.le_refl _,by
  show(match M.frs with|f::fs=>(f++[x])::fs | []=>[])=_
  rw [e]⟩,⟨[],(List.append_nil _).symm⟩,Nat.le_refl _,Nat.le_succ _,Nat.le_refl _⟩
theorem Ti(t:PV):Gw M (M.newL t) 1 0:=⟨fun f fs e=>⟨[],Nat.le_refl _,by rw [List.append_nil];exact e⟩,⟨[t],rfl⟩,Nat.le_refl _,Nat.le_succ _,Nat.le_refl _⟩
theorem T3(t:PV):Gw M (M.temp t) 4 1:=((Ti t).trans (zc _)).trans (Oj _)
theorem XK(i:Nat):Gw M (M.FJ i) 3 1:=(zc _).trans (Oj _)
theorem ux(b:Nat):Gw M (M.qX b) 2 0:=(cQ _).trans (ni _)
theorem Tj(o x t:PV):Gw M (jG M o x t) 3 0:=(X6.trans (cQ _)).trans (ni _)
theorem fJ(t:PV):Gw M (M.bO t) 3 0:=((cQ _).trans X6).trans (ni _)
theorem zf(i:Nat):Gw M (u9 i M) 4 0:=(X6.trans X6).trans (cQ _)
theorem xg(p:PV)(op:Op)(a b:PV):Gw M (J4 p op a b M) 11 1:=by
 unfold J4
 by_cases h:op.ar=true
 ·rw [if_pos h];exact(((T3 mX).trans (u6 _ _)).trans (Tj _ _ _)).trans (u6 _ _)
 ·rw [if_neg h];exact(u6 _ _).le (Nat.le_of_ble_eq_true rfl) (Nat.le_of_ble_eq_true rfl)
theorem S6(h:Gw M.push M' k j):Gw M M'.pop (k+2*j+1) 0:=by
 obtain⟨l,hl,e⟩:=h.frs [] M.frs rfl
 obtain⟨s1,s2,s3⟩:=U0 e
 have pp:M'.pop=(M'.fin l.reverse).drop:=by unfold Mem.pop;rw [e];rfl
 obtain⟨f1,f2,f3,f4,f5⟩:=X5 l.reverse M'
 refine⟨fun f fs z=>⟨[],Nat.zero_le _,by rw [s1,z,List.append_nil]⟩,by rw [s2];exact h.tys,Nat.le_trans h.blks (Nat.le_of_eq (mY _ _).symm),Nat.le_trans (Nat.le_of_succ_le h.sz) (T6 M'),?_⟩
 have u:=h.up
 rw [pp]
 show(M'.fin l.reverse).sz≤_
 rw [List.length_reverse] at f4
 have v:M'.sz≤M.sz+1+k:=u
 lia
theorem HS{f:PV→Mem→Mem}{p:PV}(h:Gw M.push (f p M.push) k j):Gw M (inScope f p M) (k+2*j+1) 0:=S6 h
theorem dN{d:Mem→Mem}{p:PV}(h:Gw M.push (d M.push) k j):Gw M (inBlock d p M) (k+2+2*j+1) 0:=S6 (h.trans (u6 p j6))
theorem HW{d:PV→Mem→Mem}{t:PV}(h:Gw (M.push.temp t) (d (m7 M.push.tys.length) (M.push.temp t)) k j):Gw M (jq t d M) (4+k+2*(1+j)+1) 0:=S6 ((T3 t).trans h)
theorem N7(i:Nat)(v:Int):Gw M (Q8 i v M) 6 1:=(XK i).trans (HS (f:=fun p M=>M.asg p (I7 (K1 s6 (.int v)))) (p:=m7 (1+i)) (u6 _ _))
theorem Ol(op:Op)(p:Nat)(k:Int):Gw M (w7 op p k M) 7 1:=(T3 T9).trans (HS (f:=fun q M=>M.asg q (.tup [.str 160,.str op.s,j7 (m7 (1+p)),K1 s6 (.int k)])) (p:=m7 M.tys.length) (u6 _ _))
theorem XM(l:List (Nat×Bool)):Gw M (M.fin l) (2*l.length) 0:=by
 obtain⟨f1,f2,f3,f4,f5⟩:=X5 l M
 exact⟨fun f fs e=>⟨[],Nat.le_refl _,by rw [f1,List.append_nil];exact e⟩,⟨[],by rw [f2,List.append_nil]⟩,Nat.le_of_eq (mY _ _).symm,f5,f4⟩
theorem zj(l:List (List (Nat×Bool))):∀{M:Mem},Gw M (l.foldl (fun M f=>M.fin f.reverse) M) (2*(l.map List.length).sum) 0:=by
 induction l with
 |nil=>exact Gw.refl
 |cons f l ih=>exact fun{M}=>((XM f.reverse).trans ih).le (by rw [List.length_reverse,List.map_cons,List.sum_cons,Nat.mul_add];exact Nat.le_refl _) (Nat.le_refl _)
theorem Om(l:List (List (Nat×Bool))):∀d,((l.take d).map List.length).sum≤(l.map List.length).sum:=by
 induction l with
 |nil=>intro d;rw [List.take_nil];exact Nat.le_refl _
 |cons f l ih=>
  intro d
  cases d with
  |zero=>exact Nat.zero_le _
  |succ d=>rw [List.take_succ_cons,List.map_cons,List.map_cons,List.sum_cons,List.sum_cons];exact Nat.add_le_add_left (ih d) _
theorem dO(h:z8 M≤100)(d:Nat):Gw M (M.leave d) 200 0:=(zj _).le (Nat.le_trans (Nat.mul_le_mul_left 2 (Om _ _)) (Nat.mul_le_mul_left 2 h)) (Nat.le_refl _)
theorem J1:z8 M.push=z8 M:=Nat.zero_add _
end
noncomputable def F.fl:F→Nat
 |.nil=>0
 |.cons s r=>max (s.fl+1) r.fl
 |.ch _ _ _ a b=>1+max a.fl b.fl
 |.ring _ _ _ rows=>4+rows.fl
 |_=>1
noncomputable def F.cost:F→Nat
 |.nil=>0
 |.cons s r=>s.cost+11+r.cost
 |.jK _=>4
 |.upd _ _ _=>13
 |.ch _ _ _ a b=>a.cost+b.cost+24
 |.ring _ _ _ rows=>rows.cost+50
 |_=>205
section
variable{M:Mem}{k:Nat}
theorem ad1{op:Op}{p:Nat}{v:Int}{a b:PV→Mem→Mem}{q:PV}{i j:Nat}(hm:M.frs≠[])(ha:∀M',M'.frs≠[]→z8 M'≤z8 M+1→Gw M' (a q M') i 0)(hb:∀M',M'.frs≠[]→z8 M'≤z8 M+1→Gw M' (b q M') j 0):Gw M (JK op p v a b q M) (i+j+16) 1:=by
 have h1:=(Ol op p v (M:=M)).trans (((zf M.tys.length).trans X6).trans (ni (w7 op p v M).blks.length))
 have h2:=h1.trans ((ha _ (h1.ne hm) (h1.fl hm)).trans ((cQ (q8 (u9 M.tys.length (w7 op p v M)).blks.length)).trans (ni ((w7 op p v M).blks.length+1))))
 exact(h2.trans ((hb _ (h2.ne hm) (h2.fl hm)).trans (ux (u9 M.tys.length (w7 op p v M)).blks.length))).le (by lia) (Nat.le_refl _)
theorem HX{d:LI→Mem→Mem}{q:PV}(hm:M.frs≠[])(h:∀li M',M'.frs≠[]→z8 M'≤z8 M+1→Gw M' (d li M') k 0):Gw M (M7 d q M) (k+16) 0:=by
 have h1:=((X6 (M:=M)).trans X6).trans (ux M.blks.length)
 have h2:=T3 (M:=(M.j5.j5.qX M.blks.length).push) j6
 have e2:=h2.fl nofun
 have h3:=dN (p:=m7 (M.j5.j5.qX M.blks.length).push.tys.length) (h ⟨M.blks.length,M.blks.length+1,M.frs.length,q⟩ ((M.j5.j5.qX M.blks.length).push.temp j6).push nofun (by
  rw [J1];exact Nat.le_trans e2 (by rw [J1];exact Nat.add_le_add_right (h1.fl hm) 1)))
 exact((h1.trans (S6 (h2.trans h3))).trans ((cQ (q8 M.blks.length)).trans (ni (M.blks.length+1)))).le (by lia) (Nat.le_refl _)
theorem HY{goal:Option Nat}{lp:PV→Mem→Mem}{q:PV}(hm:M.frs≠[])(h:∀q M',M'.frs≠[]→z8 M'≤z8 M+1→Gw M' (lp q M') k 0):Gw M (Y9 goal lp q M) (k+8) 1:=by
 cases goal with
 |none=>exact(h q M hm (Nat.le_succ _)).le (Nat.le_add_right ..) (Nat.zero_le _)
 |some p=>
  have h1:=T3 (M:=M) s6
  exact(((h1.trans (h (m7 M.tys.length) _ (h1.ne hm) (h1.fl hm))).trans (u6 (m7 (1+p)) (I7 (j7 (m7 M.tys.length))))).trans (u6 q j6)).le (by lia) (Nat.le_refl _)
theorem Tp{c:Nat}{goal:Option Nat}{lp:PV→Mem→Mem}{q:PV}(h:∀q M',M'.frs≠[]→z8 M'≤z8 M+3→Gw M' (lp q M') k 0):Gw M (HN c goal lp q M) (k+30) 0:=by
 have h1:=N7 (M:=M.push) c 0
 have e1:=h1.fl nofun
 have h2:=T3 (M:=(Q8 c 0 M.push).push) (T7 goal)
 have e2:=h2.fl nofun
 rw [J1] at e1 e2
 have h3:=HY (goal:=goal) (lp:=lp) (q:=m7 (Q8 c 0 M.push).push.tys.length) (h2.ne nofun) fun q M' hm hf=>h q M' hm (by lia)
 exact(dN (d:=fun M=>jq (T7 goal) (Y9 goal lp) (Q8 c 0 M)) (h1.trans (HW h3))).le (by lia) (Nat.le_refl _)
theorem Oo{d:Mem→Mem}{q:PV}{nil:Bool}(h:∀M',M'.frs≠[]→z8 M'≤z8 M→Gw M' (d M') k 0):Gw M (cP nil d q M) (k+4) 0:=by
 cases nil with
 |true=>exact(u6 _ _).le (by lia) (Nat.le_refl _)
 |false=>exact(HS (f:=inBlock d) (p:=q) (dN (h M.push.push nofun (by rw [J1,J1];exact Nat.le_refl _)))).le (by lia) (Nat.le_refl _)
end
theorem zm(e:F):(∀l q M,M.frs≠[]→z8 M+e.fl≤100→Gw M (e.low.1 l q M) e.cost 1)∧∀l M,M.frs≠[]→z8 M+e.fl≤100→Gw M (e.low.2 l M) e.cost 0:=by
 have t0:∀(k:Nat) (M:Mem),Gw M M k 0:=fun k M=>Gw.refl.le (Nat.zero_le _) (Nat.le_refl _)
 have t1:∀(k:Nat) (M:Mem),Gw M M k 1:=fun k M=>Gw.refl.le (Nat.zero_le _) (Nat.zero_le _)
 induction e with
 |nil=>exact⟨fun O O M O O=>t1 _ M,fun O M O O=>t0 _ M⟩
 |cons s r hs hr=>
  refine⟨fun O O M O O=>t1 _ M,fun l M hm hf=>?_⟩
  have hf:z8 M+max (s.fl+1) r.fl≤100:=hf
  have h1:=T3 (M:=M.push) s.ty
  have e1:=h1.fl nofun
  rw [J1] at e1
  have h2:=HW (M:=M) (t:=s.ty) (hs.1 l (m7 M.push.tys.length) (M.push.temp s.ty) (h1.ne nofun) (by lia))
  have e2:=h2.fl hm
  exact(h2.trans (hr.2 l _ (h2.ne hm) (by lia))).le (show _≤s.cost+11+r.cost by lia) (Nat.le_refl _)
 |jK p=>exact⟨fun O q M O O=>((zc _).trans (u6 q j6)).le (Nat.le_refl _) (Nat.zero_le _),fun O M O O=>t0 _ M⟩
 |upd op p k=>exact⟨fun O q M O O=>((xg _ _ _ _).trans (u6 q j6)),fun O M O O=>t0 _ M⟩
 |ch op p k a b ha hb=>
  refine⟨fun l q M hm hf=>?_,fun O M O O=>t0 _ M⟩
  have hf:z8 M+(1+max a.fl b.fl)≤100:=hf
  exact(ad1 hm (fun M' hm' hf'=>Oo (nil:=false) fun M'' h1 h2=>ha.2 l M'' h1 (by lia)) fun M' hm' hf'=>Oo (nil:=b.isNil) fun M'' h1 h2=>hb.2 l M'' h1 (by lia)).le (show _≤a.cost+b.cost+24 by lia) (Nat.le_refl _)
 |ring x c goal rows ih=>
  refine⟨fun l q M hm hf=>?_,fun O M O O=>t0 _ M⟩
  have hf:z8 M+(4+rows.fl)≤100:=hf
  exact(Tp fun q' M' hm' hf'=>HX hm' fun li M'' h1 h2=>ih.2 (l.set x li) M'' h1 (by lia)).le (show _≤rows.cost+50 by lia) (Nat.zero_le _)
 |ret p=>exact⟨fun O q M hm hf=>(((u6 (m7 0) (I7 (j7 (m7 (1+p))))).trans (dO (M:=M.asg (m7 0) (I7 (j7 (m7 (1+p))))) (Nat.le_trans ((u6 _ _).fl hm) (leP hf)) 0)).trans (fJ JL)).le (Nat.le_refl _) (Nat.zero_le _),fun O M O O=>t0 _ M⟩
 |brk x=>
  refine⟨fun l q M hm hf=>?_,fun O M O O=>t0 _ M⟩
  show Gw M (FN (l x) M) 205 1
  cases l x with
  |none=>exact t1 _ M
  |some i=>exact(((u6 i.place (I7 (K1 s6 (.int 7)))).trans (dO (M:=M.asg i.place (I7 (K1 s6 (.int 7)))) (Nat.le_trans ((u6 _ _).fl hm) (leP hf)) i.depth)).trans (fJ (q8 i.behind))).le (Nat.le_refl _) (Nat.zero_le _)
 |cont x=>
  refine⟨fun l q M hm hf=>?_,fun O M O O=>t0 _ M⟩
  show Gw M (uw (l x) M) 205 1
  cases l x with
  |none=>exact t1 _ M
  |some i=>exact((dO (leP hf) i.depth).trans (fJ (q8 i.head))).le (by lia) (Nat.zero_le _)
end Mine.Internal
namespace Mine.Internal
open PySem PySem.W PySem.Calls PyProof.Rows
theorem ad2(i:Nat):PV.tup [.int (1+(i:Int)),.tup []]=m7 (1+i):=congrArg (fun z=>PV.tup [.int z,.tup []]) (by lia)
section
variable{P:Params}{g:G (o9 P).T}(hg:v9 g){n:Nat}{c:Fix}(hfu:c.fu=1){M M':Mem}{H R:AH}{Q:PV→AH→Prop}{self:Addr}{p i:Nat}{k:Int}{q:PV}
theorem Oq{i:Int}{C:Bool→AH→Prop}(B:o8 c self M R H)(h:C false H):j9 g 117 (fun q H=>rP .In (.int i) q H fun b=>C b H) (.obj self) H:=by
 apply o8.el B
 intro L x B F
 exact .mk B.self B.dx rfl rfl (ab2 (B.at_ .alias _ rfl) h)
include hg hfu
theorem uy(B:o8 c self M R H)(hn:2≤n)(h:Q (m7 (1+p)) H):Cl g n (.obj Y5) [.obj self,iy p] H Q:=by
 refine(W0 P).cl hg rfl hn fun n hn=>Oq B (B.me rfl rfl (HB hg B (leB hn rfl) ?_))
 rw [hfu]
 show Q (.tup [.int (1+(p:Int)),.tup []]) H
 rw [ad2]
 exact h
theorem zp(B:o8 c self M R H)(hn:3≤n)(h:Q (j7 (m7 (1+p))) H):Cl g n (.obj K6) [.obj self,iy p] H Q:=
 (J9 P).cl hg rfl hn fun n hn=>B.me rfl rfl (B.me rfl rfl (uy hg hfu B hn (jH hg B (.int _) hn h)))
omit hfu
theorem Ia(hn:1≤n)(h:Q (K1 s6 (.int k)) H):Cl g n (.obj K6) [.obj self,aA k] H Q:=(J9 P).cl hg rfl hn fun n hn=>h
theorem xq{late:PV}(B:o8 c self M R H)(hn:2≤n)(h:Q (K1 s6 (.int k)) H):Cl g n (.obj I3) [.obj self,aA k,late] H Q:=
 (G9 P).cl hg rfl hn fun n hn=>B.me rfl rfl (Ia hg hn h)
theorem JM(hn:1≤n)(h:Q (.bool true) H):Cl g n (.obj sO) [aA k] H Q:=(Ce P).cl hg rfl hn fun n hn=>h
theorem ad3(hn:1≤n){m:Loc}{C:PV→AH→Prop}(h:C (.bool true) H):pI m [] (.one 28) (Xe g n []) (fun m H Q=>(X.call 223 [.loc 28]).wE g n m H Q) (fun acc H=>Cl g n (.blt "all") [.lst acc] H C) (.tup [aA k]) H:=
 oK (f:=fun O:Unit=>aA k) (w:=fun O=>.bool true) [()] (aj rfl) (fun a ha D o K O z=>d7 (x:=aA k) (by rw [s7,if_pos rfl]) (JM hg hn z)) (Wx rfl rfl h)
include hfu
theorem JN(B:o8 c self M R H)(hn:4≤n)(h:Q (j7 (m7 (1+p))) H):Cl g n (.obj I3) [.obj self,iy p,.tup [aA k]] H Q:=
 (G9 P).cl hg rfl hn fun n hn=>B.me rfl rfl (zp hg hfu B hn (ad3 hg (leB hn rfl) h))
theorem Cz(B:o8 c self M R H)(hz:(M.asg q (I7 (j7 (m7 (1+p))))).sz≤sizeLine) (hn:6≤n) (h:∀H',o8 c self (M.asg q (I7 (j7 (m7 (1+p))))) R H'→Q .none H'):Cl g n (.obj G3) [.obj self,q,iy p] H Q:=
 (J6 P).cl hg rfl hn fun n hn=>B.spot fun q=>B.O4 fun H B=>B.me rfl rfl (B.me rfl rfl (zp hg hfu B (leB hn rfl) (W4 hg B hz (leB hn rfl) fun H B=>B.O4 (h · ·))))
omit hfu
theorem CG(B:o8 c self M R H)(hz:(M.asg q (I7 (K1 s6 (.int k)))).sz≤sizeLine) (hn:6≤n) (h:∀H',o8 c self (M.asg q (I7 (K1 s6 (.int k)))) R H'→Q .none H'):Cl g n (.obj G3) [.obj self,q,aA k] H Q:=
 (J6 P).cl hg rfl hn fun n hn=>B.spot fun q=>B.O4 fun H B=>B.me rfl rfl (B.me rfl rfl (Ia hg (leB hn rfl) (W4 hg B hz (leB hn rfl) fun H B=>B.O4 (h · ·))))
theorem zq{j:Nat}{k:Nat}(B:o8 c self M' R H)(gr:Gw M.push M' k j)(hz:M'.pop.sz≤sizeLine)(hn:7≤n)(h:∀H',o8 c self M'.pop R H'→Q .none H'):Cl g n (.obj eU) [.obj self] H Q:=by
 obtain⟨f,_,e⟩:=gr.frs [] M.frs rfl
 exact Xz hg B e hz hn h
end
structure St(H₀ H:AH)(K:List (Addr×q7)):Prop where
 keep:Ext H₀ H
 mem:∀x∈K,H x.1=some x.2
 nd:(K.map (·.1)).Nodup
 fresh:∀x∈K,H₀ x.1=none
noncomputable def chg:List (Addr×q7)→Nat→q7→List (Addr×q7)
 | [],_,_=>[]
 |x::r,k,o=>match k with
  |0=>(x.1,o)::r
  |k+1=>x::chg r k o
section
variable{H₀ H:AH}{K:List (Addr×q7)}{b:Addr}{o o':q7}
theorem St.nil(H:AH):St H H []:=⟨.refl,fun O h=>(List.not_mem_nil h).elim,.nil,fun O h=>(List.not_mem_nil h).elim⟩
theorem St.at(s:St H₀ H K)(i:Nat){x:Addr×q7}(e:K[i]? = some x):H x.1=some x.2:=s.mem _ (List.mem_of_getElem? e)
theorem St.new(s:St H₀ H K)(h:H b=none)(o:q7):St H₀ (upd H b o) ((b,o)::K):=by
 have h0:H₀ b=none:=by
  cases e:H₀ b with
  |none=>rfl
  |some o=>exact nomatch h.symm.trans (s.keep b o e)
 have ne:∀x∈K,x.1≠b:=fun x hx e=>by rw [← e,s.mem x hx] at h;cases h
 refine⟨s.keep.trans (Ext.new h),fun x hx=>?_,List.nodup_cons.mpr ⟨fun hm=>?_,s.nd⟩,fun x hx=>?_⟩
 ·rcases List.mem_cons.mp hx with rfl|hx
  ·exact c7 ..
  ·rw [d8 (ne x hx)];exact s.mem x hx
 ·obtain⟨x,hx,e⟩:=List.mem_map.mp hm
  exact ne x hx e
 ·rcases List.mem_cons.mp hx with rfl|hx
  ·exact h0
  ·exact s.fresh x hx
theorem Ib:∀(K:List (Addr×q7)) (i:Nat) (o:q7),(chg K i o).map (·.1)=K.map (·.1)
 | [],_,_=>rfl
 |_::_,0,_=>rfl
 |x::r,i+1,o=>congrArg (x.1 :: ·) (Ib r i o)
theorem zu:∀{K:List (Addr×q7)} {i:Nat} {x y:Addr×q7},(K.map (·.1)).Nodup→K[i]? = some y→x∈chg K i o'→x=(y.1,o')∨x∈K∧x.1≠y.1
 | [],_,_,_,_,e,_=>nomatch e
 |z::r,0,x,y,nd,e,h=>by
  cases e
  rcases List.mem_cons.mp h with h|h
  ·exact .inl h
  ·exact .inr ⟨.tail _ h,fun q=>(List.nodup_cons.mp nd).1 (List.mem_map.mpr ⟨x,h,q⟩)⟩
 |z::r,i+1,x,y,nd,e,h=>by
  have e:r[i]? = some y:=e
  rcases List.mem_cons.mp h with rfl|h
  ·exact .inr ⟨.head _,fun q=>(List.nodup_cons.mp nd).1 (List.mem_map.mpr ⟨y,List.mem_of_getElem? e,q.symm⟩)⟩
  ·exact(zu (List.nodup_cons.mp nd).2 e h).imp id fun q=>⟨.tail _ q.1,q.2⟩
theorem St.put(s:St H₀ H K)(i:Nat){x:Addr×q7}(e:K[i]? = some x)(o':q7):St H₀ (upd H x.1 o') (chg K i o'):=by
 refine⟨Ext.upd (s.fresh x (List.mem_of_getElem? e)) s.keep,fun y hy=>?_,by rw [Ib];exact s.nd,fun y hy=>?_⟩
 ·rcases zu s.nd e hy with rfl|⟨q,ne⟩
  ·exact c7 ..
  ·rw [d8 ne];exact s.mem y q
 ·rcases zu s.nd e hy with rfl|⟨q,_⟩
  ·exact s.fresh x (List.mem_of_getElem? e)
  ·exact s.fresh y q
theorem St.app{H':AH}{K':List (Addr×q7)}(s:St H₀ H K)(t:St H H' K'):St H₀ H' (K'++K):=by
 refine⟨s.keep.trans t.keep,fun x hx=>?_,?_,fun x hx=>?_⟩
 ·exact(List.mem_append.mp hx).elim (t.mem x) fun h=>t.keep _ _ (s.mem x h)
 ·rw [List.map_append]
  refine List.nodup_append.mpr ⟨t.nd,s.nd,fun a ha b hb e=>?_⟩
  obtain⟨x,hx,rfl⟩:=List.mem_map.mp ha
  obtain⟨y,hy,rfl⟩:=List.mem_map.mp hb
  have:=t.fresh x hx
  rw [e,s.mem y hy] at this
  cases this
 ·refine(List.mem_append.mp hx).elim (fun h=>?_) (s.fresh x)
  cases e:H₀ x.1 with
  |none=>rfl
  |some o=>exact nomatch (t.fresh x h).symm.trans (s.keep _ _ e)
theorem Tq{H':AH}{p:PV}{l:List PV}(E:Ext H H')(e:v7 H p=some l):v7 H' p=some l:=by
 rcases v8 e with rfl|⟨a,rfl,h⟩
 ·rfl
 ·exact G5 (E _ _ h)
end
section
variable{P:Params}{g:G (o9 P).T}(hg:v9 g){n:Nat}{H₀ H:AH}{Q:PV→AH→Prop}{K:List (Addr×q7)}{W:AH→Prop}
theorem St.attr(s:St H₀ H K)(i j:Nat){a C dx x:Addr}{l:List (Nat×PV)}{q:PV}(e1:K[i]? = some (a,.inst C dx))(e2:K[j]? = some (dx,.attrs l))(hf:(o9 P).T.fld C x=true)(hl:l.lookup x=some q)(h:Q q H):j9 g x Q (.obj a) H:=.mk (s.at i e1) (s.at j e2) hf hl h
theorem St.set(s:St H₀ H K)(i j:Nat){a C dx x:Addr}{l:List (Nat×PV)}{q:PV}(e1:K[i]? = some (a,.inst C dx))(e2:K[j]? = some (dx,.attrs l))(hf:(o9 P).T.fld C x=true)(hl:Nat.blt l.length 900=true)(h:∀H',St H₀ H' (chg K j (.attrs (m5 x q l)))→W H'):ju g x q W (.obj a) H:=
 .mk (s.at i e1) (s.at j e2) hf (Nat.le_of_ble_eq_true hl) (h _ (s.put j e2 _))
theorem dB:jT (o9 P).T gO 4 [.none,.none]:=jT.of (fd:=_) (ps:=_) rfl [.none,.none] rfl fun vs h S=>by
 obtain⟨a,r,e1,h1⟩:=O8 h
 obtain⟨b,r',e2,h2⟩:=O8 h1
 obtain⟨c,d,e3⟩:=len2 h2
 rw [e1,e2,e3];rfl
theorem aU.XQ{τ:T}{g:G τ}{n k:Nat}{H:AH}{Q:PV→AH→Prop}{f:Addr}{ps:List Nat}{body:List S}{l ds:List PV}(o:aU τ f ps body)(hg:v9 g)(hd:jT τ f l.length ds)(hl:l.length+ds.length=ps.length)(hn:k+1≤n)(h:∀n,k≤n→I9 g n body (ps.zip (l++ds)) H (Ac Q)):Dy g n (.obj f) l H Q:=by
 cases n with
 |zero=>exact absurd hn (Nat.not_succ_le_zero k)
 |succ n=>exact o.Vo hg hd hl (h n (Nat.le_of_succ_le_succ hn))
include hg
theorem make{k:Nat}{C f:Addr}{l:List PV}(hi:(o9 P).T.init C=some f)(hn:k+1≤n)(h:∀n a dx H',k≤n→St H H' [(a,.inst C dx),(dx,.attrs [])]→Dy g n (.obj f) (.obj a::l) H' fun r H'=>r = .none∧Q (.obj a) H'):Cl g n (.obj C) l H Q:=by
 cases n with
 |zero=>exact absurd hn (Nat.not_succ_le_zero k)
 |succ n=>exact Rk hg hi fun a dx ha hdx ne=>h n a dx _ (Nat.le_of_succ_le_succ hn) (((St.nil H).new hdx _).new (by rw [d8 ne];exact ha) _)
theorem JQ{nm many:PV}{p:PV}{rows:List PV}(hr:v7 H p=some rows)(hz:rows.length≤sizeLine)(hn:2≤n)(h:∀b O1 locs blks spots H',St H H' [(spots,.z6 []),(blks,.list []),(locs,.list rows),(b,.inst eH O1),(O1,.attrs [(40,nm),(71,many),(75,.obj locs),(73,.obj blks),(74,.obj spots)])]→Q (.obj b) H'):
  Cl g n (.obj eH) [nm,many,p] H Q:=
 make hg rfl hn fun n b O1 H' hn s=>(mJ P).XQ hg dB rfl hn fun n O=>s.set 0 1 rfl rfl rfl rfl fun H' s=>s.set 0 1 rfl rfl rfl rfl fun H' s=>xW (.inr (Tq s.keep hr)) hz (.inr fun locs hl=>(s.new hl _).set 1 2 rfl rfl rfl rfl fun H' s=>
  fun blks hb=>(s.new hb _).set 2 3 rfl rfl rfl rfl fun H' s=>fun spots hs=>(s.new hs _).set 3 4 rfl rfl rfl rfl fun H' s=>And.intro rfl (h _ _ _ _ _ _ s))
end
end Mine.Internal
namespace Mine.Internal
open PySem PySem.W PySem.Calls PyProof.Rows
noncomputable def Ie(L:Role→Addr)(d:Nat):Nat→List PV
 |0=>[]
 |k+1=>.obj (L (.fr (d+k)))::Ie L d k
theorem uz(L:Role→Addr)(d:Nat):∀k,((O2 L 0 (d+k)).drop d).reverse=Ie L d k
 |0=>by rw [List.drop_eq_nil_of_le (by rw [M9];exact Nat.le_refl _)];rfl
 |k+1=>by
  show((O2 L 0 (d+k+1)).drop d).reverse=_
  rw [fG,List.drop_append_of_le_length (by rw [M9];exact Nat.le_add_right ..),List.reverse_append,uz L d k,Nat.zero_add];rfl
theorem Tt{α:Type}(pre l:List α)(f:α):(pre++f::l).reverse[l.length]? = some f:=by
 rw [List.reverse_append,List.reverse_cons,List.append_assoc,List.getElem?_append_right (by rw [List.length_reverse];exact Nat.le_refl _),List.length_reverse,Nat.sub_self];rfl
section
variable{P:Params}{g:G (o9 P).T}(hg:v9 g){n:Nat}{c:Fix}{M M':Mem}{L:Role→Addr}{H R:AH}{Q:PV→AH→Prop}{self:Addr}{d:Nat}
theorem Tv{a:Addr}{l:List PV}(o:H a=some (.list l))(hz:l.length≤sizeLine)(h:Q (.lst (l.drop d)) H):Rr true (.obj a) (d:Int) H Q:=by
 refine .mk ?_
 show match v7 H (.obj a) with|some l=>_|none=>_
 rw [G5 o]
 exact⟨hz,Int.natCast_nonneg d,h⟩
include hg in
theorem CJ{full:List PV}{rest:List (List (Nat×Bool))} {m0:Loc} {Q':Out→Loc→AH→Prop} (hn:6≤n) (hr:rest.length=d) (hm0:m0=[(1,.obj (L .self)),(136,.int (d:Int))]) (fin:∀m' H',gA c L M' R H'→Q' .next m' H') (hz:M'.sz≤sizeLine):∀(l pre:List (List (Nat×Bool))) (M:Mem) (H:AH) (m':Loc),M.frs=pre++(l++rest)→gA c L M R H→(m'=m0∨∃a,m'=m0++[(130,a)])→
  l.foldl (fun M f=>M.fin f.reverse) M=M'→DG (fun q m H Q=>(Tg.name 130).w g n q m H Q) (fun m H Q=>I9 g n [.expr (.meth (.loc 1) 135 [.loc 130])] m H Q) (.lst full) full Q' (Ie L d l.length) m' H:=by
 intro l
 induction l with
 |nil=>exact fun pre M H m' O B O e=>fin m' H (e▸B)
 |cons f l ih=>
  intro pre M H m' he B hm e
  have e:l.foldl (fun M f=>M.fin f.reverse) (M.fin f.reverse)=M':=e
  have h2:(M.fin f.reverse).sz≤sizeLine:=(zj l).fits (e▸hz)
  have h0:=Nat.le_trans (uq f.reverse M) h2
  have m2:m5 130 (.obj (L (.fr (d+l.length)))) m'=m0++[(130,.obj (L (.fr (d+l.length))))]:=by
   rcases hm with rfl|⟨a,rfl⟩<;>subst hm0<;>rfl
  show I9 g n _ (m5 130 (.obj (L (.fr (d+l.length)))) m') _ _
  rw [m2]
  subst hm0
  obtain⟨x,B1,F⟩:=B
  have hf:f∈M.frs:=by rw [he];exact List.mem_append_right _ (.head _)
  have at_:=B1.fr (i:=d+l.length) (b:=f) (by rw [he,← hr,Nat.add_comm,← List.length_append];exact Tt pre (l++rest) f)
  have B:gA c L M R H:=⟨x,B1,F⟩
  exact B.QF.me rfl rfl (ac5 hg B (G5 at_) (B1.ok.JF f hf) (Nat.le_trans (B1.ok.zZ f hf) h0) h2 hn fun H' B=>ih (pre++[f]) _ H' _ ((X5 f.reverse M).1.trans (by rw [he,List.append_assoc];rfl)) B (.inr ⟨_,rfl⟩) e)
include hg in
theorem uD(B:o8 c self M R H)(hd:d≤M.frs.length)(hz:(M.leave d).sz≤sizeLine)(hn:7≤n)(h:∀H',o8 c self (M.leave d) R H'→Q .none H'):Cl g n (.obj gQ) [.obj self,.int (d:Int)] H Q:=by
 revert h
 apply B.told
 intro L B h
 have h0:M.sz≤sizeLine:=(zj _).fits hz
 obtain⟨x,B1,F⟩:=B
 have hl:=Nat.le_trans B1.ok.frs h0
 refine(qz P).cl hg rfl hn fun n hn=>j9.mk B1.self B1.dx rfl rfl (Tv (B1.at_ .frs _ rfl) (by rw [M9];exact hl) (d7 rfl (cB (Nat.ble_eq_true_of_le (show((O2 L 0 M.frs.length).drop d).length≤sizeLine by rw [List.length_drop,M9];exact Nat.le_trans (Nat.sub_le ..) hl)) ?_)))
 obtain⟨k,ek⟩:=Nat.exists_eq_add_of_le hd
 have ed:M.frs.length-d=k:=by rw [ek];exact Nat.add_sub_cancel_left ..
 rw [ek,uz]
 have z:=CJ hg (full:=Ie L d k) (rest:=M.frs.drop k) (d:=d) (M':=M.leave d) (R:=R) (c:=c) (Q':=Ac Q) hn (by rw [List.length_drop,ek];exact Nat.add_sub_cancel ..) rfl (fun m' H' B=>h H' B.QF) hz (M.frs.take k) [] M H [(1,.obj (L .self)),(136,.int (d:Int))] (List.take_append_drop ..).symm ⟨x,B1,F⟩ (.inl rfl) (by unfold Mem.leave;rw [ed])
 rw [List.length_take,Nat.min_eq_left (by rw [ek];exact Nat.le_add_left ..)] at z
 exact z
include hg in
theorem FP{t:PV}(B:o8 c self M R H)(hz:(M.bO t).sz≤sizeLine)(hn:4≤n)(h:∀H',o8 c self (M.bO t) R H'→Q .none H'):Cl g n (.obj lY) [.obj self,t] H Q:=
 (vP P).cl hg rfl hn fun n hn=>B.me rfl rfl (bC hg B (Nat.le_of_succ_le hz) (leB hn rfl) fun H B=>B.me rfl rfl (K8 hg B hz (leB hn rfl) fun H B=>by
  rw [show(M.tick.close t).blks.length=M.blks.length from qY M t]
  exact B.iV (by rw [M6,show(M.tick.close t).blks.length=M.blks.length from qY M t];exact Nat.lt_succ_self _) h))
end
end Mine.Internal
namespace Mine.Internal
open PySem PySem.W PySem.Calls PyProof.Rows
theorem JR{K:Type} [DecidableEq K](k:K)(p:PV)(d:List (K×PV)):g8 k (J7 k p d)=some p:=by
 induction d with
 |nil=>exact aO rfl
 |cons q d ih=>
  by_cases e:q.1=k
  ·rw [gG e];exact aO rfl
  ·rw [cU e,U6 e];exact ih
theorem FQ{K:Type} [DecidableEq K]{k j:K}(ne:k≠j)(p:PV)(d:List (K×PV)):g8 j (J7 k p d)=g8 j d:=by
 induction d with
 |nil=>exact U6 ne
 |cons q d ih=>
  by_cases e:q.1=k
  ·rw [gG e,U6 ne,U6 (e▸ne)]
  ·rw [cU e]
   by_cases i:q.1=j
   ·rw [aO i,aO i]
   ·rw [U6 i,U6 i];exact ih
noncomputable def XR(i:LI):List (Nat×PV):=[(224,.int (i.head:Int)),(165,.int (i.behind:Int)),(136,.int (i.depth:Int)),(111,i.place)]
structure LpR(D:Addr)(d:List (Int×PV))(l:bG)(R0 R:AH):Prop where
 at_:R D=some (.m6 d)
 lp:∀x i,l x=some i→∃a dx,g8 (x:Int) d=some (.obj a)∧R a=some (.inst gM dx)∧R dx=some (.attrs (XR i))
 sub:∀b o,R0 b=some o→R b=some o
 out:R0 D=none
noncomputable def LB(c:Fix)(self:Addr)(M:Mem)(l:bG)(R0 H:AH):Prop := ∃R D d,c.loops = .obj D∧LpR D d l R0 R∧d.length≤M.sz∧o8 c self M R H
section
variable{P:Params}{g:G (o9 P).T}(hg:v9 g){n:Nat}{c:Fix}{M M':Mem}{L:Role→Addr}{H H' R R' R0:AH}{Q:PV→AH→Prop}{W:AH→Prop}{self D a dx:Addr}{d:List (Int×PV)}{l:bG}{x:Nat}{i:LI}
theorem LB.open(B:LB c self M l R0 H):∃R,o8 c self M R H∧∀M' H',M.sz≤M'.sz→o8 c self M' R H'→LB c self M' l R0 H':=by
 obtain⟨R,D,d,e,p,h,B⟩:=B
 exact⟨R,B,fun M' H' z B=>⟨R,D,d,e,p,Nat.le_trans h z,B⟩⟩
theorem LB.forget(B:LB c self M (l.set x i) R0 H)(h:l x=none):LB c self M l R0 H:=by
 obtain⟨R,D,d,e,p,k,B⟩:=B
 exact⟨R,D,d,e,⟨p.at_,fun y j z=>p.lp y j (by unfold bG.set;rw [if_neg fun w=>by rw [w,h] at z;cases z];exact z),p.sub,p.out⟩,k,B⟩
theorem o8.ad4{K:List (Addr×q7)}(B:o8 c self M R H)(s:St H H' K)(h:∀b o,R' b=some o→R b=some o∨(b,o)∈K):o8 c self M R' H':=by
 obtain⟨L,x,e,B,F⟩:=B
 refine⟨L,x,e,B.ext s.keep,fun b o z=>?_⟩
 rcases h b o z with z|z
 ·exact⟨s.keep _ _ (F b o z).1,(F b o z).2⟩
 ·exact⟨s.mem _ z,fun r hr w=>by
   cases j:S9 c M L x r with
   |none=>exact hr j
   |some o'=>
    have q:=B.at_ r o' j
    rw [w,s.fresh (b,o) z] at q
    cases q⟩
theorem o8.Ot{o:q7}(B:o8 c self M R H)(h:R D=some o):H D=some o:=by
 obtain⟨L,x,e,B,F⟩:=B
 exact(F D o h).1
theorem XS{o:q7}(h:R D=some o):upd R D o=R:=funext fun b=>by
 by_cases e:b=D
 ·rw [e,c7,h]
 ·rw [d8 e]
theorem o8.ap7{o o':q7}(B:o8 c self M R H)(h:R D=some o):o8 c self M (upd R D o') (upd H D o'):=o8.XC (o:=o) (by rw [XS h];exact B)
theorem zx(B:o8 c self M R H)(e:c.loops = .obj D)(h:Q (.obj D) H):j9 g 225 Q (.obj self) H:=B.attr rfl fun O O O O O=>⟨_,rfl,e▸h⟩
theorem reg(e:c.loops = .obj D)(p:LpR D d l R0 R)(hd:d.length+1≤M.sz)(hz:M.sz≤sizeLine)(B:o8 c self M R H)(s:St H H' [(a,.inst gM dx),(dx,.attrs (XR i))]) (h:∀H',LB c self M (l.set x i) R0 H'→W H'):j9 g 225 (fun q H=>Aq q (.int (x:Int)) (.obj a) H W) (.obj self) H':=by
 have ra:R a=none:=B.SQ (s.fresh (a,_) (.head _))
 have rd:R dx=none:=B.SQ (s.fresh (dx,_) (.tail _ (.head _)))
 have nn:∀{b o},R b=some o→b≠a∧b≠dx:=fun h=>⟨fun z=>(by rw [z,ra] at h;cases h),fun z=>(by rw [z,rd] at h;cases h)⟩
 have ad:dx≠a:=fun z=>by
  have q:=s.at 0 rfl
  rw [← z,s.at 1 rfl] at q
  cases q
 have old:∀{b o},R b=some o→upd (upd R dx (.attrs (XR i))) a (.inst gM dx) b=some o:=fun h=>by rw [d8 (nn h).1,d8 (nn h).2];exact h
 have B1:o8 c self M (upd (upd R dx (.attrs (XR i))) a (.inst gM dx)) H':=B.ad4 s fun b o z=>by
  by_cases q:b=a
  ·rw [q,c7] at z;cases z;rw [q];exact .inr (.head _)
  ·rw [d8 q] at z
   by_cases q:b=dx
   ·rw [q,c7] at z;cases z;rw [q];exact .inr (.tail _ (.head _))
   ·rw [d8 q] at z;exact .inl z
 have rD:=old p.at_
 refine zx B1 e (cY (B1.Ot rD) (Nat.le_trans (Nat.le_of_succ_le hd) hz) (h _ ⟨_,D,_,e,⟨c7 ..,fun y j z=>?_,fun b o z=>?_,p.out⟩,Nat.le_trans (gH ..) hd,B1.ap7 rD⟩))
 ·unfold bG.set at z
  by_cases q:y=x
  ·rw [if_pos q] at z
   cases z
   exact⟨a,dx,by rw [q];exact JR ..,by rw [d8 (nn p.at_).1.symm,c7],by rw [d8 (nn p.at_).2.symm,d8 ad,c7]⟩
  ·rw [if_neg q] at z
   obtain⟨a',dx',e1,e2,e3⟩:=p.lp y j z
   have nD:∀{b o},R b=some o→(∀d,o≠.m6 d)→b≠D:=fun h k w=>by
    rw [w,p.at_] at h
    cases h
    exact k _ rfl
   exact⟨a',dx',by rw [FQ (show(x:Int)≠(y:Int) from fun w=>q (Int.ofNat.inj w).symm)];exact e1,by rw [d8 (nD e2 nofun)];exact old e2,by rw [d8 (nD e3 nofun)];exact old e3⟩
 ·rw [d8 fun w=>by rw [w,p.out] at z;cases z]
  exact old (p.sub b o z)
include hg in
theorem JT{i:LI}(hn:2≤n)(h:∀a dx H',St H H' [(a,.inst gM dx),(dx,.attrs (XR i))]→Q (.obj a) H'):Cl g n (.obj gM) [.int (i.head:Int),.int (i.behind:Int),.int (i.depth:Int),i.place] H Q:=
 make hg rfl hn fun n a dx H' hn s=>(yP P).YT hg rfl hn fun n O=>s.set 0 1 rfl rfl rfl rfl fun H' s=>s.set 0 1 rfl rfl rfl rfl fun H' s=>s.set 0 1 rfl rfl rfl rfl fun H' s=>s.set 0 1 rfl rfl rfl rfl fun H' s=>And.intro rfl (h _ _ _ s)
end
end Mine.Internal
namespace Mine.Internal
open PySem PySem.W PySem.Calls PyProof.Rows
theorem iW:Simple j6:=.tup (fun p h=>nomatch h) (Nat.zero_le _)
structure Pm(l:bG)(k f:Nat)(M:Mem):Prop where
 ne:M.frs≠[]
 fl:z8 M+f≤100
 ty:k≤M.tys.length
 dep:∀x i,l x=some i→i.depth≤M.frs.length
section
variable{M M':Mem}{l:bG}{k f f' a j:Nat}
theorem Gw.zZ(z:Gw M M' a j)(h:M.frs≠[]):M'.frs.length=M.frs.length:=by
 obtain⟨f,fs,e⟩:=List.exists_cons_of_ne_nil h
 obtain⟨l,_,e1⟩:=z.frs f fs e
 rw [e,e1];rfl
theorem Gw.tyl(z:Gw M M' a j):M.tys.length≤M'.tys.length:=by
 obtain⟨l,e⟩:=z.tys
 rw [e,List.length_append];exact Nat.le_add_right ..
theorem Pm.gw(p:Pm l k f M)(z:Gw M M' a j)(h:f'+j≤f):Pm l k f' M':=
 ⟨z.ne p.ne,by have:=z.fl p.ne;have:=p.fl;lia,Nat.le_trans p.ty z.tyl,fun x i e=>z.zZ p.ne▸p.dep x i e⟩
theorem Pm.push(p:Pm l k f M):Pm l k f M.push:=⟨nofun,by rw [J1];exact p.fl,p.ty,fun x i e=>Nat.le_succ_of_le (p.dep x i e)⟩
theorem Pm.le(p:Pm l k f M)(h:f'≤f):Pm l k f' M:=⟨p.ne,Nat.le_trans (Nat.add_le_add_left h _) p.fl,p.ty,p.dep⟩
end
section
variable{P:Params}{g:G (o9 P).T}{n:Nat}{c:Fix}{M M' M1:Mem}{H R0:AH}{Q:PV→AH→Prop}{W:AH→Prop}{self:Addr}{l:bG}{x w w' f f' k:Nat}{i:LI}
theorem LB.spot(B:LB c self M l R0 H)(h:∀q,Q q H):j9 g 3 Q (.obj self) H:=B.open.elim fun O z=>z.1.spot h
theorem LB.me(B:LB c self M l R0 H){k:Nat}{f:Addr}{K:Addr→Addr→AH→Prop}(hf:(o9 P).T.meth I5 k=some f)(hx:[37,38,115,116,92,3,117,118,64,225].elem k=false)(h:K self f H):MethP g k K (.obj self) H:=B.open.elim fun O z=>z.1.me hf hx h
theorem LB.O4(B:LB c self M l R0 H){q:PV}(h:∀H',LB c self M l R0 H'→W H'):ju g 3 q W (.obj self) H:=B.open.elim fun O z=>z.1.O4 fun H' B=>h H' (z.2 _ _ (Nat.le_refl _) B)
noncomputable def O9(g:G (o9 P).T)(c:Fix)(t:PV)(w k f:Nat)(l:bG)(lw:PV→Mem→Mem):Prop := ∀{n:Nat} {M:Mem} {R0 H:AH} {self:Addr} {p:PV} {Q:PV→AH→Prop},w≤n→LB c self M l R0 H→Pm l k f M→(lw p M).sz≤sizeLine→(∀H',LB c self (lw p M) l R0 H'→Q .none H')→Cl g n (.obj G3) [.obj self,p,t] H Q
noncomputable def JV(g:G (o9 P).T)(c:Fix)(t:PV)(w k f:Nat)(l:bG)(d:Mem→Mem):Prop := ∀{n:Nat} {M:Mem} {R0 H:AH} {self:Addr} {Q:PV→AH→Prop},w≤n→LB c self M l R0 H→Pm l k f M→(d M).sz≤sizeLine→(∀H',LB c self (d M) l R0 H'→Q .none H')→Cl g n (.obj N8) [.obj self,t] H Q
noncomputable def G7(g:G (o9 P).T)(c:Fix)(ts:List PV)(w k f:Nat)(l:bG)(d:Mem→Mem):Prop := ∀{n:Nat} {M:Mem} {R0 H:AH} {self:Addr} {Q':Out→Loc→AH→Prop} {full:List PV} {p e0:PV} {m':Loc},w≤n→LB c self M l R0 H→Pm l k f M→(d M).sz≤sizeLine→(∀q,m5 125 q m'=m5 125 q [(1,.obj self),(111,p),(145,e0)])→
 (∀m' H',LB c self (d M) l R0 H'→(∀q,m5 125 q m'=m5 125 q [(1,.obj self),(111,p),(145,e0)])→Q' .next m' H')→DG (fun q m H Q=>(Tg.name 125).w g n q m H Q) (fun m H Q=>I9 g n [.expr (.meth (.loc 1) 284 [.loc 125])] m H Q) (.tup full) full Q' ts m' H
theorem CK:G7 g c [] w k f l id:=fun O B O O hm fin=>fin _ _ B hm
theorem aK{t:PV}{ts:List PV}{d1 d2:Mem→Mem}{a1 a2 j1 j2:Nat}(h1:JV g c t w k f l d1)(h2:G7 g c ts w' k f' l d2)(hj:f'+j1≤f)(z1:∀M,M.frs≠[]→z8 M+f≤100→Gw M (d1 M) a1 j1)(z2:∀M,M.frs≠[]→z8 M+f'≤100→Gw M (d2 M) a2 j2):G7 g c (t::ts) (max w w') k f l fun M=>d2 (d1 M):=by
 intro n M R0 H self Q' full p e0 m' hn B hp hz hm fin
 have hp1:=hp.gw (z1 M hp.ne hp.fl) hj
 show I9 g n _ (m5 125 t m') _ _
 rw [hm]
 exact B.me rfl rfl (h1 (Nat.le_trans (Nat.le_max_left ..) hn) B hp ((z2 _ hp1.ne hp1.fl).fits hz) fun H B=>h2 (Nat.le_trans (Nat.le_max_right ..) hn) B hp1 hz (fun q=>iR ..) fin)
theorem O9.le{t:PV}{lw:PV→Mem→Mem}(h:O9 g c t w k f l lw)(hw:w≤w')(hf:f≤f'):O9 g c t w' k f' l lw:=fun hn B hp=>h (Nat.le_trans hw hn) B (hp.le hf)
theorem G7.le{ts:List PV}{d:Mem→Mem}(h:G7 g c ts w k f l d)(hw:w≤w')(hf:f≤f'):G7 g c ts w' k f' l d:=fun hn B hp=>h (Nat.le_trans hw hn) B (hp.le hf)
variable(hg:v9 g)
include hg
theorem wk{t:Nat}{f:Addr}{ty sp p:PV}{r:List PV}(ht:f=R3∧t=160∨f=w6∧(t=242∨t=159∨t=241)∨f=N6∧t=251∨f=G4∧t=78∨f=u5∧(t=244∨t=245∨t=246∨t=247))(hn:w+1≤n)(B:LB c self M l R0 H)
  (ho:∀{n H} {Q:PV→AH→Prop},w≤n→LB c self M l R0 H→(∀r H',LB c self M1 l R0 H'→Q r H')→Cl g n (.obj f) [.obj self,p,.tup (.str t::ty::sp::r)] H Q)
  (h:∀H',LB c self M1 l R0 H'→Q .none H'):Cl g n (.obj G3) [.obj self,p,.tup (.str t::ty::sp::r)] H Q:=by
 refine(J6 P).cl hg rfl hn fun n hn=>B.spot fun q=>B.O4 fun H B=>?_
 rcases ht with⟨rfl,rfl⟩|⟨rfl,rfl|rfl|rfl⟩|⟨rfl,rfl⟩|⟨rfl,rfl⟩|⟨rfl,rfl|rfl|rfl|rfl⟩<;>exact B.me rfl rfl (ho hn B fun r H B=>B.O4 (h · ·))
theorem Ov{tg:Nat}{ty:PV}{r:List PV}{lw:PV→Mem→Mem}{a:Nat}(h:O9 g c (.tup (.str tg::ty :: .int 0::r)) w k f l lw) (hw:7≤w) (s:Simple ty) (z:∀q M,M.frs≠[]→z8 M+f≤100→Gw M (lw q M) a 1):JV g c (DK (.tup (.str tg::ty :: .int 0::r))) (w+1) k (f+1) l (jq ty lw):=by
 intro n M R0 H self Q hn B hp hz hQ
 have t:=T3 (M:=M.push) ty
 have hp1:=hp.push.gw t (Nat.le_refl (f+1))
 have y:=z (m7 M.push.tys.length) _ hp1.ne hp1.fl
 have h3:=Nat.le_trans (T6 _) hz
 have h2:=y.fits h3
 refine(M5 P).cl hg rfl hn fun n hn=>B.spot fun q=>B.O4 fun H B=>?_
 obtain⟨R,Bd,cl⟩:=B.open
 refine Bd.me rfl rfl (au hg Bd (t.fits h2) (leB (Nat.le_trans hw hn) rfl) fun H Bd=>Bd.me rfl rfl (Bd.me rfl rfl (mW hg Bd s nofun h2 (leB (Nat.le_trans hw hn) rfl) fun H Bd=>?_)))
 refine h (p:=m7 M.push.tys.length) hn (cl _ _ (Nat.le_trans (Nat.le_succ _) t.sz) Bd) hp1 h3 fun H B=>?_
 obtain⟨R,Bd,cl⟩:=B.open
 exact Bd.me rfl rfl (zq hg Bd (t.trans y) hz (Nat.le_trans hw hn) fun H Bd=>(cl _ _ (T6 _) Bd).O4 (hQ · ·))
end
end Mine.Internal
namespace Mine.Internal
open PySem PySem.W PySem.Calls PyProof.Rows
section
variable{P:Params}{g:G (o9 P).T}(hg:v9 g){n:Nat}{c:Fix}{M M' M1:Mem}{H R R0:AH}{Q:PV→AH→Prop}{W:AH→Prop}{self:Addr}{l:bG}{x w w' f f' k p:Nat}{i:LI}{op:Op}{v:Int}
include hg
theorem nj{ts:List PV}{d:Mem→Mem}{a j:Nat}(h:G7 g c ts w k f l d)(hw:7≤w)(z:∀M,M.frs≠[]→z8 M+f≤100→Gw M (d M) a j):O9 g c (treeT ts) (w+2) k f l (inBlock d):=by
 intro n M R0 H self q Q hn B hp hz hQ
 have y:=z M.push hp.push.ne hp.push.fl
 have h3:=Nat.le_trans (T6 _) hz
 have h2:=(u6 q j6).fits h3
 refine wk hg (f:=G4) (w:=w+1) (.inr (.inr (.inr (.inl ⟨rfl,rfl⟩)))) hn B (fun hw B h=>(R4 P).cl hg rfl hw fun n hn=>?_) hQ
 have nn:=Nat.le_trans ‹7≤w› hn
 obtain⟨R,Bd,cl⟩:=B.open
 refine Bd.me rfl rfl (au hg Bd (y.fits h2) (leB nn rfl) fun H Bd=>?_)
 refine ‹G7 g c ts _ _ _ _ _› hn (cl _ _ (Nat.le_succ _) Bd) hp.push h2 (fun O=>rfl) fun m' H' B hm=>?_
 have lk:∀{y:Nat} {o:PV},y≠125→([(1,.obj self),(111,q),(145,treeT ts)]:Loc).lookup y=some o→m'.lookup y=some o:=fun{y o} ne h=>by
  have z:=congrArg (List.lookup y) (hm .none)
  rw [s7,s7,if_neg ne,if_neg ne] at z
  exact z.trans h
 have l1:=lk (y:=1) (by decide) rfl
 have le:=lk (y:=145) (by decide) rfl
 obtain⟨R,Bd,cl⟩:=B.open
 exact d7 le (d7 le (d7 l1 (Bd.me rfl rfl (d7 (lk (y:=111) (by decide) rfl) (Y8 hg Bd h3 (leB nn rfl) fun H Bd=>d7 l1 (Bd.me rfl rfl (zq hg Bd (y.trans (u6 q j6)) hz nn fun H Bd=>h _ _ (cl _ _ (show(d M.push).sz≤((d M.push).asg q j6).pop.sz from Nat.le_trans (u6 q j6).sz (T6 _)) Bd))))))))
theorem CN{t:PV}{lw:PV→Mem→Mem}{a:Nat}(h:O9 g c t w k f l lw)(hw:7≤w)(z:∀q M,M.frs≠[]→z8 M+f≤100→Gw M (lw q M) a 0){q:PV}(hn:w+1≤n)(B:LB c self M l R0 H)(hp:Pm l k f M)(hz:(inScope lw q M).sz≤sizeLine)(hQ:∀H',LB c self (inScope lw q M) l R0 H'→Q .none H'):Cl g n (.obj R9) [.obj self,q,t] H Q:=by
 have y:=z q M.push hp.push.ne hp.push.fl
 have h3:=Nat.le_trans (T6 _) hz
 refine(bN P).cl hg rfl hn fun n hn=>?_
 obtain⟨R,Bd,cl⟩:=B.open
 refine Bd.me rfl rfl (au hg Bd (y.fits h3) (leB (Nat.le_trans hw hn) rfl) fun H Bd=>(cl _ _ (Nat.le_succ _) Bd).me rfl rfl (h (p:=q) hn (cl _ _ (Nat.le_succ _) Bd) hp.push h3 fun H B=>?_))
 obtain⟨R,Bd,cl⟩:=B.open
 exact Bd.me rfl rfl (zq hg Bd y hz (Nat.le_trans hw hn) fun H Bd=>hQ _ (cl _ _ (T6 _) Bd))
variable(hfu:c.fu=1)
include hfu
theorem Ow{q:PV}(B:o8 c self M R H)(hop:op.ar=false)(hf:M.frs≠[])(hz:(M.asg q (.tup [.str 160,.str op.s,j7 (m7 (1+p)),K1 s6 (.int v)])).sz≤sizeLine) (hn:10≤n) (h:∀H',o8 c self (M.asg q (.tup [.str 160,.str op.s,j7 (m7 (1+p)),K1 s6 (.int v)])) R H'→Q .none H'):Cl g n (.obj G3) [.obj self,q,Oi op p v] H Q:=by
 have pb:J4 q op (j7 (m7 (1+p))) (K1 s6 (.int v)) M=M.asg q (.tup [.str 160,.str op.s,j7 (m7 (1+p)),K1 s6 (.int v)]):=if_neg (by rw [hop];exact nofun)
 refine(J6 P).cl hg rfl hn fun n hn=>B.spot fun q=>B.O4 fun H B=>B.me rfl rfl ((bB P).cl hg rfl hn fun n hn=>B.me rfl rfl ?_)
 refine(dJ P).cl hg rfl (show 7+1≤n from leB hn rfl) fun n' hn'=>T4 (k:=2) rfl (Nat.le_of_ble_eq_true rfl) (cV ⟨⟨by decide,by decide,by decide,by decide⟩,fun D hD=>?_⟩)
 have hR:=B.SQ hD
 have B:=B.newR (D:=D) (o:=.list []) hD
 refine B.me rfl rfl (qU rfl rfl (Nm (by decide) (show(1:Int)≤(2:Nat) by decide) (aj rfl) (JN hg hfu B (leB hn' rfl) ?_)))
 refine And.intro (And.intro B.inR (And.intro (aj rfl) rfl)) ?_
 have B:=B.XC (o':=.list [j7 (m7 (1+p))])
 refine B.me rfl rfl (qU rfl rfl (Nm (by decide) (show(2:Int)≤(2:Nat) by decide) (aj rfl) (xq hg B (leB hn' rfl) ?_)))
 refine And.intro (And.intro B.inR (And.intro (aj rfl) rfl)) ?_
 have B:=(B.XC (o':=.list [j7 (m7 (1+p)),K1 s6 (.int v)])).ap5 hR
 exact B.me rfl rfl (jJ hg B hf (pb▸hz) (leB hn rfl) fun H B=>B.O4 fun H B=>h _ (pb▸B))
theorem Yb(B:o8 c self M R H)(hop:op.ar=false)(hf:M.frs≠[])(hz:(w7 op p v M).sz≤sizeLine)(hn:11≤n)(hQ:∀H',o8 c self (w7 op p v M) R H'→Q (.int M.tys.length) H'):Cl g n (.obj Z5) [.obj self,Oi op p v] H Q:=by
 have h3:=Nat.le_trans (T6 _) hz
 have h2:=(u6 (M:=(M.temp T9).push) (m7 M.tys.length) (.tup [.str 160,.str op.s,j7 (m7 (1+p)),K1 s6 (.int v)])).fits h3
 exact(gZ P).cl hg rfl hn fun n hn=>B.me rfl rfl (mW hg B (.one .bool) hf (Nat.le_of_succ_le h2) (leB hn rfl) fun H B=>B.me rfl rfl (au hg B h2 (leB hn rfl) fun H B=>B.me rfl rfl (Ow hg hfu B hop nofun h3 hn fun H B=>
  B.me rfl rfl (zq hg (M:=M.temp T9) B (u6 _ _) hz (leB hn rfl) hQ))))
end
end Mine.Internal
namespace Mine.Internal
open PySem PySem.W PySem.Calls PyProof.Rows
theorem Ox(i:Nat)(M1:Mem):(u9 i M1).blks.length=M1.blks.length+2:=(qY _ _).trans ((M6 _).trans (congrArg (·+ 1) (M6 _)))
section
variable{P:Params}{g:G (o9 P).T}(hg:v9 g){n:Nat}{c:Fix}{M M' M1:Mem}{H R R0:AH}{Q:PV→AH→Prop}{W:AH→Prop}{self:Addr}{l:bG}{x w w' f f' k p:Nat}{i:LI}{op:Op}{v:Int}(hfu:c.fu=1)
include hg hfu
theorem ad5{ta tb:List PV}{da db:Mem→Mem}{a b:Nat}{nil:Bool}(hop:op.ar=false)(ha:G7 g c ta w k f l da)(hb:G7 g c tb w k f l db)(hw:20≤w)(za:∀M,M.frs≠[]→z8 M+f≤100→Gw M (da M) a 0)(zb:∀M,M.frs≠[]→z8 M+f≤100→Gw M (db M) b 0):
  O9 g c (.tup [.str 251,j6,.int 0,Oi op p v,treeT ta,if nil then .none else treeT tb]) (w+5) k (f+1) l (JK op p v (inScope (inBlock da)) (cP nil db)):=by
 intro n M R0 H self q Q hn B hp hz hQ
 have za':∀q M,M.frs≠[]→z8 M+f≤100→Gw M (inBlock da q M) (a+2+2*0+1) 0:=fun q M h1 h2=>dN (za M.push nofun (by rw [J1];exact h2))
 have zb':∀q M,M.frs≠[]→z8 M+f≤100→Gw M (inBlock db q M) (b+2+2*0+1) 0:=fun q M h1 h2=>dN (zb M.push nofun (by rw [J1];exact h2))
 have g1:=Ol (M:=M) op p v
 have p1:=hp.gw g1 (Nat.le_refl (f+1))
 have g3:=((zf (M:=w7 op p v M) M.tys.length).trans X6).trans (ni (w7 op p v M).blks.length)
 have p3:=p1.gw g3 (Nat.le_refl f)
 have ga:=HS (f:=inBlock da) (p:=q) (za' q _ p3.push.ne p3.push.fl)
 have p4:=p3.gw ga (Nat.le_refl f)
 have g6:=(cQ (M:=inScope (inBlock da) q ((u9 M.tys.length (w7 op p v M)).j5.to (w7 op p v M).blks.length)) (q8 (u9 M.tys.length (w7 op p v M)).blks.length)).trans (ni ((w7 op p v M).blks.length+1))
 have p6:=p4.gw g6 (Nat.le_refl f)
 have gb:=Oo (k:=b) (nil:=nil) (q:=q) (d:=db) (M:=((inScope (inBlock da) q ((u9 M.tys.length (w7 op p v M)).j5.to (w7 op p v M).blks.length)).cls (q8 (u9 M.tys.length (w7 op p v M)).blks.length)).to ((w7 op p v M).blks.length+1)) fun M' h1 h2=>zb M' h1 (Nat.le_trans (Nat.add_le_add_right h2 f) p6.fl)
 have h7:=(ux (u9 M.tys.length (w7 op p v M)).blks.length).fits hz
 have h6:=gb.fits h7
 have h4:=g6.fits h6
 have h3:=ga.fits h4
 have h2:(u9 M.tys.length (w7 op p v M)).sz≤sizeLine:=Nat.le_of_succ_le h3
 have h1:=(zf M.tys.length).fits h2
 have l3:(u9 M.tys.length (w7 op p v M)).j5.blks.length=(w7 op p v M).blks.length+3:=(M6 _).trans (congrArg (·+ 1) (Ox _ _))
 have l5:=Nat.le_trans ga.blks g6.blks
 have l7:=Nat.le_trans l5 gb.blks
 refine wk hg (f:=N6) (w:=w+4) (.inr (.inr (.inl ⟨rfl,rfl⟩))) hn B (fun hw' B h=>(fD P).cl hg rfl hw' fun n hn=>?_) hQ
 have nn:20≤n:=Nat.le_trans hw (Nat.le_trans (Nat.le_add_right _ 3) hn)
 obtain⟨R,Bd,cl⟩:=B.open
 refine Bd.me rfl rfl (Bd.me rfl rfl (Yb hg hfu Bd hop hp.ne h1 (leB nn rfl) fun H Bd=>SX hg Bd h2 (leB nn rfl) fun H Bd=>?_))
 refine Bd.me rfl rfl (K8 hg Bd h3 (leB nn rfl) fun H Bd=>Bd.iV (by rw [l3];exact Nat.lt_add_of_pos_right (by decide)) fun H Bd=>?_)
 have B:=cl _ H (Nat.le_trans g1.sz g3.sz) Bd
 refine B.me rfl rfl (CN hg (nj hg ha (leB hw rfl) za) (Nat.le_trans (leB hw rfl) (Nat.le_add_right _ 2)) za' (q:=q) hn B p3 h4 fun H B=>?_)
 obtain⟨R,Bd,cl⟩:=B.open
 refine Bd.me rfl rfl (bC hg Bd h6 (leB nn rfl) fun H Bd=>Bd.iV (Nat.lt_of_lt_of_le (Nat.lt_of_lt_of_eq (Nat.add_lt_add_left (by decide) _) l3.symm) l5) fun H Bd=>?_)
 have B:=cl _ H g6.sz Bd
 have lz:=Nat.lt_of_lt_of_le (Nat.lt_of_lt_of_eq (Nat.lt_succ_self _) (M6 (u9 M.tys.length (w7 op p v M))).symm) l7
 cases nil with
 |true=>
  obtain⟨R,Bd,cl⟩:=B.open
  exact Bd.me rfl rfl (Y8 hg (p:=q) Bd h7 (leB nn rfl) fun H Bd=>Bd.me rfl rfl (Ob hg Bd lz hz (leB nn rfl) fun H Bd=>h _ _ (cl _ H (Nat.le_trans gb.sz (ux _).sz) Bd)))
 |false=>
  refine B.me rfl rfl (CN hg (nj hg hb (leB hw rfl) zb) (Nat.le_trans (leB hw rfl) (Nat.le_add_right _ 2)) zb' (q:=q) hn B p6 h7 fun H B=>?_)
  obtain⟨R,Bd,cl⟩:=B.open
  exact Bd.me rfl rfl (Ob hg Bd lz hz (leB nn rfl) fun H Bd=>h _ _ (cl _ H (ux _).sz Bd))
theorem Yc:O9 g c (.tup [.str 242,j6,.int 0,iy p]) 20 k f l (ac9 p):=by
 intro n M R0 H self q Q hn B hp hz hQ
 have h1:=(u6 q j6).fits hz
 refine wk hg (f:=w6) (w:=19) (.inr (.inl ⟨rfl,.inl rfl⟩)) hn B (fun hw' B h=>(J3 P).cl hg rfl hw' fun n hn=>?_) hQ
 obtain⟨R,Bd,cl⟩:=B.open
 exact Bd.me rfl rfl (Bd.me rfl rfl (zp hg hfu Bd (leB hn rfl) (Fw hg Bd h1 (leB hn rfl) fun H Bd=>Bd.me rfl rfl (Y8 hg (p:=q) Bd hz (leB hn rfl) fun H Bd=>h _ _ (cl _ _ (Nat.le_add_right _ 4) Bd)))))
theorem Yd(hop:op.ar=true):O9 g c (.tup [.str 241,j6,.int 0,.str op.s,iy p,aA v]) 20 k f l (ad0 op p v):=by
 intro n M R0 H self q Q hn B hp hz hQ
 have h1:=(u6 q j6).fits hz
 have z:=(xg (M:=M) (m7 (1+p)) op (j7 (m7 (1+p))) (K1 s6 (.int v))).trans (u6 q j6)
 refine wk hg (f:=w6) (w:=19) (.inr (.inl ⟨rfl,.inr (.inr rfl)⟩)) hn B (fun hw' B h=>(J3 P).cl hg rfl hw' fun n hn=>?_) hQ
 obtain⟨R,Bd,cl⟩:=B.open
 exact Bd.me rfl rfl (xq hg Bd (leB hn rfl) (Bd.me rfl rfl (uy hg hfu Bd (leB hn rfl) (Bd.me rfl rfl (jJ hg Bd hp.ne h1 (leB hn rfl) fun H Bd=>Bd.me rfl rfl (Y8 hg (p:=q) Bd hz (leB hn rfl) fun H Bd=>h _ _ (cl _ _ z.sz Bd)))))))
end
end Mine.Internal
namespace Mine.Internal
open PySem PySem.W PySem.Calls PyProof.Rows
section
variable{P:Params}{g:G (o9 P).T}(hg:v9 g){n:Nat}{c:Fix}{M M' M1:Mem}{H R R0:AH}{Q:PV→AH→Prop}{W:AH→Prop}{self:Addr}{l:bG}{x w w' f f' k p:Nat}{i:LI}{op:Op}{v:Int}{q:PV}(hfu:c.fu=1)
include hg
theorem Oz(B:o8 c self M R H)(hz:(M.asg q (I7 (K1 s6 (.int v)))).sz≤sizeLine) (hn:7≤n) (h:∀H',o8 c self (M.asg q (I7 (K1 s6 (.int v)))) R H'→Q .none H'):Cl g n (.obj J8) [.obj self,q,aA v] H Q:=
 (S5 P).cl hg rfl hn fun n hn=>B.me rfl rfl (CG hg B hz hn h)
include hfu in
theorem OD(B:o8 c self M R H)(hz:(M.asg q (I7 (j7 (m7 (1+p))))).sz≤sizeLine) (hn:7≤n) (h:∀H',o8 c self (M.asg q (I7 (j7 (m7 (1+p))))) R H'→Q .none H'):Cl g n (.obj J8) [.obj self,q,iy p] H Q:=
 (S5 P).cl hg rfl hn fun n hn=>B.me rfl rfl (Cz hg hfu B hz hn h)
include hfu in
theorem Ye:O9 g c (.tup [.str 247,fH,.int 0,iy p]) 20 k (f+1) l (fun O=>XJ p):=by
 intro n M R0 H self q Q hn B hp hz hQ
 have g1:=u6 (M:=M) (m7 0) (I7 (j7 (m7 (1+p))))
 have g2:=dO (Nat.le_trans (g1.fl hp.ne) (Nat.le_trans (Nat.le_add_right _ (f+1)) hp.fl)) 0
 have h2:=(fJ JL).fits hz
 refine wk hg (f:=u5) (w:=19) (.inr (.inr (.inr (.inr ⟨rfl,.inr (.inr (.inr rfl))⟩)))) hn B (fun hw' B h=>(G8 P).cl hg rfl hw' fun n hn=>?_) hQ
 obtain⟨R,Bd,cl⟩:=B.open
 exact Bd.me rfl rfl (OD hg hfu Bd (g2.fits h2) (leB hn rfl) fun H Bd=>Bd.me rfl rfl (uD hg Bd (d:=0) (Nat.zero_le _) h2 (leB hn rfl) fun H Bd=>Bd.me rfl rfl (FP hg Bd hz (leB hn rfl) fun H Bd=>h _ _ (cl _ _ ((g1.trans g2).trans (fJ JL)).sz Bd))))
theorem uE{a dx:Addr}{j:Nat}{r:PV}(B:o8 c self M R H)(e2:R a=some (.inst gM dx))(e3:R dx=some (.attrs (XR i))) (hf:(o9 P).T.fld gM j=true) (hl:(XR i).lookup j=some r) (h:Q r H):j9 g j Q (.obj a) H:=.mk (B.Ot e2) (B.Ot e3) hf hl h
theorem Yg(hx:l x=some i):O9 g c (.tup [.str 245,fH,.int 0,.int (x:Int),aA 7]) 20 k (f+1) l (fun O=>FN (some i)):=by
 intro n M R0 H self q Q hn B hp hz hQ
 have g1:=u6 (M:=M) i.place (I7 (K1 s6 (.int 7)))
 have g2:=dO (Nat.le_trans (g1.fl hp.ne) (Nat.le_trans (Nat.le_add_right _ (f+1)) hp.fl)) i.depth
 have h2:=(fJ (q8 i.behind)).fits hz
 refine wk hg (f:=u5) (w:=19) (.inr (.inr (.inr (.inr ⟨rfl,.inr (.inl rfl)⟩)))) hn B (fun hw' B h=>(G8 P).cl hg rfl hw' fun n hn=>?_) hQ
 obtain⟨R,D,d,e,lp,hd,Bd⟩:=B
 obtain⟨a,dx,e1,e2,e3⟩:=lp.lp x i hx
 refine zx Bd e (T8 (Bd.Ot lp.at_) e1 (Bd.me rfl rfl (uE hg Bd e2 e3 rfl rfl (Oz hg Bd (g2.fits h2) (leB hn rfl) fun H Bd=>Bd.me rfl rfl (uE hg Bd e2 e3 rfl rfl (uD hg Bd (hp.dep x i hx) h2 (leB hn rfl) fun H Bd=>?_))))))
 exact Bd.me rfl rfl (uE hg Bd e2 e3 rfl rfl (FP hg Bd hz (leB hn rfl) fun H Bd=>h _ _ ⟨R,D,d,e,lp,Nat.le_trans hd ((g1.trans g2).trans (fJ (q8 i.behind))).sz,Bd⟩))
theorem Tw(hx:l x=some i):O9 g c (.tup [.str 246,fH,.int 0,.int (x:Int)]) 20 k (f+1) l (fun O=>uw (some i)):=by
 intro n M R0 H self q Q hn B hp hz hQ
 have g2:=dO (M:=M) (Nat.le_trans (Nat.le_add_right _ (f+1)) hp.fl) i.depth
 have h2:=(fJ (q8 i.head)).fits hz
 refine wk hg (f:=u5) (w:=19) (.inr (.inr (.inr (.inr ⟨rfl,.inr (.inr (.inl rfl))⟩)))) hn B (fun hw' B h=>(G8 P).cl hg rfl hw' fun n hn=>?_) hQ
 obtain⟨R,D,d,e,lp,hd,Bd⟩:=B
 obtain⟨a,dx,e1,e2,e3⟩:=lp.lp x i hx
 refine zx Bd e (T8 (Bd.Ot lp.at_) e1 (Bd.me rfl rfl (uE hg Bd e2 e3 rfl rfl (uD hg Bd (hp.dep x i hx) h2 (leB hn rfl) fun H Bd=>?_))))
 exact Bd.me rfl rfl (uE hg Bd e2 e3 rfl rfl (FP hg Bd hz (leB hn rfl) fun H Bd=>h _ _ ⟨R,D,d,e,lp,Nat.le_trans hd (g2.trans (fJ (q8 i.head))).sz,Bd⟩))
theorem Yh(B:o8 c self M R H)(hz:M.sz≤sizeLine)(h:Q (.int (M.frs.length:Int)) H):j9 g 118 (fun q H=>Cl g n (.blt "len") [q] H Q) (.obj self) H:=by
 apply o8.el B
 intro L x B F
 exact .mk B.self B.dx rfl rfl (T4 (k:=M.frs.length) ((len_list (B.at_ .frs _ rfl)).trans (congrArg some (M9 ..))) (pY (Nat.le_trans B.ok.frs hz)) h)
theorem Tz{ts:List PV}{d:LI→Mem→Mem}{a:Nat}(hx:l x=none)(h:∀i,G7 g c ts w k f (l.set x i) (d i))(hw:20≤w)(z:∀i M,M.frs≠[]→z8 M+f≤100→Gw M (d i M) a 0):O9 g c (ur x ts) (w+5) k (f+1) l (M7 d):=by
 intro n M R0 H self q Q hn B hp hz hQ
 have g2:=((X6 (M:=M)).trans X6).trans (ux M.blks.length)
 have g3:=T3 (M:=(M.j5.j5.qX M.blks.length).push) j6
 have p2:=(hp.gw g2 (Nat.le_refl (f+1))).push
 have p3:=p2.gw g3 (Nat.le_refl (f+1))
 have p4:Pm (l.set x ⟨M.blks.length,M.blks.length+1,M.frs.length,q⟩) k f ((M.j5.j5.qX M.blks.length).push.temp j6):=⟨p3.ne,p3.fl,p3.ty,fun y j e=>by
  unfold bG.set at e
  by_cases w:y=x
  ·rw [if_pos w] at e
   cases e
   rw [g3.zZ nofun]
   show M.frs.length≤(M.j5.j5.qX M.blks.length).frs.length+1
   rw [g2.zZ hp.ne]
   exact Nat.le_succ _
  ·rw [if_neg w] at e
   exact p3.dep y j e⟩
 have za:∀q' M',M'.frs≠[]→z8 M'+f≤100→Gw M' (inBlock (d ⟨M.blks.length,M.blks.length+1,M.frs.length,q⟩) q' M') (a+2+2*0+1) 0:=fun q' M' h1 h2=>dN (z _ M'.push nofun (by rw [J1];exact h2))
 have g4:=za (m7 (M.j5.j5.qX M.blks.length).push.tys.length) _ p4.ne p4.fl
 have g5:=S6 (g3.trans g4)
 have h5:=(cQ (q8 M.blks.length)).fits hz
 have h4:=Nat.le_trans (T6 _) h5
 have h3:=g4.fits h4
 have h2:=g3.fits h3
 have h1:=Nat.le_of_succ_le h2
 have h0:M.j5.j5.sz≤sizeLine:=Nat.le_of_add_right_le (k:=2) h1
 refine wk hg (f:=u5) (w:=w+4) (.inr (.inr (.inr (.inr ⟨rfl,.inl rfl⟩)))) hn B (fun hw' B hQ=>(G8 P).cl hg rfl hw' fun n hn=>?_) hQ
 obtain⟨R,D,ds,e,lp,hd,Bd⟩:=B
 refine Bd.me rfl rfl ((cO P).cl hg rfl hn fun n hn=>?_)
 have nn:20≤n:=Nat.le_trans hw (Nat.le_trans (Nat.le_add_right _ 2) hn)
 refine Bd.me rfl rfl (K8 hg Bd (Nat.le_of_succ_le h0) (leB nn rfl) fun H Bd=>Bd.me rfl rfl (K8 hg Bd h0 (leB nn rfl) fun H Bd=>?_))
 rw [M6]
 refine Yh hg Bd h0 (JT hg (i:=⟨M.blks.length,M.blks.length+1,M.frs.length,q⟩) (leB nn rfl) fun a dx H' s=>reg e lp (Nat.le_trans (Nat.succ_le_succ hd) (Nat.le_succ _)) h0 Bd s fun H B=>?_)
 obtain⟨R,Bd,cl⟩:=B.open
 refine Bd.me rfl rfl (Ob hg Bd (by rw [M6,M6];exact Nat.lt_succ_of_lt (Nat.lt_succ_self _)) h1 (leB nn rfl) fun H Bd=>Bd.me rfl rfl (au hg Bd h2 (leB nn rfl) fun H Bd=>Bd.me rfl rfl (Bd.me rfl rfl (mW hg Bd iW nofun h3 (leB nn rfl) fun H Bd=>?_))))
 refine nj hg (h _) (leB hw rfl) (fun M'=>z _ M') (p:=m7 (M.j5.j5.qX M.blks.length).push.tys.length) hn (cl _ _ (Nat.le_trans (Nat.le_add_right _ 3) g3.sz) Bd) p4 h4 fun H B=>?_
 obtain⟨R,Bd,cl⟩:=B.open
 refine Bd.me rfl rfl (zq hg Bd (g3.trans g4) h5 (leB nn rfl) fun H Bd=>Bd.me rfl rfl (bC hg Bd hz (leB nn rfl) fun H Bd=>Bd.iV ?_ fun H Bd=>hQ _ _ ((cl _ _ (Nat.le_trans (T6 _) ((cQ (q8 M.blks.length)).trans (ni (M.blks.length+1))).sz) Bd).forget hx)))
 exact Nat.lt_of_lt_of_le (Nat.lt_of_lt_of_eq (Nat.lt_succ_self _) (by rw [M6,M6])) (Nat.le_trans (ux (M:=M.j5.j5) M.blks.length).blks (Nat.le_trans g5.blks (cQ (q8 M.blks.length)).blks))
end
end Mine.Internal
namespace Mine.Internal
open PySem PySem.W PySem.Calls PyProof.Rows
section
variable{P:Params}{g:G (o9 P).T}(hg:v9 g){n:Nat}{c:Fix}{M M' M1:Mem}{H R R0:AH}{Q:PV→AH→Prop}{W:AH→Prop}{self:Addr}{l:bG}{x w w' f f' k p:Nat}{i:Nat}{v:Int}{q:PV}(hfu:c.fu=1)
theorem ap8(i:Nat):(1:Int)+(i:Int)=((1+i:Nat):Int):=by lia
include hg
theorem qI(hn:1≤n)(h:Q (.lst [fZ i]) H):Cl g n (.obj gR) [fZ i] H Q:=(qD P).cl hg rfl hn fun n O=>h
theorem CP{p:PV}(hn:1≤n)(h:Q (.lst []) H):Cl g n (.obj sJ) [fZ i,p] H Q:=(Cd P).cl hg rfl hn fun n O=>h
theorem CQ{p:PV}(hn:3≤n)(h:∀D bd O1 H',St H H' [(D,.list [.obj bd]),(bd,.inst Jy O1),(O1,.attrs [(77,.int (i:Int)),(170,.str 143),(111,p)])]→Q (.obj D) H'):Cl g n (.obj jA) [fZ i,p] H Q:=
 (tO P).cl hg rfl hn fun n hn=>make hg rfl hn fun n bd O1 H' hn s=>(qC P).YT hg rfl hn fun n O=>s.set 0 1 rfl rfl rfl rfl fun H' s=>s.set 0 1 rfl rfl rfl rfl fun H' s=>s.set 0 1 rfl rfl rfl rfl fun H' s=>And.intro rfl fun D hD=>
  CP hg (leB ‹2≤_› rfl) (h D bd O1 _ (s.new hD _))
theorem TF(hn:1≤n)(h:Q (.bool false) H):Cl g n (.obj lZ) [aA v] H Q:=(vR P).cl hg rfl hn fun n O=>h
theorem OJ(hn:1≤n)(h:Q (.bool true) H):Cl g n (.obj fW) [fZ i] H Q:=(oV P).cl hg rfl hn fun n O=>h
theorem Ig(hfu:c.fu=1)(B:o8 c self M R H)(hn:1≤n)(h:Q (.int ((1+i:Nat):Int)) H):Cl g n (.obj cF) [.obj self,.int (i:Int)] H Q:=HB hg B hn (by rw [hfu,ap8];exact h)
include hfu
theorem Yi(hi:1+i<M.tys.length)(B:o8 c self M R H)(hf:M.frs≠[])(hz:(Q8 i v M).sz≤sizeLine)(hn:10≤n)(h:∀H',o8 c self (Q8 i v M) R H'→Q .none H'):Cl g n (.obj R7) [.obj self,fZ i,aA v] H Q:=by
 refine(bL P).cl hg rfl hn fun n nn=>?_
 have gr:=u6 (M:=(M.FJ i).push) (m7 (1+i)) (I7 (K1 s6 (.int v)))
 have h3:=Nat.le_trans (T6 _) hz
 have h2:=gr.fits h3
 refine qI hg (leB nn rfl) (CQ hg (leB nn rfl) fun D bd O1 H1 s=>?_)
 have hR:=B.SQ (s.fresh (D,.list [.obj bd]) (.head _))
 have B:o8 c self M (upd R D (.list [.obj bd])) H1:=B.ad4 s fun b o z=>by
  by_cases q:b=D
  ·rw [q,c7] at z;cases z;rw [q];exact .inr (.head _)
  ·rw [d8 q] at z;exact .inl z
 refine d7 (G5 (s.at 0 rfl)) (B.me rfl rfl (B.me rfl rfl (s.attr 1 2 rfl rfl rfl rfl (Ig hg hfu B (leB nn rfl) (uo hg B hi hf (Nat.le_of_succ_le h2) (leB nn rfl) fun H2 B=>And.intro (G5 B.inR) ?_)))))
 have B:=B.ap6 hR
 exact TF hg (leB nn rfl) (B.me rfl rfl (au hg B h2 (leB nn rfl) fun H B=>OJ hg (leB nn rfl) (B.me rfl rfl (B.me rfl rfl (Ig hg hfu B (leB nn rfl) (CG hg B (q:=m7 (1+i)) h3 (leB nn rfl) fun H B=>B.me rfl rfl (zq hg B gr hz (leB nn rfl) h)))))))
theorem Pa(hi:1+i<k):JV g c (.tup [.str 286,.int 0,fZ i,aA v]) 11 k f l (Q8 i v):=by
 intro n M R0 H self Q hn B hp hz hQ
 refine(M5 P).cl hg rfl hn fun n hn=>B.spot fun q=>B.O4 fun H B=>?_
 obtain⟨R,Bd,cl⟩:=B.open
 exact Bd.me rfl rfl (Yi hg hfu (Nat.lt_of_lt_of_le hi hp.ty) Bd hp.ne hz hn fun H Bd=>(cl _ _ (N7 i v).sz Bd).O4 (hQ · ·))
theorem JW{r:List PV}{lp:PV→Mem→Mem}{a:Nat}(h:O9 g c (.tup (.str 244::s6 :: .int 0::r)) w k f l lp) (hw:20≤w) (z:∀q M,M.frs≠[]→z8 M+f≤100→Gw M (lp q M) a 0):O9 g c (.tup [.str 159,j6,.int 0,iy p,.tup (.str 244::s6 :: .int 0::r)]) (w+5) k (f+1) l (Y9 (some p) lp):=by
 intro n M R0 H self q Q hn B hp hz hQ
 have g1:=T3 (M:=M) s6
 have p1:=hp.gw g1 (Nat.le_refl (f+1))
 have g2:=z (m7 M.tys.length) _ p1.ne p1.fl
 have g3:=u6 (M:=lp (m7 M.tys.length) (M.temp s6)) (m7 (1+p)) (I7 (j7 (m7 M.tys.length)))
 have h3:=(u6 q j6).fits hz
 have h2:=g3.fits h3
 refine wk hg (f:=w6) (w:=w+4) (.inr (.inl ⟨rfl,.inr (.inl rfl)⟩)) hn B (fun hw' B hQ=>(J3 P).cl hg rfl hw' fun n hn=>?_) hQ
 have nn:20≤n:=Nat.le_trans hw (Nat.le_trans (Nat.le_add_right _ 3) hn)
 refine B.me rfl rfl ((G9 P).cl hg rfl hn fun n1 hn1=>B.me rfl rfl ((J9 P).cl hg rfl hn1 fun n2 hn2=>B.me rfl rfl (B.me rfl rfl ((W0 P).cl hg rfl hn2 fun n3 hn3=>?_))))
 have n3':20≤n3:=Nat.le_trans hw hn3
 have n2':20≤n2:=Nat.le_trans hw (Nat.le_of_succ_le hn2)
 obtain⟨R,Bd,cl⟩:=B.open
 refine Bd.me rfl rfl (mW hg Bd (.one (.int _)) hp.ne (g2.fits h2) (leB n3' rfl) fun H Bd=>Bd.me rfl rfl (h (p:=m7 M.tys.length) hn3 (cl _ _ g1.sz Bd) p1 h2 fun H B=>?_))
 obtain⟨R,Bd,cl⟩:=B.open
 refine jH hg Bd (.int _) (leB n2' rfl) (Bd.me rfl rfl (Bd.me rfl rfl (uy hg hfu Bd (leB nn rfl) ?_)))
 refine(dK P).cl hg rfl (show 10+1≤n from leB nn rfl) fun n4 hn4=>Bd.world (jF hg (.one (.int _)) (leB hn4 rfl) fun H E=>?_)
 have Bd:=Bd.ext E
 exact Bd.me rfl rfl (W4 hg Bd h3 (leB hn4 rfl) fun H Bd=>Bd.me rfl rfl (Y8 hg (p:=q) Bd hz (leB nn rfl) fun H Bd=>hQ _ _ (cl _ _ (g3.trans (u6 q j6)).sz Bd)))
theorem TG{ts:List PV}{d:LI→Mem→Mem}{a:Nat}{goal:Option Nat}(hx:l x=none)(hi:1+i<k)(h:∀i,G7 g c ts w k f (l.set x i) (d i))(hw:20≤w)(z:∀i M,M.frs≠[]→z8 M+f≤100→Gw M (d i M) a 0):
  O9 g c (treeT [.tup [.str 286,.int 0,fZ i,aA 0],DK (Cy goal (ur x ts))]) (w+13) k (f+4) l (HN i goal (M7 d)):=by
 have zl:∀q M,M.frs≠[]→z8 M+(f+1)≤100→Gw M (M7 d q M) (a+16) 0:=fun q M h1 h2=>HX h1 fun li M' h3 h4=>z li M' h3 (by lia)
 have zs:∀q M,M.frs≠[]→z8 M+(f+2)≤100→Gw M (Y9 goal (M7 d) q M) (a+16+8) 1:=fun q M h1 h2=>HY h1 fun q M' h3 h4=>zl q M' h3 (by lia)
 have lo:O9 g c (ur x ts) (w+5) k (f+1) l (M7 d):=Tz hg hx h hw z
 have hd:JV g c (DK (Cy goal (ur x ts))) (w+11) k (f+3) l (jq (T7 goal) (Y9 goal (M7 d))):=by
  cases goal with
  |none=>exact Ov hg (lo.le (Nat.le_add_right _ 5) (Nat.le_succ _)) (Nat.le_trans (leB hw rfl) (Nat.le_add_right _ 10)) (.one (.int _)) zs
  |some p=>exact Ov hg (JW hg hfu lo (Nat.le_trans hw (Nat.le_add_right _ 5)) zl) (Nat.le_trans (leB hw rfl) (Nat.le_add_right _ 10)) iW zs
 have zd:∀M,M.frs≠[]→z8 M+(f+3)≤100→Gw M (jq (T7 goal) (Y9 goal (M7 d)) M) (4+(a+16+8)+2*(1+1)+1) 0:=fun M h1 h2=>by
  have z:=(T3 (M:=M.push) (T7 goal)).fl nofun
  rw [J1] at z
  exact HW (zs (m7 M.push.tys.length) (M.push.temp (T7 goal)) nofun (by lia))
 have ll:G7 g c [.tup [.str 286,.int 0,fZ i,aA 0],DK (Cy goal (ur x ts))] (w+11) k (f+4) l fun M=>jq (T7 goal) (Y9 goal (M7 d)) (Q8 i 0 M):=G7.le (aK (Pa hg hfu (v:=0) (f:=f+4) hi) (aK (f:=f+3) (f':=f+3) (w':=0) hd CK (Nat.le_refl _) zd fun M O O=>Gw.refl) (Nat.le_refl _) (fun M O O=>N7 i 0) fun M h1 h2=>(zd M h1 h2).trans Gw.refl) (by lia) (Nat.le_refl _)
 have zb:∀M,M.frs≠[]→z8 M+(f+4)≤100→Gw M (jq (T7 goal) (Y9 goal (M7 d)) (Q8 i 0 M)) (6+(4+(a+16+8)+2*(1+1)+1)) (1+0):=fun M h1 h2=>by
  have:=(N7 (M:=M) i 0).fl h1
  exact(N7 i 0).trans (zd _ ((N7 i 0).ne h1) (by lia))
 intro n M R0 H self q Q hn B hp hz hQ
 exact nj hg (w:=w+11) ll (Nat.le_trans (leB hw rfl) (Nat.le_add_right _ 11)) zb hn B hp hz hQ
end
end Mine.Internal
namespace Mine.Internal
open PySem PySem.W PySem.Calls PyProof.Rows
inductive zy(k:Nat):Bool→List Nat→F→Prop
 |nil {o:List Nat}:zy k false o .nil
 |cons {o:List Nat} {s r:F}:zy k true o s→zy k false o r→zy k false o (.cons s r)
 |jK {o:List Nat} {p:Nat}:zy k true o (.jK p)
 |upd {o:List Nat} {op:Op} {p:Nat} {v:Int}:op.ar=true→zy k true o (.upd op p v)
 |ch {o:List Nat} {op:Op} {p:Nat} {v:Int} {a b:F}:op.ar=false→zy k false o a→zy k false o b→zy k true o (.ch op p v a b)
 |ring {o:List Nat} {x i:Nat} {goal:Option Nat} {rows:F}:x∉o→1+i<k→zy k false (x::o) rows→zy k true o (.ring x i goal rows)
 |ret {o:List Nat} {p:Nat}:zy k true o (.ret p)
 |brk {o:List Nat} {x:Nat}:x∈o→zy k true o (.brk x)
 |cont {o:List Nat} {x:Nat}:x∈o→zy k true o (.cont x)
noncomputable def F.W:F→Nat
 |.nil=>20
 |.cons s r=>max (s.W+1) r.W
 |.ch _ _ _ a b=>max a.W b.W+5
 |.ring _ _ _ rows=>rows.W+13
 |_=>20
theorem F.w20(e:F):20≤e.W:=by
 induction e with
 |cons s r _ ih=>exact Nat.le_trans ih (Nat.le_max_right ..)
 |ch _ _ _ a b ih _=>exact Nat.le_trans ih (Nat.le_trans (Nat.le_max_left ..) (Nat.le_add_right ..))
 |ring _ _ _ r ih=>exact Nat.le_trans ih (Nat.le_add_right ..)
 |_=>exact Nat.le_refl _
noncomputable def OpL(l:bG)(o:List Nat):Prop := ∀x,(x∈o→∃i,l x=some i)∧(x∉o→l x=none)
theorem OpL.set{l:bG}{o:List Nat}(h:OpL l o)(x:Nat)(i:LI):OpL (l.set x i) (x::o):=fun y=>by
 unfold bG.set
 by_cases e:y=x
 ·rw [if_pos e,e];exact⟨fun O=>⟨i,rfl⟩,fun z=>absurd (.head _) z⟩
 ·rw [if_neg e];exact⟨fun z=>(h y).1 ((List.mem_cons.mp z).resolve_left e),fun z=>(h y).2 fun w=>z (.tail _ w)⟩
section
variable{P:Params}{g:G (o9 P).T}(hg:v9 g){c:Fix}(hfu:c.fu=1)
noncomputable def ap9(g:G (o9 P).T)(c:Fix)(k:Nat)(e:F)(l:bG):Bool→Prop
 |true => ∃t y r,e.td.1 = .tup (.str t::y :: .int 0::r)∧y=e.ty∧Simple y∧O9 g c (.tup (.str t::y :: .int 0::r)) e.W k e.fl l (e.low.1 l)
 |false=>G7 g c e.td.2 e.W k e.fl l (e.low.2 l)
include hg hfu
theorem Yj{k:Nat}{e:F}{b:Bool}{o:List Nat}(h:zy k b o e):∀l,OpL l o→ap9 g c k e l b:=by
 have z1:∀(e:F) l q M,M.frs≠[]→z8 M+e.fl≤100→Gw M (e.low.1 l q M) e.cost 1:=fun e=>(zm e).1
 have z2:∀(e:F) l M,M.frs≠[]→z8 M+e.fl≤100→Gw M (e.low.2 l M) e.cost 0:=fun e=>(zm e).2
 induction h with
 |nil=>exact fun l O=>CK
 |@cons o s r _ _ hs hr=>
  intro l hl
  obtain⟨t,y,r',e,ey,hy,h⟩:=hs l hl
  show G7 g c (DK s.td.1::r.td.2) (max (s.W+1) r.W) k (max (s.fl+1) r.fl) l fun M=>r.low.2 l (jq s.ty (s.low.1 l) M)
  rw [e,← ey]
  have h2:G7 g c r.td.2 r.W k (max (s.fl+1) r.fl) l (r.low.2 l):=G7.le (hr l hl) (Nat.le_refl _) (Nat.le_max_right ..)
  have h1:JV g c (DK (.tup (.str t::y :: .int 0::r'))) (s.W+1) k (max (s.fl+1) r.fl) l (jq y (s.low.1 l)):=fun hn B hp=>Ov hg h (leB (F.w20 s) rfl) hy (z1 s l) hn B (hp.le (Nat.le_max_left ..))
  have h3:∀M,M.frs≠[]→z8 M+max (s.fl+1) r.fl≤100→Gw M (jq y (s.low.1 l) M) (4+s.cost+2*(1+1)+1) 0:=fun M a b=>by
   have z:=(T3 (M:=M.push) y).fl nofun
   rw [J1] at z
   exact HW (z1 s l (m7 M.push.tys.length) (M.push.temp y) nofun (by lia))
  have h4:∀M,M.frs≠[]→z8 M+max (s.fl+1) r.fl≤100→Gw M (r.low.2 l M) r.cost 0:=fun M a b=>z2 r l M a (Nat.le_trans (Nat.add_le_add_left (Nat.le_max_right ..) _) b)
  intro n M R0 H self Q' full p e0 m' hn B hp hz hm fin
  exact aK h1 h2 (Nat.le_refl _) h3 h4 hn B hp hz hm fin
 |jK=>exact fun l O=>⟨_,_,_,rfl,rfl,iW,Yc hg hfu⟩
 |upd h=>exact fun l O=>⟨_,_,_,rfl,rfl,iW,Yd hg hfu h⟩
 |@ch o op p v a b h _ _ ha hb=>
  intro l hl
  refine⟨_,_,_,rfl,rfl,iW,O9.le (w:=max a.W b.W+5) (f:=max a.fl b.fl+1) (ad5 hg hfu h (G7.le (ha l hl) (Nat.le_max_left ..) (Nat.le_max_left ..)) (G7.le (hb l hl) (Nat.le_max_right ..) (Nat.le_max_right ..)) (Nat.le_trans (F.w20 a) (Nat.le_max_left ..)) (fun M x y=>z2 a l M x (by lia)) fun M x y=>z2 b l M x (by lia)) (Nat.le_refl _) (Nat.le_of_eq (Nat.add_comm ..))⟩
 |@ring o x i goal rows hx hi _ ih=>
  intro l hl
  exact⟨_,_,_,rfl,rfl,iW,O9.le (w:=rows.W+13) (f:=rows.fl+4) (TG hg hfu ((hl x).2 hx) hi (fun i=>ih (l.set x i) (hl.set x i)) (F.w20 rows) fun i M a b=>z2 rows (l.set x i) M a b) (Nat.le_refl _) (Nat.le_of_eq (Nat.add_comm ..))⟩
 |ret=>exact fun l O=>⟨_,_,_,rfl,rfl,.one .never,Ye hg hfu⟩
 |@brk o x hx=>
  intro l hl
  obtain⟨i,e⟩:=(hl x).1 hx
  refine⟨_,_,_,rfl,rfl,.one .never,?_⟩
  show O9 g c _ 20 k 1 l (fun O=>FN (l x))
  rw [e]
  exact Yg hg e
 |@cont o x hx=>
  intro l hl
  obtain⟨i,e⟩:=(hl x).1 hx
  refine⟨_,_,_,rfl,rfl,.one .never,?_⟩
  show O9 g c _ 20 k 1 l (fun O=>uw (l x))
  rw [e]
  exact Tw hg e
end
section
variable{P:Params}{g:G (o9 P).T}(hg:v9 g){n:Nat}{m:Loc}{H₀ H:AH}{Q:PV→AH→Prop}{K:List (Addr×q7)}
theorem St.me(s:St H₀ H K)(i j:Nat){a C dx x f:Addr}{l:List (Nat×PV)}{k:Addr→Addr→AH→Prop}(e1:K[i]? = some (a,.inst C dx))(e2:K[j]? = some (dx,.attrs l))(hf:(o9 P).T.meth C x=some f)(hl:l.lookup x=none)(h:k a f H):MethP g x k (.obj a) H:=.mk (s.at i e1) (s.at j e2) hf hl h
theorem ad6{a:Addr}{l:List (Nat×PV)}{k:Nat}{C:Bool→Prop}(e:H a=some (.u0 l))(h:C (g8 k l).isSome):vh .In (.str k) (.obj a) H C:=.mem (.os e h)
noncomputable abbrev Pb(r:PV×PV×PV):PV:=.tup [r.1,r.2.1,r.2.2]
noncomputable abbrev zA(r:PV×PV×PV):PV:=.tup [r.2.1,r.2.2,r.1]
theorem JX{rows:List (PV×PV×PV)}(hl:rows.length≤sizeLine){m:Loc}{fin:List PV→AH→Prop}(h:fin (rows.map zA) H):
  pI m [] (.many [40,6,80]) (Xe g n []) (fun m H Q=>(X.tup [.loc 6,.loc 80,.loc 40]).wE g n m H Q) fin (.lst (rows.map Pb)) H:=fun D hD=>
 iT (ct:=.many [40,6,80]) (f:=Pb) (w:=zA) (fun m'=>m'=[]∨∃x y z,m'=[(40,x),(6,y),(80,z)]) (fun r=>[(40,r.1),(6,r.2.1),(80,r.2.2)]) rows
  (fun a O o m' hm=>⟨by rcases hm with rfl|⟨x,y,z,rfl⟩<;>rfl,.inr ⟨_,_,_,rfl⟩⟩) (fun a O o K k=>k) (fun O=>rfl) [] _ (.inl (oJ m)) (by rw [List.length_nil,Nat.zero_add];exact hl) (by
   rw [List.nil_append,bV hD];exact h)
include hg
theorem zB{tf Pg w Ih sg:Addr}{body path res:PV}{wl:List (Nat×PV)}{rows:List (PV×PV×PV)}{pn:Nat}(hp:path = .str pn)(hl:rows.length≤100)(t1:H tf=some (.inst cZ Pg))(t2:H Pg=some (.attrs [(119,path),(75,.lst (rows.map Pb)),(39,.tup []),(122,res),(92,body)]))
  (w1:H w=some (.inst lR Ih)) (w2:H Ih=some (.attrs wl)) (w3:wl.lookup 121=some (.obj sg)) (w4:H sg=some (.u0 [])) (hn:5≤n) (h:∀a dx b O1 lc bl sp fr al d1 d2 rw st0 Ph H',St H H' [(d2,.m6 []),(Ph,.list [.obj st0,.none]),(st0,.list []),(fr,.list []),(al,.m6 []),(sp,.z6 []),(bl,.list [.obj Ph]),(lc,.list (.tup [res,.bool true,.none]::rows.map zA)),(b,.inst eH O1),(O1,.attrs [(40,path),(71,.int 0),(75,.obj lc),(73,.obj bl),(74,.obj sp)]),(rw,.list (.tup [res,.bool true,.none]::rows.map zA)),(d1,.u0 []),(a,.inst I5 dx),(dx,.attrs [(37,.obj w),(38,.obj d1),(115,.lst []),(116,.int 1),(92,.obj b),(3,.int 0),(117,.obj al),(118,.obj fr),(64,.int 0),(225,.obj d2)])]→Q (.obj a) H'):Cl g n (.obj I5) [.obj tf,.obj w] H Q:=by
 subst hp
 refine make hg rfl hn fun n a dx H' hn s=>(jl P).YT hg rfl hn fun n hn=>⟨_,_,rfl,rfl,(tE P).cl hg rfl hn fun n hn=>s.set 0 1 rfl rfl rfl rfl fun H1 s=>?_⟩
 refine j9.mk (s.keep _ _ t1) (s.keep _ _ t2) rfl rfl (j9.mk (s.keep _ _ w1) (s.keep _ _ w2) rfl w3 (ad6 (s.keep _ _ w4) fun d1 h1=>(s.new h1 _).set 1 2 rfl rfl rfl rfl fun H1 s=>?_))
 refine j9.mk (s.keep _ _ t1) (s.keep _ _ t2) rfl rfl (j9.mk (s.keep _ _ t1) (s.keep _ _ t2) rfl rfl ?_)
 refine oK (f:=id) (w:=id) [] (Nat.zero_le _) (fun a ha=>nomatch ha) (Bb.mk rfl rfl (aj rfl) fun rw h2=>?_)
 have s:=s.new h2 (.list [.tup [res,.bool true,.none]])
 refine T4 (k:=1) (len_list (s.at 0 rfl)) (Nat.le_of_ble_eq_true rfl) (Jk (Ei ⟨by decide,by decide,by decide,by decide⟩ (Nat.le_of_ble_eq_true rfl) (.inl (s.set 2 3 rfl rfl rfl rfl fun H1 s=>?_))))
 refine T4 (k:=1) (len_list (s.at 0 rfl)) (Nat.le_of_ble_eq_true rfl) (s.set 2 3 rfl rfl rfl rfl fun H1 s=>?_)
 refine z7 (s.at 0 rfl) (j9.mk (s.keep _ _ t1) (s.keep _ _ t2) rfl rfl (JX (Nat.le_trans hl (aj rfl)) ?_))
 refine oh (s.at 0 rfl) (.inr rfl) (Nat.le_trans (Nat.add_le_add_left (by rw [List.length_map];exact hl) 1) (aj rfl)) ?_
 have s:=s.put 0 rfl (.list ([.tup [res,.bool true,.none]]++rows.map zA))
 refine j9.mk (s.keep _ _ t1) (s.keep _ _ t2) rfl rfl (s.attr 2 3 rfl rfl rfl rfl (T4 (k:=0) rfl (Nat.le_of_ble_eq_true rfl) ?_))
 refine JQ hg (G5 (s.at 0 rfl)) (Nat.le_trans (Nat.le_of_eq (List.length_append.trans (congrArg (1 + ·) (List.length_map _)))) (Nat.le_trans (Nat.add_le_add_left hl 1) (aj rfl))) (leB hn rfl) fun b O1 lc bl sp H1 t=>?_
 have s:=s.app t
 refine s.set 7 8 rfl rfl rfl rfl fun H1 s=>s.set 7 8 rfl rfl rfl rfl fun H1 s=>fun al h3=>(s.new h3 _).set 8 9 rfl rfl rfl rfl fun H1 s=>fun fr h4=>(s.new h4 _).set 9 10 rfl rfl rfl rfl fun H1 s=>s.me 9 10 rfl rfl rfl rfl ?_
 refine(Z7 P).cl hg rfl hn fun n O=>s.attr 9 10 rfl rfl rfl rfl (s.attr 5 6 rfl rfl rfl rfl (z7 (s.at 3 rfl) fun st0 h5 Ph h6=>?_))
 have s:=(s.new h5 (.list [])).new h6 (.list [.obj st0,.none])
 refine w5 (s.at 5 rfl) (aj rfl) ?_
 have s:=s.put 5 rfl (.list [.obj Ph])
 refine s.attr 11 12 rfl rfl rfl rfl (s.attr 7 8 rfl rfl rfl rfl (T4 (k:=1) (len_list (s.at 5 rfl)) (Nat.le_of_ble_eq_true rfl) ?_))
 refine s.set 11 12 rfl rfl rfl rfl fun H1 s=>fun d2 h7=>(s.new h7 _).set 12 13 rfl rfl rfl rfl fun H1 s=>And.intro rfl (h a dx b O1 lc bl sp fr al d1 d2 rw st0 Ph H1 s)
end
section
variable{H R:AH}{K:List (Addr×q7)}
theorem St.off(s:St R H K){z:Addr}(h:z∈K.map (·.1)):R z=none:=by
 obtain⟨x,hx,rfl⟩:=List.mem_map.mp h
 exact s.fresh x hx
noncomputable def rIx:Role→Nat
 |.self=>12 | .dx=>13 | .body=>8 | .O1=>9 | .locs=>7 | .blks=>6 | .spots=>5 | .frs=>3 | .alias=>4 | .bl _=>1 | .st _=>2 | .fr _=>0
noncomputable def ixR:Nat→Role
 |12=>.self|13=>.dx|8=>.body|9=>.O1|7=>.locs|6=>.blks|5=>.spots|3=>.frs|4=>.alias|1=>.bl 0|2=>.st 0|_=>.fr 0
noncomputable def kW(tys:List PV):Mem:=⟨tys,[([],.none)],0,[],200⟩
theorem rows_of(rows:List (PV×PV×PV)):R5 (rows.map fun r=>r.2.1) (rows.map zA):=by
 induction rows with
 |nil=>exact .nil
 |cons r rows ih=>exact .cons ih
theorem TJ{tys:List PV}(hl:tys.length≤200)(hs:∀t∈tys,Simple t):kZ (kW tys):=
 ⟨hl,Nat.le_of_ble_eq_true rfl,fun b h=>(List.mem_singleton.mp h▸Nat.zero_le _),Nat.zero_le _,fun O h=>(nomatch h),Nat.lt_succ_self 0,hs,fun O h=>(nomatch h)⟩
set_option tactic.hygienic true in
theorem Yk{a dx b O1 lc bl sp fr al d1 d2 rw st0 Ph:Addr}{path world res:PV}{rows:List (PV×PV×PV)}(hl:rows.length≤100)(hs:∀t∈res::rows.map (fun r=>r.2.1),Simple t)
  (s:St R H [(d2,.m6 []),(Ph,.list [.obj st0,.none]),(st0,.list []),(fr,.list []),(al,.m6 []),(sp,.z6 []),(bl,.list [.obj Ph]),(lc,.list (.tup [res,.bool true,.none]::rows.map zA)),(b,.inst eH O1),(O1,.attrs [(40,path),(71,.int 0),(75,.obj lc),(73,.obj bl),(74,.obj sp)]),(rw,.list (.tup [res,.bool true,.none]::rows.map zA)),(d1,.u0 []),(a,.inst I5 dx),(dx,.attrs [(37,world),(38,.obj d1),(115,.lst []),(116,.int 1),(92,.obj b),(3,.int 0),(117,.obj al),(118,.obj fr),(64,.int 0),(225,.obj d2)])]):
  o8 ⟨world,.obj d1,.lst [],1,path,.int 0,.obj d2⟩ a (kW (res::rows.map fun r=>r.2.1)) (upd R d2 (.m6 [])) H:=by
 let L:Role→Addr:=fun
  |.self=>a | .dx=>dx | .body=>b | .O1=>O1 | .locs=>lc | .blks=>bl | .spots=>sp | .frs=>fr | .alias=>al | .bl _=>Ph | .st _=>st0 | .fr _=>d2
 let x:uY:=⟨.int 0,[],.tup [res,.bool true,.none]::rows.map zA⟩
 let c:Fix:=⟨world,.obj d1,.lst [],1,path,.int 0,.obj d2⟩
 let M:=kW (res::rows.map fun r=>r.2.1)
 have back:∀r,S9 c M L x r≠none→ixR (rIx r)=r:=fun r h=>by
  cases r<;>try rfl
  case bl i=>cases i<;>first|rfl|exact absurd rfl h
  case st i=>cases i<;>first|rfl|exact absurd rfl h
  case fr i=>exact absurd rfl h
 have at_:∀r o,S9 c M L x r=some o→H (L r)=some o:=fun r o h=>by
  cases r
  case self=>cases h;exact s.at 12 rfl
  case dx=>cases h;exact s.at 13 rfl
  case body=>cases h;exact s.at 8 rfl
  case O1=>cases h;exact s.at 9 rfl
  case locs=>cases h;exact s.at 7 rfl
  case blks=>cases h;exact s.at 6 rfl
  case spots=>cases h;exact s.at 5 rfl
  case frs=>cases h;exact s.at 3 rfl
  case alias=>cases h;exact s.at 4 rfl
  case bl i=>cases i<;>cases h;exact s.at 1 rfl
  case st i=>cases i<;>cases h;exact s.at 2 rfl
  case fr i=>cases h
 let A:List Addr:=[d2,Ph,st0,fr,al,sp,bl,lc,b,O1,rw,d1,a,dx]
 have ix:∀r,A[rIx r]? = some (L r):=fun r=>by cases r<;>rfl
 have nd:A.Nodup:=s.nd
 have off:∀z∈A,R z=none:=fun z hz=>s.off hz
 refine⟨L,x,rfl,⟨fun r r' h h' e=>?_,at_,.cons (rows_of rows),Nat.zero_le _,TJ (by rw [List.length_cons,List.length_map];exact Nat.le_trans (Nat.succ_le_succ hl) (by decide)) hs⟩,fun y o e=>?_⟩
 ·have z:rIx r=rIx r':=(List.getElem?_inj (List.getElem?_eq_some_iff.mp (ix r)).1 nd).mp ((ix r).trans ((congrArg some e).trans (ix r').symm))
  exact(back r h).symm.trans ((congrArg ixR z).trans (back r' h'))
 ·by_cases w:y=d2
  ·rw [w,c7] at e
   cases e
   rw [w]
   refine⟨s.at 0 rfl,fun r h z=>?_⟩
   have q:rIx r=0:=(List.getElem?_inj (List.getElem?_eq_some_iff.mp (ix r)).1 nd).mp ((ix r).trans (congrArg some z))
   have q2:=back r h
   rw [q] at q2
   rw [← q2] at h
   exact h rfl
  ·rw [d8 w] at e
   refine⟨s.keep y o e,fun r h z=>?_⟩
   have q:=off (L r) (List.mem_of_getElem? (ix r))
   rw [z,e] at q
   cases q
end
noncomputable def fK(b:List PV×PV):List PV×PV:=(b.1,if isNone b.2 then .tup [.str 139] else b.2)
noncomputable def Mem.U3(M:Mem)(i:Nat):Mem:={M with blks:=M.blks.modify i fK}
noncomputable def Mem.CV:Nat→Nat→Mem→Mem
 |_,0,M=>M
 |i,k+1,M=>Mem.CV (i+1) k (M.U3 i)
theorem xr:∀(k i:Nat) (M:Mem) (j:Nat),(M.CV i k).blks[j]? = if i≤j∧j<i+k then M.blks[j]?.map fK else M.blks[j]?
 |0,i,M,j=>by rw [if_neg (by lia)];rfl
 |k+1,i,M,j=>by
  show(Mem.CV (i+1) k (M.U3 i)).blks[j]? = _
  rw [xr k (i+1) (M.U3 i) j,show(M.U3 i).blks=M.blks.modify i fK from rfl,get_modify]
  by_cases h:i=j
  ·rw [if_pos h,if_neg (by lia),if_pos (by lia)]
  ·rw [if_neg h]
   by_cases q:i+1≤j∧j<i+1+k
   ·rw [if_pos q,if_pos (by lia)]
   ·rw [if_neg q,if_neg (by lia)]
noncomputable def Mem.fix(M:Mem):Mem:=M.CV 0 M.blks.length
theorem nq(M:Mem):M.fix.blks=M.blks.map fK:=List.ext_getElem? fun j=>by
 rw [Mem.fix,xr,List.getElem?_map]
 by_cases h:j<M.blks.length
 ·rw [if_pos ⟨Nat.zero_le _,by exact Nat.le_trans ‹_› (Nat.le_add_left ..)⟩]
 ·rw [if_neg (by lia),List.getElem?_eq_none (Nat.le_of_not_lt h)];rfl
section
variable{P:Params}{g:G (o9 P).T}(hg:v9 g){n w:Nat}{m:Loc}{c:Fix}{M M':Mem}{L:Role→Addr}{x:uY}{H R:AH}{Q:PV→AH→Prop}{self:Addr}
theorem kZ.U3(o:kZ M)(i:Nat):kZ (M.U3 i):=by
 have e:(M.blks.modify i fK).length=M.blks.length:=List.length_modify ..
 refine⟨o.tys,by show(M.blks.modify i fK).length≤_;rw [e];exact o.blks,fun b hb=>?_,o.frs,o.zZ,by show _<(M.blks.modify i fK).length;rw [e];exact o.here,o.simple,o.JF⟩
 obtain⟨j,hj⟩:=List.mem_iff_getElem?.mp hb
 rw [show(M.U3 i).blks=M.blks.modify i fK from rfl,get_modify] at hj
 by_cases h:i=j
 ·rw [if_pos h] at hj
  obtain⟨b',e,rfl⟩:=Option.map_eq_some_iff.mp hj
  exact o.sts b' (List.mem_of_getElem? e)
 ·rw [if_neg h] at hj
  exact o.sts b (List.mem_of_getElem? hj)
set_option tactic.hygienic true in
theorem Yl(B:s8 c M L x H)(F:Framed c M L x R H){i:Nat}{b:List PV×PV}(e:M.blks[i]? = some b):s8 c (M.U3 i) L x (upd H (L (.bl i)) (.list [.obj (L (.st i)),(fK b).2]))∧Framed c (M.U3 i) L x R (upd H (L (.bl i)) (.list [.obj (L (.st i)),(fK b).2])):=by
 have h0:S9 c M L x (.bl i)≠none:=by rw [S9,e];exact nofun
 have h1:S9 c (M.U3 i) L x (.bl i)=some (.list [.obj (L (.st i)),(fK b).2]):=by
  show Option.map _ (M.blks.modify i fK)[i]? = _
  rw [get_modify,if_pos rfl,e];rfl
 have h2:∀r,r≠.bl i→S9 c (M.U3 i) L x r=S9 c M L x r∨S9 c (M.U3 i) L x r=none:=fun r ne=>.inl (by
  cases r<;>try rfl
  case blks=>show some (q7.list (V5 L 0 (M.blks.modify i fK).length))=_;rw [List.length_modify];rfl
  case bl j=>
   show Option.map _ (M.blks.modify i fK)[j]? = _
   rw [get_modify,if_neg fun h=>ne (congrArg Role.bl h.symm)];rfl
  case st j=>
   show Option.map _ (M.blks.modify i fK)[j]? = _
   rw [get_modify]
   by_cases h:i=j
   ·rw [if_pos h,Option.map_map];rfl
   ·rw [if_neg h];rfl)
 exact⟨B.turn (r0:=.bl i) h0 h1 h2 B.rows B.sp (B.ok.U3 i),F.turn (r0:=.bl i) h0 h1 h2⟩
theorem FT{i:Nat}{b:List PV×PV}(e:M.blks[i]? = some b)(h:isNone b.2=false):M.U3 i=M:=by
 have:M.blks.modify i fK=M.blks:=List.ext_getElem? fun j=>by
  rw [get_modify]
  by_cases q:i=j
  ·rw [if_pos q,← q,e]
   show some (b.1,if isNone b.2 then _ else b.2)=_
   rw [h];rfl
  ·rw [if_neg q]
 show{M with blks:=M.blks.modify i fK}=M
 rw [this]
include hg
theorem JZ{Q':Out→Loc→AH→Prop}{l0:List PV}(fin:∀m' H',s8 c M' L x H'→Framed c M' L x R H'→(∀q,m5 78 q m'=m5 78 q [(1,.obj (L .self))])→Q' .next m' H'):∀(k i:Nat) (M:Mem) (H:AH) (m':Loc),(∀q,m5 78 q m'=m5 78 q [(1,.obj (L .self))])→i+k=M.blks.length→l0=V5 L 0 M.blks.length→s8 c M L x H→Framed c M L x R H→M.CV i k=M'→
  DG (fun q m H Q=>(Tg.name 78).w g n q m H Q) (fun m H Q=>I9 g n [.iff (.cmp .Is (.at (.loc 78) 1) .none) [.asg (.sub (.loc 78) (.int 1)) (.tup [.str 139])] []] m H Q) (.obj (L .blks)) l0 Q' (V5 L i k) m' H:=by
 intro k
 induction k with
 |zero=>exact fun i M H m' hm O O B F e=>fin m' H (e▸B) (e▸F) hm
 |succ k ih=>
  intro i M H m' hm hk hl B F e
  obtain⟨b,eb⟩:∃b,M.blks[i]? = some b:=⟨_,List.getElem?_eq_getElem (by exact Mine.Internal.eqs ‹_›)⟩
  have z:=Yl B F eb
  have hl':(M.U3 i).blks.length=M.blks.length:=List.length_modify ..
  have next:∀{H},s8 c (M.U3 i) L x H→Framed c (M.U3 i) L x R H→itemsOf H (.obj (L .blks))=some l0∧DG (fun q m H Q=>(Tg.name 78).w g n q m H Q) (fun m H Q=>I9 g n [.iff (.cmp .Is (.at (.loc 78) 1) .none) [.asg (.sub (.loc 78) (.int 1)) (.tup [.str 139])] []] m H Q) (.obj (L .blks)) l0 Q' (V5 L (i+1) k) (m5 78 (.obj (L (.bl i))) [(1,.obj (L .self))]) H:=fun B F=>
   ⟨by rw [hl,← hl'];exact G5 (B.at_ .blks _ rfl),ih (i+1) (M.U3 i) _ _ (fun q=>iR ..) (by rw [hl'];exact Mine.Internal.eqt ‹_›) (by rw [hl'];exact hl) B F e⟩
  show I9 g n _ (m5 78 (.obj (L (.bl i))) m') _ _
  rw [hm]
  refine V0 (i:=1) (B.bl eb) (Nat.le_of_ble_eq_true rfl) rfl ?_
  cases hb:isNone b.2 with
  |true=>
   rw [show(fK b).2 = .tup [.str 139] from if_pos hb] at z
   exact cB hb (set_list (i:=1) (B.bl eb) (Nat.lt_succ_self 1) (aj rfl) (next z.1 z.2))
  |false=>
   rw [FT eb hb] at next
   exact xH hb (next B F)
end
end Mine.Internal
namespace Mine.Internal
open PySem PySem.W PySem.Calls PyProof.Rows
inductive Tm where
 |goto (i:Nat)|sw (o:PV) (no yes:Nat)|fL (o x t:PV) (i:Nat)|ret|Vx
noncomputable def Tm.v:Tm→PV
 |.goto i=>.tup [.str 84,.int (i:Int)]
 |.sw o no yes=>.tup [.str 85,o,.tup [.tup [.bool false,.int (no:Int)]],.int (yes:Int)]
 |.fL o x t i=>.tup [.str 88,o,x,t,.int (i:Int)]
 |.ret=>.tup [.str 247]
 |.Vx=>.tup [.str 139]
noncomputable def Tm.succ:Tm→List Nat
 |.goto i=>[i]
 |.sw _ no yes=>[no,yes]
 |.fL _ _ _ i=>[i]
 |_=>[]
noncomputable def Tm.fine(N:Nat)(t:Tm):Prop:=(∀j∈t.succ,j<N)∧t.succ.Nodup
theorem Ii{a b:List Nat}:jx (a++b)=jx a++jx b:=List.map_append
theorem Pj(l:List Nat):PV.W2 (jx l)=true:=by
 induction l with
 |nil=>rfl
 |cons x l ih=>exact ih
theorem FW(l:List Nat):PV.depths (jx l)=0:=by
 induction l with
 |nil=>rfl
 |cons x l ih=>exact(Nat.max_eq_right (Nat.zero_le _)).trans ih
theorem Pk(l:List Nat)(i:Nat):((jx l).any fun y=>y.eqv (.int (i:Int)))=l.elem i:=by
 induction l with
 |nil=>rfl
 |cons x l ih=>
  show(((x:Int)==(i:Int))||_)=_
  rw [ih,List.elem_cons]
  by_cases h:i=x
  ·rw [h,beq_self_eq_true,beq_self_eq_true];rfl
  ·rw [show(i==x)=false from beq_eq_false_iff_ne.mpr h,show((x:Int)==(i:Int))=false from beq_eq_false_iff_ne.mpr fun z=>h (Int.ofNat.inj z).symm];rfl
section
variable{P:Params}{g:G (o9 P).T}(hg:v9 g){n w:Nat}{m:Loc}{H R:AH}{Q:PV→AH→Prop}{C:Bool→Prop}
theorem iz{a:Addr}{l:List Nat}{i:Nat}(e:H a=some (.list (jx l))) (h:C (!l.elem i)):vh .NotIn (.int (i:Int)) (.obj a) H C:=
 .nmem (fun a' l' z k=>by cases z;rw [e] at k;cases k) (.ol e ⟨rfl,Pj l,.inl (by rw [FW];exact Nat.zero_le _)⟩ (by show C (!((jx l).any fun y=>y.eqv (.int (i:Int))));rw [Pk];exact h))
theorem Ij{p q:PV}{l k:List PV}(np:p.int? = none)(e1:v7 H p=some l)(e2:v7 H q=some k)(hz:l.length+k.length≤sizeLine)(h:Q (.lst (l++k)) H):Er g .Add p q H Q:=.seq e1 e2 hz h
theorem nd2{a b:Nat}(h:[a,b].Nodup):[a].elem b=false:=by
 have:a≠b:=fun e=>(List.nodup_cons.mp h).1 (e▸.head _)
 rw [List.elem_cons,show(b==a)=false from beq_eq_false_iff_ne.mpr fun e=>this e.symm];rfl
include hg
theorem TP{t:Tm}(nd:t.succ.Nodup)(hn:1≤n)(h:∀F,H F=none→Q (.obj F) (upd H F (.list (jx t.succ)))):Cl g n (.obj lV) [t.v] H Q:=by
 refine(vM P).cl hg rfl hn fun n O=>?_
 cases t with
 |goto i=>exact fun F hF=>iz (l:=[]) (c7 ..) (z7 (c7 ..) (w5 (c7 ..) (aj rfl) (by have z:=h F hF;rw [← iK H F (.list [])] at z;exact z)))
 |sw o no yes=>
  have e:=nd2 nd
  refine fun D hD=>iT (ct:=.many [89,78]) (f:=fun r:PV×PV=>.tup [r.1,r.2]) (w:=fun r=>r.2) (fun m'=>m'=[]∨∃x y,m'=[(89,x),(78,y)]) (fun r=>[(89,r.1),(78,r.2)]) [(PV.bool false,PV.int (no:Int))] (fun a O o m' hm=>⟨by rcases hm with rfl|⟨x,y,rfl⟩<;>rfl,.inr ⟨_,_,rfl⟩⟩) (fun a O o K k=>k) (fun O=>rfl) [] _ (.inl (oJ _)) (aj rfl) ?_
  rw [List.nil_append,bV hD]
  refine Ij rfl rfl rfl (aj rfl) fun F hF=>iz (l:=[]) (c7 ..) (z7 (c7 ..) (w5 (c7 ..) (aj rfl) (iz (l:=[no]) (c7 ..) (cB (by rw [e];rfl) (z7 (c7 ..) (w5 (c7 ..) (aj rfl) ?_))))))
  have z:Q (.obj F) (upd (upd (upd H F (.list [])) F (.list [.int (no:Int)])) F (.list [.int (no:Int),.int (yes:Int)])):=by rw [iK,iK];exact h F hF
  exact z
 |fL o x t i=>exact fun F hF=>iz (l:=[]) (c7 ..) (z7 (c7 ..) (w5 (c7 ..) (aj rfl) (by have z:=h F hF;rw [← iK H F (.list [])] at z;exact z)))
 |ret=>exact fun F hF=>h F hF
 |Vx=>exact fun F hF=>h F hF
omit hg
noncomputable def Pn(M:Mem)(t:Nat→Tm):Prop := ∀i b,M.blks[i]? = some b→b.2=(t i).v∧(t i).fine M.blks.length
include hg
theorem wu{c:Fix}{M:Mem}{L:Role→Addr}{x:uY}(B:s8 c M L x H){i:Nat}{b:List PV×PV}(e:M.blks[i]? = some b)(hi:M.sz≤sizeLine)(hn:1≤n)(h:Q b.2 H):Cl g n (.obj V2) [.obj (L .body),.int i] H Q:=
 (bx P).cl hg rfl hn fun n hn=>j9.mk B.body B.O1 rfl rfl (qW B (List.getElem?_eq_some_iff.mp e).1 hi (V0 (i:=1) (B.bl e) (Nat.le_of_ble_eq_true rfl) rfl h))
structure QG(t:Nat→Tm)(N:Nat)(f w:List Nat):Prop where
 nd:f.Nodup
 lf:∀i∈f,i<N
 lw:∀i∈w,i<N
 cl:∀i∈f,∀j∈(t i).succ,j∈f∨j∈w
 z:f=[]∧w=[0]∨f.head? = some 0
 su:∀i,i∈f∨i∈w→i=0∨∃b,b<N∧i∈(t b).succ
omit hg
theorem QG.skip{t:Nat→Tm}{N b:Nat}{f w:List Nat}(d:QG t N f (w++[b]))(hb:b∈f):QG t N f w:=by
 refine⟨d.nd,d.lf,fun i hi=>d.lw i (List.mem_append_left _ hi),fun i hi j hj=>?_,?_,fun i h=>d.su i (h.imp id fun h=>List.mem_append_left _ h)⟩
 ·rcases d.cl i hi j hj with h|h
  ·exact .inl h
  ·rcases List.mem_append.mp h with h|h
   ·exact .inr h
   ·exact .inl (List.mem_singleton.mp h▸hb)
 ·rcases d.z with⟨rfl,_⟩|h
  ·cases hb
  ·exact .inr h
theorem QG.meet{t:Nat→Tm}{N b:Nat}{f w:List Nat}(d:QG t N f (w++[b]))(hb:b∉f)(fine:(t b).fine N):QG t N (f++[b]) (w++(t b).succ.reverse):=by
 have lb:b<N:=d.lw b (List.mem_append_right _ (.head _))
 refine⟨List.nodup_append.mpr ⟨d.nd,List.nodup_cons.mpr ⟨List.not_mem_nil,.nil⟩,fun x hx y hy e=>hb (by rw [← List.mem_singleton.mp hy,← e];exact hx)⟩,fun i hi=>?_,fun i hi=>?_,fun i hi j hj=>?_,?_,fun i h=>h.elim (fun h=>(List.mem_append.mp h).elim (fun h=>d.su i (.inl h)) fun h=>d.su i (.inr (List.mem_append_right _ h))) fun h=>(List.mem_append.mp h).elim (fun h=>d.su i (.inr (List.mem_append_left _ h))) fun h=>.inr ⟨b,lb,List.mem_reverse.mp h⟩⟩
 ·rcases List.mem_append.mp hi with h|h
  ·exact d.lf i h
  ·rw [List.mem_singleton.mp h];exact lb
 ·rcases List.mem_append.mp hi with h|h
  ·exact d.lw i (List.mem_append_left _ h)
  ·exact fine.1 i (List.mem_reverse.mp h)
 ·rcases List.mem_append.mp hi with h|h
  ·rcases d.cl i h j hj with q|q
   ·exact .inl (List.mem_append_left _ q)
   ·rcases List.mem_append.mp q with q|q
    ·exact .inr (List.mem_append_left _ q)
    ·exact .inl (List.mem_append_right _ q)
  ·rw [List.mem_singleton.mp h] at hj
   exact .inr (List.mem_append_right _ (List.mem_reverse.mpr hj))
 ·rcases d.z with⟨rfl,h⟩|h
  ·have:b=0:=by
    have z:=congrArg List.getLast? h
    rw [List.getLast?_append] at z
    exact Option.some.inj z
   exact .inr (by rw [this];rfl)
  ·refine .inr ?_
   cases f with
   |nil=>cases h
   |cons x f=>exact h
theorem QG.len{t:Nat→Tm}{N:Nat}{f w:List Nat}(d:QG t N f w):f.length≤N:=by
 have:=List.Nodup.length_le_of_subset (l₂:=List.range N) d.nd fun i hi=>List.mem_range.mpr (d.lf i hi)
 rwa [List.length_range] at this
include hg
omit hg
inductive ad8(t:Nat→Tm)(N:Nat)(m0:Loc)(F W:Addr)(H:AH)(j:Nat)(m':Loc)(H':AH):Prop
 |mk (f w:List Nat) (hm:m'=m0∨∃q,m'=m0++[(78,q)]) (e1:H' F=some (.list (jx f))) (e2:H' W=some (.list (jx w))) (d:QG t N f w) (hj:3*(N-f.length)+w.length≤j) (hj2:j≤3*N+1) (E:Ext H H'):ad8 t N m0 F W H j m' H'
include hg
theorem Pq{c:Fix}{M:Mem}{L:Role→Addr}{x:uY}{t:Nat→Tm}(B:s8 c M L x H)(T:Pn M t)(hp:0<M.blks.length)(hl:4*M.blks.length+10≤sizeLine)(hi:M.sz≤sizeLine)(hn:2≤n)(h:∀F H' f,Ext H H'→H' F=some (.list (jx f))→QG t M.blks.length f []→Q (.obj F) H'):Cl g n (.obj pJ) [.obj (L .body)] H Q:=by
 refine(yN P).cl hg rfl hn fun n hn F hF W hW=>?_
 have ne:W≠F:=fun z=>by rw [z,c7] at hW;cases hW
 have hW':H W=none:=by rw [← hW,d8 ne]
 let m0:Loc:=[(92,.obj (L .body)),(93,.obj W),(83,.obj F)]
 refine yh.mk (ad8 t M.blks.length m0 F W H) (3*M.blks.length+1)
  ⟨[],[0],.inl rfl,(d8 ne.symm).trans (c7 ..),c7 ..,⟨.nil,fun O h=>(nomatch h),fun i hi=>List.mem_singleton.mp hi▸hp,fun O h=>(nomatch h),.inl ⟨rfl,rfl⟩,fun i h=>h.elim (fun h=>nomatch h) fun h=>.inl (List.mem_singleton.mp h)⟩,by show 3*(M.blks.length-0)+1≤3*M.blks.length+1;exact Nat.le_refl _,Nat.le_refl _,Ext.upd hW' (Ext.new hF)⟩ ?_
 intro j m' H' z
 obtain⟨f,w,hm,e1,e2,d,hj,hj2,E⟩:=z
 have lw:m'.lookup 93=some (.obj W):=by rcases hm with rfl|⟨q,rfl⟩<;>rfl
 have lf:m'.lookup 83=some (.obj F):=by rcases hm with rfl|⟨q,rfl⟩<;>rfl
 refine d7 lw (Nk e2 (Pj w) ?_)
 rcases List.eq_nil_or_concat w with rfl|⟨w,b,rfl⟩
 ·exact d7 lf (h F H' f E e1 d)
 rw [List.concat_eq_append] at *
 have e2':H' W=some (.list (jx w++[.int (b:Int)])):=e2.trans (congrArg (fun l=>some (q7.list l)) List.map_append)
 have fl:=d.len
 rw [List.length_append,List.length_singleton] at hj
 refine cB (by cases w<;>rfl) (d7 lw (z7 e2 (xV e2' (by rw [List.length_map];lia) ?_)))
 have m2:m5 78 (.int (b:Int)) m'=m0++[(78,.int (b:Int))]:=by rcases hm with rfl|⟨q,rfl⟩<;>rfl
 show I9 g n _ (m5 78 (.int (b:Int)) m') _ _
 rw [m2]
 have e1':upd H' W (.list (jx w)) F=some (.list (jx f)):=(d8 ne.symm).trans e1
 have E':Ext H (upd H' W (.list (jx w))):=Ext.upd hW' E
 refine iz e1' ?_
 cases hb:f.elem b with
 |true=>exact⟨j-1,by exact Mine.Internal.qh1 ‹_›,f,w,.inr ⟨_,rfl⟩,e1',c7 ..,d.skip (List.elem_iff.mp hb),by exact Mine.Internal.qh2 ‹_›,by exact Nat.le_trans (Nat.sub_le ..) ‹_›,E'⟩
 |false=>
  have nb:b∉f:=fun h=>nomatch (List.elem_iff.mpr h).symm.trans hb
  obtain⟨bl,eb⟩:∃bl,M.blks[b]? = some bl:=⟨_,List.getElem?_eq_getElem (d.lw b (List.mem_append_right _ (.head _)))⟩
  obtain⟨tv,fine⟩:=T b bl eb
  have d':=d.meet nb fine
  have fl':=d'.len
  rw [List.length_append,List.length_singleton] at fl'
  have s2:(t b).succ.length≤2:=by cases t b<;>exact Nat.le_of_ble_eq_true rfl
  refine z7 e1' (w5 e1' (by rw [List.length_map];lia) ?_)
  have E2:=Ext.upd hF E' (o:=.list (jx f++[.int (b:Int)]))
  have B2:=B.ext E2
  have eW:upd (upd H' W (.list (jx w))) F (.list (jx f++[.int (b:Int)])) W=some (.list (jx w)):=(d8 ne).trans (c7 ..)
  refine z7 eW (MethP.mk B2.body B2.O1 rfl rfl (wu hg B2 eb hi hn ?_))
  rw [tv]
  refine TP hg fine.2 hn fun S hS=>d7 (G5 (c7 ..)) (cB (Nat.ble_eq_true_of_le (by rw [List.length_map];exact Nat.le_trans ‹_› (by decide))) ?_)
  have nS:W≠S:=fun z=>by rw [← z,eW] at hS;cases hS
  have nF:F≠S:=fun z=>by rw [← z,c7] at hS;cases hS
  have hS':H S=none:=by
   cases q:H S with
   |none=>rfl
   |some o=>rw [E2 _ _ q] at hS;cases hS
  refine oh ((d8 nS).trans eW) (.inr rfl) (by rw [List.length_reverse,List.length_map,List.length_map];lia) ?_
  refine⟨j-1,by exact Mine.Internal.qh1 ‹_›,f++[b],w++(t b).succ.reverse,.inr ⟨_,rfl⟩,?_,?_,d',?_,by exact Nat.le_trans (Nat.sub_le ..) ‹_›,Ext.upd hW' (Ext.upd hS' E2)⟩
  ·rw [d8 ne.symm,d8 nF,c7];exact congrArg (fun l=>some (q7.list l)) (Ii (a:=f) (b:=[b])).symm
  ·rw [c7,← List.map_reverse];exact congrArg (fun l=>some (q7.list l)) (Ii (a:=w)).symm
  ·rw [List.length_append,List.length_append,List.length_reverse,List.length_singleton];lia
end
end Mine.Internal
namespace Mine.Internal
open PySem PySem.W PySem.Calls PyProof.Rows
noncomputable def Tm.map(ρ:Nat→Nat):Tm→Tm
 |.goto i=>.goto (ρ i)
 |.sw o no yes=>.sw o (ρ no) (ρ yes)
 |.fL o x t i=>.fL o x t (ρ i)
 |.ret=>.ret
 |.Vx=>.Vx
noncomputable def Turns{τ:T}(g:G τ)(p:PV)(D:Addr)(l:List (Int×PV))(ρ:Nat→Nat)(js:List Nat):Prop:=Plain g p∧∀(k j:Nat) (H':AH) (Q':PV→AH→Prop),1≤k→j∈js→H' D=some (.m6 l)→Q' (.int ((ρ j:Nat):Int)) H'→Cl g k p [.int (j:Int)] H' Q'
section
variable{P:Params}{g:G (o9 P).T}(hg:v9 g){n w:Nat}{m:Loc}{H R:AH}{Q:PV→AH→Prop}{C:Bool→Prop}
include hg
theorem wz{t:Tm}{p:PV}{ρ:Nat→Nat}{D:Addr}{l:List (Int×PV)}(K:Turns g p D l ρ t.succ)(e:H D=some (.m6 l))(hn:2≤n)(h:Q (t.map ρ).v H):Cl g n (.obj lW) [t.v,p] H Q:=by
 refine(vN P).cl hg rfl hn fun n hn=>?_
 cases t with
 |goto i=>exact⟨K.1,K.2 n i H _ hn (.head _) e h⟩
 |sw o no yes=>
  refine fun A hA=>?_
  have ne:D≠A:=fun z=>by rw [z,hA] at e;cases e
  refine iT (ct:=.many [89,78]) (f:=fun r:PV×PV=>.tup [r.1,r.2]) (w:=fun O=>.tup [.bool false,.int ((ρ no:Nat):Int)]) (fun m'=>m'=[(90,p)]∨∃x y,m'=[(90,p),(89,x),(78,y)]) (fun r=>[(90,p),(89,r.1),(78,r.2)]) [(PV.bool false,PV.int (no:Int))]
   (fun a O o m' hm=>⟨by rcases hm with rfl|⟨x,y,rfl⟩<;>rfl,.inr ⟨_,_,rfl⟩⟩) (fun a ha o k kk=>?_) (fun O=>rfl) [] _ (.inl rfl) (aj rfl) ?_
  ·cases List.mem_singleton.mp ha
   exact⟨K.1,K.2 n no _ _ hn (.head _) ((d8 ne).trans e) kk⟩
  ·rw [List.nil_append,bV hA]
   exact gJ (.inr rfl) (aj rfl) ⟨K.1,K.2 n yes H _ hn (.tail _ (.head _)) e h⟩
 |fL o x t i=>exact Rr.mk ⟨⟨by decide,by show(4:Int)<5;decide,aj rfl⟩,K.1,K.2 n i H _ hn (.head _) e (Hu (aj rfl) h)⟩
 |ret=>exact h
 |Vx=>exact h
end
end Mine.Internal
namespace Mine.Internal
open PySem PySem.W PySem.Calls PyProof.Rows
theorem aB{x y:Nat}{p q:PV}{m:Loc}(ne:x≠y)(h:m.lookup x=some p):(m5 y q m).lookup x=some p:=by rw [s7,if_neg ne];exact h
theorem K9{y:Nat}{q:PV}{m:Loc}:(m5 y q m).lookup y=some q:=by rw [s7,if_pos rfl]
theorem CW{K:Type} [DecidableEq K]{k:K}{v:PV}:∀{l:List (K×PV)},g8 k l=some v→(k,v)∈l
 | [],h=>nomatch h
 |x::r,h=>by
  unfold g8 at h
  by_cases e:x.1=k
  ·rw [if_pos e] at h;cases h;rw [← e];exact .head _
  ·rw [if_neg e] at h;exact .tail _ (CW h)
theorem xu{α:Type}{p q:α→Bool}(le:∀e,p e=true→q e=true):∀{l:List α},(∃e∈l,q e=true∧p e=false)→l.countP p+1≤l.countP q
 | [],h=>by obtain⟨_,h,_⟩:=h;cases h
 |x::r,h=>by
  rw [List.countP_cons,List.countP_cons]
  have mono:r.countP p≤r.countP q:=List.countP_mono_left fun e O=>le e
  have up:=fun h=>xu (p:=p) (q:=q) le (l:=r) h
  obtain⟨e,he,h1,h2⟩:=h
  rcases List.mem_cons.mp he with rfl|he
  ·rw [h1,h2];simp;omega
  ·have:=up ⟨e,he,h1,h2⟩
   cases a:p x with
   |true=>rw [le x a];simp;omega
   |false=>simp only [Bool.false_eq_true,if_false];exact Nat.le_trans ‹_› (Nat.le_add_right ..)
noncomputable def cd(dn:List Nat)(e:(Int×Int)×PV):Bool:=dn.any fun i=>decide (e.1.1=(i:Int))
noncomputable def cp(dn:List Nat)(b J:Nat)(e:(Int×Int)×PV):Bool:=cd dn e||(decide (e.1.1=(b:Int))&&decide (e.1.2<(J:Int)))
theorem Ik{dn:List Nat}{b J:Nat}{e:(Int×Int)×PV}(h:cp dn b J e=true):cp dn b (J+1) e=true:=by
 simp only [cp,Bool.or_eq_true,Bool.and_eq_true,decide_eq_true_eq] at h ⊢
 exact h.imp id fun h=>⟨h.1,by have:=h.2;lia⟩
theorem TQ{dn:List Nat}{b J:Nat}{e:(Int×Int)×PV}(h:cp dn b J e=true):cd (dn++[b]) e=true:=by
 simp only [cp,cd,Bool.or_eq_true,Bool.and_eq_true,decide_eq_true_eq,List.any_append,List.any_cons,List.any_nil,Bool.or_false] at h ⊢
 exact h.imp id fun h=>h.1
noncomputable def FZ:Nat→List Nat→List (Int×PV)
 |_,[]=>[]
 |i,b::r=>((b:Int),.int (i:Int))::FZ (i+1) r
theorem qZ:∀(l:List Nat) (i:Nat),(FZ i l).length=l.length
 | [],_=>rfl
 |_::r,i=>congrArg (·+ 1) (qZ r (i+1))
theorem Il{b:Nat}:∀(l:List Nat) (i:Nat),b∉l→J7 (b:Int) (.int ((i+l.length:Nat):Int)) (FZ i l)=FZ i (l++[b])
 | [],i,_=>rfl
 |c::r,i,h=>by
  have ne:¬((c:Int)=(b:Int)):=fun e=>h (Int.ofNat.inj e▸.head _)
  show J7 _ _ (((c:Int),PV.int (i:Int))::FZ (i+1) r)=_
  rw [cU (q:=((c:Int),PV.int (i:Int))) ne,List.length_cons,show i+(r.length+1)=i+1+r.length by lia,Il r (i+1) fun h'=>h (.tail _ h')];rfl
noncomputable def dU(j:Nat):List Nat→Nat
 | []=>0
 |c::r=>if c=j then 0 else dU j r+1
theorem CX{j:Nat}:∀{l:List Nat},j∈l→l[dU j l]? = some j
 | [],h=>nomatch h
 |c::r,h=>by
  show(c::r)[if c=j then 0 else dU j r+1]? = _
  by_cases e:c=j
  ·rw [if_pos e,e];rfl
  ·rw [if_neg e,List.getElem?_cons_succ]
   exact CX ((List.mem_cons.mp h).resolve_left fun z=>e z.symm)
theorem zE{j:Nat}:∀(l:List Nat) (i:Nat),j∈l→g8 (j:Int) (FZ i l)=some (.int ((i+dU j l:Nat):Int))
 | [],_,h=>nomatch h
 |c::r,i,h=>by
  show(if(c:Int)=(j:Int) then some (PV.int (i:Int)) else g8 (j:Int) (FZ (i+1) r))=some (.int ((i+(if c=j then 0 else dU j r+1):Nat):Int))
  by_cases e:c=j
  ·rw [if_pos (show(c:Int)=(j:Int) from congrArg Int.ofNat e),if_pos e];rfl
  ·rw [if_neg (show ¬(c:Int)=(j:Int) from fun z=>e (Int.ofNat.inj z)),if_neg e,zE r (i+1) ((List.mem_cons.mp h).resolve_left fun z=>e z.symm)]
   congr 3;exact Nat.add_right_comm ..
section
variable{P:Params}{g:G (o9 P).T}(hg:v9 g){n w:Nat}{m:Loc}{H R:AH}{Q:PV→AH→Prop}{C:Bool→Prop}
theorem ad9{a:Addr}{l:List ((Int×Int)×PV)} {i j:Int} (e:H a=some (.z6 l)) (h:C (g8 (i,j) l).isSome):vh .In (.tup [.int i,.int j]) (.obj a) H C:=.mem (.ot e h)
theorem Ka{a:Addr}{l:List ((Int×Int)×PV)} {i j:Int} {r:PV} (o:H a=some (.z6 l)) (e:g8 (i,j) l=some r) (h:Q r H):SubL g (.obj a) (.tup [.int i,.int j]) H Q:=.ot o e h
structure WM(m:Loc)(bd kp:PV)(D Bl Sp:Addr):Prop where
 body:m.lookup 92=some bd
 kept:m.lookup 95=some kp
 places:m.lookup 96=some (.obj D)
 blocks:m.lookup 73=some (.obj Bl)
 spots:m.lookup 74=some (.obj Sp)
theorem WM.set{bd kp:PV}{D Bl Sp:Addr}{y:Nat}{q:PV}(h:WM m bd kp D Bl Sp)(e:[92,95,96,73,74].elem y=false):WM (m5 y q m) bd kp D Bl Sp:=by
 have ne:∀x,[92,95,96,73,74].elem x=true→x≠y:=fun x hx z=>by rw [z,e] at hx;cases hx
 exact⟨aB (ne _ rfl) h.body,aB (ne _ rfl) h.kept,aB (ne _ rfl) h.places,aB (ne _ rfl) h.blocks,aB (ne _ rfl) h.spots⟩
theorem CZ{c:Fix}{M:Mem}{L:Role→Addr}{x:uY}(B:s8 c M L x H){kp:PV}{D Bl Sp:Addr}{b N1:Nat}{dn f:List Nat}{done l0:List PV}(hb:b∈f)(hnb:b∉dn)(hz:M.sz+1≤sizeLine){Q':Out→Loc→AH→Prop}
  (fin:∀m' H' qJ,WM m' (.obj (L .body)) kp D Bl Sp→St H H' [(Sp,.z6 qJ),(Bl,.list done),(D,.m6 (FZ 0 f))]→qJ.length≤x.sp.countP (cd (dn++[b]))→Q' .next m' H'):∀(k i:Nat) (m:Loc) (H1:AH) (qJ:List ((Int×Int)×PV)),
  WM m (.obj (L .body)) kp D Bl Sp→m.lookup 78=some (.int (b:Int))→St H H1 [(Sp,.z6 qJ),(Bl,.list done),(D,.m6 (FZ 0 f))]→qJ.length≤x.sp.countP (cp dn b i)→
  DG (fun q m H Q=>(Tg.name 97).w g n q m H Q) (fun m H Q=>I9 g n [.iff (.cmp .In (.tup [.loc 78,.loc 97]) (.attr (.loc 92) 74)) [.asg (.sub (.loc 74) (.tup [.sub (.loc 96) (.loc 78),.loc 97])) (.sub (.attr (.loc 92) 74) (.tup [.loc 78,.loc 97]))] []] m H Q) (.rng 0 (N1:Int)) l0 Q' (H9 (i:Int) k) m H1:=by
 intro k
 induction k with
 |zero=>exact fun i m H1 qJ wm O s hs=>fin m H1 qJ wm s (Nat.le_trans hs (List.countP_mono_left fun e O=>TQ))
 |succ k ih=>
  intro i m H1 qJ wm hbk s hs
  have Vy:=wm.set (y:=97) (q:=.int (i:Int)) rfl
  have zF:(m5 97 (.int (i:Int)) m).lookup 78=some (.int (b:Int)):=aB (by decide) hbk
  have B1:=B.ext s.keep
  have next:∀qJ H2,St H H2 [(Sp,.z6 qJ),(Bl,.list done),(D,.m6 (FZ 0 f))]→qJ.length≤x.sp.countP (cp dn b (i+1))→_:=fun qJ H2 s2 h2=>ih (i+1) (m5 97 (.int (i:Int)) m) H2 qJ Vy zF s2 h2
  show lk _ _
  refine d7 zF (d7 K9 (d7 Vy.body (j9.mk B1.body B1.O1 rfl rfl (ad9 (B1.at_ .spots _ rfl) ?_))))
  cases e:g8 ((b:Int),(i:Int)) x.sp with
  |none=>exact next qJ H1 s (Nat.le_trans hs (List.countP_mono_left fun e O=>Ik))
  |some v=>
   have up:qJ.length+1≤x.sp.countP (cp dn b (i+1)):=by
    refine Nat.le_trans (Nat.succ_le_succ hs) (xu (fun e h=>Ik h) ⟨_,CW e,?_,?_⟩)
    ·exact Bool.or_eq_true_iff.mpr (.inr (Bool.and_eq_true_iff.mpr ⟨decide_eq_true rfl,decide_eq_true (by show(i:Int)<((i+1:Nat):Int);exact Int.le_refl _)⟩))
    ·refine Bool.or_eq_false_iff.mpr ⟨List.any_eq_false.mpr fun j hj=>?_,Bool.and_eq_false_iff.mpr (.inr (decide_eq_false (Int.lt_irrefl _)))⟩
     rw [decide_eq_true_eq]
     exact fun z=>hnb (Int.ofNat.inj z▸hj)
   refine d7 Vy.body (j9.mk B1.body B1.O1 rfl rfl (d7 zF (d7 K9 (Ka (B1.at_ .spots _ rfl) e ?_))))
   refine d7 Vy.spots (d7 Vy.places (d7 zF (T8 (s.at 2 rfl) (zE f 0 hb) (d7 K9 (wQ (s.at 0 rfl) rfl ?_ ?_)))))
   ·exact Nat.le_trans (Nat.le_of_succ_le (Nat.le_trans up List.countP_le_length)) (Nat.le_trans B.sp (Nat.le_of_succ_le hz))
   ·exact next _ _ (s.put 0 rfl _) (Nat.le_trans (gH _ _ _) up)
end
end Mine.Internal
namespace Mine.Internal
open PySem PySem.W PySem.Calls PyProof.Rows
section
variable{P:Params}{g:G (o9 P).T}(hg:v9 g){n w:Nat}{m:Loc}{H R:AH}{Q:PV→AH→Prop}{C:Bool→Prop}
theorem ae1{ns:List (Str×NameKind)}{c:Addr}{q:Str}(e:(o9 P).T.lam ns=some (c,J0,q)):q=gk:=by
 obtain⟨path,e⟩:=Nh e
 have e':some ([25],223,219,gk)=some (path,c,J0,q):=e
 cases e'
 rfl
theorem dB6:jT (o9 P).T gO 6 []:=jT.of (fd:=_) (ps:=_) rfl [] rfl fun vs h S=>by
 obtain⟨a,r,e1,h1⟩:=O8 h
 obtain⟨b,r',e2,h2⟩:=O8 h1
 obtain⟨c,r2,e3,h3⟩:=O8 h2
 obtain⟨d,r3,e4,h4⟩:=O8 h3
 obtain⟨e,f,e5⟩:=len2 h4
 rw [e1,e2,e3,e4,e5];rfl
include hg
theorem zG{bd kp:PV}{D:Addr}{f:List Nat}(nd:f.Nodup)(hz:f.length≤sizeLine){l0:List PV}{Q':Out→Loc→AH→Prop}
  (fin:∀m' H',m'.lookup 92=some bd→m'.lookup 95=some kp→m'.lookup 96=some (.obj D)→St H H' [(D,.m6 (FZ 0 f))]→Q' .next m' H'):∀(r pre:List Nat) (m:Loc) (H1:AH),
  m.lookup 92=some bd→m.lookup 95=some kp→m.lookup 96=some (.obj D)→St H H1 [(D,.m6 (FZ 0 pre))]→f=pre++r→
  DG (fun q m H Q=>(Tg.name 78).w g n q m H Q) (fun m H Q=>I9 g n [.asg (.sub (.loc 96) (.loc 78)) (.call 31 [.loc 96])] m H Q) (.lst l0) l0 Q' (jx r) m H1:=by
 intro r
 induction r with
 |nil=>exact fun pre m H1 e1 e2 e3 s e=>fin m H1 e1 e2 e3 (by rw [e,List.append_nil];exact s)
 |cons b r ih=>
  intro pre m H1 e1 e2 e3 s e
  have hl:pre.length+(r.length+1)=f.length:=by rw [e,List.length_append,List.length_cons]
  have nb:b∉pre:=fun h=>by
   rw [e] at nd
   exact(List.nodup_append.mp nd).2.2 b h b (.head _) rfl
  have e3':(m5 78 (.int (b:Int)) m).lookup 96=some (.obj D):=aB (by decide) e3
  have z:=Il pre 0 nb
  rw [Nat.zero_add] at z
  refine d7 e3' (RJ hg (s.at 0 rfl) (by rw [qZ];rw [sizeLine_eq] at hz;lia) (d7 e3' (d7 K9 (cY (s.at 0 rfl) (by rw [qZ];lia) ?_))))
  rw [qZ,z]
  exact ih (pre++[b]) _ _ (aB (by decide) e1) (aB (by decide) e2) e3' (s.put 0 rfl _) (by rw [e,List.append_assoc];rfl)
noncomputable def oX(M:Mem)(t:Nat→Tm)(f:List Nat)(b:Nat):PV:=.lst [.lst ((M.blks[b]?.map (·.1)).getD []),((t b).map fun j=>dU j f).v]
theorem zH{c:Fix}{M:Mem}{L:Role→Addr}{x:uY}{t:Nat→Tm}(B:s8 c M L x H)(T:Pn M t)(hP:H J0=some (.code gk)){kp:PV}{D Bl Sp:Addr}{f:List Nat}(nd:f.Nodup)(lf:∀i∈f,i<M.blks.length)(cl:∀i∈f,∀j∈(t i).succ,j∈f)
  (hz:M.sz+1≤sizeLine) (hfz:f.length≤sizeLine) (hn:3≤n) {l0:List PV} {Q':Out→Loc→AH→Prop}
  (fin:∀m' H' qJ,WM m' (.obj (L .body)) kp D Bl Sp→St H H' [(Sp,.z6 qJ),(Bl,.list (f.map (oX M t f))),(D,.m6 (FZ 0 f))]→Q' .next m' H'):∀(r pre:List Nat) (m:Loc) (H1:AH) (qJ:List ((Int×Int)×PV)),
  WM m (.obj (L .body)) kp D Bl Sp→St H H1 [(Sp,.z6 qJ),(Bl,.list (pre.map (oX M t f))),(D,.m6 (FZ 0 f))]→qJ.length≤x.sp.countP (cd pre)→f=pre++r→
  DG (fun q m H Q=>(Tg.name 78).w g n q m H Q) (fun m H Q=>I9 g n [.asg (.tup [.name 99,.name 81]) (.sub (.attr (.loc 92) 73) (.loc 78)),.Mw 73 67 (.call 76 [.loc 99]) 81 96 101 100 J0,.for (.name 97) (.call 69 [.bin .Add (.call 31 [.loc 99]) (.int 1)]) [.iff (.cmp .In (.tup [.loc 78,.loc 97]) (.attr (.loc 92) 74)) [.asg (.sub (.loc 74) (.tup [.sub (.loc 96) (.loc 78),.loc 97])) (.sub (.attr (.loc 92) 74) (.tup [.loc 78,.loc 97]))] []]] m H Q) (.lst l0) l0 Q' (jx r) m H1:=by
 intro r
 induction r with
 |nil=>exact fun pre m H1 qJ wm s hs e=>fin m H1 qJ wm (by rw [show f.map (oX M t f)=pre.map (oX M t f) from congrArg (List.map (oX M t f)) (e.trans (List.append_nil _))];exact s)
 |cons b r ih=>
  intro pre m H1 qJ wm s hs e
  have bf:b∈f:=by rw [e];exact List.mem_append_right _ (.head _)
  have nb:b∉pre:=fun h=>by
   rw [e] at nd
   exact(List.nodup_append.mp nd).2.2 b h b (.head _) rfl
  obtain⟨bl,eb⟩:∃bl,M.blks[b]? = some bl:=⟨_,List.getElem?_eq_getElem (lf b bf)⟩
  obtain⟨tv,fine⟩:=T b bl eb
  have B1:=B.ext s.keep
  have hsz:=Nat.le_of_succ_le hz
  have Vy:=wm.set (y:=78) (q:=.int (b:Int)) rfl
  refine d7 Vy.body (j9.mk B1.body B1.O1 rfl rfl (d7 K9 (qW B1 (lf b bf) hsz ?_)))
  show lk _ _
  refine d7 (G5 (B1.bl eb)) (cB rfl ?_)
  have wm2:=(Vy.set (y:=99) (q:=.obj (L (.st b))) rfl).set (y:=81) (q:=bl.2) rfl
  have ls:=B.ok.sts bl (List.mem_of_getElem? eb)
  refine d7 wm2.blocks (z7 (s.at 1 rfl) (d7 (aB (by decide) K9) (xW (.inr (G5 (B1.st eb))) (Nat.le_trans ls hsz) (.inl ?_))))
  refine Jt.mk K9 wm2.places rfl (fun ns cc q el=>?_) fun g' hg' F pl K=>?_
  ·rw [ae1 el];exact s.keep _ _ hP
  rw [tv]
  refine wz hg' (D:=D) (l:=FZ 0 f) (ρ:=fun j=>dU j f) ⟨pl,fun k j H' Q' k1 hj e q=>K k j _ _ H' Q' k1 e (zE f 0 (cl b bf j hj)) (by rw [Nat.zero_add];exact q)⟩ (s.at 2 rfl) (leB hn rfl) ?_
  refine w5 (s.at 1 rfl) ?_ ?_
  ·rw [List.length_map]
   have:f.length=pre.length+(r.length+1):=by rw [e,List.length_append,List.length_cons]
   lia
  have s2:=s.put 1 rfl (.list (pre.map (oX M t f)++[.lst [.lst bl.1,((t b).map fun j=>dU j f).v]]))
  have B2:=B.ext s2.keep
  refine d7 (aB (by decide) K9) (T4 (len_list (B2.st eb)) (by rw [sizeLine_eq] at hsz;lia) (cV ?_))
  rw [sizeLine_eq] at hsz
  refine And.intro ⟨by decide,by decide,by lia,by lia⟩ (d7 (x:=H9 ((0:Nat):Int) (bl.1.length+1)) (congrArg (fun k=>some (H9 0 k)) (by lia)) ?_)
  refine CZ B (kp:=kp) (N1:=bl.1.length+1) (dn:=pre) bf nb hz (fun m' H' aq1 wm3 s3 hs3=>ih (pre++[b]) m' H' aq1 wm3 ?_ hs3 (by rw [e,List.append_assoc];rfl)) (bl.1.length+1) 0 _ _ qJ (tv▸wm2) (aB (by decide) (aB (by decide) K9)) s2 (Nat.le_trans hs (List.countP_mono_left fun e O h=>Bool.or_eq_true_iff.mpr (.inl h)))
  rw [List.map_append,show [b].map (oX M t f)=[.lst [.lst bl.1,((t b).map fun j=>dU j f).v]] from congrArg (fun z=>[z]) (by unfold oX;rw [eb];rfl)]
  exact s3
theorem uF{c:Fix}{M:Mem}{L:Role→Addr}{x:uY}{t:Nat→Tm}(B:s8 c M L x H)(T:Pn M t)(hP:H J0=some (.code gk)){f:List Nat}(nd:f.Nodup)(lf:∀i∈f,i<M.blks.length)(cl:∀i∈f,∀j∈(t i).succ,j∈f)
  (hz:M.sz+1≤sizeLine) (hn:4≤n) (h:∀b O1 bl H' a1 a2 a3 a5,Ext H H'→H' b=some (.inst eH O1)→H' O1=some (.attrs [(40,a1),(71,a2),(75,a3),(73,.obj bl),(74,a5)])→H' bl=some (.list (f.map (oX M t f)))→Q (.obj b) H'):
  Cl g n (.obj jy) [.obj (L .body),.lst (jx f)] H Q:=by
 have fl:f.length≤M.blks.length:=by
  have:=List.Nodup.length_le_of_subset (l₂:=List.range M.blks.length) nd fun i hi=>List.mem_range.mpr (lf i hi)
  rwa [List.length_range] at this
 have fz:f.length≤sizeLine:=Nat.le_trans fl (Nat.le_trans B.ok.blks (Nat.le_of_succ_le hz))
 refine(tD P).cl hg rfl hn fun n hn=>fun D hD=>?_
 refine zG hg nd fz (bd:=.obj (L .body)) (kp:=.lst (jx f)) (fun m' H1 e1 e2 e3 s=>?_) f [] _ _ rfl rfl rfl ((St.nil H).new hD (.m6 [])) rfl
 refine fun Bl hBl Sp hSp=>?_
 have s2:=(s.new hBl (.list [])).new hSp (.z6 [])
 have wm0:WM (m5 73 (.obj Bl) (m5 74 (.obj Sp) m')) (.obj (L .body)) (.lst (jx f)) D Bl Sp:=⟨aB (by decide) (aB (by decide) e1),aB (by decide) (aB (by decide) e2),aB (by decide) (aB (by decide) e3),K9,aB (by decide) K9⟩
 have se:lF ([73,74]:List Nat).reverse [PV.obj Bl,PV.obj Sp].reverse m'=m5 73 (.obj Bl) (m5 74 (.obj Sp) m'):=rfl
 show lk (List.lookup 95 (lF ([73,74]:List Nat).reverse [PV.obj Bl,PV.obj Sp].reverse m')) _
 rw [se]
 refine d7 (x:=.lst (jx f)) wm0.kept ?_
 refine zH hg B T hP nd lf cl hz fz hn (kp:=.lst (jx f)) (D:=D) (Bl:=Bl) (Sp:=Sp) (fun m2 H2 qJ wm s=>?_) f [] _ _ [] wm0 s2 (Nat.zero_le _) rfl
 have B2:=B.ext s.keep
 refine d7 wm.body (j9.mk B2.body B2.O1 rfl rfl (d7 wm.body (j9.mk B2.body B2.O1 rfl rfl (d7 wm.body (j9.mk B2.body B2.O1 rfl rfl (d7 wm.blocks (d7 wm.spots ?_)))))))
 refine make hg rfl hn fun n b O1 H' hn u=>(mJ P).XQ hg dB6 rfl hn fun n O=>u.set 0 1 rfl rfl rfl rfl fun H' u=>u.set 0 1 rfl rfl rfl rfl fun H' u=>xW (.inr (G5 ((B2.ext u.keep).at_ .locs _ rfl))) ?_ (.inl (u.set 0 1 rfl rfl rfl rfl fun H' u=>u.set 0 1 rfl rfl rfl rfl fun H' u=>u.set 0 1 rfl rfl rfl rfl fun H' u=>And.intro rfl (h b O1 Bl H' _ _ _ _ (s.keep.trans u.keep) (u.at 0 rfl) (u.at 1 rfl) (u.keep _ _ (s.at 1 rfl)))))
 rw [B.rows.length]
 exact Nat.le_trans B.ok.tys (Nat.le_of_succ_le hz)
end
end Mine.Internal
namespace Mine.Internal
open PySem PySem.W PySem.Calls PyProof.Rows
structure Done(M:Mem)(t:Nat→Tm)(f:List Nat)(R:AH)(b:Addr)(H':AH):Prop where
 nd:f.Nodup
 lf:∀i∈f,i<M.blks.length
 cl:∀i∈f,∀j∈(t i).succ,j∈f
 z:f[0]? = some 0
 ty:M.tys.length≤M.sz
 bk:M.blks.length≤M.sz
 keep:∀y o,R y=some o→H' y=some o
 ob:∃O1 bl a1 a2 a3 a5,H' b=some (.inst eH O1)∧H' O1=some (.attrs [(40,a1),(71,a2),(75,a3),(73,.obj bl),(74,a5)])∧H' bl=some (.list (f.map (oX M t f)))
section
variable{P:Params}{g:G (o9 P).T}(hg:v9 g){n w:Nat}{m:Loc}{c:Fix}(hfu:c.fu=1){M M':Mem}{H R:AH}{Q:PV→AH→Prop}{self:Addr}{i:Nat}{p:PV}
theorem Im:∀(k i:Nat) (M:Mem),(M.CV i k).sz=M.sz
 |0,_,_=>rfl
 |k+1,i,M=>Im k (i+1) (M.U3 i)
include hg
theorem Dc{t:Nat→Tm}(B:o8 c self M R H)(T:Pn M.fix t)(hp:0<M.blks.length)(hz:4*M.sz+10≤sizeLine)(hS:∃S:List Nat,S.length≤60∧0∈S∧∀b,b<M.fix.blks.length→∀j∈(t b).succ,j∈S)(hP:R J0=some (.code gk))(hn:6≤n)(h:∀f b H',Done M.fix t f R b H'→Q (.obj b) H'):Cl g n (.obj bW) [.obj self] H Q:=by
 refine(kE P).cl hg rfl hn fun n hn=>?_
 obtain⟨L,x,rfl,B,F⟩:=B
 refine j9.mk B.self B.dx rfl rfl (j9.mk B.body B.O1 rfl rfl (d7 (G5 (B.at_ .blks _ rfl)) ?_))
 have fb:M.fix.blks.length=M.blks.length:=by rw [nq,List.length_map]
 refine JZ hg (l0:=V5 L 0 M.blks.length) (M':=M.fix) (fun m' H1 B1 F1 hm=>?_) M.blks.length 0 M H _ (fun O=>rfl) (Nat.zero_add _) rfl B F rfl
 have ls:m'.lookup 1=some (.obj (L .self)):=by
  have z:=congrArg (List.lookup 1) (hm .none)
  rw [s7,if_neg (by decide),s7,if_neg (by decide)] at z
  exact z
 have sz:M.fix.sz=M.sz:=Im _ _ _
 have lb:=B1.ok.blks
 rw [sz] at lb
 refine d7 ls (j9.mk B1.self B1.dx rfl rfl (d7 ls (j9.mk B1.self B1.dx rfl rfl (Pq hg B1 T (by rw [fb];exact hp) (by lia) (by rw [sz];lia) (leB hn rfl) fun F' H2 f E e d=>?_))))
 obtain⟨l,rfl⟩:∃l,f=0::l:=by
  rcases d.z with⟨_,z⟩|z
  ·cases z
  ·cases f with
   |nil=>cases z
   |cons y l=>cases z;exact⟨l,rfl⟩
 have fl:=d.len
 rw [List.length_cons] at fl
 have hl:(0::l).length≤60:=by
  obtain⟨S,h1,h2,h3⟩:=hS
  refine Nat.le_trans (List.Nodup.length_le_of_subset d.nd fun i hi=>?_) h1
  rcases d.su i (.inl hi) with rfl|⟨b,hb,hi⟩
  ·exact h2
  ·exact h3 b hb i hi
 refine Jx e (show l.length<63 from Nat.lt_of_lt_of_le (Nat.lt_succ_self _) (Nat.le_trans hl (by decide))) fun l' pm=>?_
 have mm:∀i,i∈0::l' ↔ i∈0::l:=fun i=>pm.mem_iff
 have B2:=B1.ext E
 have cl:∀i∈0::l',∀j∈(t i).succ,j∈0::l':=fun i hi j hj=>(mm j).mpr ((d.cl i ((mm i).mp hi) j hj).resolve_right List.not_mem_nil)
 refine uF hg B2 T (E _ _ (F1 _ _ hP).1) (pm.nodup_iff.mpr d.nd) (fun i hi=>d.lf i ((mm i).mp hi)) cl (by rw [sz];lia) (leB hn rfl) fun b O1 bl H' a1 a2 a3 a5 E2 e1 e2 e3=>?_
 exact h _ b H' ⟨pm.nodup_iff.mpr d.nd,fun i hi=>d.lf i ((mm i).mp hi),cl,rfl,B2.ok.tys,B2.ok.blks,fun y o z=>E2 _ _ (E _ _ (F1 y o z).1),O1,bl,a1,a2,a3,a5,e1,e2,e3⟩
omit hg
theorem o8.keep(B:o8 c self M R H){y:Addr}{o:q7}(e:R y=some o):H y=some o:=by
 obtain⟨L,x,_,_,F⟩:=B
 exact(F y o e).1
theorem o8.pos(B:o8 c self M R H):0<M.blks.length:=by
 obtain⟨L,x,_,B,_⟩:=B
 exact Nat.lt_of_le_of_lt (Nat.zero_le _) B.ok.here
noncomputable def Vz(M:Mem):Mem:=Q8 2 0 (Q8 1 250 (Q8 0 3 M))
noncomputable def oY(d:Mem→Mem)(p:PV)(M:Mem):Mem:=((d M.push).asg p (I7 (j7 (m7 (1+0))))).pop
noncomputable def oZ(ts:List PV):PV:=.tup [.str 78,s6,.int 0,.tup ts,iy 0]
noncomputable abbrev uG(i:Nat)(v:Int):PV:=.tup [.str 286,.int 0,fZ i,aA v]
noncomputable def F.all(r:F):List PV:=uG 0 3::uG 1 250::uG 2 0::r.td.2
noncomputable def nu(r:F)(M:Mem):Mem:=r.low.2 (fun O=>none) (Vz M)
noncomputable def Q0(r:F)(tys:List PV):Mem:=((oY (nu r) (m7 0) (kW tys).push.push).pop.pop).tick.close (.tup [.str 247])
include hg
theorem TV(hn:1≤n)(h:Q .none H):Cl g n (.obj O7) [.obj self,.tup []] H Q:=(aq P).cl hg rfl hn fun n O=>h
theorem Pu{ts:List PV}{d:Mem→Mem}{a j k f:Nat}{l:bG}(hfu:c.fu=1)(h:G7 g c ts w k f l d)(hw:7≤w)(z:∀M,M.frs≠[]→z8 M+f≤100→Gw M (d M) a j):O9 g c (oZ ts) (w+2) k f l (oY d):=by
 intro n M R0 H self q Q hn B hp hz hQ
 have y:=z M.push hp.push.ne hp.push.fl
 have h3:=Nat.le_trans (T6 _) hz
 have h2:=(u6 q (I7 (j7 (m7 (1+0))))).fits h3
 refine wk hg (f:=G4) (w:=w+1) (.inr (.inr (.inr (.inl ⟨rfl,rfl⟩)))) hn B (fun hw B h=>(R4 P).cl hg rfl hw fun n hn=>?_) hQ
 have nn:=Nat.le_trans ‹7≤w› hn
 obtain⟨R,Bd,cl⟩:=B.open
 refine Bd.me rfl rfl (au hg Bd (y.fits h2) (leB nn rfl) fun H Bd=>?_)
 refine ‹G7 g c ts _ _ _ _ _› hn (cl _ _ (Nat.le_succ _) Bd) hp.push h2 (fun O=>rfl) fun m' H' B hm=>?_
 have lk:∀{y:Nat} {o:PV},y≠125→([(1,.obj self),(111,q),(145,oZ ts)]:Loc).lookup y=some o→m'.lookup y=some o:=fun{y o} ne h=>by
  have z:=congrArg (List.lookup y) (hm .none)
  rw [s7,s7,if_neg ne,if_neg ne] at z
  exact z.trans h
 have l1:=lk (y:=1) (by decide) rfl
 have le:=lk (y:=145) (by decide) rfl
 obtain⟨R,Bd,cl⟩:=B.open
 exact d7 le (d7 l1 (Bd.me rfl rfl (d7 (lk (y:=111) (by decide) rfl) (d7 le (Cz hg hfu Bd h3 (leB nn rfl) fun H Bd=>d7 l1 (Bd.me rfl rfl (zq hg Bd (y.trans (u6 q (I7 (j7 (m7 (1+0)))))) hz nn fun H Bd=>h _ _ (cl _ _ (show(d M.push).sz≤((d M.push).asg q (I7 (j7 (m7 (1+0))))).pop.sz from Nat.le_trans (u6 q (I7 (j7 (m7 (1+0))))).sz (T6 ((d M.push).asg q (I7 (j7 (m7 (1+0))))))) Bd))))))))
omit hg in
theorem zJ(r:F){M:Mem}(hm:M.frs≠[])(hf:z8 M+(r.fl+3)≤100):Gw M (nu r M) (6+6+6+r.cost) (1+1+1+0):=by
 have a:=((N7 (M:=M) 0 3).trans (N7 1 250)).trans (N7 2 0)
 have:=a.fl hm
 exact a.trans ((zm r).2 _ _ (a.ne hm) (by lia))
theorem Ym{k:Nat}{r:F}(hfu:c.fu=1)(h:zy k false [] r)(hk:3<k):G7 g c r.all r.W k (r.fl+3) (fun O=>none) (nu r):=by
 have zr:∀M,M.frs≠[]→z8 M+r.fl≤100→Gw M (r.low.2 (fun O=>none) M) r.cost 0:=fun M a b=>(zm r).2 _ M a b
 have h3:G7 g c r.td.2 r.W k r.fl (fun O=>none) (r.low.2 fun O=>none):=Yj hg hfu h (fun O=>none) fun x=>⟨nofun,fun O=>rfl⟩
 have z2:∀M,M.frs≠[]→z8 M+(r.fl+1)≤100→Gw M (r.low.2 (fun O=>none) (Q8 2 0 M)) (6+r.cost) (1+0):=fun M a b=>by
  have:=(N7 (M:=M) 2 0).fl a
  exact(N7 2 0).trans (zr _ ((N7 2 0).ne a) (by lia))
 have z1:∀M,M.frs≠[]→z8 M+(r.fl+2)≤100→Gw M (r.low.2 (fun O=>none) (Q8 2 0 (Q8 1 250 M))) (6+(6+r.cost)) (1+(1+0)):=fun M a b=>by
  have:=(N7 (M:=M) 1 250).fl a
  exact(N7 1 250).trans (z2 _ ((N7 1 250).ne a) (by lia))
 have s:∀(i:Nat) (v:Int) (f:Nat),i<3→JV g c (uG i v) 11 k f (fun O=>none) (Q8 i v):=fun i v f hi=>Pa hg hfu (Nat.lt_of_le_of_lt (by lia) hk)
 have mw:∀w,w=r.W→max 11 w=r.W:=fun w e=>by have:=r.w20;lia
 have l2:G7 g c (uG 2 0::r.td.2) r.W k (r.fl+1) (fun O=>none) fun M=>r.low.2 (fun O=>none) (Q8 2 0 M):=by
  intro n M R0 H self Q' full p e0 m' hn
  exact aK (s 2 0 _ (by decide)) h3 (Nat.le_refl _) (fun M a b=>N7 2 0) zr (Nat.le_trans (Nat.le_of_eq (mw _ rfl)) hn)
 have l1:G7 g c (uG 1 250::uG 2 0::r.td.2) r.W k (r.fl+2) (fun O=>none) fun M=>r.low.2 (fun O=>none) (Q8 2 0 (Q8 1 250 M)):=by
  intro n M R0 H self Q' full p e0 m' hn
  exact aK (s 1 250 _ (by decide)) l2 (Nat.le_refl _) (fun M a b=>N7 1 250) z2 (Nat.le_trans (Nat.le_of_eq (mw _ rfl)) hn)
 intro n M R0 H self Q' full p e0 m' hn
 exact aK (s 0 3 _ (by decide)) l1 (Nat.le_refl _) (fun M a b=>N7 0 3) z1 (Nat.le_trans (Nat.le_of_eq (mw _ rfl)) hn)
theorem Px{tf Pg w Ih sg:Addr}{pn:Nat}{res:PV}{wl:List (Nat×PV)}{rows:List (PV×PV×PV)}{r:F}{t:Nat→Tm}(hl:rows.length≤100)(h5:4≤rows.length)(hs:∀t∈res::rows.map (fun r=>r.2.1),Simple t)(t1:H tf=some (.inst cZ Pg))
  (t2:H Pg=some (.attrs [(119,.str pn),(75,.lst (rows.map Pb)),(39,.tup []),(122,res),(92,oZ r.all)])) (w1:H w=some (.inst lR Ih)) (w2:H Ih=some (.attrs wl)) (w3:wl.lookup 121=some (.obj sg)) (w4:H sg=some (.u0 []))
  (ho:zy (rows.length+1) false [] r) (hf:r.fl≤90) (T:Pn (Q0 r (res::rows.map fun r=>r.2.1)).fix t) (hz:4*(Q0 r (res::rows.map fun r=>r.2.1)).sz+10≤sizeLine) (hS:∃S:List Nat,S.length≤60∧0∈S∧∀b,b<(Q0 r (res::rows.map fun r=>r.2.1)).fix.blks.length→∀j∈(t b).succ,j∈S) (hP:H J0=some (.code gk)) (hn:r.W+10≤n)
  (h:∀f b H',Done (Q0 r (res::rows.map fun r=>r.2.1)).fix t f H b H'→Q (.obj b) H'):Cl g n (.obj yu) [.obj tf,.obj w] H Q:=by
 refine(Nq P).cl hg rfl hn fun n hn=>?_
 have hW:=r.w20
 refine zB hg rfl hl t1 t2 w1 w2 w3 w4 (by lia) fun a dx b O1 lc bl sp fr al d1 d2 rw st0 Ph H1 s=>?_
 have B:=Yk hl hs s
 have gB:=zJ r (M:=(kW (res::rows.map fun r=>r.2.1)).push.push.push) nofun (by show 0+(0+(0+0))+_≤100;lia)
 have gC:=S6 (gB.trans (u6 (m7 0) (I7 (j7 (m7 (1+0))))))
 have z1:=S6 gC
 have z0:(oY (nu r) (m7 0) (kW (res::rows.map fun r=>r.2.1)).push.push).pop.pop.sz+2≤(Q0 r (res::rows.map fun r=>r.2.1)).sz:=Nat.le_refl _
 have p1:=T6 (oY (nu r) (m7 0) (kW (res::rows.map fun r=>r.2.1)).push.push)
 have p2:=T6 (oY (nu r) (m7 0) (kW (res::rows.map fun r=>r.2.1)).push.push).pop
 have hz1:(Q0 r (res::rows.map fun r=>r.2.1)).sz≤sizeLine:=by lia
 have s0:_≤(oY (nu r) (m7 0) (kW (res::rows.map fun r=>r.2.1)).push.push).sz:=gC.sz
 have s1:(kW (res::rows.map fun r=>r.2.1)).push.sz+1≤(kW (res::rows.map fun r=>r.2.1)).push.push.sz:=Nat.le_refl _
 have dR:∀{y o},H y=some o→y≠d2:=fun e k=>by
  have q:=s.fresh (d2,_) (.head _)
  rw [← k,e] at q
  cases q
 have Ot:∀{y o},H y=some o→upd H d2 (.m6 []) y=some o:=fun e=>by rw [d8 (dR e)];exact e
 refine B.me rfl rfl (au hg B (by lia) (by lia) fun H2 B=>B.attr rfl fun O O O O O=>⟨_,rfl,?_⟩)
 refine B.me rfl rfl (au hg B (by lia) (by lia) fun H3 B=>B.me rfl rfl (j9.mk (B.keep (Ot t1)) (B.keep (Ot t2)) rfl rfl (TV hg (by lia) ?_)))
 have LBd:LB _ a _ (fun O=>none) H H3:=⟨upd H d2 (.m6 []),d2,[],rfl,⟨c7 ..,fun O O=>nofun,fun y o e=>Ot e,s.fresh (d2,_) (.head _)⟩,Nat.zero_le _,B⟩
 refine B.me rfl rfl (j9.mk (B.keep (Ot t1)) (B.keep (Ot t2)) rfl rfl (Pu hg rfl (Ym hg rfl ho (by lia)) (by lia) (fun M a b=>zJ r a b) (p:=m7 0) (by lia) LBd ⟨nofun,by show 0+(0+0)+_≤100;lia,by show _≤(res::rows.map fun r=>r.2.1).length;rw [List.length_cons,List.length_map];exact Nat.le_refl _,fun O O=>nofun⟩ (by lia) fun H4 B=>?_))
 obtain⟨R,D,d,e,lp,hd,B⟩:=B
 refine B.me rfl rfl (zq hg B gC (by lia) (by lia) fun H5 B=>B.me rfl rfl (zq hg B z1 (by lia) (by lia) fun H6 B=>B.me rfl rfl (bC hg B hz1 (by lia) fun H7 B=>B.me rfl rfl ?_)))
 exact Dc hg B T B.pos hz hS (lp.sub _ _ hP) (by lia) fun f b H' d=>h f b H' ⟨d.nd,d.lf,d.cl,d.z,d.ty,d.bk,fun y o e=>d.keep y o (lp.sub y o e),d.ob⟩
end
end Mine.Internal
namespace Mine.Internal
open PySem PySem.W PySem.Calls PyProof.Rows
theorem Cl.freeze{τ:T}{g:G τ}{n:Nat}{H:AH}{Q:PV→AH→Prop}{p:PV}{l:List PV}(h:Cl g n p l H fun q H' => ∃D acc,q = .obj D∧H D=none∧H' D=some (.list acc)∧Q (.lst acc) (del H' D)):Cl g n p l H Q:=fun A s v vs R S a b=>wpAny_mono (h A s v vs R S a b) (fun u s' z=>by
 obtain⟨q,H',r,S',C,D,acc,e,hD,hD',k⟩:=z
 subst e
 obtain⟨S2,C2,r2⟩:=yc S' hD' C (C.new D hD (by rw [hD'];exact nofun))
 cases r
 exact⟨_,_,r2,S2,C2,k⟩) fun O O x=>x
noncomputable abbrev nC(x c:Nat)(most:Int)(goal:Option Nat)(some:F):F:=.ring x c goal (.cons (.ch .ge c most (.cons (.brk x) .nil) .nil) (.cons (.upd .add c 1) some))
inductive Wy(o:List (Nat×Nat)):F→Prop
 |ret {p:Nat}:p<3→Wy o (.ret p)
 |brk {x:Nat}:x∈o.map Prod.fst→Wy o (.brk x)
 |cont {x:Nat}:x∈o.map Prod.fst→Wy o (.cont x)
inductive Gd(N:Nat):Nat→Nat→Bool→List (Nat×Nat)→F→Prop
 |nil {o:List (Nat×Nat)} {d:Nat}:Gd N d 0 false o .nil
 |cons {o:List (Nat×Nat)} {s r:F} {d k j:Nat}:Gd N d k true o s→Gd N d j false o r→Gd N d (k+j) false o (.cons s r)
 |jK {o:List (Nat×Nat)} {p d:Nat}:p<3→Gd N d 1 true o (.jK p)
 |upd {o:List (Nat×Nat)} {op:Op} {p d:Nat} {v:Int}:op.ar=true→p<3→0≤v∧v<256→Gd N d 1 true o (.upd op p v)
 |way {o:List (Nat×Nat)} {op:Op} {p d:Nat} {v:Int} {s:F}:op.ar=false→p<3→Wy o s→Gd N (d+1) 1 true o (.ch op p v (.cons s .nil) .nil)
 |ch {o:List (Nat×Nat)} {op:Op} {p d k j:Nat} {v:Int} {a b:F}:op.ar=false→p<3→Gd N d k false o a→Gd N d j false o b→Gd N (d+1) (k+j+1) true o (.ch op p v a b)
 |ring {o:List (Nat×Nat)} {x c d k:Nat} {most:Nat} {goal:Option Nat} {some:F}:(∀y∈o,y.1≠x∧y.2≠c)→3≤c→c<N→most≤3→(∀p,goal = .some p→p<3)→Gd N d k false ((x,c)::o) some→Gd N (d+1) (k+1) true o (nC x c most goal some)
theorem Wy.fok{k:Nat}{o:List (Nat×Nat)}{e:F}(h:Wy o e):zy k true (o.map Prod.fst) e:=by
 cases h with
 |ret=>exact .ret
 |brk h=>exact .brk h
 |cont h=>exact .cont h
theorem Gd.fok{N d k:Nat}{b:Bool}{o:List (Nat×Nat)}{e:F}(h:Gd N d k b o e):zy (N+1) b (o.map Prod.fst) e:=by
 induction h with
 |nil=>exact .nil
 |cons _ _ a b=>exact .cons a b
 |jK=>exact .jK
 |upd h=>exact .upd h
 |way h _ w=>exact .ch h (.cons w.fok .nil) .nil
 |ch h _ _ _ a b=>exact .ch h a b
 |@ring o x c d k most goal some h h3 hN _ _ _ ih=>
  refine .ring (fun z=>?_) (by lia) (.cons (.ch rfl (.cons (.brk (.head _)) .nil) .nil) (.cons (.upd rfl) ih))
  obtain⟨y,hy,e⟩:=List.mem_map.mp z
  exact(h y hy).1 e
theorem Wy.cost{o:List (Nat×Nat)}{e:F}(h:Wy o e):e.cost=205∧e.W=20∧e.fl=1:=by cases h<;>exact⟨rfl,rfl,rfl⟩
theorem Gd.sizes{N d k:Nat}{b:Bool}{o:List (Nat×Nat)}{e:F}(h:Gd N d k b o e):(e.cost≤336*k-if b then 11 else 0)∧(e.W≤22+20*d-if b then 1 else 0)∧(e.fl≤2+8*d-if b then 1 else 0)∧(b=true→0<k):=by
 induction h with
 |nil=>exact⟨Nat.le_refl _,by show 20≤_;simp;lia,by show 0≤_;exact Nat.zero_le _,nofun⟩
 |@cons o s r d k j _ _ hs hr=>
  obtain⟨a1,a2,a3,a4⟩:=hs
  obtain⟨b1,b2,b3,_⟩:=hr
  have a4:=a4 rfl
  simp only [if_true,if_false,Bool.false_eq_true] at *
  exact⟨by show s.cost+11+r.cost≤_;lia,by show max (s.W+1) r.W≤_;lia,by show max (s.fl+1) r.fl≤_;lia,nofun⟩
 |jK=>exact⟨by show 4≤_;simp,by show 20≤22+20*_-1;lia,by show 1≤2+8*_-1;lia,fun O=>Nat.succ_pos _⟩
 |upd=>exact⟨by show 13≤_;simp,by show 20≤22+20*_-1;lia,by show 1≤2+8*_-1;lia,fun O=>Nat.succ_pos _⟩
 |@way o op p d v s _ _ w=>
  obtain⟨w1,w2,w3⟩:=w.cost
  exact⟨by show s.cost+11+0+0+24≤_;rw [w1];simp,by show max (max (s.W+1) 20) 20+5≤_;rw [w2];simp;lia,by show 1+max (max (s.fl+1) 0) 0≤_;rw [w3];simp;lia,fun O=>Nat.succ_pos _⟩
 |@ch o op p d k j v a b _ _ _ _ ha hb=>
  obtain⟨a1,a2,a3,_⟩:=ha
  obtain⟨b1,b2,b3,_⟩:=hb
  simp only [if_true,if_false,Bool.false_eq_true] at *
  exact⟨by show a.cost+b.cost+24≤_;lia,by show max a.W b.W+5≤_;lia,by show 1+max a.fl b.fl≤_;lia,fun O=>Nat.succ_pos _⟩
 |@ring o x c d k most goal some _ _ _ _ _ _ ih=>
  obtain⟨a1,a2,a3,_⟩:=ih
  simp only [if_true,if_false,Bool.false_eq_true] at *
  exact⟨by show 205+11+0+0+24+11+(13+11+some.cost)+50≤_;lia,by show max (max (max (20+1) 20) 20+5+1) (max (20+1) some.W)+13≤_;lia,by show 4+max (1+max (max (1+1) 0) 0+1) (max (1+1) some.fl)≤_;lia,fun O=>Nat.succ_pos _⟩
noncomputable def F.most:F→Int
 |.cons (.ch _ _ m _ _) _=>m
 |_=>0
noncomputable def Dd(goal:Option Nat):PV:=match goal with
 |none=>.none
 |some p=>.int (p:Int)
noncomputable def F.raw:F→PV×List PV
 |.nil=>(.none,[])
 |.cons s r=>(.none,s.raw.1::r.raw.2)
 |.jK p=>(.tup [.str 242,.int (p:Int)],[])
 |.upd op p v=>(.tup [.str 241,.int (p:Int),.str op.s,.int v],[])
 |.ch op p v a b=>(.tup [.str 315,.tup [.int (p:Int),.str op.s,.int v],.lst a.raw.2,.lst b.raw.2],[])
 |.ring x c goal rows=>(.tup [.str 377,.int (x:Int),.int (c:Int),.int rows.most,.lst (rows.raw.2.drop 2),Dd goal],[])
 |.ret p=>(.tup [.str 247,.int (p:Int)],[])
 |.brk x=>(.tup [.str 245,.int (x:Int)],[])
 |.cont x=>(.tup [.str 246,.int (x:Int)],[])
noncomputable def F.len:F→Nat
 |.cons _ r=>r.len+1
 |_=>0
theorem Py{α:Type}{f w:α→PV}{x:Nat}{caps:List Nat}{we:Loc→AH→(PV→AH→Prop)→Prop}{m:Loc}{H:AH}{fin:List PV→AH→Prop}(xs:List α)(hl:xs.length≤sizeLine)
  (he:∀a∈xs,∀D o K,H D=none→K (w a) (upd H D o)→we (m5 x (f a) (Y4 caps m)) (upd H D o) K) (h:fin (xs.map w) H):pI m caps (.one x) (fun m H K=>K true H) we fin (.lst (xs.map f)) H:=fun D hD=>
 iT (ct:=.one x) (f:=f) (w:=w) (fun m' => ∀q,m5 x q m'=m5 x q (Y4 caps m)) (fun a=>m5 x (f a) (Y4 caps m)) xs (fun a O o m' hm=>⟨congrArg some (hm _),fun q=>iR ..⟩) (fun a ha o K k=>he a ha D o K hD k) (fun O=>rfl) [] _ (fun O=>rfl) (by rw [List.length_nil,Nat.zero_add];exact hl) (by
  rw [List.nil_append,bV hD];exact h)
section
variable{P:Params}{g:G (o9 P).T}(hg:v9 g){n w:Nat}{m:Loc}{H:AH}{Q:PV→AH→Prop}
include hg
theorem V6{i:Nat}(hn:1≤n)(h:Q (iy i) H):Cl g n (.obj mD) [.int (i:Int)] H Q:=(vY P).cl hg rfl hn fun n O=>h
theorem V7{v:Int}(hn:1≤n)(h:Q (aA v) H):Cl g n (.obj mz) [.int v] H Q:=(vX P).cl hg rfl hn fun n O=>h
noncomputable def VB(g:G (o9 P).T)(e:F)(w:Nat):Prop := ∃xs:List (PV×PV),xs.map Prod.fst=e.raw.2∧xs.map (fun x=>DK x.2)=e.td.2∧xs.length=e.len∧∀x∈xs,∀{n:Nat} {H:AH} {Q:PV→AH→Prop},w≤n→Q x.2 H→Cl g n (.obj Q7) [x.1] H Q
theorem iY{e:F}{k tl:PV}(t:VB g e w)(hl:e.len≤5000)(hn:w+1≤n)(h:Q (.tup [.str 78,k,.int 0,.tup e.td.2,tl]) H):Cl g n (.obj pP) [.lst e.raw.2,k,tl] H Q:=by
 obtain⟨xs,e1,e2,e3,hx⟩:=t
 refine(yS P).cl hg rfl hn fun n hn=>?_
 rw [← e1]
 have hz:xs.length≤sizeLine:=by rw [e3];exact Nat.le_trans hl (aj rfl)
 exact Py (f:=Prod.fst) (w:=fun x=>DK x.2) xs hz (fun x hx' D o K O k=>hx x hx' hn k) (gJ (.inr rfl) (by rw [List.length_map];exact hz) (by rw [e2];exact h))
end
end Mine.Internal
namespace Mine.Internal
open PySem PySem.W PySem.Calls PyProof.Rows
theorem F.bD(e:F):e.len≤e.cost:=by
 induction e with
 |cons s r _ ih=>show r.len+1≤s.cost+11+r.cost;lia
 |_=>exact Nat.zero_le _
theorem K3{p:PV}{l:List PV}(h:p.isD=true)(k:PV.W2 l=true):PV.W2 (p::l)=true:=Bool.and_eq_true_iff.mpr ⟨h,k⟩
theorem Kc{l:List PV}:∀(k:Nat),PV.W2 l=true→PV.W2 (l.drop k)=true:=by
 induction l with
 |nil=>exact fun k O=>by rw [List.drop_nil];rfl
 |cons p l ih=>
  intro k h
  cases k with
  |zero=>exact h
  |succ k=>exact ih k (Bool.and_eq_true_iff.mp h).2
theorem F.ae2(e:F):e.raw.1.isD=true∧PV.W2 e.raw.2=true:=by
 induction e with
 |cons s r hs hr=>exact⟨rfl,K3 hs.1 hr.2⟩
 |ch op p v a b ha hb=>exact⟨show PV.W2 [.str 315,.tup [.int (p:Int),.str op.s,.int v],.lst a.raw.2,.lst b.raw.2]=true from K3 rfl (K3 rfl (K3 (p:=.lst a.raw.2) ha.2 (K3 (p:=.lst b.raw.2) hb.2 rfl))),rfl⟩
 |ring x c goal rows ih=>exact⟨show PV.W2 [.str 377,.int (x:Int),.int (c:Int),.int rows.most,.lst (rows.raw.2.drop 2),Dd goal]=true from K3 rfl (K3 rfl (K3 rfl (K3 rfl (K3 (p:=.lst (rows.raw.2.drop 2)) (Kc 2 ih.2) (K3 (p:=Dd goal) (by cases goal<;>rfl) rfl))))),rfl⟩
 |_=>exact⟨rfl,rfl⟩
theorem ae3{τ:T}{g:G τ}{l:List PV}{H:AH}{C:Bool→Prop}(d:PV.W2 l=true)(h:C l.isEmpty):rP .Eq (.lst l) (.lst []) H C:=by
 cases l with
 |nil=>exact h
 |cons p l=>exact cB (Bool.and_eq_true_iff.mpr ⟨d,rfl⟩) h
theorem Gd.shape{N d k:Nat}{o:List (Nat×Nat)}{e:F}(h:Gd N d k false o e):e = .nil∨∃s r,e = .cons s r:=by
 cases h with
 |nil=>exact .inl rfl
 |cons=>exact .inr ⟨_,_,rfl⟩
section
variable{P:Params}{g:G (o9 P).T}(hg:v9 g){n w:Nat}{m:Loc}{H:AH}{Q:PV→AH→Prop}
include hg
theorem VB.one{e:F}(h:∀{n:Nat} {H:AH} {Q:PV→AH→Prop},w≤n→Q e.td.1 H→Cl g n (.obj Q7) [e.raw.1] H Q):VB g (.cons e .nil) w:=⟨[(e.raw.1,e.td.1)],rfl,rfl,rfl,fun x hx=>by
 cases List.mem_singleton.mp hx
 exact h⟩
theorem xG{x:Nat}{n:Nat}{H:AH}{Q:PV→AH→Prop}(hn:20≤n)(h:Q (F.brk x).td.1 H):Cl g n (.obj Q7) [(F.brk x).raw.1] H Q:=
 (I6 P).cl hg rfl (k:=10) (leB hn rfl) fun n hn=>V7 hg (leB hn rfl) h
noncomputable abbrev ae4(x c:Nat)(most:Int)(goal:Option Nat)(some:F):PV:=treeT [.tup [.str 286,.int 0,fZ c,aA 0],DK (Cy goal (ur x (DK (.tup [.str 251,j6,.int 0,Oi .ge c most,treeT [DK (F.brk x).td.1],.none])::DK (.tup [.str 241,j6,.int 0,.str Op.add.s,iy c,aA 1])::some.td.2)))]
set_option maxHeartbeats 4000000 in
theorem Ga{x c:Nat}{most:Int}{goal:Option Nat}{e:F}(t:VB g e w)(hl:e.len≤5000)(hw:20≤w)(hn:w+2≤n)(h:Q (ae4 x c most goal e) H):Cl g n (.obj pQ) [.tup [.str 377,.int (x:Int),.int (c:Int),.int most,.lst e.raw.2,Dd goal]] H Q:=by
 refine(yU P).cl hg rfl (k:=w+1) hn fun n hn=>?_
 have nn:21≤n:=Nat.le_trans (Nat.succ_le_succ hw) hn
 have e0:(F.cons (.brk x) .nil).td.2=[DK (F.brk x).td.1]:=rfl
 refine V6 hg (leB nn rfl) (V7 hg (leB nn rfl) (iY hg (e:=.cons (.brk x) .nil) (w:=20) (VB.one hg fun hn h=>xG hg hn h) (Nat.le_of_ble_eq_true rfl) nn ?_))
 rw [e0]
 refine V6 hg (leB nn rfl) (V7 hg (leB nn rfl) (gJ (.inr rfl) (aj rfl) (iY hg t hl hn ?_)))
 have hs:2+e.td.2.length≤sizeLine:=by
  obtain⟨xs,_,e2,e3,_⟩:=t
  rw [← e2,List.length_map,e3]
  exact Nat.le_trans (Nat.add_le_add_left hl 2) (aj rfl)
 refine Hu hs ?_
 cases goal with
 |none=>exact V7 hg (leB nn rfl) h
 |some p=>
  exact V6 hg (leB nn rfl) (V7 hg (leB nn rfl) h)
theorem Df{N d k:Nat}{b:Bool}{o:List (Nat×Nat)}{e:F}(h:Gd N d k b o e):e.cost≤5000→(b=true→∀{n:Nat} {H:AH} {Q:PV→AH→Prop},e.W≤n→Q e.td.1 H→Cl g n (.obj Q7) [e.raw.1] H Q)∧(b=false→VB g e e.W):=by
 induction h with
 |nil=>exact fun O=>⟨nofun,fun O=>⟨[],rfl,rfl,rfl,fun x hx=>nomatch hx⟩⟩
 |@cons o s r d k j _ _ hs hr=>
  intro hc
  have hc:s.cost+11+r.cost≤5000:=hc
  refine⟨nofun,fun O=>?_⟩
  obtain⟨xs,e1,e2,e3,hx⟩:=(hr (by lia)).2 rfl
  refine⟨(s.raw.1,s.td.1)::xs,congrArg (s.raw.1 :: ·) e1,congrArg (DK s.td.1 :: ·) e2,congrArg (·+ 1) e3,fun x hx' n H Q hn h=>?_⟩
  have hn:max (s.W+1) r.W≤n:=hn
  rcases List.mem_cons.mp hx' with rfl|hx'
  ·exact(hs (by lia)).1 rfl (by lia) h
  ·exact hx x hx' (Nat.le_trans (Nat.le_max_right ..) hn) h
 |jK=>exact fun O=>⟨fun O n H Q hn h=>(I6 P).cl hg rfl (k:=10) (leB hn rfl) fun n hn=>V6 hg (leB hn rfl) h,nofun⟩
 |upd=>exact fun O=>⟨fun O n H Q hn h=>(I6 P).cl hg rfl (k:=10) (leB hn rfl) fun n hn=>V6 hg (leB hn rfl) (V7 hg (leB hn rfl) h),nofun⟩
 |@ch o op p d k j v a b _ _ _ gb ha hb=>
  intro hc
  have hc:a.cost+b.cost+24≤5000:=hc
  refine⟨fun O n H Q hn h=>?_,nofun⟩
  have hn:max a.W b.W+5≤n:=hn
  have la:=a.bD
  have lb:=b.bD
  refine(I6 P).cl hg rfl (k:=max a.W b.W+4) hn fun n hn=>(iw P).cl hg rfl (k:=max a.W b.W+3) hn fun n hn=>?_
  have w20:=a.w20
  refine V6 hg (by lia) (V7 hg (by lia) (iY hg ((ha (by lia)).2 rfl) (by lia) (by lia) (ae3 (g:=g) b.ae2.2 ?_)))
  rcases gb.shape with rfl|⟨s,r,rfl⟩
  ·exact h
  ·exact iY hg ((hb (by lia)).2 rfl) (by lia) (by lia) h
 |@ring o x c d k most goal some _ _ _ _ _ _ ih=>
  intro hc
  refine⟨fun O n H Q hn h=>?_,nofun⟩
  have hn:max (max (max (20+1) 20) 20+5+1) (max (20+1) some.W)+13≤n:=hn
  have hc:205+11+0+0+24+11+(13+11+some.cost)+50≤5000:=hc
  have ls:=some.bD
  exact(I6 P).cl hg rfl (k:=some.W+12) (by lia) fun n hn=>Ga hg (most:=most) (goal:=goal) ((ih (by lia)).2 rfl) (by lia) some.w20 (by lia) h
 |@way o op p d v s _ _ w=>
  refine fun O=>⟨fun O n H Q hn h=>?_,nofun⟩
  have one:∀{n:Nat} {H:AH} {Q:PV→AH→Prop},20≤n→Q s.td.1 H→Cl g n (.obj Q7) [s.raw.1] H Q:=fun hm h=>by
   cases w with
   |ret=>exact(I6 P).cl hg rfl (k:=10) (leB hm rfl) fun n hn=>V6 hg (leB hn rfl) h
   |brk=>exact xG hg hm h
   |cont=>exact(I6 P).cl hg rfl (k:=10) (leB hm rfl) fun n hn=>h
  have t:VB g (.cons s .nil) 20:=VB.one hg one
  have hn:25≤n:=Nat.le_trans (Nat.add_le_add_right (Nat.le_max_right (max (s.W+1) 20) 20) 5) hn
  exact(I6 P).cl hg rfl (k:=24) hn fun n hn=>(iw P).cl hg rfl (k:=23) hn fun n hn=>V6 hg (leB hn rfl) (V7 hg (leB hn rfl) (iY hg t (Nat.le_of_ble_eq_true rfl) (leB hn rfl) h))
end
end Mine.Internal
namespace Mine.Internal
open PySem PySem.W PySem.Calls PyProof.Rows
noncomputable def SrcAt(a:Addr)(H:AH):Prop := ∃x y:Int,H a=some (.list [.int x,.int y])∧0≤y∧y<2147483647
structure cj(a:Addr)(H H':AH):Prop where
 at_:SrcAt a H'
 keep:∀b,b≠a→H' b=H b
theorem cj.trans{a:Addr}{H H' xK:AH}(s:cj a H H')(t:cj a H' xK):cj a H xK:=⟨t.at_,fun b ne=>(t.keep b ne).trans (s.keep b ne)⟩
theorem cj.put{a:Addr}{H:AH}{x y:Int}(h:0≤y∧y<2147483647):cj a H (upd H a (.list [.int x,.int y])):=⟨⟨x,y,c7 ..,h⟩,fun b ne=>d8 ne⟩
theorem fm{x:Int}{k:Nat}(h:0<k):∃d:Nat,d<k∧x.fmod (k:Int)=(d:Int):=by
 have a:=Int.fmod_nonneg_of_pos x (b:=(k:Int)) (by omega)
 have b:=Int.fmod_lt_of_pos x (b:=(k:Int)) (by exact Int.ofNat_lt.mpr ‹_›)
 exact⟨(x.fmod k).toNat,by omega,by omega⟩
theorem ae5{a b:Int}(h:b≠0):nU .Mod a b=some (a.fmod b):=if_neg h
theorem aq3{a b:Int}(h:b≠0∧b.natAbs<1073741824):nU .FloorDiv a b=some (a.fdiv b):=if_pos h
theorem Pz{a b:Int}(h:a.natAbs<2 ^ 62∨b.natAbs<2 ^ 62):nU .Mult a b=some (a*b):=if_pos h
section
variable{P:Params}{g:G (o9 P).T}(hg:v9 g){n w:Nat}{m:Loc}{H:AH}{Q:PV→AH→Prop}{src:Addr}
include hg
theorem I8{top:Nat}(S:SrcAt src H)(ht:0<top)(ht2:top<1073741824)(hn:1≤n)(h:∀(d:Nat) H',d<top→cj src H H'→Q (.int (d:Int)) H'):Cl g n (.obj pN) [.obj src,.int (top:Int)] H Q:=by
 obtain⟨x,y,e,y0,y1⟩:=S
 refine(yR P).cl hg rfl hn fun n O=>?_
 have t0:¬((top:Int)=0):=by lia
 refine V0 (i:=0) e (by decide) rfl ?_
 by_cases hx:0<x
 ·obtain⟨d,hd,ed⟩:=fm (x:=x) ht
  refine cB (decide_eq_true hx) (V0 (i:=0) e (by decide) rfl (iJ (d7 (ae5 t0) ?_)))
  refine V0 (i:=0) e (by decide) rfl (d7 (aq3 ⟨t0,by show((top:Int)).natAbs<_;assumption⟩) (set_list (i:=0) e (by show 0<2;decide) (aj rfl) ?_))
  show Q (.int (x.fmod top)) _
  rw [ed]
  exact h d _ hd (.put ⟨y0,y1⟩)
 ·refine xH (decide_eq_false hx) (V0 (i:=1) e (by decide) rfl (d7 (Pz (b:=39373) (.inr (by decide))) (iJ (set_list (i:=1) e (by show 1<2;decide) (aj rfl) ?_))))
  obtain⟨y',hy,ey⟩:=fm (x:=y*39373+7) (k:=2147483647) (by decide)
  have e2:upd H src (.list [.int x,.int (y':Int)]) src=some (.list [.int x,.int (y':Int)]):=c7 ..
  show I9 g n _ _ (upd H src (.list [.int x,.int ((y*39373+7).fmod 2147483647)])) _
  rw [show(y*39373+7).fmod 2147483647=(y':Int) from ey]
  refine V0 (i:=1) e2 (by decide) rfl (V0 (i:=1) e2 (by decide) rfl (d7 (Pz (.inl (by exact Nat.le_trans ‹_› (by decide)))) (iJ (d7 (ae5 t0) ?_))))
  obtain⟨d,hd,ed⟩:=fm (x:=((y':Int)*(y':Int)).fmod 2147483629 |>.fdiv 32) ht
  show Q (.int ((((y':Int)*(y':Int)).fmod 2147483629).fdiv 32 |>.fmod (top:Int))) _
  rw [ed]
  exact h d _ hd (.put (by lia))
end
end Mine.Internal
namespace Mine.Internal
open PySem PySem.W PySem.Calls PyProof.Rows
section
variable{P:Params}{g:G (o9 P).T}(hg:v9 g){n w:Nat}{m:Loc}{H:AH}{Q:PV→AH→Prop}{src:Addr}
theorem Kd(b:Bool):(if b then 1 else 0:Int).natAbs<2 ^ 62:=by cases b<;>decide
include hg
theorem TX{xs:List Int}(hx:xs.length≤63)(hn:1≤n)(h:∀a o,H a=none→cj a H (upd H a o)→Q (.obj a) (upd H a o)):Cl g n (.obj pL) [.lst (xs.map .int)] H Q:=by
 refine(yQ P).cl hg rfl hn fun n O=>?_
 have fin:∀c:Int,I9 g n [.asg (.name 306) (.call 307 [.call 32 [.loc 305],.call 32 [.bin .Sub (.neg (.int 1)) (.loc 305)]]),.ret (.bH [.bin .Mult (.loc 306) (.call 32 [.cmp .GtE (.loc 306) (.bin .Pow (.int 10) (.int 18))]),.bin .Mod (.call 32 [.bin .Mult (.bin .Add (.bin .Mod (.loc 306) (.int 2147483629)) (.int 17)) (.int 48271)]) (.int 2147483647)])] [(304,.lst (xs.map .int)),(305,.int c)] H (Ac Q):=fun c=>by
  refine iJ (iJ (Ww ?_))
  generalize (if -1-c > c then -1-c else c)=L
  refine Rh (d7 (Pz (.inr (Kd _))) (d7 (Pz (b:=48271) (.inr (by decide))) (iJ fun a ha=>?_)))
  obtain⟨y,hy,ey⟩:=fm (x:=(L.fmod 2147483629+17)*48271) (k:=2147483647) (by decide)
  have z:=h a (.list [.int (L*(if(decide ((10:Int) ^ 18≤L)) then 1 else 0)),.int (y:Int)]) ha (.put (by omega))
  rw [← ey] at z
  exact z
 cases xs with
 |nil=>exact T4 (k:=0) rfl (by decide) (fin 0)
 |cons x xs=>exact T4 (k:=xs.length+1) (congrArg (fun k=>some k) (congrArg (·+ 1) (List.length_map _))) (by rw [List.length_cons] at hx;exact Nat.lt_of_le_of_lt ‹_› (by decide)) (cB (decide_eq_true (by show(0:Int)<((xs.length+1:Nat):Int);lia)) (fin x))
end
end Mine.Internal
namespace Mine.Internal
open PySem PySem.W PySem.Calls PyProof.Rows
structure Dw(src bk ob:Addr)(m ctr:Nat)(o:List (Nat×Nat))(H:AH):Prop where
 dX:SrcAt src H
 Dg:H bk=some (.u0 [(75,.int (ctr:Int)),(153,.int (m:Int)),(379,.obj ob)])
 QJ:H ob=some (.list (o.reverse.map fun y=>.int (y.1:Int)))
 n1:src≠bk
 n2:src≠ob
 n3:bk≠ob
 lo:3≤ctr∧∀y∈o,y.2<ctr∧y.1=30+y.2
noncomputable def cR(src bk ob:Addr)(H H':AH):Prop := ∀b,b≠src→b≠bk→b≠ob→H' b=H b
section
variable{P:Params}{g:G (o9 P).T}(hg:v9 g){n w:Nat}{H H':AH}{Q:PV→AH→Prop}{src bk ob:Addr}{m ctr:Nat}{o:List (Nat×Nat)}
theorem cR.trans{xK:AH}(a:cR src bk ob H H')(b:cR src bk ob H' xK):cR src bk ob H xK:=fun x h1 h2 h3=>(b x h1 h2 h3).trans (a x h1 h2 h3)
theorem cj.dw(s:cj src H H'):cR src bk ob H H':=fun b h O O=>s.keep b h
theorem Dw.step(d:Dw src bk ob m ctr o H)(s:cj src H H'):Dw src bk ob m ctr o H':=⟨s.at_,(s.keep _ d.n1.symm).trans d.Dg,(s.keep _ d.n2.symm).trans d.QJ,d.n1,d.n2,d.n3,d.lo⟩
include hg
theorem iB{l:List PV}(S:SrcAt src H)(h0:0<l.length)(h1:l.length<1000)(hn:2≤n)(h:∀x∈l,∀H',cj src H H'→Q x H'):Cl g n (.obj jV) [.obj src,.lst l] H Q:=by
 refine(pW P).cl hg rfl hn fun n hn=>T4 (k:=l.length) rfl (by exact Nat.le_trans ‹_› (by decide)) (I8 hg S h0 (by exact Nat.le_trans ‹_› (by decide)) hn fun d H' hd s=>?_)
 exact qU rfl ((qR (by lia)).trans (List.getElem?_eq_getElem hd)) (h _ (List.getElem_mem hd) H' s)
theorem uH(S:SrcAt src H)(hn:3≤n)(h:∀(op:Op) (p v:Nat) H',op.ar=false→p<3→cj src H H'→Q (.tup [.int (p:Int),.str op.s,.int (v:Int)]) H'):Cl g n (.obj mq) [.obj src] H Q:=by
 refine(vW P).cl hg rfl hn fun n hn=>I8 hg S (top:=3) (by decide) (by decide) (leB hn rfl) fun p H1 hp s=>iB hg s.at_ (by decide) (by decide) hn fun x hx H2 t=>I8 hg t.at_ (top:=6) (by decide) (by decide) (leB hn rfl) fun v H3 hv u=>?_
 have st:=(s.trans t).trans u
 simp only [List.mem_cons,List.not_mem_nil,or_false] at hx
 rcases hx with rfl|rfl|rfl
 ·exact h .lt p v H3 rfl hp st
 ·exact h .ge p v H3 rfl hp st
 ·exact h .eq p v H3 rfl hp st
end
end Mine.Internal
namespace Mine.Internal
open PySem PySem.W PySem.Calls PyProof.Rows
noncomputable def F.YX:List F→F
 | []=>.nil
 |s::l=>.cons s (F.YX l)
theorem TY(l:List F):(F.YX l).raw.2=l.map fun s=>s.raw.1:=by
 induction l with
 |nil=>rfl
 |cons s l ih=>exact congrArg (s.raw.1 :: ·) ih
theorem PB{N d j:Nat}{o:List (Nat×Nat)}{s:F}(h:Gd N d j true o s)(l:List F):∀k,Gd N d k false o (F.YX l)→Gd N d (k+j) false o (F.YX (l++[s])):=by
 induction l with
 |nil=>
  intro k g
  cases g
  have z:Gd N d (j+0) false o (.cons s .nil):=.cons h .nil
  rw [Nat.add_comm] at z
  exact z
 |cons a l ih=>
  intro k g
  cases g with
  |cons g1 g2=>rw [Nat.add_assoc];exact .cons g1 (ih _ g2)
section
variable{P:Params}{g:G (o9 P).T}(hg:v9 g){w:Nat}{src bk ob:Addr}
noncomputable def Dh(g:G (o9 P).T)(src bk ob:Addr)(d w:Nat):Prop := ∀{n:Nat} {H:AH} {Q:PV→AH→Prop} {m ctr:Nat} {o:List (Nat×Nat)},w≤n→o.length+d≤10→Dw src bk ob m ctr o H→(∀e k m' S7 H',(∀N,S7≤N→Gd N d k false o e)→m=m'+k→ctr≤S7∧S7≤ctr+k→Dw src bk ob m' S7 o H'→cR src bk ob H H'→Q (.lst e.raw.2) H')→
 Cl g n (.obj V4) [.obj src,.obj bk,.int (d:Int)] H Q
noncomputable def Io(g:G (o9 P).T)(src bk ob:Addr)(d w:Nat):Prop := ∀{n:Nat} {H:AH} {Q:PV→AH→Prop} {m ctr:Nat} {o:List (Nat×Nat)},w≤n→o.length+d≤10→Dw src bk ob m ctr o H→(∀e k m' S7 H',(∀N,S7≤N→Gd N d k true o e)→m+1=m'+k→ctr≤S7∧S7≤ctr+k→Dw src bk ob m' S7 o H'→cR src bk ob H H'→Q e.raw.1 H')→
 Cl g n (.obj dD) [.obj src,.obj bk,.int (d:Int)] H Q
theorem Dw.many{m m' ctr:Nat}{o:List (Nat×Nat)}{H:AH}(d:Dw src bk ob m ctr o H):Dw src bk ob m' ctr o (upd H bk (.u0 [(75,.int (ctr:Int)),(153,.int (m':Int)),(379,.obj ob)])):=
 ⟨d.dX.imp fun x z=>z.imp fun y z=>⟨(d8 d.n1).trans z.1,z.2⟩,c7 ..,(d8 d.n3.symm).trans d.QJ,d.n1,d.n2,d.n3,d.lo⟩
inductive BlI(src bk ob D:Addr)(d m ctr:Nat)(o:List (Nat×Nat))(H0:AH)(t:Nat)(m':Loc)(H:AH):Prop
 |mk (l:List F) (k m1 zL:Nat) (hm:m'=[(308,.obj src),(374,.obj bk),(313,.int (d:Int)),(83,.obj D)]∨∃q,m'=[(308,.obj src),(374,.obj bk),(313,.int (d:Int)),(83,.obj D),(359,q)]) (hl:l.length≤t) (eD:H D=some (.list (l.map fun s=>s.raw.1))) (gd:∀N,zL≤N→Gd N d k false o (F.YX l)) (e:m=m1+k) (hc:ctr≤zL∧zL≤ctr+k) (dw:Dw src bk ob m1 zL o H) (to:∀b,b≠src→b≠bk→b≠ob→b≠D→H b=H0 b)
include hg
theorem Ke{n d m ctr b:Nat}{o:List (Nat×Nat)}{H0:AH}{D:Addr}{l0:List PV}{Q':Out→Loc→AH→Prop}(hs:Io g src bk ob d w)(hn:w≤n)(ho:o.length+d≤10)(nD:D≠src∧D≠bk∧D≠ob)(fin:∀t m' H,BlI src bk ob D d m ctr o H0 t m' H→Q' .next m' H):∀(c i:Nat) (m':Loc) (H:AH),i+c≤1000→BlI src bk ob D d m ctr o H0 i m' H→
  DG (fun q m H Q=>(Tg.name 359).w g n q m H Q) (fun m H Q=>I9 g n [.iff (.cmp .Gt (.sub (.loc 374) (.str 153)) (.int 0)) [.asg (.sub (.loc 374) (.str 153)) (.bin .Sub (.sub (.loc 374) (.str 153)) (.int 1)),.expr (.K4 (.loc 83) "list" 67 "list.append" [.call 373 [.loc 308,.loc 374,.loc 313]])] []] m H Q) (.rng 0 (b:Int)) l0 Q' (H9 (i:Int) c) m' H:=by
 intro c
 induction c with
 |zero=>exact fun i m' H O h=>fin i m' H h
 |succ c ih=>
  intro i m' H hi h
  obtain⟨l,k,m1,zL,hm,hl,eD,gd,e,hc,dw,to⟩:=h
  have m2:m5 359 (.int (i:Int)) m'=[(308,.obj src),(374,.obj bk),(313,.int (d:Int)),(83,.obj D),(359,.int (i:Int))]:=by
   rcases hm with rfl|⟨q,rfl⟩<;>rfl
  show I9 g n _ (m5 359 (.int (i:Int)) m') _ _
  rw [m2]
  refine o7 (r:=.int (m1:Int)) dw.Dg rfl ?_
  cases m1 with
  |zero=>exact(ih (i+1) _ H (by lia) ⟨l,k,0,zL,.inr ⟨_,rfl⟩,Nat.le_succ_of_le hl,eD,gd,e,hc,dw,to⟩)
  |succ m1=>
   have z:=dw.many (m':=m1)
   refine cB (decide_eq_true (by show(0:Int)<((m1+1:Nat):Int);lia)) (o7 dw.Dg rfl (wR dw.Dg (aj rfl) ?_))
   have e1:((m1+1:Nat):Int)-1=(m1:Int):=by lia
   rw [e1]
   have eD':upd H bk (.u0 [(75,.int (zL:Int)),(153,.int (m1:Int)),(379,.obj ob)]) D=some (.list (l.map fun s=>s.raw.1)):=(d8 nD.2.1).trans eD
   refine z7 eD' (hs hn ho z fun e' k' m2 aq4 H2 gd' h1 h2 d2 t2=>?_)
   have eD2:=(t2 D nD.1 nD.2.1 nD.2.2).trans eD'
   refine w5 eD2 (by rw [List.length_map];exact Nat.le_trans hl (Nat.le_trans (by lia) (aj (k:=1000) rfl))) (ih (i+1) _ _ (by lia) ⟨l++[e'],k+k',m2,aq4,.inr ⟨_,rfl⟩,by rw [List.length_append];exact Nat.succ_le_succ hl,by rw [c7,List.map_append];rfl,fun N hN=>PB (gd' N hN) l k (gd N (Nat.le_trans h2.1 hN)),by lia,⟨Nat.le_trans hc.1 h2.1,by lia⟩,?_,fun b h1 h2 h3 h4=>(d8 h4).trans ((t2 b h1 h2 h3).trans ((d8 h2).trans (to b h1 h2 h3 h4)))⟩)
   exact⟨d2.dX.imp fun x z=>z.imp fun y z=>⟨(d8 nD.1.symm).trans z.1,z.2⟩,(d8 nD.2.1.symm).trans d2.Dg,(d8 nD.2.2.symm).trans d2.QJ,d2.n1,d2.n2,d2.n3,d2.lo⟩
theorem uJ{d:Nat}(hs:Io g src bk ob d w)(hw:1≤w):Dh g src bk ob d (w+1):=by
 intro n H Q m ctr o hn ho dw h
 refine Cl.freeze ((vV P).cl hg rfl hn fun n hn=>fun D hD=>?_)
 have ne:∀{b x},H b=some x→D≠b:=fun e z=>by rw [← z,hD] at e;cases e
 obtain⟨x,y,es,ey⟩:=dw.dX
 have nD:D≠src∧D≠bk∧D≠ob:=⟨ne es,ne dw.Dg,ne dw.QJ⟩
 have dw1:Dw src bk ob m ctr o (upd H D (.list [])):=⟨⟨x,y,(d8 nD.1.symm).trans es,ey⟩,(d8 nD.2.1.symm).trans dw.Dg,(d8 nD.2.2.symm).trans dw.QJ,dw.n1,dw.n2,dw.n3,dw.lo⟩
 refine I8 hg dw1.dX (top:=3) (by decide) (by decide) (Nat.le_trans hw hn) fun t H2 ht s=>cV ?_
 refine And.intro ⟨by decide,by decide,by lia,by lia⟩ (d7 (x:=H9 ((0:Nat):Int) (1+t)) (congrArg (fun k=>some (H9 0 k)) (by lia)) ?_)
 refine Ke hg (b:=1+t) (m:=m) (ctr:=ctr) (o:=o) (H0:=H) hs hn ho nD (fun t' m' H3 z=>?_) (1+t) 0 _ _ (by lia) ⟨[],0,m,ctr,.inl rfl,Nat.le_refl _,(s.keep D nD.1).trans (c7 ..),fun N O=>.nil,rfl,⟨Nat.le_refl _,Nat.le_refl _⟩,dw1.step s,fun b h1 O O h4=>(s.keep b h1).trans (d8 h4)⟩
 obtain⟨l,k,m1,zL,hm,_,eD,gd,e,hc,d3,to⟩:=z
 have lf:m'.lookup 83=some (.obj D):=by rcases hm with rfl|⟨q,rfl⟩<;>rfl
 refine d7 lf ⟨D,_,rfl,hD,eD,?_⟩
 have z:=h (F.YX l) k m1 zL (del H3 D) gd e hc ⟨d3.dX.imp fun x z=>z.imp fun y z=>⟨(jQ nD.1.symm).trans z.1,z.2⟩,(jQ nD.2.1.symm).trans d3.Dg,(jQ nD.2.2.symm).trans d3.QJ,d3.n1,d3.n2,d3.n3,d3.lo⟩ fun b h1 h2 h3=>by
  by_cases q:b=D
  ·rw [q,Av,hD]
  ·rw [jQ q];exact to b h1 h2 h3 q
 rw [TY] at z
 exact z
end
end Mine.Internal
namespace Mine.Internal
open PySem PySem.W PySem.Calls PyProof.Rows
section
variable{P:Params}{g:G (o9 P).T}(hg:v9 g){w:Nat}{src bk ob:Addr}
include hg
theorem uK{d p m ctr:Nat}{o:List (Nat×Nat)}{H H1:AH}{Q:PV→AH→Prop}(hp:p<3)(dw:Dw src bk ob m ctr o H1)(to:cR src bk ob H H1)(h:∀e k m' S7 H',(∀N,S7≤N→Gd N d k true o e)→m+1=m'+k→ctr≤S7∧S7≤ctr+k→Dw src bk ob m' S7 o H'→cR src bk ob H H'→Q e.raw.1 H'):Q (.tup [.str 242,.int (p:Int)]) H1:=
 h (.jK p) 1 m ctr H1 (fun N O=>.jK hp) rfl ⟨Nat.le_refl _,Nat.le_add_right ..⟩ dw to
theorem dY{d p m ctr v:Nat}{x:PV}{o:List (Nat×Nat)}{H H3:AH}{Q:PV→AH→Prop}(hp:p<3)(hx:x∈[PV.str 321,.str 321,.str 260,.str 322])(hv:v<4)(dw:Dw src bk ob m ctr o H3)(to:cR src bk ob H H3)(h:∀e k m' S7 H',(∀N,S7≤N→Gd N d k true o e)→m+1=m'+k→ctr≤S7∧S7≤ctr+k→Dw src bk ob m' S7 o H'→cR src bk ob H H'→Q e.raw.1 H'):Q (.tup [.str 241,.int (p:Int),x,.int (1+(v:Int))]) H3:=by
 have z:∀op:Op,op.ar=true→Q (.tup [.str 241,.int (p:Int),.str op.s,.int (1+(v:Int))]) H3:=fun op ho=>h (.upd op p (1+(v:Int))) 1 m ctr H3 (fun N O=>.upd ho hp (by lia)) rfl ⟨Nat.le_refl _,Nat.le_add_right ..⟩ dw to
 simp only [List.mem_cons,List.not_mem_nil,or_false] at hx
 rcases hx with rfl|rfl|rfl|rfl
 ·exact z .add rfl
 ·exact z .add rfl
 ·exact z .sub rfl
 ·exact z .mul rfl
noncomputable abbrev ae6:List S:=[.swap [375,301] [.sub (.loc 374) (.str 75),.bin .Add (.int 30) (.sub (.loc 374) (.str 75))],.asg (.sub (.loc 374) (.str 75)) (.bin .Add (.sub (.loc 374) (.str 75)) (.int 1)),.expr (.K4 (.sub (.loc 374) (.str 379)) "list" 67 "list.append" [.loc 301]),.asg (.name 26) (.call 376 [.loc 308,.loc 374,.bin .Sub (.loc 313) (.int 1)]),.expr (.K4 (.sub (.loc 374) (.str 379)) "list" 65 "list.pop" []),.ret (.tup [.str 377,.loc 301,.loc 375,.bin .Add (.int 1) (.call 312 [.loc 308,.int 3]),.loc 26,.jt (.cmp .Eq (.call 312 [.loc 308,.int 2]) (.int 0)) (.loc 111) .none])]
theorem Kf{n d p m ctr j:Nat}{o:List (Nat×Nat)}{H H1:AH}{Q:PV→AH→Prop}(hb:Dh g src bk ob d w)(hw:3≤w)(hn:w≤n)(hp:p<3)(ho:o.length+(d+1)≤10)(dw:Dw src bk ob m ctr o H1)(to:cR src bk ob H H1)(h:∀e k m' S7 H',(∀N,S7≤N→Gd N (d+1) k true o e)→m+1=m'+k→ctr≤S7∧S7≤ctr+k→Dw src bk ob m' S7 o H'→cR src bk ob H H'→Q e.raw.1 H'):
  I9 g n ae6 [(308,.obj src),(374,.obj bk),(313,.int ((d+1:Nat):Int)),(111,.int (p:Int)),(314,.int (j:Int))] H1 (Ac Q):=by
 refine o7 (r:=.int (ctr:Int)) dw.Dg rfl (o7 (r:=.int (ctr:Int)) dw.Dg rfl ?_)
 refine o7 (r:=.int (ctr:Int)) dw.Dg rfl (wR dw.Dg (aj rfl) ?_)
 have eb:upd H1 bk (.u0 [(75,.int ((ctr+1:Nat):Int)),(153,.int (m:Int)),(379,.obj ob)]) bk=some (.u0 [(75,.int ((ctr+1:Nat):Int)),(153,.int (m:Int)),(379,.obj ob)]):=c7 ..
 have eo:upd H1 bk (.u0 [(75,.int ((ctr+1:Nat):Int)),(153,.int (m:Int)),(379,.obj ob)]) ob=some (.list (o.reverse.map fun y=>.int (y.1:Int))):=(d8 dw.n3.symm).trans dw.QJ
 have d1:Dw src bk ob m (ctr+1) ((30+ctr,ctr)::o) (upd (upd H1 bk (.u0 [(75,.int ((ctr+1:Nat):Int)),(153,.int (m:Int)),(379,.obj ob)])) ob (.list (o.reverse.map (fun y=>.int (y.1:Int))++[.int ((30+ctr:Nat):Int)]))):=by
  refine⟨dw.dX.imp fun x z=>z.imp fun y z=>⟨(d8 dw.n2).trans ((d8 dw.n1).trans z.1),z.2⟩,(d8 dw.n3).trans eb,?_,dw.n1,dw.n2,dw.n3,Nat.le_succ_of_le dw.lo.1,fun y hy=>?_⟩
  ·rw [c7,List.reverse_cons,List.map_append];rfl
  ·rcases List.mem_cons.mp hy with rfl|hy
   ·exact⟨Nat.lt_succ_self _,rfl⟩
   ·exact⟨Nat.lt_succ_of_lt (dw.lo.2 y hy).1,(dw.lo.2 y hy).2⟩
 have t1:cR src bk ob H1 (upd (upd H1 bk (.u0 [(75,.int ((ctr+1:Nat):Int)),(153,.int (m:Int)),(379,.obj ob)])) ob (.list (o.reverse.map (fun y=>.int (y.1:Int))++[.int ((30+ctr:Nat):Int)]))):=fun b O h2 h3=>(d8 h3).trans (d8 h2)
 refine o7 eb rfl (z7 eo (w5 eo (by rw [List.length_map,List.length_reverse];exact Nat.le_trans (by lia) (aj (k:=10) rfl)) ?_))
 have e1:((d+1:Nat):Int)-1=(d:Int):=by lia
 show Cl g n (.obj V4) [.obj src,.obj bk,.int (((d+1:Nat):Int)-1)] _ _
 rw [e1]
 refine hb hn (by rw [List.length_cons];lia) d1 fun e k m' S7 H' gd h1 h2 d2 t2=>?_
 have ep:H' ob=some (.list (o.reverse.map (fun y=>.int (y.1:Int))++[.int ((30+ctr:Nat):Int)])):=by
  have z:=d2.QJ
  rw [List.reverse_cons,List.map_append] at z
  exact z
 refine o7 d2.Dg rfl (z7 ep (xV ep (by rw [List.length_map,List.length_reverse];exact Nat.le_trans (by lia) (aj (k:=11) rfl)) ?_))
 have d3:Dw src bk ob m' S7 o (upd H' ob (.list (o.reverse.map fun y=>.int (y.1:Int)))):=⟨d2.dX.imp fun x z=>z.imp fun y z=>⟨(d8 d2.n2).trans z.1,z.2⟩,(d8 d2.n3).trans d2.Dg,c7 ..,d2.n1,d2.n2,d2.n3,d2.lo.1,fun y hy=>d2.lo.2 y (.tail _ hy)⟩
 refine I8 hg d3.dX (top:=3) (by decide) (by decide) (Nat.le_trans (leB hw rfl) hn) fun mo H4 hmo s4=>I8 hg s4.at_ (top:=2) (by decide) (by decide) (Nat.le_trans (leB hw rfl) hn) fun gl H5 hgl s5=>?_
 have t5:cR src bk ob H H5:=((to.trans t1).trans t2).trans (cR.trans (fun b O O h3=>d8 h3) (s4.dw.trans s5.dw))
 have fin:∀goal:Option Nat,(∀q,goal=some q→q<3)→Q (nC (30+ctr) ctr ((1+mo:Nat):Int) goal e).raw.1 H5:=fun goal hg=>h (nC (30+ctr) ctr ((1+mo:Nat):Int) goal e) (k+1) m' S7 H5 (fun N hN=>.ring (fun y hy=>⟨by have:=dw.lo.2 y hy;lia,by have:=dw.lo.2 y hy;lia⟩) dw.lo.1 (by lia) (by lia) hg (gd N hN)) (by lia) (by lia) ((d3.step s4).step s5) t5
 refine lt2 hgl ?_ ?_
 ·exact fin (some p) fun q e=>by cases e;exact hp
 ·exact fin none nofun
end
end Mine.Internal
namespace Mine.Internal
open PySem PySem.W PySem.Calls PyProof.Rows
section
variable{P:Params}{g:G (o9 P).T}(hg:v9 g){w:Nat}{src bk ob:Addr}
include hg
theorem Ua{n a:Nat}{H:AH}{Q:PV→AH→Prop}{l:List PV}(e:H a=some (.list l))(na:a≠src)(S:SrcAt src H)(h0:0<l.length)(h1:l.length<1000)(hn:2≤n)(h:∀x∈l,∀H',cj src H H'→Q x H'):Cl g n (.obj jV) [.obj src,.obj a] H Q:=by
 refine(pW P).cl hg rfl hn fun n hn=>T4 (len_list e) (by exact Nat.le_trans ‹_› (by decide)) (I8 hg S h0 (by exact Nat.le_trans ‹_› (by decide)) hn fun d H' hd s=>?_)
 exact V0 ((s.keep _ na).trans e) (by lia) (List.getElem?_eq_getElem hd) (h _ (List.getElem_mem hd) H' s)
omit hg in
theorem Kg(l:List (Nat×Nat)):PV.W2 (l.map fun y=>.int (y.1:Int))=true:=by
 induction l with
 |nil=>rfl
 |cons y l ih=>exact ih
theorem PJ:Io g src bk ob 0 3:=by
 intro n H Q m ctr o hn ho dw h
 refine(bY P).cl hg rfl hn fun n hn=>I8 hg dw.dX (top:=9) (by decide) (by decide) (leB hn rfl) fun j H1 hj s=>I8 hg s.at_ (top:=3) (by decide) (by decide) (leB hn rfl) fun p H2 hp t=>?_
 have d2:=(dw.step s).step t
 have t2:cR src bk ob H H2:=s.dw.trans t.dw
 refine lt9 hj ?_ ?_ ?_ ?_ ?_ ?_ ?_ ?_ ?_
 ·exact uK hg hp d2 t2 h
 ·exact iB hg d2.dX (by decide) (by decide) (leB hn rfl) fun x hx H3 s3=>I8 hg s3.at_ (top:=4) (by decide) (by decide) (leB hn rfl) fun v H4 hv s4=>dY hg hp hx hv ((d2.step s3).step s4) ((t2.trans s3.dw).trans s4.dw) h
 ·exact iB hg d2.dX (by decide) (by decide) (leB hn rfl) fun x hx H3 s3=>I8 hg s3.at_ (top:=4) (by decide) (by decide) (leB hn rfl) fun v H4 hv s4=>dY hg hp hx hv ((d2.step s3).step s4) ((t2.trans s3.dw).trans s4.dw) h
 ·exact iB hg d2.dX (by decide) (by decide) (leB hn rfl) fun x hx H3 s3=>I8 hg s3.at_ (top:=4) (by decide) (by decide) (leB hn rfl) fun v H4 hv s4=>dY hg hp hx hv ((d2.step s3).step s4) ((t2.trans s3.dw).trans s4.dw) h
 all_goals exact uK hg hp d2 t2 h
theorem Kh{n d m ctr j p:Nat}{o:List (Nat×Nat)}{H H2:AH}{Q:PV→AH→Prop}{rest:List S}(hb:Dh g src bk ob d w)(hw:3≤w)(hn:w≤n)(hj:j<9)(hp:p<3)(ho:o.length+(d+1)≤10)(d2:Dw src bk ob m ctr o H2)(t2:cR src bk ob H H2)(h:∀e k m' S7 H',(∀N,S7≤N→Gd N (d+1) k true o e)→m+1=m'+k→ctr≤S7∧S7≤ctr+k→Dw src bk ob m' S7 o H'→cR src bk ob H H'→Q e.raw.1 H')
  (ring:∀(j:Nat) H',Dw src bk ob m ctr o H'→cR src bk ob H H'→I9 g n rest [(308,.obj src),(374,.obj bk),(313,.int ((d+1:Nat):Int)),(111,.int (p:Int)),(314,.int (j:Int))] H' (Ac Q)):
  I9 g n (.iff (.or [.cmp .Eq (.loc 314) (.int 0),.and [.cmp .Eq (.loc 313) (.int 0),.cmp .Gt (.loc 314) (.int 3)]]) [.ret (.tup [.str 242,.loc 111])] [] ::
   .iff (.cmp .Lt (.loc 314) (.int 4)) [.ret (.tup [.str 241,.loc 111,.call 319 [.loc 308,.lst [.str 321,.str 321,.str 260,.str 322]],.bin .Add (.int 1) (.call 312 [.loc 308,.int 4])])] [] ::
   .iff (.cmp .Eq (.loc 314) (.int 4)) [.ret (.tup [.str 315,.call 378 [.loc 308],.call 376 [.loc 308,.loc 374,.bin .Sub (.loc 313) (.int 1)],.call 376 [.loc 308,.loc 374,.bin .Sub (.loc 313) (.int 1)]])] [] ::
   .iff (.and [.cmp .Eq (.loc 314) (.int 5),.cmp .NotEq (.sub (.loc 374) (.str 379)) (.lst [])]) [.ret (.tup [.str 315,.call 378 [.loc 308],.lst [.tup [.call 319 [.loc 308,.lst [.str 245,.str 246]],.call 319 [.loc 308,.sub (.loc 374) (.str 379)]]],.lst []])] [] ::
   .iff (.and [.cmp .Eq (.loc 314) (.int 6),.cmp .Eq (.call 312 [.loc 308,.int 3]) (.int 0)]) [.ret (.tup [.str 315,.call 378 [.loc 308],.lst [.tup [.str 247,.loc 111]],.lst []])] []::rest)
   [(308,.obj src),(374,.obj bk),(313,.int ((d+1:Nat):Int)),(111,.int (p:Int)),(314,.int (j:Int))] H2 (Ac Q):=by
 have nn:=Nat.le_trans hw hn
 refine lt9 hj ?_ ?_ ?_ ?_ ?_ ?_ ?_ ?_ ?_
 ·exact uK hg hp d2 t2 h
 ·exact iB hg d2.dX (by decide) (by decide) (leB nn rfl) fun x hx H3 s3=>I8 hg s3.at_ (top:=4) (by decide) (by decide) (leB nn rfl) fun v H4 hv s4=>dY hg hp hx hv ((d2.step s3).step s4) ((t2.trans s3.dw).trans s4.dw) h
 ·exact iB hg d2.dX (by decide) (by decide) (leB nn rfl) fun x hx H3 s3=>I8 hg s3.at_ (top:=4) (by decide) (by decide) (leB nn rfl) fun v H4 hv s4=>dY hg hp hx hv ((d2.step s3).step s4) ((t2.trans s3.dw).trans s4.dw) h
 ·exact iB hg d2.dX (by decide) (by decide) (leB nn rfl) fun x hx H3 s3=>I8 hg s3.at_ (top:=4) (by decide) (by decide) (leB nn rfl) fun v H4 hv s4=>dY hg hp hx hv ((d2.step s3).step s4) ((t2.trans s3.dw).trans s4.dw) h
 ·have e1:((d+1:Nat):Int)-1=(d:Int):=by lia
  refine uH hg d2.dX nn fun op q v H3 hop hq s3=>?_
  show Cl g n (.obj V4) [.obj src,.obj bk,.int (((d+1:Nat):Int)-1)] _ _
  rw [e1]
  refine hb hn (by lia) (d2.step s3) fun a ka m1 c1 H4 ga m1e c1l d4 t4=>?_
  show Cl g n (.obj V4) [.obj src,.obj bk,.int (((d+1:Nat):Int)-1)] _ _
  rw [e1]
  exact hb hn (by lia) d4 fun b kb m2 c2 H5 gb m2e c2l d5 t5=>h (.ch op q v a b) (ka+kb+1) m2 c2 H5 (fun N hN=>.ch hop hq (ga N (Nat.le_trans c2l.1 hN)) (gb N hN)) (by lia) ⟨Nat.le_trans c1l.1 c2l.1,by lia⟩ d5 (((t2.trans s3.dw).trans t4).trans t5)
 ·refine o7 d2.Dg rfl (Nk d2.QJ (Kg _) ?_)
  cases o with
  |nil=>exact ring 5 H2 d2 t2
  |cons y0 o=>
   have ne:(!(((y0::o).reverse.map fun y=>PV.int (y.1:Int)).isEmpty))=true:=by simp
   refine cB ne ?_
   refine uH hg d2.dX nn fun op q v H3 hop hq s3=>iB hg s3.at_ (by decide) (by decide) (leB nn rfl) fun w hw H4 s4=>?_
   have d4:=(d2.step s3).step s4
   refine o7 d4.Dg rfl (Ua hg d4.QJ d4.n2.symm d4.dX (by simp) (by simp at ho ⊢;lia) (leB nn rfl) fun x hx H5 s5=>?_)
   obtain⟨y,hy,rfl⟩:=List.mem_map.mp hx
   have my:y.1∈(y0::o).map Prod.fst:=List.mem_map_of_mem (List.mem_reverse.mp hy)
   have fin:∀s,Wy (y0::o) s→Q (.tup [.str 315,.tup [.int (q:Int),.str op.s,.int (v:Int)],.lst [s.raw.1],.lst []]) H5:=fun s hs=>h (.ch op q v (.cons s .nil) .nil) 1 m ctr H5 (fun N O=>.way hop hq hs) rfl ⟨Nat.le_refl _,Nat.le_add_right ..⟩ (d4.step s5) (((t2.trans s3.dw).trans s4.dw).trans s5.dw)
   simp only [List.mem_cons,List.not_mem_nil,or_false] at hw
   rcases hw with rfl|rfl
   ·exact fin _ (.brk my)
   ·exact fin _ (.cont my)
 ·refine I8 hg d2.dX (top:=3) (by decide) (by decide) (leB nn rfl) fun v H3 hv s3=>?_
  refine YZ hv ?_ ?_ ?_
  ·exact uH hg s3.at_ nn fun op q v H4 hop hq s4=>h (.ch op q v (.cons (.ret p) .nil) .nil) 1 m ctr H4 (fun N O=>.way hop hq (.ret hp)) rfl ⟨Nat.le_refl _,Nat.le_add_right ..⟩ ((d2.step s3).step s4) ((t2.trans s3.dw).trans s4.dw)
  ·exact ring 6 H3 (d2.step s3) (t2.trans s3.dw)
  ·exact ring 6 H3 (d2.step s3) (t2.trans s3.dw)
 ·exact ring 7 H2 d2 t2
 ·exact ring 8 H2 d2 t2
theorem PK{n d m ctr:Nat}{o:List (Nat×Nat)}{H:AH}{rest:List S}{K:Out→Loc→AH→Prop}(hn:3≤n)(dw:Dw src bk ob m ctr o H)(h:∀(j p:Nat) H',j<9→p<3→Dw src bk ob m ctr o H'→cR src bk ob H H'→I9 g n rest [(308,.obj src),(374,.obj bk),(313,.int (d:Int)),(111,.int (p:Int)),(314,.int (j:Int))] H' K):
  I9 g n (.swap [314,111] [.call 312 [.loc 308,.int 9],.call 312 [.loc 308,.int 3]]::rest) [(308,.obj src),(374,.obj bk),(313,.int (d:Int))] H K:=by
 refine I8 hg dw.dX (top:=9) (by decide) (by decide) (leB hn rfl) fun j H1 hj s=>?_
 refine I8 hg s.at_ (top:=3) (by decide) (by decide) (leB hn rfl) fun p H2 hp t=>?_
 exact h j p H2 hj hp ((dw.step s).step t) (s.dw.trans t.dw)
theorem Di{d:Nat}(hb:Dh g src bk ob d w)(hw:3≤w):Io g src bk ob (d+1) (w+1):=by
 intro n H Q m ctr o hn ho dw h
 refine(bY P).cl hg rfl hn fun n hn=>?_
 refine PK hg (Nat.le_trans hw hn) dw fun j p H2 hj hp d2 t2=>?_
 refine Kh hg hb hw hn hj hp ho d2 t2 h fun j H' d t=>?_
 exact Kf hg hb hw hn hp ho d t h
end
end Mine.Internal
namespace Mine.Internal
open PySem PySem.W PySem.Calls PyProof.Rows
noncomputable def Op.f:Op→Int→Int→Int
 |.add,a,b=>a+b
 |.sub,a,b=>a-b
 |_,a,b=>a*b
noncomputable def Op.q:Op→Int→Int→Bool
 |.lt,a,b=>decide (a<b)
 |.ge,a,b=>decide (b≤a)
 |_,a,b=>a==b
noncomputable def wrap(i:Int):Int:=(i-0).fmod 256+0
noncomputable def over(i:Int):Bool := !(decide (0≤i)&&decide (i<256))
noncomputable def PL(i:Int):Prop:=0≤i∧i<256
theorem Ub(i:Int):PL (wrap i):=by
 have a:=Int.fmod_nonneg_of_pos (i-0) (b:=256) (by decide)
 have b:=Int.fmod_lt_of_pos (i-0) (b:=256) (by decide)
 unfold wrap PL;lia
section
variable{P:Params}{g:G (o9 P).T}(hg:v9 g){n w:Nat}{m:Loc}{H:AH}{Q:PV→AH→Prop}{src:Addr}
include hg
theorem uL{op:Op}{a b:Int}(ho:op.ar=true)(ha:PL a)(hn:1≤n)(h:Q (.tup [.int (wrap (op.f a b)),.bool (over (op.f a b))]) H):Cl g n (.obj aY) [.str 355,.str op.s,.int a,.int b] H Q:=by
 refine(fY P).cl hg rfl hn fun n O=>?_
 have fin:∀i:Int,Q (.tup [.int (wrap i),.bool (over i)]) H→I9 g n [.asg (.tup [.name 354,.name 153]) (.jt (.cmp .Eq (.loc 7) (.str 355)) (.tup [.int 0,.int 256]) (.tup [.bin .Sub (.int 0) (.bin .Pow (.int 2) (.int 31)),.bin .Pow (.int 2) (.int 32)])),.ret (.tup [.bin .Add (.bin .Mod (.bin .Sub (.loc 353) (.loc 354)) (.loc 153)) (.loc 354),.not (.Rb .Lt (.loc 354) (.loc 353) (.bin .Add (.loc 354) (.loc 153)))])] [(7,.str 355),(194,.str op.s),(326,.int a),(327,.int b),(353,.int i)] H (Ac Q):=fun i k=>by
  unfold over at k
  show sel _ _ _
  by_cases c:0≤i
  ·rw [decide_eq_true c,Bool.true_and] at k
   exact cB (decide_eq_true c) k
  ·rw [decide_eq_false c,Bool.false_and] at k
   exact xH (decide_eq_false c) k
 cases op with
 |add=>exact fin _ h
 |sub=>exact fin _ h
 |mul=>exact d7 (Pz (.inl (by unfold PL at ha;lia))) (fin _ h)
 |_=>cases ho
theorem qb{op:Op}{a b:Int}(ho:op.ar=false)(hn:1≤n)(h:Q (.tup [.bool (op.q a b),.bool false]) H):Cl g n (.obj aY) [.str 355,.str op.s,.int a,.int b] H Q:=by
 refine(fY P).cl hg rfl hn fun n O=>?_
 cases op with
 |lt=>exact h
 |ge=>exact h
 |eq=>exact h
 |_=>cases ho
end
end Mine.Internal
namespace Mine.Internal
open PySem PySem.W PySem.Calls PyProof.Rows
structure Pl where
 v:Nat→Int
 pr:List PV
noncomputable def Pl.set(s:Pl)(i:Nat)(x:Int):Pl:=⟨fun j=>if j=i then x else s.v j,s.pr⟩
inductive Ou where|next|brk(x:Nat)|cont(x:Nat)|ret(v:Int)|zM(t:Nat)
noncomputable abbrev Rt:=Ou×Pl
noncomputable def Ou.on{α:Sort _}(o:Ou)(a b:α):α:=@Ou.rec (fun O=>α) a (fun O=>b) (fun O=>b) (fun O=>b) (fun O=>b) o
noncomputable def sq(q:Rt)(k:Pl→Rt):Rt:=q.1.on (k q.2) q
noncomputable def rounds(x:Nat)(f:Pl→Rt):Nat→Pl→Rt
 |0,s=>(.next,s)
 |k+1,s=>@Ou.rec (fun O=>Rt) (rounds x f k (f s).2) (fun y=>if y=x then(.next,(f s).2) else f s) (fun y=>if y=x then rounds x f k (f s).2 else f s) (fun O=>f s) (fun O=>f s) (f s).1
noncomputable def qd(goal:Option Nat)(s:Pl):Pl:=match goal with
 |none=>s
 |some p=>s.set p 7
noncomputable def F.run:F→(Pl→Rt)×(Pl→Rt)×(Pl→Rt)
 |.nil=>(fun s=>(.next,s),fun s=>(.next,s),fun s=>(.next,s))
 |.cons a r=>(fun s=>sq (a.run.1 s) r.run.1,r.run.1,r.run.2.1)
 |.jK p=>(fun s=>(.next,⟨s.v,s.pr++[.int (s.v p)]⟩),fun s=>(.next,s),fun s=>(.next,s))
 |.upd op p k=>(fun s=>if over (op.f (s.v p) k) then(.zM op.msg,s) else(.next,s.set p (wrap (op.f (s.v p) k))),fun s=>(.next,s),fun s=>(.next,s))
 |.ch op p k a b=>(fun s=>if op.q (s.v p) k then a.run.1 s else b.run.1 s,fun s=>(.next,s),fun s=>(.next,s))
 |.ring x _ goal rows=>(fun s=>sq (rounds x rows.run.2.2 rows.most.toNat s) fun s=>(.next,qd goal s),fun s=>(.next,s),fun s=>(.next,s))
 |.ret p=>(fun s=>(.ret (s.v p),s),fun s=>(.next,s),fun s=>(.next,s))
 |.brk x=>(fun s=>(.brk x,s),fun s=>(.next,s),fun s=>(.next,s))
 |.cont x=>(fun s=>(.cont x,s),fun s=>(.next,s),fun s=>(.next,s))
noncomputable def F.tn:F→Nat×Nat×Nat
 |.nil=>(0,0,0)
 |.cons a r=>(a.tn.1+r.tn.1,r.tn.1,r.tn.2.1)
 |.ch _ _ _ a b=>(max a.tn.1 b.tn.1+2,0,0)
 |.ring _ _ _ rows=>(3*(rows.tn.2.2+4)+3,0,0)
 |_=>(1,0,0)
theorem Gd.tn{N d k:Nat}{b:Bool}{o:List (Nat×Nat)}{e:F}(h:Gd N d k b o e):e.tn.1≤5*3 ^ d*k:=by
 induction h with
 |nil=>exact Nat.zero_le _
 |cons _ _ a b=>rw [Nat.mul_add];exact Nat.add_le_add a b
 |@jK o p d _=>have:0<3 ^ d:=Nat.pow_pos (by decide);show 1≤_;lia
 |@upd o op p d v _ _ _=>have:0<3 ^ d:=Nat.pow_pos (by decide);show 1≤_;lia
 |@way o op p d v s _ _ w=>
  have:0<3 ^ d:=Nat.pow_pos (by decide)
  have e:s.tn.1=1:=by cases w<;>rfl
  rw [Nat.pow_succ]
  show max (s.tn.1+0) 0+2≤_
  lia
 |@ch o op p d k j v a b _ _ _ _ ha hb=>
  have:0<3 ^ d:=Nat.pow_pos (by decide)
  rw [Nat.pow_succ,Nat.mul_add,Nat.mul_add]
  show max a.tn.1 b.tn.1+2≤_
  have e1:5*(3 ^ d*3)*k=3*(5*3 ^ d*k):=by rw [Nat.mul_comm (3 ^ d) 3,Nat.mul_left_comm 5 3,Nat.mul_assoc 3]
  have e2:5*(3 ^ d*3)*j=3*(5*3 ^ d*j):=by rw [Nat.mul_comm (3 ^ d) 3,Nat.mul_left_comm 5 3,Nat.mul_assoc 3]
  lia
 |@ring o x c d k most goal some _ _ _ _ _ _ ih=>
  have:0<3 ^ d:=Nat.pow_pos (by decide)
  rw [Nat.pow_succ,Nat.mul_add]
  show 3*(some.tn.1+4)+3≤_
  have e1:5*(3 ^ d*3)*k=3*(5*3 ^ d*k):=by rw [Nat.mul_comm (3 ^ d) 3,Nat.mul_left_comm 5 3,Nat.mul_assoc 3]
  lia
noncomputable def PrI(l:List PV):Prop := ∀x∈l,∃i,x = .int i
structure Pf(N:Nat)(s:Pl):Prop where
 v:∀i,i<3→PL (s.v i)
 p:PrI s.pr
 n:s.pr.length≤N
theorem Pf.le{N N':Nat}{s:Pl}(h:Pf N s)(l:N≤N'):Pf N' s:=⟨h.v,h.p,Nat.le_trans h.n l⟩
theorem Pf.set{N p:Nat}{s:Pl}{x:Int}(h:Pf N s)(q:PL x):Pf N (s.set p x):=⟨fun i hi=>by
 show PL (if i=p then x else s.v i)
 by_cases e:i=p
 ·rw [if_pos e];exact q
 ·rw [if_neg e];exact h.v i hi,h.p,h.n⟩
theorem PN{N:Nat}{q:Rt}{k:Pl→Rt}(h:Pf N q.2)(f:∀s,q=(.next,s)→Pf N (k s).2):Pf N (sq q k).2:=by
 obtain⟨o,s⟩:=q
 cases o with
 |next=>exact f s rfl
 |_=>exact h
theorem Kl{x T:Nat}{f:Pl→Rt}(hf:∀N s,Pf N s→Pf (N+T) (f s).2):∀k {N:Nat} {s:Pl},Pf N s→Pf (N+k*T) (rounds x f k s).2:=by
 intro k
 induction k with
 |zero=>exact fun{N s} h=>h.le (Nat.le_add_right ..)
 |succ k ih=>
  intro N s h
  have h1:=hf N s h
  have le:N+T≤N+(k+1)*T:=by rw [Nat.add_mul,Nat.one_mul];lia
  have h2:Pf (N+(k+1)*T) (rounds x f k (f s).2).2:=(ih h1).le (by rw [Nat.add_mul,Nat.one_mul];lia)
  show Pf _ (@Ou.rec (fun O=>Rt) (rounds x f k (f s).2) (fun y=>if y=x then(.next,(f s).2) else f s) (fun y=>if y=x then rounds x f k (f s).2 else f s) (fun O=>f s) (fun O=>f s) (f s).1).2
  cases(f s).1 with
  |next=>exact h2
  |brk y=>
   show Pf _ (if y=x then((.next,(f s).2):Rt) else f s).2
   by_cases e:y=x
   ·rw [if_pos e];exact h1.le le
   ·rw [if_neg e];exact h1.le le
  |cont y=>
   show Pf _ (if y=x then rounds x f k (f s).2 else f s).2
   by_cases e:y=x
   ·rw [if_pos e];exact h2
   ·rw [if_neg e];exact h1.le le
  |ret v=>exact h1.le le
  |zM t=>exact h1.le le
theorem Uc{i:Int}(h:over i=false):wrap i=i:=by
 unfold over at h
 have h:0≤i∧i<256:=by
  by_cases a:0≤i
  ·by_cases b:i<256
   ·exact⟨a,b⟩
   ·rw [decide_eq_true a,decide_eq_false b] at h;cases h
  ·rw [decide_eq_false a] at h;cases h
 unfold wrap
 rw [Int.sub_zero,Int.add_zero]
 exact Int.fmod_eq_of_lt h.1 h.2
theorem iC{N0 d k:Nat}{b:Bool}{o:List (Nat×Nat)}{e:F}(h:Gd N0 d k b o e):∀N s,Pf N s→Pf (N+e.tn.1) (e.run.1 s).2:=by
 induction h with
 |nil=>exact fun N s h=>h
 |@cons o s r d k j _ _ hs hr=>exact fun N s' h=>PN ((hs N s' h).le (by show _≤N+(s.tn.1+r.tn.1);lia)) fun s2 e=>(hr (N+s.tn.1) s2 (by have z:=hs N s' h;rw [e] at z;exact z)).le (by show _≤N+(s.tn.1+r.tn.1);lia)
 |jK=>exact fun N s h=>⟨h.v,fun x hx=>(List.mem_append.mp hx).elim (h.p x) fun z=>⟨_,List.mem_singleton.mp z⟩,by
   show(s.pr++[_]).length≤N+1
   rw [List.length_append];exact Nat.succ_le_succ h.n⟩
 |@upd o op p d v ho hp hv=>
  intro N s h
  show Pf _ (if over (op.f (s.v p) v)=true then((.zM op.msg,s):Rt) else(.next,s.set p (wrap (op.f (s.v p) v)))).2
  by_cases c:over (op.f (s.v p) v)=true
  ·rw [if_pos c];exact h.le (Nat.le_add_right ..)
  ·rw [if_neg c];exact(h.set (Ub _)).le (Nat.le_add_right ..)
 |@way o op p d v s ho hp w=>
  intro N s' h
  show Pf _ (if op.q (s'.v p) v=true then sq (s.run.1 s') _ else(.next,s')).2
  have z:(s.run.1 s').2=s':=by cases w<;>rfl
  by_cases c:op.q (s'.v p) v=true
  ·rw [if_pos c]
   exact PN (by rw [z];exact h.le (Nat.le_add_right ..)) fun s2 e=>by
    rw [e] at z
    have z:s2=s':=z
    rw [z];exact h.le (Nat.le_add_right ..)
  ·rw [if_neg c];exact h.le (Nat.le_add_right ..)
 |@ch o op p d k j v a b _ _ _ _ ha hb=>
  intro N s h
  show Pf (N+(max a.tn.1 b.tn.1+2)) (if op.q (s.v p) v=true then a.run.1 s else b.run.1 s).2
  by_cases c:op.q (s.v p) v=true
  ·rw [if_pos c];exact(ha N s h).le (by lia)
  ·rw [if_neg c];exact(hb N s h).le (by lia)
 |@ring o x c d k most goal some _ _ _ hm hg _ ih=>
  intro N s h
  have h1:Pf (N+most*some.tn.1) (rounds x some.run.1 most s).2:=Kl ih most h
  have le:N+most*some.tn.1≤N+(3*(some.tn.1+4)+3):=by
   have:=Nat.mul_le_mul_right some.tn.1 hm
   lia
  refine PN (q:=rounds x some.run.1 most s) (h1.le le) fun s2 e=>?_
  rw [e] at h1
  cases goal with
  |none=>exact h1.le le
  |some p=>exact(h1.set ⟨by decide,by decide⟩).le le
noncomputable def Ou.ok(o:List Nat):Ou→Prop
 |.brk x=>x∈o
 |.cont x=>x∈o
 |_=>True
theorem Qa{l:List Nat}{q:Rt}{k:Pl→Rt}(h:q.1.ok l)(f:∀s,q=(.next,s)→(k s).1.ok l):(sq q k).1.ok l:=by
 obtain⟨o,s⟩:=q
 cases o with
 |next=>exact f s rfl
 |_=>exact h
theorem Km{x:Nat}{l:List Nat}{f:Pl→Rt}(hf:∀s,(f s).1.ok (x::l)):∀k s,(rounds x f k s).1.ok l:=by
 intro k
 induction k with
 |zero=>exact fun s=>trivial
 |succ k ih=>
  intro s
  have h1:=hf s
  have h2:=ih (f s).2
  show(@Ou.rec (fun O=>Rt) (rounds x f k (f s).2) (fun y=>if y=x then(.next,(f s).2) else f s) (fun y=>if y=x then rounds x f k (f s).2 else f s) (fun O=>f s) (fun O=>f s) (f s).1).1.ok l
  generalize f s=q at *
  obtain⟨o,s2⟩:=q
  cases o with
  |next=>exact h2
  |brk y=>
   show(if y=x then((.next,s2):Rt) else(.brk y,s2)).1.ok l
   by_cases e:y=x
   ·rw [if_pos e];exact trivial
   ·rw [if_neg e];exact(List.mem_cons.mp h1).resolve_left e
  |cont y=>
   show(if y=x then rounds x f k s2 else(.cont y,s2)).1.ok l
   by_cases e:y=x
   ·rw [if_pos e];exact h2
   ·rw [if_neg e];exact(List.mem_cons.mp h1).resolve_left e
  |ret v=>exact trivial
  |zM t=>exact trivial
theorem Qc{N0 d k:Nat}{b:Bool}{o:List (Nat×Nat)}{e:F}(h:Gd N0 d k b o e):∀s,(e.run.1 s).1.ok (o.map Prod.fst):=by
 induction h with
 |nil=>exact fun s=>trivial
 |cons _ _ hs hr=>exact fun s=>Qa (hs s) fun s2 O=>hr s2
 |jK=>exact fun s=>trivial
 |@upd o op p d v=>
  intro s
  show(if over (op.f (s.v p) v)=true then((.zM op.msg,s):Rt) else(.next,s.set p (wrap (op.f (s.v p) v)))).1.ok _
  by_cases c:over (op.f (s.v p) v)=true
  ·rw [if_pos c];exact trivial
  ·rw [if_neg c];exact trivial
 |@way o op p d v s ho hp w=>
  intro s'
  show(if op.q (s'.v p) v=true then sq (s.run.1 s') _ else(.next,s')).1.ok _
  by_cases c:op.q (s'.v p) v=true
  ·rw [if_pos c]
   exact Qa (by cases w<;>first|exact trivial|assumption) fun s2 O=>trivial
  ·rw [if_neg c];exact trivial
 |@ch o op p d k j v a b _ _ _ _ ha hb=>
  intro s
  show(if op.q (s.v p) v=true then a.run.1 s else b.run.1 s).1.ok _
  by_cases c:op.q (s.v p) v=true
  ·rw [if_pos c];exact ha s
  ·rw [if_neg c];exact hb s
 |@ring o x c d k most goal some _ _ _ hm hg _ ih=>exact fun s=>Qa (q:=rounds x some.run.1 most s) (Km ih most s) fun s2 O=>trivial
end Mine.Internal
namespace Mine.Internal
open PySem PySem.W PySem.Calls PyProof.Rows
noncomputable def Pl.cells(s:Pl):List (Int×PV):=[(0,.int (s.v 0)),(1,.int (s.v 1)),(2,.int (s.v 2))]
structure Rn(R:AH)(r C Pr:Addr)(s:Pl)(H:AH):Prop where
 er:H r=some (.u0 [(338,.obj C),(340,.obj Pr)])
 ec:H C=some (.m6 s.cells)
 ep:H Pr=some (.list s.pr)
 n1:r≠C
 n2:r≠Pr
 n3:C≠Pr
 o1:R r=none
 o2:R C=none
 o3:R Pr=none
 keep:∀b o,R b=some o→H b=some o
section
variable{R H H':AH}{r C Pr:Addr}{s:Pl}
theorem Rn.ext(u:Rn R r C Pr s H)(E:Ext H H'):Rn R r C Pr s H':=⟨E _ _ u.er,E _ _ u.ec,E _ _ u.ep,u.n1,u.n2,u.n3,u.o1,u.o2,u.o3,fun b o e=>E _ _ (u.keep b o e)⟩
theorem Rn.kp(u:Rn R r C Pr s H){a:Addr}{q:q7}(h:R a=none):∀b o,R b=some o→upd H a q b=some o:=fun b o e=>(d8 fun z=>by rw [z,h] at e;cases e).trans (u.keep b o e)
theorem Rn.print(u:Rn R r C Pr s H)(q:PV):Rn R r C Pr ⟨s.v,s.pr++[q]⟩ (upd H Pr (.list (s.pr++[q]))):=
 ⟨(d8 u.n2).trans u.er,(d8 u.n3).trans u.ec,c7 ..,u.n1,u.n2,u.n3,u.o1,u.o2,u.o3,u.kp u.o3⟩
theorem Rn.set(u:Rn R r C Pr s H){i:Nat}(hi:i<3)(q:Int):Rn R r C Pr (s.set i q) (upd H C (.m6 (J7 (i:Int) (.int q) s.cells))):=by
 refine⟨(d8 u.n1).trans u.er,?_,(d8 u.n3.symm).trans u.ep,u.n1,u.n2,u.n3,u.o1,u.o2,u.o3,u.kp u.o2⟩
 rw [c7]
 refine YZ hi ?_ ?_ ?_
 ·rfl
 ·rfl
 ·rfl
theorem Pl.cell{i:Nat}(s:Pl)(hi:i<3):g8 (i:Int) s.cells=some (.int (s.v i)):=by
 refine YZ hi ?_ ?_ ?_
 ·rfl
 ·rfl
 ·rfl
end
noncomputable def Ou.pv:Ou→PV
 |.next=>.tup []
 |.brk x=>.tup [.str 245,.int (x:Int)]
 |.cont x=>.tup [.str 246,.int (x:Int)]
 |.ret v=>.tup [.str 247,.int v]
 |.zM t=>.tup [.str 248,.str t]
noncomputable def F.dw:F→Nat
 |.cons a r=>max a.dw r.dw
 |.ch _ _ _ a b=>max a.dw b.dw+2
 |.ring _ _ _ rows=>rows.dw+3
 |_=>4
theorem F.dw4(e:F):4≤e.dw:=by
 induction e with
 |cons s r ih _=>exact Nat.le_trans ih (Nat.le_max_left ..)
 |ch _ _ _ a b ih _=>exact Nat.le_trans ih (Nat.le_trans (Nat.le_max_left ..) (Nat.le_add_right ..))
 |ring _ _ _ r ih=>exact Nat.le_trans ih (Nat.le_add_right ..)
 |_=>exact Nat.le_refl _
noncomputable abbrev ae7:List S:=[.asg (.name 63) (.call 336 [.loc 325,.loc 36]),.iff (.cmp .NotEq (.loc 63) (.tup [])) [.ret (.loc 63)] []]
section
variable{P:Params}(g:G (o9 P).T)(w:Nat)(e:F)
noncomputable abbrev Dn:Prop := ∀{n:Nat} {R H:AH} {r C Pr:Addr} {s:Pl} {N:Nat} {Q:PV→AH→Prop},w≤n→Rn R r C Pr s H→Pf N s→N+e.tn.1≤sizeLine→(∀H',Rn R r C Pr (e.run.1 s).2 H'→Q (e.run.1 s).1.pv H')→Cl g n (.obj pO) [.obj r,e.raw.1] H Q
noncomputable abbrev Gn:Prop := ∀{n:Nat} {R H:AH} {r C Pr:Addr} {s:Pl} {N:Nat} {Q:PV→AH→Prop},w≤n→Rn R r C Pr s H→Pf N s→N+e.tn.1≤sizeLine→(∀H',Rn R r C Pr (e.run.1 s).2 H'→Q (e.run.1 s).1.pv H')→Cl g n (.obj Z6) [.obj r,.lst e.raw.2] H Q
noncomputable abbrev Tn:Prop := ∀{n:Nat} {R H:AH} {r C Pr:Addr} {s:Pl} {N:Nat} {Q':Out→Loc→AH→Prop} {full:List PV} {m:Loc},w≤n→Rn R r C Pr s H→Pf N s→N+e.tn.1≤sizeLine→m.lookup 325=some (.obj r)→(∀m' H',Rn R r C Pr (e.run.1 s).2 H'→(e.run.1 s).1.on (Q' .next m' H') (Q' (.ret (e.run.1 s).1.pv) m' H'))→
 DG (fun q m H Q=>(Tg.name 36).w g n q m H Q) (fun m H Q=>I9 g n ae7 m H Q) (.lst full) full Q' e.raw.2 m H
end
section
variable{P:Params}{g:G (o9 P).T}(hg:v9 g){w:Nat}{e a b:F}
theorem Tn.nil:Tn g w .nil:=fun O u O O O fin=>fin _ _ u
theorem Tn.cons{j k:Nat}(ga:∀N s,Pf N s→Pf (N+a.tn.1) (a.run.1 s).2)(ha:Dn g j a)(hb:Tn g k b)(hj:j≤w)(hk:k≤w):Tn g w (.cons a b):=by
 intro n R H r C Pr s N Q' full m hn u hs hz hr fin
 have hz:N+(a.tn.1+b.tn.1)≤sizeLine:=hz
 have hf:=ga N s hs
 refine d7 (aB (by decide) hr) (d7 K9 (ha (Nat.le_trans hj hn) u hs (by lia) fun H' u'=>?_))
 have fin:∀m' H',Rn R r C Pr (sq (a.run.1 s) b.run.1).2 H'→(sq (a.run.1 s) b.run.1).1.on (Q' .next m' H') (Q' (.ret (sq (a.run.1 s) b.run.1).1.pv) m' H'):=fin
 generalize a.run.1 s=q at *
 obtain⟨o,s2⟩:=q
 have go:∀o:Ou,(sq (o,s2) b.run.1)=(o,s2)→o.on False True→(∀m' H',Rn R r C Pr (sq (o,s2) b.run.1).2 H'→(sq (o,s2) b.run.1).1.on (Q' .next m' H') (Q' (.ret (sq (o,s2) b.run.1).1.pv) m' H'))→∀m',Q' (.ret o.pv) m' H':=fun o e z fin m'=>by
  have k:=fin m' H' (by rw [e];exact u')
  rw [e] at k
  cases o<;>first|exact k|exact z.elim
 cases o with
 |next=>exact d7 K9 (hb (Nat.le_trans hk hn) u' hf (by lia) (aB (by decide) (aB (by decide) hr)) fin)
 |brk x=>exact d7 K9 (d7 K9 (go (.brk x) rfl trivial fin _))
 |cont x=>exact d7 K9 (d7 K9 (go (.cont x) rfl trivial fin _))
 |ret x=>exact d7 K9 (d7 K9 (go (.ret x) rfl trivial fin _))
 |zM x=>exact d7 K9 (d7 K9 (go (.zM x) rfl trivial fin _))
include hg
theorem Gn.of(t:Tn g w e):Gn g (w+1) e:=by
 intro n R H r C Pr s N Q hn u hs hz h
 refine(iu P).cl hg rfl hn fun n hn=>t hn u hs hz rfl fun m' H' u'=>?_
 have k:=h H' u'
 cases z:(e.run.1 s).1 with
 |next=>rw [z] at k;exact k
 |_=>rw [z] at k;exact k
end
end Mine.Internal
namespace Mine.Internal
open PySem PySem.W PySem.Calls PyProof.Rows
noncomputable abbrev Yn:List S:=[.asg (.name 63) (.call 380 [.loc 325,.loc 26]),.iff (.cmp .Eq (.loc 63) (.tup [.str 245,.loc 301])) [.brk] [],.iff (.and [.cmp .NotEq (.loc 63) (.tup []),.cmp .NotEq (.loc 63) (.tup [.str 246,.loc 301])]) [.ret (.loc 63)] []]
structure Rm(m:Loc)(r:Addr)(l:List PV)(x:Nat)(q:PV):Prop where
 run:m.lookup 325=some (.obj r)
 some:m.lookup 26 = .some (.lst l)
 num:m.lookup 301 = .some (.int (x:Int))
 goal:m.lookup 101 = .some q
theorem Rm.set{m:Loc}{r:Addr}{l:List PV}{x y:Nat}{q p:PV}(h:Rm m r l x q)(e:[325,26,301,101].elem y=false):Rm (m5 y p m) r l x q:=by
 have ne:∀x,[325,26,301,101].elem x=true→x≠y:=fun x hx z=>by rw [z,e] at hx;cases hx
 exact⟨aB (ne _ rfl) h.run,aB (ne _ rfl) h.some,aB (ne _ rfl) h.num,aB (ne _ rfl) h.goal⟩
theorem Qd{t:Nat}{i j:Int}:(PV.tup [.str t,.int i]).eqv (.tup [.str t,.int j])=(i==j):=by
 show(Nat.beq t t&&((i==j)&&true))=(i==j)
 rw [show Nat.beq t t=true from Nat.beq_refl t,Bool.and_true,Bool.true_and]
section
variable{P:Params}{g:G (o9 P).T}(hg:v9 g){w n:Nat}{e:F}{R:AH}{r C Pr:Addr}{x:Nat}{q:PV}{mo:Int}{Q':Out→Loc→AH→Prop}{l0:List PV}
theorem zN(hs:Gn g w e)(hf:∀N s,Pf N s→Pf (N+e.tn.1) (e.run.1 s).2)(hn:w≤n):∀(c:Nat) (i:Int) (m:Loc) (H:AH) (s:Pl) (N:Nat),Rm m r e.raw.2 x q→Rn R r C Pr s H→Pf N s→N+c*e.tn.1≤sizeLine→
  (∀m' H',Rm m' r e.raw.2 x q→Rn R r C Pr (rounds x e.run.1 c s).2 H'→(rounds x e.run.1 c s).1.on (Q' .next m' H') (Q' (.ret (rounds x e.run.1 c s).1.pv) m' H'))→
  DG (fun q m H Q=>(Tg.name 359).w g n q m H Q) (fun m H Q=>I9 g n Yn m H Q) (.rng 0 mo) l0 Q' (H9 i c) m H:=by
 intro c
 induction c with
 |zero=>exact fun i m H s N hm u O O fin=>fin m H hm u
 |succ c ih=>
  intro i m H s N hm u pf hz fin
  have hz:N+e.tn.1+c*e.tn.1≤sizeLine:=by rw [Nat.add_mul,Nat.one_mul] at hz;lia
  have h2:=hf N s pf
  have m1:∀q',Rm (m5 63 q' (m5 359 (.int i) m)) r e.raw.2 x q:=fun q'=>(hm.set rfl).set rfl
  refine d7 (hm.set (y:=359) (p:=.int i) rfl).run (d7 (hm.set (y:=359) (p:=.int i) rfl).some (hs hn u pf (Nat.le_trans (Nat.le_add_right ..) hz) fun H' u'=>?_))
  have fin:∀m' H',Rm m' r e.raw.2 x q→Rn R r C Pr (@Ou.rec (fun O=>Rt) (rounds x e.run.1 c (e.run.1 s).2) (fun y=>if y=x then(.next,(e.run.1 s).2) else e.run.1 s) (fun y=>if y=x then rounds x e.run.1 c (e.run.1 s).2 else e.run.1 s) (fun O=>e.run.1 s) (fun O=>e.run.1 s) (e.run.1 s).1).2 H'→(@Ou.rec (fun O=>Rt) (rounds x e.run.1 c (e.run.1 s).2) (fun y=>if y=x then(.next,(e.run.1 s).2) else e.run.1 s) (fun y=>if y=x then rounds x e.run.1 c (e.run.1 s).2 else e.run.1 s) (fun O=>e.run.1 s) (fun O=>e.run.1 s) (e.run.1 s).1).1.on (Q' .next m' H') (Q' (.ret (@Ou.rec (fun O=>Rt) (rounds x e.run.1 c (e.run.1 s).2) (fun y=>if y=x then(.next,(e.run.1 s).2) else e.run.1 s) (fun y=>if y=x then rounds x e.run.1 c (e.run.1 s).2 else e.run.1 s) (fun O=>e.run.1 s) (fun O=>e.run.1 s) (e.run.1 s).1).1.pv) m' H'):=fin
  generalize e.run.1 s=q1 at *
  obtain⟨o,s2⟩:=q1
  have out:∀z:Rt,z.2=s2→z.1.on False True→(∀m' H',Rm m' r e.raw.2 x q→Rn R r C Pr z.2 H'→z.1.on (Q' .next m' H') (Q' (.ret z.1.pv) m' H'))→∀m',Rm m' r e.raw.2 x q→Q' (.ret z.1.pv) m' H':=fun z e1 e2 fin m' hm'=>by
   have k:=fin m' H' hm' (by rw [e1];exact u')
   obtain⟨o,s3⟩:=z
   cases o<;>first|exact k|exact e2.elim
  cases o with
  |next=>exact d7 K9 (d7 (m1 _).num (d7 K9 (show DG _ _ _ _ _ (H9 (i+1) c) _ _ from ih (i+1) _ _ s2 (N+e.tn.1) (m1 (Ou.pv .next)) u' h2 hz fin)))
  |brk y=>
   refine d7 K9 (d7 (m1 _).num ?_)
   by_cases c:y=x
   ·subst c
    have fin:∀m' H',Rm m' r e.raw.2 y q→Rn R r C Pr (if y=y then((.next,s2):Rt) else(.brk y,s2)).2 H'→(if y=y then((.next,s2):Rt) else(.brk y,s2)).1.on (Q' .next m' H') (Q' (.ret (if y=y then((.next,s2):Rt) else(.brk y,s2)).1.pv) m' H'):=fin
    rw [if_pos rfl] at fin
    exact(cB (Qd.trans (beq_self_eq_true _)) (fin _ _ (m1 _) u'))
   ·have fin:∀m' H',Rm m' r e.raw.2 x q→Rn R r C Pr (if y=x then((.next,s2):Rt) else(.brk y,s2)).2 H'→(if y=x then((.next,s2):Rt) else(.brk y,s2)).1.on (Q' .next m' H') (Q' (.ret (if y=x then((.next,s2):Rt) else(.brk y,s2)).1.pv) m' H'):=fin
    rw [if_neg c] at fin
    exact(xH (Qd.trans (beq_eq_false_iff_ne.mpr fun z=>c (Int.ofNat.inj z))) (d7 K9 (d7 K9 (d7 (m1 _).num (d7 K9 (out (.brk y,s2) rfl trivial fin _ (m1 _)))))))
  |cont y=>
   refine d7 K9 (d7 (m1 _).num (d7 K9 (d7 K9 (d7 (m1 _).num ?_))))
   by_cases c:y=x
   ·subst c
    have fin:∀m' H',Rm m' r e.raw.2 y q→Rn R r C Pr (if y=y then rounds y e.run.1 _ s2 else(.cont y,s2)).2 H'→(if y=y then rounds y e.run.1 _ s2 else(.cont y,s2)).1.on (Q' .next m' H') (Q' (.ret (if y=y then rounds y e.run.1 _ s2 else(.cont y,s2)).1.pv) m' H'):=fin
    rw [if_pos rfl] at fin
    exact(xH (congrArg (!·) (Qd.trans (beq_self_eq_true _))) (ih _ _ _ s2 (N+e.tn.1) (m1 _) u' h2 hz fin))
   ·have fin:∀m' H',Rm m' r e.raw.2 x q→Rn R r C Pr (if y=x then rounds x e.run.1 _ s2 else(.cont y,s2)).2 H'→(if y=x then rounds x e.run.1 _ s2 else(.cont y,s2)).1.on (Q' .next m' H') (Q' (.ret (if y=x then rounds x e.run.1 _ s2 else(.cont y,s2)).1.pv) m' H'):=fin
    rw [if_neg c] at fin
    exact(cB (congrArg (!·) (Qd.trans (beq_eq_false_iff_ne.mpr fun z=>c (Int.ofNat.inj z)))) (d7 K9 (out (.cont y,s2) rfl trivial fin _ (m1 _))))
  |ret v=>exact d7 K9 (d7 (m1 _).num (d7 K9 (d7 K9 (d7 (m1 _).num (d7 K9 (out (.ret v,s2) rfl trivial fin _ (m1 _)))))))
  |zM t=>exact d7 K9 (d7 (m1 _).num (d7 K9 (d7 K9 (d7 (m1 _).num (d7 K9 (out (.zM t,s2) rfl trivial fin _ (m1 _)))))))
end
end Mine.Internal
namespace Mine.Internal
open PySem PySem.W PySem.Calls PyProof.Rows
section
variable{P:Params}{g:G (o9 P).T}(hg:v9 g){w n N:Nat}{e:F}{R H:AH}{r C Pr:Addr}{s:Pl}{x c:Nat}{Q:PV→AH→Prop}{l0:List PV}
include hg
theorem Ko{most:Nat}{goal:Option Nat}(hs:Gn g w e)(hf:∀N s,Pf N s→Pf (N+e.tn.1) (e.run.1 s).2)(hm:most≤3)(hp:∀p,goal = .some p→p<3)(hn:w+1≤n)(u:Rn R r C Pr s H)(pf:Pf N s)(hz:N+3*e.tn.1≤sizeLine)
  (h:∀H',Rn R r C Pr ((nC x c most goal e).run.1 s).2 H'→Q ((nC x c most goal e).run.1 s).1.pv H'):Cl g n (.obj jB) [.obj r,(nC x c most goal e).raw.1] H Q:=by
 refine(tQ P).cl hg rfl hn fun n hn=>cV ?_
 refine And.intro ⟨by decide,by decide,by exact Int.natCast_nonneg _,by show(most:Int)<1152921504606846976;lia⟩ (d7 (x:=H9 ((0:Nat):Int) most) (congrArg (fun k=>some (H9 0 k)) (show((most:Int)-0).toNat=most by lia)) ?_)
 have hz2:N+most*e.tn.1≤sizeLine:=Nat.le_trans (Nat.add_le_add_left (Nat.mul_le_mul_right _ hm) N) hz
 refine zN (x:=x) (r:=r) (q:=Dd goal) hs hf hn most _ _ H s N ⟨rfl,rfl,rfl,rfl⟩ u pf hz2 fun m' H' hm u'=>?_
 have h:∀H',Rn R r C Pr (sq (rounds x e.run.1 most s) fun s=>(.next,qd goal s)).2 H'→Q (sq (rounds x e.run.1 most s) fun s=>(.next,qd goal s)).1.pv H':=h
 generalize rounds x e.run.1 most s=q at *
 obtain⟨o,s2⟩:=q
 cases o with
 |next=>
  cases goal with
  |none=>exact d7 hm.goal (h _ u')
  |some p=>exact d7 hm.goal (d7 hm.run (o7 u'.er rfl (d7 hm.goal (cY u'.ec (aj rfl) (h _ (u'.set (hp p rfl) 7))))))
 |brk y=>exact h _ u'
 |cont y=>exact h _ u'
 |ret v=>exact h _ u'
 |zM t=>exact h _ u'
theorem Qe{p:Nat}(hp:p<3):Dn g 4 (.jK p):=fun hn u pf hz h=>
 (K7 P).cl hg rfl hn fun n hn=>o7 u.er rfl (o7 u.er rfl (z7 u.ep (T8 u.ec (Pl.cell _ hp) (w5 u.ep (Nat.le_trans pf.n (leP hz)) (h _ (u.print _))))))
theorem Qf{op:Op}{p:Nat}{v:Int}(ho:op.ar=true)(hp:p<3):Dn g 4 (.upd op p v):=by
 intro n R H r C Pr s N Q hn u pf hz h
 refine(K7 P).cl hg rfl hn fun n hn=>o7 u.er rfl (T8 u.ec (Pl.cell _ hp) (uL hg ho (pf.v p hp) (leB hn rfl) ?_))
 have h:∀H',Rn R r C Pr (if over (op.f (s.v p) v)=true then((.zM op.msg,s):Rt) else(.next,s.set p (wrap (op.f (s.v p) v)))).2 H'→Q (if over (op.f (s.v p) v)=true then((.zM op.msg,s):Rt) else(.next,s.set p (wrap (op.f (s.v p) v)))).1.pv H':=h
 cases c:over (op.f (s.v p) v) with
 |false=>
  rw [c] at h
  exact cY u.ec (aj rfl) (h _ (u.set hp _))
 |true=>
  rw [c] at h
  refine fun D hD=>?_
  have u2:=u.ext (Ext.new hD (o:=.u0 [(321,.str 331),(260,.str 332),(322,.str 333)]))
  obtain⟨w,j,k1,k2,k3,k4,k5,k6,k7⟩:=ac8 P op ho
  have kv:g8 op.s [(321,PV.str 331),(260,.str 332),(322,.str 333)]=some (.str w):=by
   cases op<;>first|exact k1|(cases ho;done)
  exact o7 (c7 ..) kv (Hv k2 ⟨k4,Nat.le_trans k6 (aj rfl)⟩ (Hv k3 ⟨k5,Nat.le_trans k7 (aj rfl)⟩ (h _ u2)))
theorem Ip{op:Op}{p:Nat}{v:Int}{a b:F}(ho:op.ar=false)(hp:p<3)(ha:Gn g w a)(hb:Gn g w b)(hw:3≤w):Dn g (w+1) (.ch op p v a b):=by
 intro n R H r C Pr s N Q hn u pf hz h
 have hz:N+(max a.tn.1 b.tn.1+2)≤sizeLine:=hz
 refine(K7 P).cl hg rfl hn fun n hn=>o7 u.er rfl (T8 u.ec (Pl.cell _ hp) (qb hg ho (leB (Nat.le_trans hw hn) rfl) ?_))
 have h:∀H',Rn R r C Pr (if op.q (s.v p) v=true then a.run.1 s else b.run.1 s).2 H'→Q (if op.q (s.v p) v=true then a.run.1 s else b.run.1 s).1.pv H':=h
 cases c:op.q (s.v p) v with
 |false=>
  rw [c] at h
  exact hb hn u pf (by lia) h
 |true=>
  rw [c] at h
  exact ha hn u pf (by lia) h
theorem Ud{o:List (Nat×Nat)}(y:Wy o e):Dn g 4 e:=fun hn u pf hz h=>by
 cases y with
 |ret hp=>exact(K7 P).cl hg rfl hn fun n hn=>o7 u.er rfl (T8 u.ec (Pl.cell _ hp) (h _ u))
 |brk=>exact(K7 P).cl hg rfl hn fun n hn=>o7 u.er rfl (h _ u)
 |cont=>exact(K7 P).cl hg rfl hn fun n hn=>o7 u.er rfl (h _ u)
omit hg in
theorem Qg{o:List (Nat×Nat)}(y:Wy o e):∀N s,Pf N s→Pf (N+e.tn.1) (e.run.1 s).2:=fun N s h=>by cases y<;>exact h.le (Nat.le_add_right ..)
theorem Yo{N0 d k:Nat}{b:Bool}{o:List (Nat×Nat)}(h:Gd N0 d k b o e):(b=true→Dn g e.dw e)∧(b=false→Tn g e.dw e):=by
 induction h with
 |nil=>exact⟨nofun,fun O=>Tn.nil⟩
 |cons ga _ ha hb=>exact⟨nofun,fun O=>Tn.cons (iC ga) (ha.1 rfl) (hb.2 rfl) (Nat.le_max_left ..) (Nat.le_max_right ..)⟩
 |jK hp=>exact⟨fun O=>Qe hg hp,nofun⟩
 |upd ho hp _=>exact⟨fun O=>Qf hg ho hp,nofun⟩
 |@way o op p d v s ho hp y=>
  refine⟨fun O n R H r C Pr s' N Q hn=>?_,nofun⟩
  have t:Gn g 5 (.cons s .nil):=Gn.of hg (Tn.cons (Qg y) (Ud hg y) (Tn.nil (w:=4)) (Nat.le_refl _) (Nat.le_refl _))
  have t0:Gn g 5 .nil:=Gn.of hg (Tn.nil (w:=4))
  have hn:max (max s.dw 4) 4+2≤n:=hn
  exact Ip hg ho hp t t0 (by decide) (Nat.le_trans (Nat.add_le_add_right (Nat.le_max_right ..) 2) hn)
 |@ch o op p d k j v a b ho hp _ _ ha hb=>
  refine⟨fun O n R H r C Pr s' N Q hn=>?_,nofun⟩
  have t:Gn g (max a.dw b.dw+1) a:=fun hn=>Gn.of hg (ha.2 rfl) (Nat.le_trans (Nat.succ_le_succ (Nat.le_max_left ..)) hn)
  have t0:Gn g (max a.dw b.dw+1) b:=fun hn=>Gn.of hg (hb.2 rfl) (Nat.le_trans (Nat.succ_le_succ (Nat.le_max_right ..)) hn)
  exact Ip hg ho hp t t0 (leB (Nat.le_trans (F.dw4 a) (Nat.le_trans (Nat.le_max_left ..) (Nat.le_succ _))) rfl) hn
 |@ring o x c d k most goal some _ _ _ hm hp gs ih=>
  refine⟨fun O n R H r C Pr s' N Q hn u pf hz h=>?_,nofun⟩
  have hn:max (max (max 4 4) 4+2) (max 4 some.dw)+3≤n:=hn
  have hz:N+(3*(some.tn.1+4)+3)≤sizeLine:=hz
  refine(K7 P).cl hg rfl (k:=some.dw+2) (by lia) fun n hn=>o7 u.er rfl ?_
  exact Ko hg (c:=c) (Gn.of hg (ih.2 rfl)) (iC gs) hm hp hn u pf (by lia) h
theorem Ue{N0 d k:Nat}{o:List (Nat×Nat)}(h:Gd N0 d k false o e):Gn g (e.dw+1) e:=Gn.of hg ((Yo hg h).2 rfl)
end
theorem Gd.dw{N d k:Nat}{b:Bool}{o:List (Nat×Nat)}{e:F}(h:Gd N d k b o e):e.dw≤6+3*d:=by
 induction h with
 |nil=>show 4≤_;lia
 |cons _ _ a b=>exact Nat.max_le.mpr ⟨a,b⟩
 |jK _=>show 4≤_;lia
 |upd _ _ _=>show 4≤_;lia
 |@way o op p d v s _ _ w=>
  have e:s.dw=4:=by cases w<;>rfl
  show max (max s.dw 4) 4+2≤_
  lia
 |@ch o op p d k j v a b _ _ _ _ ha hb=>show max a.dw b.dw+2≤_;lia
 |@ring o x c d k most goal some _ _ _ _ _ _ ih=>show max (max (max 4 4) 4+2) (max 4 some.dw)+3≤_;lia
end Mine.Internal
namespace Mine.Internal
open PySem PySem.W PySem.Calls PyProof.Rows
noncomputable def uZ:Pl:=⟨fun i=>match i with|0=>3|1=>250|_=>0,[]⟩
theorem pv0:∀i,i<3→PL (uZ.v i):=fun i hi=>YZ (P:=fun i=>PL (uZ.v i)) hi ⟨by decide,by decide⟩ ⟨by decide,by decide⟩ ⟨by decide,by decide⟩
theorem pf0:Pf 0 uZ:=⟨pv0,fun O h=>(nomatch (show _∈[] from h)),Nat.le_refl _⟩
noncomputable def uM(q:Rt):PV×List PV:=(@Ou.rec (fun O=>PV) (.tup [.str 341,.int (q.2.v 0)]) (fun O=>.none) (fun O=>.none) (fun v=>.tup [.str 341,.int v]) (fun t=>.tup [.str 248,.str t]) q.1,q.2.pr)
section
variable{P:Params}{g:G (o9 P).T}(hg:v9 g){n:Nat}{H:AH}{Q:PV→AH→Prop}
include hg
theorem Yp{N0 d k w:Nat}{e:F}(gd:Gd N0 d k false [] e)(hz:e.tn.1≤sizeLine)(hw:e.dw+1≤w)(hn:w+1≤n)(h:∀Pr H',Ext H H'→H' Pr=some (.list (uM (e.run.1 uZ)).2)→Q (.tup [(uM (e.run.1 uZ)).1,.obj Pr]) H'):Cl g n (.obj sU) [.lst e.raw.2] H Q:=by
 refine(Cg P).cl hg rfl hn fun n hn=>fun C hC Pr hPr r hr=>?_
 have n1:r≠C:=fun z=>by rw [z,d8 (fun k=>by rw [← k,c7] at hPr;cases hPr),c7] at hr;cases hr
 have n2:r≠Pr:=fun z=>by rw [z,c7] at hr;cases hr
 have n3:C≠Pr:=fun z=>by rw [← z,c7] at hPr;cases hPr
 have ae9:H Pr=none:=by rw [← hPr,d8 n3.symm]
 have hr':H r=none:=by rw [← hr,d8 n2,d8 n1]
 have E1:=Ext.new hC (o:=.m6 [(0,.int 3),(1,.int 250),(2,.int 0)])
 have E2:=Ext.upd ae9 E1 (o:=.list [])
 have E3:=Ext.upd hr' E2 (o:=.u0 [(338,.obj C),(340,.obj Pr)])
 have u:Rn H r C Pr uZ (upd (upd (upd H C (.m6 [(0,.int 3),(1,.int 250),(2,.int 0)])) Pr (.list [])) r (.u0 [(338,.obj C),(340,.obj Pr)])):=
  ⟨c7 ..,(d8 n1.symm).trans ((d8 n3).trans (c7 ..)),(d8 n2.symm).trans (c7 ..),n1,n2,n3,hr',hC,ae9,E3⟩
 refine Ue hg gd (Nat.le_trans hw hn) u pf0 (by rw [Nat.zero_add];exact hz) fun H' u'=>?_
 have ok:=Qc gd uZ
 generalize e.run.1 uZ=q at *
 obtain⟨o,s⟩:=q
 cases o with
 |next=>exact o7 u'.er rfl (T8 u'.ec rfl (o7 u'.er rfl (h Pr H' u'.keep u'.ep)))
 |brk y=>cases ok
 |cont y=>cases ok
 |ret v=>exact o7 u'.er rfl (h Pr H' u'.keep u'.ep)
 |zM t=>exact o7 u'.er rfl (h Pr H' u'.keep u'.ep)
end
end Mine.Internal
namespace Mine.Internal
open PySem PySem.W PySem.Calls PyProof.Rows
noncomputable def IB(x:PV):Prop:=(∃i,x = .int i)∨∃b,x = .bool b
inductive Vk:PV→Prop
 |int (i:Int):Vk (.int i)
 |bool (b:Bool):Vk (.bool b)
 |unit:Vk (.tup [])
 |two {x y:PV}:IB x→IB y→Vk (.tup [x,y])
theorem Vk.ill{x:PV}(h:Vk x):Eo x (.str 352)=true∧x.eqv (.str 352)=false:=by
 cases h with
 |int i=>exact⟨rfl,rfl⟩
 |bool b=>exact⟨rfl,rfl⟩
 |unit=>exact⟨rfl,rfl⟩
 |two a b=>rcases a with⟨i,rfl⟩|⟨i,rfl⟩<;>rcases b with⟨j,rfl⟩|⟨j,rfl⟩<;>exact⟨rfl,rfl⟩
noncomputable abbrev Cs:=List (Int×PV)
inductive Rd(l:Cs):PV→PV→Prop
 |cst (t:PV) {x:PV}:Vk x→Rd l (K1 t x) x
 |cp {i:Nat} {x:PV}:g8 (i:Int) l=some x→Vk x→Rd l (j7 (m7 i)) x
 |fld {i k:Nat} {x y z:PV}:g8 (i:Int) l=some (.tup [x,y])→Vk (.tup [x,y])→[x,y][k]? = some z→IB z→Rd l (j7 (YW i k)) z
inductive Rv(l:Cs):PV→PV→Prop
 |use {o x:PV}:Rd l o x→Vk x→Rv l (I7 o) x
 |unit:Rv l j6 (.tup [])
 |chk {o p:PV} {op:Op} {a b:Int}:op.ar=true→PL a→Rd l o (.int a)→Rd l p (.int b)→Rv l (.tup [.str 267,.str op.s,o,p]) (.tup [.int (wrap (op.f a b)),.bool (over (op.f a b))])
 |cmp {o p:PV} {op:Op} {a b:Int}:op.ar=false→Rd l o (.int a)→Rd l p (.int b)→Rv l (.tup [.str 160,.str op.s,o,p]) (.bool (op.q a b))
section
variable{P:Params}{g:G (o9 P).T}(hg:v9 g){n w:Nat}{m:Loc}{H R:AH}{Q:PV→AH→Prop}{Cw Pw:Addr}{l:Cs}{o x:PV}
omit hg
theorem VD{a:Addr}{l:Cs}{i:Nat}{d x:PV}(hg:v9 g)(o:H a=some (.m6 l))(k:g8 (i:Int) l=some x)(h:Q x H):Cl g n (.blt "dict.get") [.obj a,.int (i:Int),d] H Q:=
 Rf hg o (by rw [k];exact h)
include hg
theorem X7(e:H Cw=some (.m6 l))(rd:Rd l o x)(hn:1≤n)(h:Q x H):Cl g n (.obj pR) [.obj Cw,o] H Q:=by
 refine(yV P).cl hg rfl hn fun n O=>?_
 cases rd with
 |cst t v=>exact h
 |@cp i _ k v=>exact rZ e (VD hg e k h)
 |@fld i j x y z k v q b=>
  refine rZ e (VD hg e k ?_)
  obtain⟨z1,z2⟩:=v.ill
  have hj:j<2:=(List.getElem?_eq_some_iff.mp q).1
  exact cB z1 (qU rfl ((qR (by exact Nat.le_trans ‹_› (by decide))).trans q) h)
omit hg
theorem ibv{x:PV}(h:IB x):Vk x:=by rcases h with⟨i,rfl⟩|⟨b,rfl⟩<;>constructor
include hg
theorem Ug{body:PV}{rv:PV}(e:H Cw=some (.m6 l))(rd:Rv l rv x)(hn:2≤n)(h:Q x H):Cl g n (.obj pU) [body,.obj Cw,rv] H Q:=by
 refine(yW P).cl hg rfl hn fun n hn=>?_
 cases rd with
 |use k v=>exact X7 hg e k hn h
 |unit=>exact oK (f:=id) (w:=id) [] (aj rfl) (fun a ha=>nomatch ha) (gJ (.inr rfl) (aj rfl) h)
 |@chk o p op a b ho ia k q=>
  exact X7 hg e k hn (X7 hg e q hn (uL hg ho ia hn h))
 |@cmp o p op a b ho k q=>exact X7 hg e k hn (X7 hg e q hn (qb hg ho hn h))
end
end Mine.Internal
namespace Mine.Internal
open PySem PySem.W PySem.Calls PyProof.Rows
theorem Rd.vk{l:Cs}{o x:PV}(h:Rd l o x):Vk x:=by
 cases h with
 |cst t v=>exact v
 |cp k v=>exact v
 |fld k v q b=>exact ibv b
theorem Rv.vk{l:Cs}{o x:PV}(h:Rv l o x):Vk x:=by
 cases h with
 |use k v=>exact v
 |unit=>exact .unit
 |chk ho ia k q=>exact .two (.inl ⟨_,rfl⟩) (.inr ⟨_,rfl⟩)
 |cmp ho k q=>exact .bool _
inductive Uh(N:Nat):PV→Cs→List PV→Cs→List PV→Prop
 |live {l:Cs} {pr:List PV} (i:Nat):Uh N (.tup [.str 129,.int (i:Int)]) l pr l pr
 |dead {l:Cs} {pr:List PV} (i:Nat):Uh N (.tup [.str 134,.int (i:Int)]) l pr (jg (i:Int) l) pr
 |print {l:Cs} {pr:List PV} {o x:PV}:pr.length<sizeLine→Rd l o x→Uh N (.tup [.str 242,o]) l pr l (pr++[x])
 |asg {l:Cs} {pr:List PV} {rv x:PV} (i:Nat):i<N→Rv l rv x→Uh N (.tup [.str 159,m7 i,rv]) l pr (J7 (i:Int) x l) pr
theorem Qh{l:List PV}{x:PV}:Ef (l++[x]) (-1)=some x:=by
 unfold Ef
 rw [if_neg (by decide),if_pos ⟨by rw [List.length_append,List.length_singleton];lia,by decide⟩,List.length_append,List.length_singleton,show(-1+((l.length+1:Nat):Int)).toNat=l.length by lia,List.getElem?_concat_length]
section
variable{P:Params}{g:G (o9 P).T}(hg:v9 g){n w:Nat}{m:Loc}{H R:AH}{Q:PV→AH→Prop}{Cw Pw:Addr}{l l':Cs}{pr lg:List PV}{o x body st:PV}{N:Nat}
include hg
theorem Gb(eC:H Cw=some (.m6 l))(eP:H Pw=some (.list pr))(ne:Cw≠Pw)(s:Uh N st l pr l' lg)(zl:l.length≤sizeLine)(hn:3≤n)(h:∀H',H' Cw=some (.m6 l')→H' Pw=some (.list lg)→(∀b,b≠Cw→b≠Pw→H' b=H b)→Q (.bool true) H'):
  Cl g n (.obj gU) [body,.obj Cw,.obj Pw,st] H Q:=by
 refine(qG P).cl hg rfl hn fun n hn=>?_
 cases s with
 |live i=>exact h H eC eP fun O O O=>rfl
 |dead i=>exact rZ eC (Rg hg eC zl (h _ (c7 ..) ((d8 ne.symm).trans eP) fun b n1 n2=>d8 n1))
 |print hz rd=>
  obtain⟨z1,z2⟩:=rd.vk.ill
  refine z7 eP (X7 hg eC rd (leB hn rfl) (w5 eP (Nat.le_of_lt hz) (lQ (c7 ..) Qh (cB z1 ?_))))
  rw [z2]
  exact h _ ((d8 ne).trans eC) (c7 ..) fun b n1 n2=>d8 n2
 |asg i hi rv=>
  obtain⟨z1,z2⟩:=rv.vk.ill
  exact Ug hg eC rv hn (cB z1 (xH z2 (cY eC zl (h _ (c7 ..) ((d8 ne.symm).trans eP) fun b n1 n2=>d8 n1))))
end
end Mine.Internal
namespace Mine.Internal
open PySem PySem.W PySem.Calls PyProof.Rows
section
variable{K:Type} [DecidableEq K]
theorem Dj(k k':K)(x:PV)(l:List (K×PV)):g8 k' (J7 k x l)=if k=k' then some x else g8 k' l:=by
 induction l with
 |nil=>rfl
 |cons q r ih=>
  unfold J7
  by_cases e:q.1=k
  ·rw [if_pos e]
   show(if k=k' then some x else g8 k' r)=if k=k' then some x else(if q.1=k' then some q.2 else g8 k' r)
   by_cases z:k=k'
   ·rw [if_pos z,if_pos z]
   ·rw [if_neg z,if_neg z,if_neg (fun w=>z (e.symm.trans w))]
  ·rw [if_neg e]
   show(if q.1=k' then some q.2 else g8 k' (J7 k x r))=if k=k' then some x else(if q.1=k' then some q.2 else g8 k' r)
   by_cases z:q.1=k'
   ·rw [if_pos z,if_pos z,if_neg (fun w=>e (z.trans w.symm))]
   ·rw [if_neg z,if_neg z,ih]
theorem Qi{k k':K}(ne:k≠k')(l:List (K×PV)):g8 k' (jg k l)=g8 k' l:=by
 induction l with
 |nil=>rfl
 |cons q r ih=>
  unfold jg
  by_cases e:q.1=k
  ·rw [if_pos e]
   show g8 k' r=if q.1=k' then some q.2 else g8 k' r
   rw [if_neg (fun w=>ne (e.symm.trans w))]
  ·rw [if_neg e]
   show(if q.1=k' then some q.2 else g8 k' (jg k r))=if q.1=k' then some q.2 else g8 k' r
   rw [ih]
theorem Dk{k:K}{x:PV}{l:List (K×PV)}{y:K}(h:y∈(J7 k x l).map (·.1)):y=k∨y∈l.map (·.1):=by
 induction l with
 |nil=>exact .inl (List.mem_singleton.mp h)
 |cons q r ih=>
  unfold J7 at h
  by_cases e:q.1=k
  ·rw [if_pos e] at h
   exact(List.mem_cons.mp h).imp id (.tail _)
  ·rw [if_neg e] at h
   rcases List.mem_cons.mp h with z|z
   ·exact .inr (z▸.head _)
   ·exact(ih z).imp id (.tail _)
theorem Dl{k:K}{l:List (K×PV)}{y:K}(h:y∈(jg k l).map (·.1)):y∈l.map (·.1):=by
 induction l with
 |nil=>exact h
 |cons q r ih=>
  unfold jg at h
  by_cases e:q.1=k
  ·rw [if_pos e] at h;exact .tail _ h
  ·rw [if_neg e] at h
   rcases List.mem_cons.mp h with z|z
   ·exact z▸.head _
   ·exact .tail _ (ih z)
theorem Ui{k:K}{x:PV}{l:List (K×PV)}(h:(l.map (·.1)).Nodup):((J7 k x l).map (·.1)).Nodup:=by
 induction l with
 |nil=>exact List.nodup_cons.mpr ⟨List.not_mem_nil,.nil⟩
 |cons q r ih=>
  obtain⟨a,b⟩:=List.nodup_cons.mp h
  unfold J7
  by_cases e:q.1=k
  ·rw [if_pos e];exact List.nodup_cons.mpr ⟨e▸a,b⟩
  ·rw [if_neg e];exact List.nodup_cons.mpr ⟨fun z=>(Dk z).elim e a,ih b⟩
theorem Uj{k:K}{l:List (K×PV)}(h:(l.map (·.1)).Nodup):((jg k l).map (·.1)).Nodup:=by
 induction l with
 |nil=>exact h
 |cons q r ih=>
  obtain⟨a,b⟩:=List.nodup_cons.mp h
  unfold jg
  by_cases e:q.1=k
  ·rw [if_pos e];exact b
  ·rw [if_neg e];exact List.nodup_cons.mpr ⟨fun z=>a (Dl z),ih b⟩
end
structure QK(N:Nat)(l:Cs):Prop where
 nd:(l.map (·.1)).Nodup
 lt:∀k∈l.map (·.1),∃i:Nat,k=(i:Int)∧i<N
theorem QK.len{N:Nat}{l:Cs}(h:QK N l):l.length≤N:=by
 have:=List.Nodup.length_le_of_subset (l₂:=(List.range N).map Int.ofNat) h.nd fun k hk=>by
  obtain⟨i,rfl,hi⟩:=h.lt k hk
  exact List.mem_map.mpr ⟨i,List.mem_range.mpr hi,rfl⟩
 rwa [List.length_map,List.length_map,List.length_range] at this
theorem QK.step{N:Nat}{l l':Cs}{pr lg:List PV}{st:PV}(h:QK N l)(s:Uh N st l pr l' lg):QK N l':=by
 cases s with
 |live i=>exact h
 |dead i=>exact⟨Uj h.nd,fun k hk=>h.lt k (Dl hk)⟩
 |print a b=>exact h
 |asg i hi rv=>exact⟨Ui h.nd,fun k hk=>(Dk hk).elim (fun e=>⟨i,e,hi⟩) (h.lt k)⟩
inductive Go(B:Nat→Option (List PV×Tm))(N:Nat):Nat→List PV→Tm→Cs→List PV→PV×List PV→Prop
 |st {n:Nat} {s:PV} {ss:List PV} {t:Tm} {l l':Cs} {pr lg:List PV} {r:PV×List PV}:Uh N s l pr l' lg→Go B N n ss t l' lg r→Go B N n (s::ss) t l pr r
 |ret {n:Nat} {l:Cs} {pr:List PV} {x:PV}:g8 0 l=some x→Vk x→Go B N (n+1) [] .ret l pr (.tup [.str 341,x],pr)
 |goto {n j:Nat} {ss:List PV} {t:Tm} {l:Cs} {pr:List PV} {r:PV×List PV}:B j=some (ss,t)→Go B N n ss t l pr r→Go B N (n+1) [] (.goto j) l pr r
 |sw {n no yes:Nat} {b:Bool} {o:PV} {ss:List PV} {t:Tm} {l:Cs} {pr:List PV} {r:PV×List PV}:Rd l o (.bool b)→B (if b then yes else no)=some (ss,t)→Go B N n ss t l pr r→Go B N (n+1) [] (.sw o no yes) l pr r
 |fL {n j:Nat} {o x:PV} {ss:List PV} {t:Tm} {l:Cs} {pr:List PV} {r:PV×List PV}:Rd l o (.bool false)→B j=some (ss,t)→Go B N n ss t l pr r→Go B N (n+1) [] (.fL o (.bool false) x j) l pr r
 |fail {n j w:Nat} {o:PV} {l:Cs} {pr:List PV}:Rd l o (.bool true)→Go B N (n+1) [] (.fL o (.bool false) (.str w) j) l pr (.tup [.str 248,.str w],pr)
theorem Go.mono{B:Nat→Option (List PV×Tm)}{N n n':Nat}{ss:List PV}{t:Tm}{l:Cs}{pr:List PV}{r:PV×List PV}(h:Go B N n ss t l pr r):n≤n'→Go B N n' ss t l pr r:=by
 have up:∀{k n':Nat},k+1≤n'→∃j,n'=j+1∧k≤j:=fun{k n'} h=>⟨n'-1,by lia,by exact Mine.Internal.qh2 ‹_›⟩
 induction h generalizing n' with
 |st s _ ih=>exact fun le=>.st s (ih le)
 |ret a b=>intro le;obtain⟨j,rfl,_⟩:=up le;exact .ret a b
 |goto a _ ih=>intro le;obtain⟨j,rfl,h⟩:=up le;exact .goto a (ih h)
 |sw a b _ ih=>intro le;obtain⟨j,rfl,h⟩:=up le;exact .sw a b (ih h)
 |fL a b _ ih=>intro le;obtain⟨j,rfl,h⟩:=up le;exact .fL a b (ih h)
 |fail a=>intro le;obtain⟨j,rfl,_⟩:=up le;exact .fail a
theorem Go.pos{B:Nat→Option (List PV×Tm)}{N n:Nat}{ss:List PV}{t:Tm}{l:Cs}{pr:List PV}{r:PV×List PV}(h:Go B N n ss t l pr r):0<n:=by
 induction h with
 |st _ _ ih=>exact ih
 |_=>exact Nat.succ_pos _
end Mine.Internal
namespace Mine.Internal
open PySem PySem.W PySem.Calls PyProof.Rows
theorem W5{caps:List Nat}{x:Nat}(hx:caps.contains x=true){p:PV}:∀{m:Loc},m.lookup x=some p→(Y4 caps m).lookup x=some p
 | [],h=>h
 |q::r,h=>by
  obtain⟨q1,q2⟩:=q
  unfold Y4
  rw [List.filter_cons]
  by_cases e:x=q1
  ·subst e
   rw [if_pos hx,List.lookup_cons,beq_self_eq_true]
   rw [List.lookup_cons,beq_self_eq_true] at h
   exact h
  ·have hb:(x==q1)=false:=beq_eq_false_iff_ne.mpr e
   rw [List.lookup_cons,hb] at h
   split
   ·rw [List.lookup_cons,hb];exact W5 hx h
   ·exact W5 hx h
structure Yq(bl:List PV)(b O1 la:Addr)(H:AH):Prop where
 b:H b=some (.inst eH O1)
 x:∃a1 a2 a3 a5,H O1=some (.attrs [(40,a1),(71,a2),(75,a3),(73,.obj la),(74,a5)])
 l:H la=some (.list bl)
theorem Yq.ext{bl:List PV}{b O1 la:Addr}{H H':AH}(y:Yq bl b O1 la H)(E:Ext H H'):Yq bl b O1 la H':=⟨E _ _ y.b,y.x.imp fun a1 ⟨a2,a3,a5,e⟩=>⟨a2,a3,a5,E _ _ e⟩,E _ _ y.l⟩
structure Wk(R:AH)(Cw Pw:Addr)(l:Cs)(pr:List PV)(H:AH):Prop where
 kp:Ext R H
 ec:H Cw=some (.m6 l)
 ep:H Pw=some (.list pr)
 ne:Cw≠Pw
 r1:R Cw=none
 r2:R Pw=none
theorem Wk.go{R:AH}{Cw Pw:Addr}{l l':Cs}{pr lg:List PV}{H H':AH}(w:Wk R Cw Pw l pr H)(e1:H' Cw=some (.m6 l'))(e2:H' Pw=some (.list lg))(k:∀y,y≠Cw→y≠Pw→H' y=H y):Wk R Cw Pw l' lg H':=
 ⟨fun y o e=>(k y (fun z=>by rw [z,w.r1] at e;cases e) (fun z=>by rw [z,w.r2] at e;cases e)).trans (w.kp y o e),e1,e2,w.ne,w.r1,w.r2⟩
theorem Wk.put{R:AH}{Cw Pw D:Addr}{l:Cs}{pr:List PV}{H:AH}{o:q7}(w:Wk R Cw Pw l pr H)(h:H D=none):Wk R Cw Pw l pr (upd H D o)∧R D=none∧D≠Cw∧D≠Pw:=
 have r:R D=none:=by
  cases q:R D with
  |none=>rfl
  |some o=>rw [w.kp _ _ q] at h;cases h
 have n1:D≠Cw:=fun z=>by rw [z,w.ec] at h;cases h
 have n2:D≠Pw:=fun z=>by rw [z,w.ep] at h;cases h
 ⟨⟨Ext.upd r w.kp,(d8 n1.symm).trans w.ec,(d8 n2.symm).trans w.ep,w.ne,w.r1,w.r2⟩,r,n1,n2⟩
theorem Wk.del{R:AH}{Cw Pw D:Addr}{l:Cs}{pr:List PV}{H:AH}(w:Wk R Cw Pw l pr H)(h:R D=none)(n1:D≠Cw)(n2:D≠Pw):Wk R Cw Pw l pr (del H D):=
 ⟨fun y o e=>(jQ fun z=>by rw [z,h] at e;cases e).trans (w.kp y o e),(jQ n1.symm).trans w.ec,(jQ n2.symm).trans w.ep,w.ne,w.r1,w.r2⟩
theorem Go.cons{B:Nat→Option (List PV×Tm)}{N n:Nat}{s:PV}{ss:List PV}{t:Tm}{l:Cs}{pr:List PV}{r:PV×List PV}(h:Go B N n (s::ss) t l pr r):∃l' lg,Uh N s l pr l' lg∧Go B N n ss t l' lg r:=by
 cases h with
 |st a b=>exact⟨_,_,a,b⟩
section
variable{P:Params}{g:G (o9 P).T}(hg:v9 g){n w:Nat}{m:Loc}{H R:AH}{Q:PV→AH→Prop}{Cw Pw b O1 la:Addr}{l l':Cs}{pr lg bl:List PV}{o x body st:PV}{N:Nat}{B:Nat→Option (List PV×Tm)}
include hg
theorem Ir{i:Nat}{ss t:PV}(y:Yq bl b O1 la H)(e:bl[i]? = some (.lst [ss,t]))(hz:bl.length≤sizeLine)(hn:1≤n):(Q ss H→Cl g n (.obj V1) [.obj b,.int (i:Int)] H Q)∧(Q t H→Cl g n (.obj V2) [.obj b,.int (i:Int)] H Q):=by
 obtain⟨a1,a2,a3,a5,ex⟩:=y.x
 have hi:i<2 ^ 62:=Nat.lt_trans (List.getElem?_eq_some_iff.mp e).1 (pY hz)
 exact⟨fun h=>(bw P).cl hg rfl hn fun n hn=>j9.mk y.b ex rfl rfl (V0 y.l hi e h),fun h=>(bx P).cl hg rfl hn fun n hn=>j9.mk y.b ex rfl rfl (V0 y.l hi e h)⟩
theorem Dm{F:List PV→AH→Prop}{D:Addr}{all:List PV}{t:Tm}{r:PV×List PV}{k:Nat}(hD:D≠Cw∧D≠Pw)(hN:N≤sizeLine)(hn:3≤n)
  (fin:∀H' l' lg,Wk R Cw Pw l' lg H'→QK N l'→Go B N k [] t l' lg r→H' D=some (.list [])→F [] H'):∀(ss:List PV) (m:Loc) (H:AH) (l:Cs) (pr:List PV),m.lookup 92=some (.obj b)→m.lookup 338=some (.obj Cw)→m.lookup 340=some (.obj Pw)→Wk R Cw Pw l pr H→QK N l→Go B N k ss t l pr r→H D=some (.list [])→
  WC (.one 28) (Xe g n [.not (.call 360 [.loc 92,.loc 338,.loc 340,.loc 28])]) (fun m H Q=>X.wE (.loc 28) g n m H Q) (.lst all) all D F ss [] m H:=by
 intro ss
 induction ss with
 |nil=>exact fun m H l pr O O O w c go e=>fin H l pr w c go e
 |cons s ss ih=>
  intro m H l pr e1 e2 e3 w c go e
  obtain⟨l',lg,s1,go⟩:=go.cons
  refine d7 (aB (by decide) e1) (d7 (aB (by decide) e2) (d7 (aB (by decide) e3) (d7 K9 (Gb hg w.ec w.ep w.ne s1 (Nat.le_trans c.len hN) hn fun H' a1 a2 a3=>?_))))
  have e':H' D=some (.list []):=(a3 D hD.1 hD.2).trans e
  exact And.intro ⟨e',rfl⟩ (ih _ H' l' lg (aB (by decide) e1) (aB (by decide) e2) (aB (by decide) e3) (w.go a1 a2 a3) (c.step s1) go e')
noncomputable abbrev walk1:S:=.iff (.cmp .NotEq (.comp [92,338,340] (.one 28) (.loc 28) (.meth (.loc 92) 99 [.loc 64]) [.not (.call 360 [.loc 92,.loc 338,.loc 340,.loc 28])] [(446,.local),(28,.local),(360,.globalImplicit),(92,.free),(338,.free),(340,.free)]) (.lst [])) [.ret .none] []
noncomputable abbrev walk2:List S:=[.asg (.name 282) (.meth (.loc 92) 81 [.loc 64]),.iff (.cmp .Eq (.at (.loc 282) 0) (.str 247)) [.ret (.tup [.tup [.str 341,.call 357 [.loc 338,.tup [.str 143,.tup [.int 0,.tup []]]]],.loc 340])] [],.iff (.cmp .Eq (.at (.loc 282) 0) (.str 84)) [.asg (.name 64) (.at (.loc 282) 1)] [.iff (.cmp .Eq (.at (.loc 282) 0) (.str 88)) [.asg (.name 89) (.call 357 [.loc 338,.at (.loc 282) 1]),.iff (.or [.cmp .Eq (.loc 89) (.str 352),.cmp .NotEq (.loc 89) (.at (.loc 282) 2)]) [.ret (.jt (.cmp .Eq (.loc 89) (.str 352)) .none (.tup [.tup [.str 248,.at (.loc 282) 3],.loc 340]))] [],.asg (.name 64) (.at (.loc 282) 4)] [.iff (.cmp .Eq (.at (.loc 282) 0) (.str 85)) [.asg (.name 89) (.call 357 [.loc 338,.at (.loc 282) 1]),.asg (.name 91) (.bin .Add (.comp [89] (.many [361,78]) (.loc 78) (.at (.loc 282) 2) [.cmp .Eq (.loc 361) (.loc 89)] [(446,.local),(361,.local),(78,.local),(89,.free)]) (.lst [.at (.loc 282) 3])),.asg (.name 64) (.at (.loc 91) 0)] [.ret .none]]]]
structure Wn(m:Loc)(b Cw Pw:Addr):Prop where
 body:m.lookup 92=some (.obj b)
 cells:m.lookup 338=some (.obj Cw)
 prints:m.lookup 340=some (.obj Pw)
omit hg in
theorem Wn.set{y:Nat}{q:PV}(h:Wn m b Cw Pw)(e:[92,338,340].elem y=false):Wn (m5 y q m) b Cw Pw:=by
 have ne:∀x,[92,338,340].elem x=true→x≠y:=fun x hx z=>by rw [z,e] at hx;cases hx
 exact⟨aB (ne _ rfl) h.body,aB (ne _ rfl) h.cells,aB (ne _ rfl) h.prints⟩
theorem Ge{r:PV×List PV}{ss:List PV}{tm:Tm}{i n':Nat}{t:PV}{K:Out→Loc→AH→Prop}(hN:N≤sizeLine)(hz:bl.length≤sizeLine)(hn:4≤n)(Y:Yq bl b O1 la R)(e:bl[i]? = some (.lst [.lst ss,t]))(go:Go B N n' ss tm l pr r)(wn:Wn m b Cw Pw)(hh:m.lookup 64=some (.int (i:Int)))
  (w:Wk R Cw Pw l pr H) (c:QK N l) (fin:∀H' l' lg,Wk R Cw Pw l' lg H'→QK N l'→Go B N n' [] tm l' lg r→K .next m H'):walk1.w g n m H K:=by
 have bound:oG m [92,338,340]=true:=by unfold oG;rw [List.all_cons,List.all_cons,List.all_cons,wn.body,wn.cells,wn.prints];rfl
 have Y1:=Y.ext w.kp
 obtain⟨a1,a2,a3,a5,ex⟩:=Y1.x
 refine cB bound (d7 wn.body (MethP.mk Y1.b ex rfl rfl (d7 hh ((Ir hg Y1 e hz (leB hn rfl)).1 fun D hD=>?_))))
 obtain⟨wD,rD,n1,n2⟩:=w.put (o:=.list []) hD
 exact Dm hg ⟨n1,n2⟩ hN (leB hn rfl) (fun H' l' lg w' c' go' e'=>fin _ l' lg (w'.del rD n1 n2) c' go') ss _ _ l pr (W5 rfl wn.body) (W5 rfl wn.cells) (W5 rfl wn.prints) wD c go (c7 ..)
theorem Kq{r:PV×List PV}{tm:Tm}{i n':Nat}{ss:PV}{f:List Nat}{K:Out→Loc→AH→Prop}(hz:bl.length≤sizeLine)(hn:4≤n)(Y:Yq bl b O1 la R)(e:bl[i]? = some (.lst [ss,(tm.map fun j=>dU j f).v])) (go:Go B N (n'+1) [] tm l pr r) (wn:Wn m b Cw Pw) (hh:m.lookup 64=some (.int (i:Int)))
  (w:Wk R Cw Pw l pr H) (fin:∀m' H',Ext R H'→H' Pw=some (.list r.2)→K (.ret (.tup [r.1,.obj Pw])) m' H')
  (next:∀m' ss VF j,j∈tm.succ→B j=some (ss,VF)→Go B N n' ss VF l pr r→Wn m' b Cw Pw→m'.lookup 64=some (.int ((dU j f:Nat):Int))→K .next m' H):I9 g n walk2 m H K:=by
 have Y1:=Y.ext w.kp
 obtain⟨a1,a2,a3,a5,ex⟩:=Y1.x
 refine d7 wn.body (MethP.mk Y1.b ex rfl rfl (d7 hh ((Ir hg Y1 e hz (leB hn rfl)).2 ?_)))
 have we:∀q,Wn (m5 282 q m) b Cw Pw:=fun q=>wn.set rfl
 have wv:∀q v,Wn (m5 89 v (m5 282 q m)) b Cw Pw:=fun q v=>(we q).set rfl
 cases go with
 |ret k v=>exact d7 K9 ((d7 (we _).cells (X7 hg w.ec (.cp (i:=0) k v) (leB hn rfl) (d7 (we _).prints (fin _ _ w.kp w.ep)))))
 |goto k go=>exact d7 K9 (d7 K9 (d7 K9 (next _ _ _ _ (.head _) k go ((we _).set rfl) K9)))
 |@sw _ no yes c o ss t _ _ _ rd k go=>
  refine d7 K9 (d7 K9 (d7 K9 (d7 K9 (d7 (we _).cells (d7 K9 (X7 hg w.ec rd (leB hn rfl) ?_))))))
  generalize eq:((Tm.sw o no yes).map fun j=>dU j f).v=q at *
  have bound:oG (m5 89 (.bool c) (m5 282 q m)) [89]=true:=by unfold oG;rw [List.all_cons,K9];rfl
  have go':∀j,j=(if c then yes else no)→∀z,I9 g n [.asg (.name 64) (.at (.loc 91) 0)] (m5 91 (.lst (.int ((dU j f:Nat):Int)::z)) (m5 89 (.bool c) (m5 282 q m))) H K:=fun j e z=>by
   subst e
   exact d7 K9 (next _ _ _ _ (by cases c<;>first|exact .head _|exact .tail _ (.head _)) k go ((wv _ _).set rfl |>.set rfl) K9)
  subst eq
  refine cB bound (d7 (aB (by decide) K9) fun D hD=>?_)
  have lv:(Y4 [89] (m5 89 (.bool c) (m5 282 ((Tm.sw o no yes).map fun j=>dU j f).v m))).lookup 89=some (.bool c):=W5 rfl K9
  have lv2:∀x y,(lF [361,78] [x,y] (Y4 [89] (m5 89 (.bool c) (m5 282 ((Tm.sw o no yes).map fun j=>dU j f).v m)))).lookup 89=some (.bool c):=fun x y=>by
   show(m5 78 y (m5 361 x _)).lookup 89=_
   exact aB (by decide) (aB (by decide) lv)
  refine d7 (x:=.bool false) (aB (by decide) K9) ?_
  refine d7 (x:=.bool c) (lv2 _ _) ?_
  cases c with
  |true=>
   refine And.intro ⟨c7 ..,rfl⟩ ?_
   show lk _ _
   rw [bV hD]
   exact d7 (aB (by decide) K9) (Ij rfl rfl rfl (aj rfl) (go' _ rfl []))
  |false=>
   refine d7 K9 ⟨⟨c7 ..,Nat.lt_of_lt_of_le (Nat.zero_lt_one) (aj rfl),rfl⟩,?_⟩
   show lk _ _
   rw [iK,bV hD]
   exact d7 (aB (by decide) K9) (Ij rfl rfl rfl (aj rfl) (go' _ rfl _))
 |fL rd k go=>exact d7 K9 (d7 K9 (d7 K9 (d7 (we _).cells (d7 K9 (X7 hg w.ec rd (leB hn rfl) (d7 K9 (d7 K9 (d7 (aB (by decide) K9) (d7 (aB (by decide) K9) (next _ _ _ _ (.head _) k go ((wv _ _).set rfl) K9))))))))))
 |fail rd=>exact d7 K9 (d7 K9 (d7 K9 (d7 (we _).cells (d7 K9 (X7 hg w.ec rd (leB hn rfl) (d7 K9 (d7 K9 (d7 (aB (by decide) K9) (d7 K9 (d7 (aB (by decide) K9) (d7 (wv _ _).prints (fin _ _ w.kp w.ep))))))))))))
end
end Mine.Internal
namespace Mine.Internal
open PySem PySem.W PySem.Calls PyProof.Rows
section
variable{P:Params}{g:G (o9 P).T}(hg:v9 g){n w:Nat}{m:Loc}{H R:AH}{Q:PV→AH→Prop}{Cw Pw b O1 la:Addr}{l l':Cs}{pr lg bl:List PV}{o x body st:PV}{N:Nat}{B:Nat→Option (List PV×Tm)}
include hg
theorem Gf{r:PV×List PV}{f:List Nat}{L0:List PV}{Q':Out→Loc→AH→Prop}(hN:N≤sizeLine)(hz:bl.length≤sizeLine)(hn:4≤n)(Y:Yq bl b O1 la R)
  (hbl:∀i∈f,∀ss tm,B i=some (ss,tm)→bl[dU i f]? = some (.lst [.lst ss,(tm.map fun j=>dU j f).v])∧∀j∈tm.succ,j∈f)
  (fin:∀m' H',Ext R H'→H' Pw=some (.list r.2)→Q' (.ret (.tup [r.1,.obj Pw])) m' H'):∀(k:Nat) (i:Int) (j:Nat) (m:Loc) (H:AH) (l:Cs) (pr ss:List PV) (tm:Tm) (n':Nat),n'≤k→j∈f→B j=some (ss,tm)→Go B N n' ss tm l pr r→
   Wn m b Cw Pw→m.lookup 64=some (.int ((dU j f:Nat):Int))→Wk R Cw Pw l pr H→QK N l→DG (fun q m H Q=>(Tg.name 359).w g n q m H Q) (fun m H Q=>I9 g n (walk1::walk2) m H Q) (.rng 0 900) L0 Q' (H9 i k) m H:=by
 intro k
 induction k with
 |zero=>exact fun i j m H l pr ss tm n' hk O O go=>absurd go.pos (by exact Nat.not_lt.mpr ‹_›)
 |succ k ih=>
  intro i j m H l pr ss tm n' hk hj hB go wn hh w c
  obtain⟨e,cl⟩:=hbl j hj ss tm hB
  obtain⟨n',rfl⟩:∃k,n'=k+1:=⟨n'-1,by have:=go.pos;lia⟩
  have hh1:(m5 359 (.int i) m).lookup 64=some (.int ((dU j f:Nat):Int)):=aB (by decide) hh
  refine Ge hg hN hz hn Y e go (wn.set (y:=359) (q:=.int i) rfl) hh1 w c fun H' l' lg w' c' go'=>?_
  exact Kq hg hz hn Y e go' (wn.set (y:=359) (q:=.int i) rfl) hh1 w' fin fun m' ss VF j' hj' hB' go2 wn2 hh2=>ih (i+1) j' m' H' l' lg ss VF n' (by exact Nat.le_of_succ_le_succ ‹_›) (cl j' hj') hB' go2 wn2 hh2 w' c'
theorem Kr{M:Mem}{t:Nat→Tm}{f:List Nat}{R0:AH}{r:PV×List PV}{ss:List PV}{tm:Tm}(hN:N≤sizeLine)(hz:f.length≤sizeLine)(hn:5≤n)(d:Done M t f R0 b H)(e0:M.blks[0]?.map (fun b=>(b.1,t 0))=some (ss,tm)) (go:Go (fun i=>M.blks[i]?.map fun b=>(b.1,t i)) N 900 ss tm [] [] r)
  (h:∀Pw H',Ext H H'→H' Pw=some (.list r.2)→Q (.tup [r.1,.obj Pw]) H'):Cl g n (.obj jC) [.obj b] H Q:=by
 obtain⟨O1,la,a1,a2,a3,a5,o1,o2,o3⟩:=d.ob
 refine(tR P).cl hg rfl hn fun n hn=>fun Cw hC Pw hP=>?_
 have ne:Cw≠Pw:=fun z=>by rw [← z,c7] at hP;cases hP
 have hP':H Pw=none:=by rw [← hP,d8 ne.symm]
 have w:Wk H Cw Pw [] [] (upd (upd H Cw (.m6 [])) Pw (.list [])):=⟨Ext.upd hP' (Ext.new hC),(d8 ne).trans (c7 ..),c7 ..,ne,hC,hP'⟩
 have f0:0∈f:=List.mem_of_getElem? d.z
 have i0:dU 0 f=0:=by
  have z:=d.z
  cases f with
  |nil=>cases z
  |cons x f=>cases z;rfl
 refine cV (And.intro ⟨by decide,by decide,by decide,by decide⟩ (d7 (x:=H9 0 900) rfl ?_))
 refine Gf hg hN (bl:=f.map (oX M t f)) (by rw [List.length_map];exact hz) hn (R:=H) ⟨o1,⟨a1,a2,a3,a5,o2⟩,o3⟩ (f:=f) (B:=fun i=>M.blks[i]?.map fun b=>(b.1,t i)) (fun i hi ss tm e=>?_) (fun m' H' E e=>h Pw H' E e) 900 0 0 _ _ [] [] ss tm 900 (Nat.le_refl _) f0 e0 go ⟨rfl,rfl,rfl⟩ (by rw [i0];rfl) w ⟨.nil,fun O h=>nomatch h⟩
 obtain⟨bb,eb,ee⟩:=Option.map_eq_some_iff.mp e
 cases ee
 refine⟨?_,d.cl i hi⟩
 rw [List.getElem?_map,CX hi]
 show some (oX M t f i)=_
 unfold oX
 rw [eb];rfl
end
end Mine.Internal
namespace Mine.Internal
open PySem PySem.W PySem.Calls PyProof.Rows
set_option tactic.hygienic true in
theorem iZ{i j:Nat}(h:(PV.int (i:Int)) = .int (j:Int)):i=j:=Int.ofNat.inj (PV.int.inj h)
set_option tactic.hygienic true in
theorem Tm.Qj{a b:Tm}(h:a.v=b.v):a=b:=by
 have hd:∀{x y:PV} {l k:List PV},PV.tup (x::l) = .tup (y::k)→x=y∧l=k:=fun h=>⟨(List.cons.inj (PV.tup.inj h)).1,(List.cons.inj (PV.tup.inj h)).2⟩
 cases a<;>cases b<;>first|rfl|exact absurd (PV.str.inj (hd h).1) (by decide)|skip
 case goto.goto i j=>rw [iZ (List.cons.inj (hd h).2).1]
 case sw.sw o n y o' n' y'=>
  obtain⟨e1,h1⟩:=List.cons.inj (hd h).2
  obtain⟨e2,h2⟩:=List.cons.inj h1
  obtain⟨e3,_⟩:=List.cons.inj h2
  have e4:=(hd (List.cons.inj (PV.tup.inj e2)).1).2
  rw [e1,iZ e3,iZ (List.cons.inj e4).1]
 case fL.fL o x t i o' x' t' i'=>
  obtain⟨e1,h1⟩:=List.cons.inj (hd h).2
  obtain⟨e2,h2⟩:=List.cons.inj h1
  obtain⟨e3,h3⟩:=List.cons.inj h2
  rw [e1,e2,e3,iZ (List.cons.inj h3).1]
theorem Tm.Gg(t:Tm):isNone t.v=false:=by cases t<;>rfl
noncomputable def H8(M:Mem):Prop := ∃c,M.blks[M.here]? = some (c,.none)
noncomputable def TmI(M:Mem):Prop := ∀(i:Nat) ss t,M.blks[i]? = some (ss,t)→isNone t=true∨∃tm:Tm,t=tm.v∧tm.fine M.blks.length
structure TrB(M M':Mem):Prop where
 gw:∀(i:Nat) ss t,M.blks[i]? = some (ss,t)→∃ss' t',M'.blks[i]? = some (ss++ss',t')∧(isNone t=false→ss'=[]∧t'=t)
 len:M.blks.length≤M'.blks.length
 fr:∀i,i<M.blks.length→i≠M.here→M'.blks[i]? = M.blks[i]?
 hr:M'.here=M.here∨M.blks.length≤M'.here
 ti:TmI M→TmI M'
structure Tr(T:Nat)(M M':Mem):Prop extends TrB M M' where
 fs:∀f fs,M.frs=f::fs→∃l,M'.frs=(f++l)::fs∧∀y∈l,T≤y.1
 ty:∃l,M'.tys=M.tys++l
section
variable{M M' M'' X Y:Mem}{T T':Nat}{i j:Nat}{s p rv t:PV}{tm:Tm}
theorem gw0(M:Mem):∀(i:Nat) ss t,M.blks[i]? = some (ss,t)→∃ss' t',M.blks[i]? = some (ss++ss',t')∧(isNone t=false→ss'=[]∧t'=t):=fun i ss t e=>⟨[],t,by rw [List.append_nil];exact e,fun O=>⟨rfl,rfl⟩⟩
theorem TrB.refl:TrB M M:=⟨gw0 M,Nat.le_refl _,fun O O O=>rfl,.inl rfl,id⟩
theorem TrB.trans(a:TrB M M')(b:TrB M' M''):TrB M M'':=by
 refine⟨fun i ss t e=>?_,Nat.le_trans a.len b.len,fun i hi ne=>?_,?_,fun h=>b.ti (a.ti h)⟩
 ·obtain⟨s1,t1,e1,h1⟩:=a.gw i ss t e
  obtain⟨s2,t2,e2,h2⟩:=b.gw i _ t1 e1
  refine⟨s1++s2,t2,by rw [← List.append_assoc];exact e2,fun h=>?_⟩
  obtain⟨rfl,rfl⟩:=h1 h
  obtain⟨rfl,rfl⟩:=h2 h
  exact⟨rfl,rfl⟩
 ·rw [b.fr i (Nat.lt_of_lt_of_le hi a.len) (fun z=>a.hr.elim (fun w=>ne (z.trans w)) fun w=>by lia)]
  exact a.fr i hi ne
 ·rcases b.hr with h|h
  ·rw [h];exact a.hr
  ·exact .inr (Nat.le_trans a.len h)
theorem Tr.refl:Tr T M M:=⟨.refl,fun f fs e=>⟨[],by rw [List.append_nil];exact e,fun O h=>nomatch h⟩,Fz _⟩
theorem Tr.trans(a:Tr T M M')(b:Tr T M' M''):Tr T M M'':=by
 refine⟨a.toTrB.trans b.toTrB,fun f fs e=>?_,?_⟩
 ·obtain⟨l,e1,h1⟩:=a.fs f fs e
  obtain⟨k,e2,h2⟩:=b.fs _ _ e1
  exact⟨l++k,by rw [← List.append_assoc];exact e2,fun y hy=>(List.mem_append.mp hy).elim (h1 y) (h2 y)⟩
 ·obtain⟨l,e1⟩:=a.ty
  obtain⟨k,e2⟩:=b.ty
  exact⟨l++k,by rw [e2,e1,List.append_assoc]⟩
theorem Tr.le(a:Tr T M M')(h:T'≤T):Tr T' M M':=⟨a.toTrB,fun f fs e=>(a.fs f fs e).imp fun l z=>⟨z.1,fun y hy=>Nat.le_trans h (z.2 y hy)⟩,a.ty⟩
theorem Tr.tl(a:Tr T M M'):M.tys.length≤M'.tys.length:=by
 obtain⟨l,e⟩:=a.ty
 rw [e,List.length_append];exact Nat.le_add_right ..
theorem Iu{f:List PV×PV→List PV×PV}{c ss':List PV}{t':PV}(h:M.blks[M.here]? = some (c,.none))(e:f (c,.none)=(c++ss',t'))(ht:isNone t'=true∨∃tm:Tm,t'=tm.v∧tm.fine M.blks.length)(eb:M'.blks=M.blks.modify M.here f)(eh:M'.here=M.here):TrB M M':=by
 have el:M'.blks.length=M.blks.length:=by rw [eb,List.length_modify]
 refine⟨fun i ss t z=>?_,Nat.le_of_eq el.symm,fun i hi ne=>?_,.inl eh,fun h1 i ss t z=>?_⟩
 ·rw [eb,get_modify]
  by_cases q:M.here=i
  ·subst q
   rw [h] at z
   cases z
   rw [if_pos rfl,h]
   exact⟨ss',t',congrArg some e,fun z=>nomatch z⟩
  ·rw [if_neg q];exact gw0 M i ss t z
 ·rw [eb,get_modify,if_neg ne.symm]
 ·rw [el]
  rw [eb,get_modify] at z
  by_cases q:M.here=i
  ·subst q
   rw [if_pos rfl,h] at z
   have z2:=(Option.some.inj z).symm.trans e
   cases z2
   exact ht
  ·rw [if_neg q] at z;exact h1 i ss t z
theorem H8.put(h:H8 M):H8 (M.tick.put s):=by
 obtain⟨c,h⟩:=h
 exact⟨c++[s],by show(M.blks.modify M.here _)[M.here]? = _;rw [get_modify,if_pos rfl,h];rfl⟩
theorem zO(h:H8 M):TrB M (M.tick.put s):=h.elim fun c h=>Iu (ss':=[s]) (t':=.none) h rfl (.inl rfl) rfl rfl
theorem fM(h:H8 M)(ft:tm.fine M.blks.length):TrB M (M.cls tm.v):=h.elim fun c h=>Iu (ss':=[]) (t':=tm.v) h (by rw [List.append_nil]) (.inr ⟨tm,rfl,ft⟩) rfl rfl
theorem Tr.same(b:TrB M M')(e:M'.frs=M.frs)(t:M'.tys=M.tys):Tr T M M':=⟨b,fun f fs z=>⟨[],by rw [List.append_nil,e];exact z,fun O h=>nomatch h⟩,by rw [t];exact Fz _⟩
theorem Yr(h:H8 M):Tr T M (M.tick.put s):=.same (zO h) rfl rfl
theorem iD(h:H8 M)(ft:tm.fine M.blks.length):Tr T M (M.cls tm.v):=.same (fM h ft) rfl rfl
theorem H8.j5(h:H8 M):H8 M.j5:=h.imp fun c h=>by
 show(M.blks++[_])[M.here]? = _
 rw [List.getElem?_append_left (List.getElem?_eq_some_iff.mp h).1];exact h
theorem fO(M:Mem):M.j5.blks[M.blks.length]? = some ([],.none):=by
 show(M.blks++[_])[M.blks.length]? = _
 rw [List.getElem?_append_right (Nat.le_refl _),Nat.sub_self];rfl
theorem Z0{i:Nat}(h:i<M.blks.length):M.j5.blks[i]? = M.blks[i]? := List.getElem?_append_left h
theorem I4(M:Mem):M.j5.blks.length=M.blks.length+1:=List.length_append
theorem pq{N N':Nat}{t:Tm}(h:t.fine N)(le:N≤N'):t.fine N':=⟨fun j hj=>Nat.lt_of_lt_of_le (h.1 j hj) le,h.2⟩
theorem Q9:Tr T M M.j5:=by
 refine .same ⟨fun i ss t e=>?_,by rw [I4];exact Nat.le_succ _,fun i hi O=>Z0 hi,.inl rfl,fun h i ss t e=>?_⟩ rfl rfl
 ·rw [Z0 (List.getElem?_eq_some_iff.mp e).1];exact gw0 M i ss t e
 ·rw [I4]
  have hi:=(List.getElem?_eq_some_iff.mp e).1
  rw [I4] at hi
  by_cases q:i=M.blks.length
  ·rw [q,fO] at e;cases e;exact .inl rfl
  ·rw [Z0 (by lia)] at e
   exact(h i ss t e).imp id fun⟨tm,a,b⟩=>⟨tm,a,pq b (Nat.le_succ _)⟩
theorem nG(h:X.blks.length≤j)(a:Tr T X M):Tr T X (M.to j):=⟨⟨a.gw,a.len,a.fr,.inr h,a.ti⟩,a.fs,a.ty⟩
theorem cu:∀(l:List (Nat×Bool)) {M:Mem},H8 M→TrB M (M.fin l)∧H8 (M.fin l)
 | [],M,h=>⟨.refl,h⟩
 | (i,true)::r,M,h=>have z:=cu r (h.put (s:=.tup [.str 134,.int (i:Int)]));⟨(zO h).trans z.1,z.2⟩
 | (_,false)::r,M,h=>cu r h
theorem Ys(a:Tr T M.push X)(h:H8 X):Tr T M X.pop∧H8 X.pop:=by
 obtain⟨l,e,_⟩:=a.fs [] M.frs rfl
 obtain⟨s1,s2,s3⟩:=U0 e
 have z:=cu (X.frs.headD []).reverse h
 have b:TrB M.push X.pop:=a.toTrB.trans ⟨z.1.gw,z.1.len,z.1.fr,z.1.hr,z.1.ti⟩
 exact⟨⟨⟨b.gw,b.len,b.fr,b.hr,b.ti⟩,fun f fs z=>⟨[],by rw [s1,z,List.append_nil],fun O h=>nomatch h⟩,by rw [s2];exact a.ty⟩,z.2⟩
theorem Uk(h:H8 M)(hT:T≤M.tys.length):Tr T M (M.temp t)∧H8 (M.temp t):=by
 have y:=zO (M:=M) (s:=.tup [.str 129,.int (M.tys.length:Int)]) h
 have z:TrB M (M.temp t):=⟨y.gw,y.len,y.fr,y.hr,y.ti⟩
 refine⟨⟨z,fun f fs e=>⟨[(M.tys.length,true)],?_,fun y hy=>List.mem_singleton.mp hy▸hT⟩,⟨[t],rfl⟩⟩,h.put⟩
 show(match M.frs with|f::fs=>(f++[(M.tys.length,true)])::fs | []=>[])=_
 rw [e]
end
end Mine.Internal
namespace Mine.Internal
open PySem PySem.W PySem.Calls PyProof.Rows
noncomputable def fP(into:PV→Mem→Mem)(M:Mem):Mem:=inScope into (m7 M.tys.length) (M.temp T9)
structure TO(T:Nat)(M X:Mem):Prop where
 le:T≤M.tys.length
 tr:Tr T M X
 op:H8 X
section
variable{M M1 X X1 X3 Y:Mem}{T T':Nat}{i j b1 b2:Nat}{s p rv t o x:PV}{tm:Tm}
theorem TO.refl(h:H8 M):TO M.tys.length M M:=⟨Nat.le_refl _,.refl,h⟩
theorem TO.call(h:TO T M X)(k:TO X.tys.length X Y):TO T M Y:=⟨h.le,h.tr.trans (k.tr.le (Nat.le_trans h.le h.tr.tl)),k.op⟩
theorem TO.put(h:TO T M X):TO T M (X.tick.put s):=⟨h.le,h.tr.trans (Yr h.op),h.op.put⟩
theorem TO.asg(h:TO T M X):TO T M (X.asg p rv):=h.put
theorem TO.temp(h:TO T M X):TO T M (X.temp t):=have z:=Uk (t:=t) h.op (Nat.le_trans h.le h.tr.tl);⟨h.le,h.tr.trans z.1,z.2⟩
theorem S8(k:TO M.tys.length M.push X):TO M.tys.length M X.pop:=have z:=Ys k.tr k.op;⟨Nat.le_refl _,z.1,z.2⟩
theorem H8.lt(h:H8 M):M.here<M.blks.length:=h.elim fun O e=>(List.getElem?_eq_some_iff.mp e).1
theorem kY(ne:j≠M.here):(M.cls t).blks[j]? = M.blks[j]? := by
 show(M.blks.modify M.here _)[j]? = _
 rw [get_modify,if_neg ne.symm]
theorem aD:(M.cls t).blks.length=M.blks.length:=List.length_modify ..
theorem TO.must(h:TO T M X):TO T M (jG X o x t):=by
 have f:(Tm.fL o x t X.blks.length).fine X.j5.blks.length:=⟨fun j hj=>by rw [List.mem_singleton.mp hj,I4];exact Nat.lt_succ_self _,List.nodup_cons.mpr ⟨List.not_mem_nil,.nil⟩⟩
 refine⟨h.le,nG h.tr.len ((h.tr.trans Q9).trans (iD (tm:=.fL o x t X.blks.length) h.op.j5 f)),[],?_⟩
 show(X.j5.cls _).blks[X.blks.length]? = _
 rw [kY (M:=X.j5) (Nat.ne_of_gt h.op.lt),fO]
theorem TO.J4(h:TO T M X)(op:Op)(a b:PV):TO T M (J4 p op a b X):=by
 unfold Mine.Internal.J4
 split
 ·exact h.temp.asg.must.asg
 ·exact h.asg
theorem af0{f:PV→Mem→Mem}(h:TO M.push.tys.length M.push (f p M.push)):TO M.tys.length M (inScope f p M):=S8 h
theorem TO.truth{f:PV→Mem→Mem}(h:TO T M X)(k:∀M p,H8 M→TO M.tys.length M (f p M)):TO T M (fP f X):=h.temp.call (af0 (k _ _ h.temp.op))
theorem pA(M:Mem):(u9 i M).blks.length=M.blks.length+2:=by rw [u9,aD,I4,I4]
theorem Qk(h:H8 M)(h1:M.blks.length≤j)(h2:j<M.blks.length+3):(u9 i M).j5.blks[j]? = some ([],.none):=by
 by_cases e:j=M.blks.length+2
 ·rw [e,← pA (i:=i)];exact fO _
 ·rw [Z0 (by rw [pA];lia)]
  show(M.j5.j5.cls _).blks[j]? = _
  rw [kY (M:=M.j5.j5) (Nat.ne_of_gt (Nat.lt_of_lt_of_le h.lt h1))]
  by_cases q:j=M.blks.length+1
  ·rw [q,← I4];exact fO _
  ·rw [Z0 (by rw [I4];lia),show j=M.blks.length by lia];exact fO _
theorem Iv(h:H8 M):(Tm.sw (j7 (m7 i)) (M.blks.length+1) M.blks.length).fine M.j5.j5.blks.length:=by
 rw [I4,I4]
 refine⟨fun j hj=>?_,List.nodup_cons.mpr ⟨fun z=>Nat.succ_ne_self _ (List.mem_singleton.mp z),List.nodup_cons.mpr ⟨List.not_mem_nil,.nil⟩⟩⟩
 rcases List.mem_cons.mp hj with e|e
 ·lia
 ·have:=List.mem_singleton.mp e;lia
theorem Iw(h:TO T M M1):Tr T M (u9 i M1).j5:=((h.tr.trans (Q9.trans Q9)).trans (iD (tm:=.sw (j7 (m7 i)) (M1.blks.length+1) M1.blks.length) h.op.j5.j5 (Iv h.op))).trans Q9
structure Two(M1:Mem)(b1 b2:Nat):Prop where
 h1:M1.blks.length≤b1
 h2:M1.blks.length≤b2
 l1:b1<M1.blks.length+2
 l2:b2<M1.blks.length+2
 ne:b1≠b2
theorem two(an:Bool):Two M1 (if an then M1.blks.length+1 else M1.blks.length) (if an then M1.blks.length else M1.blks.length+1):=by cases an<;>constructor<;>simp
theorem Ql(h:H8 M1)(w:Two M1 b1 b2):H8 ((u9 i M1).j5.to b1):=⟨[],Qk h w.h1 (Nat.lt_succ_of_lt w.l1)⟩
theorem Iz(h:H8 M1)(w:Two M1 b1 b2)(k:TO T ((u9 i M1).j5.to b1) X1) (hj:M1.blks.length≤j) (hj2:j<M1.blks.length+3) (ne:j≠b1):(X1.cls t).blks[j]? = some ([],.none)∧j<X1.blks.length:=by
 have l3:(u9 i M1).j5.blks.length=M1.blks.length+3:=by rw [I4,pA]
 have ln:M1.blks.length+3≤X1.blks.length:=by rw [← l3];exact k.tr.len
 have hh:j≠X1.here:=fun z=>k.tr.hr.elim (fun w=>ne (z.trans w)) fun w=>by
  have:(u9 i M1).j5.blks.length≤X1.here:=w
  lia
 exact⟨by rw [kY hh,k.tr.fr j (by show j<(u9 i M1).j5.blks.length;lia) ne];exact Qk h hj hj2,by exact Nat.le_trans ‹_› ‹_›⟩
theorem VG(h:TO T M M1)(w:Two M1 b1 b2)(k1:TO T ((u9 i M1).j5.to b1) X1) (k2:TO T ((X1.cls (q8 (M1.blks.length+2))).to b2) X3):TO T M (X3.qX (M1.blks.length+2))∧(X3.qX (M1.blks.length+2)).blks[M1.blks.length+2]? = some ([],.none):=by
 have l1:=w.l1
 have l2:=w.l2
 obtain⟨e1,e2⟩:=Iz (t:=q8 (M1.blks.length+2)) (j:=M1.blks.length+2) h.op w k1 (by exact Nat.le_add_right ..) (by exact Nat.le_refl _) (by exact Nat.ne_of_gt ‹_›)
 have g1:(Tm.goto (M1.blks.length+2)).fine X1.blks.length:=⟨fun j hj=>by rw [List.mem_singleton.mp hj];exact e2,List.nodup_cons.mpr ⟨List.not_mem_nil,.nil⟩⟩
 have ln:X1.blks.length≤X3.blks.length:=Nat.le_trans (Nat.le_of_eq aD.symm) k2.tr.len
 have g2:=pq g1 ln
 have hl:=h.tr.len
 have t1:=(nG (j:=b1) (Nat.le_trans hl w.h1) (Iw (i:=i) h)).trans k1.tr
 have t2:=(nG (j:=b2) (Nat.le_trans hl w.h2) (t1.trans (iD (tm:=.goto (M1.blks.length+2)) k1.op g1))).trans k2.tr
 have t3:=nG (j:=M1.blks.length+2) (by exact Nat.le_trans ‹_› (Nat.le_add_right ..)) (t2.trans (iD (tm:=.goto (M1.blks.length+2)) k2.op g2))
 have hh:M1.blks.length+2≠X3.here:=fun z=>k2.tr.hr.elim (fun w=>by rw [← z] at w;have:M1.blks.length+2=b2:=w;lia) fun w=>by
  have w:(X1.cls (q8 (M1.blks.length+2))).blks.length≤X3.here:=w
  rw [aD] at w
  lia
 have e3:(X3.qX (M1.blks.length+2)).blks[M1.blks.length+2]? = some ([],.none):=by
  show(X3.cls _).blks[_]? = _
  rw [kY hh,k2.tr.fr _ (by show _<(X1.cls _).blks.length;rw [aD];exact e2) (show M1.blks.length+2≠b2 by exact Nat.ne_of_gt ‹_›)]
  exact e1
 exact⟨⟨h.le,t3,[],e3⟩,e3⟩
end
theorem TO.le'{T T':Nat}{M X:Mem}(h:TO T M X)(l:T'≤T):TO T' M X:=⟨Nat.le_trans l h.le,h.tr.le l,h.op⟩
theorem Ks{c:PV→Mem→Mem}{M X1 X3:Mem}{b1 b2:Nat}(hm:H8 M)(hc:∀M p,H8 M→TO M.tys.length M (c p M))(w:Two (fP c M) b1 b2)(k1:H8 ((u9 M.tys.length (fP c M)).j5.to b1)→TO (fP c M).tys.length ((u9 M.tys.length (fP c M)).j5.to b1) X1)
  (k2:H8 ((X1.cls (q8 ((fP c M).blks.length+2))).to b2)→TO X1.tys.length ((X1.cls (q8 ((fP c M).blks.length+2))).to b2) X3):TO M.tys.length M (X3.qX ((fP c M).blks.length+2)):=by
 have h:=(TO.refl hm).truth hc
 have l:=h.tr.tl
 have k1:=k1 (Ql h.op w)
 have l2:=w.l2
 have k2:=k2 ⟨[],(Iz h.op w k1 w.h2 (by lia) w.ne.symm).1⟩
 have l1:(fP c M).tys.length≤X1.tys.length:=k1.tr.tl
 exact(VG h w (k1.le' l) (k2.le' (Nat.le_trans l l1))).1
end Mine.Internal
namespace Mine.Internal
open PySem PySem.W PySem.Calls PyProof.Rows
noncomputable abbrev Bk:=Nat→Option (List PV×Tm)
noncomputable def U4(M:Mem)(B:Bk):Prop := ∀(i:Nat) ss t,M.blks[i]? = some (ss,t)→∃ss' tm,B i=some (ss++ss',tm)∧(isNone t=false→ss'=[]∧tm.v=t)
theorem U4.back{M M':Mem}{B:Bk}(h:U4 M' B)(a:∀(i:Nat) ss t,M.blks[i]? = some (ss,t)→∃ss' t',M'.blks[i]? = some (ss++ss',t')∧(isNone t=false→ss'=[]∧t'=t)):U4 M B:=fun i ss t e=>by
 obtain⟨s1,t1,e1,h1⟩:=a i ss t e
 obtain⟨s2,tm,e2,h2⟩:=h i _ t1 e1
 refine⟨s1++s2,tm,by rw [← List.append_assoc];exact e2,fun h=>?_⟩
 obtain⟨rfl,rfl⟩:=h1 h
 obtain⟨rfl,z⟩:=h2 h
 exact⟨rfl,z⟩
noncomputable def m9(B:Bk)(N:Nat)(M:Mem)(n:Nat)(l:Cs)(pr:List PV)(r:PV×List PV):Prop := ∃c ss tm,M.blks[M.here]? = some (c,.none)∧B M.here=some (c++ss,tm)∧Go B N n ss tm l pr r
section
variable{B:Bk}{N n n':Nat}{M X:Mem}{l l':Cs}{pr lg:List PV}{r:PV×List PV}{s p rv x o t:PV}{i j y:Nat}
theorem m9.mono(h:m9 B N M n l pr r)(le:n≤n'):m9 B N M n' l pr r:=h.imp fun c ⟨ss,tm,a,b,k⟩=>⟨ss,tm,a,b,k.mono le⟩
theorem uN(o:H8 M)(st:Uh N s l pr l' lg)(k:m9 B N (M.tick.put s) n l' lg r):m9 B N M n l pr r:=by
 obtain⟨c,e⟩:=o
 obtain⟨c',ss,tm,e1,e2,k⟩:=k
 have e0:(M.tick.put s).blks[M.here]? = some (c++[s],.none):=by
  show(M.blks.modify M.here _)[M.here]? = _
  rw [get_modify,if_pos rfl,e];rfl
 have z:=e0.symm.trans e1
 cases z
 exact⟨c,s::ss,tm,e,(show B M.here=_ from e2).trans (congrArg (fun z=>some (z,tm)) (List.append_assoc ..)),.st st k⟩
theorem Q5(o:H8 M)(hj:j<N)(h:Rv l rv x)(k:m9 B N (M.asg (m7 j) rv) n (J7 (j:Int) x l) pr r):m9 B N M n l pr r:=uN o (.asg j hj h) k
theorem aF(o:H8 M)(k:m9 B N (M.temp t) n l pr r):m9 B N M n l pr r:=uN o (.live M.tys.length) k
theorem Qm{c:List PV}(e:M.blks[M.here]? = some (c,.none)):(M.cls t).blks[M.here]? = some (c,t):=by
 show(M.blks.modify M.here _)[M.here]? = _
 rw [get_modify,if_pos rfl,e];rfl
theorem closed(o:H8 M){tm:Tm}(L:U4 (M.cls tm.v) B):∃c,M.blks[M.here]? = some (c,.none)∧B M.here=some (c++[],tm):=by
 obtain⟨c,e⟩:=o
 obtain⟨ss,VF,e1,h⟩:=L _ _ _ (Qm e)
 obtain⟨rfl,z⟩:=h tm.Gg
 exact⟨c,e,by rw [e1,Tm.Qj z]⟩
theorem m9.start(k:m9 B N X n l pr r)(e:X.blks[X.here]? = some ([],.none)):∃ss tm,B X.here=some (ss,tm)∧Go B N n ss tm l pr r:=by
 obtain⟨c,ss,tm,e1,e2,k⟩:=k
 have z:=e.symm.trans e1
 cases z
 exact⟨ss,tm,e2,k⟩
theorem rA(o:H8 M)(L:U4 (M.cls (q8 X.here)) B) (e:X.blks[X.here]? = some ([],.none)) (k:m9 B N X n l pr r):m9 B N M (n+1) l pr r:=by
 obtain⟨c,e1,e2⟩:=closed (tm:=.goto X.here) o L
 obtain⟨ss,tm,e3,k⟩:=k.start e
 exact⟨c,[],_,e1,e2,.goto e3 k⟩
theorem VH{v:Bool}(o:H8 M)(L:U4 (M.cls (HJ i y)) B) (rd:g8 (i:Int) l=some (.bool v)) (eh:X.here=if v then y else y+1) (e:X.blks[X.here]? = some ([],.none)) (k:m9 B N X n l pr r):m9 B N M (n+1) l pr r:=by
 obtain⟨c,e1,e2⟩:=closed (tm:=.sw (j7 (m7 i)) (y+1) y) o L
 obtain⟨ss,tm,e3,k⟩:=k.start e
 rw [eh] at e3
 exact⟨c,[],_,e1,e2,.sw (.cp rd (.bool v)) e3 k⟩
theorem Ul{v:Bool}{w:Nat}(q:H8 M)(L:U4 (jG M o (.bool false) (.str w)) B) (rd:Rd l o (.bool v)) (k:if v then r=(.tup [.str 248,.str w],pr) else m9 B N (jG M o (.bool false) (.str w)) n l pr r):m9 B N M (n+1) l pr r:=by
 obtain⟨c,e1,e2⟩:=closed (M:=M.j5) (tm:=.fL o (.bool false) (.str w) M.blks.length) q.j5 L
 have e1':M.blks[M.here]? = some (c,.none):=by rw [← Z0 q.lt];exact e1
 cases v with
 |true=>have k:r=(.tup [.str 248,.str w],pr):=k;subst k;exact⟨c,[],_,e1',e2,.fail rd⟩
 |false=>
  have k:m9 B N (jG M o (.bool false) (.str w)) n l pr r:=k
  obtain⟨ss,tm,e3,k⟩:=k.start (by
   show(M.j5.cls _).blks[M.blks.length]? = _
   rw [kY (M:=M.j5) (Nat.ne_of_gt q.lt),fO])
  exact⟨c,[],_,e1',e2,.fL rd e3 k⟩
theorem zP:∀(L:List (Nat×Bool)) {M:Mem} {l:Cs},H8 M→(∀l',(∀i:Nat,(∀y∈L,y.1≠i)→g8 (i:Int) l'=g8 (i:Int) l)→m9 B N (M.fin L) n l' pr r)→m9 B N M n l pr r
 | [],M,l,o,k=>k l fun O O=>rfl
 | (i,true)::L,M,l,o,k=>uN o (.dead i) (zP L o.put fun l' h=>k l' fun j hj=>(h j fun y hy=>hj y (.tail _ hy)).trans (Qi (fun z=>hj _ (.head _) (Int.ofNat.inj z)) l))
 | (i,false)::L,M,l,o,k=>zP L o fun l' h=>k l' fun j hj=>h j fun y hy=>hj y (.tail _ hy)
theorem uO{f:List (Nat×Bool)}{fs:List (List (Nat×Bool))} (e:X.frs=f::fs) (o:H8 X) (k:∀l',(∀i:Nat,(∀y∈f,y.1≠i)→g8 (i:Int) l'=g8 (i:Int) l)→m9 B N X.pop n l' pr r):m9 B N X n l pr r:=
 zP (X.frs.headD []).reverse o fun l' h=>k l' fun i hi=>h i fun y hy=>hi y (by rw [e] at hy;exact List.mem_reverse.mp hy)
end
section
variable{l l' l'':Cs}{T T' j k:Nat}{x:PV}
theorem ne_int{i j:Nat}(h:i≠j):(i:Int)≠(j:Int):=fun z=>h (Int.ofNat.inj z)
theorem get_set(h:j≠k):g8 (k:Int) (J7 (j:Int) x l)=g8 (k:Int) l:=by rw [Dj,if_neg (ne_int h)]
theorem V8:g8 (j:Int) (J7 (j:Int) x l)=some x:=by rw [Dj,if_pos rfl]
end
end Mine.Internal
namespace Mine.Internal
open PySem PySem.W PySem.Calls PyProof.Rows
section
variable{B:Bk}{N n:Nat}{M X:Mem}{l:Cs}{j:Nat}{r:PV×List PV}{t:PV}
theorem W6{T:Nat}{M X:Mem}(L:U4 X B)(h:TO T M X):U4 M B:=L.back h.tr.gw
theorem X8{M X:Mem}(L:U4 X B)(h:TrB M X):U4 M B:=L.back h.gw
theorem Q6(M:Mem):(M.temp t).tys.length=M.tys.length+1:=List.length_append
end
end Mine.Internal
namespace Mine.Internal
open PySem PySem.W PySem.Calls PyProof.Rows
section
variable{B:Bk}{N n:Nat}{M M1 X X1 X3:Mem}{l:Cs}{i j b1 b2 T:Nat}{r:PV×List PV}{pr:List PV}{v:Bool}
theorem aG(o:H8 X)(L:U4 X.pop B):U4 X B:=X8 (X:=X.fin (X.frs.headD []).reverse) L (cu _ o).1
theorem cA(to:TO M.push.tys.length M.push X):X.pop.tys=X.tys:=by
 obtain⟨f,ef,_⟩:=to.tr.fs [] M.frs rfl
 exact(U0 ef).2.1
theorem Y0(to:TO M.push.tys.length M.push X)(k:∀l',(∀i:Nat,i<M.tys.length→g8 (i:Int) l'=g8 (i:Int) l)→m9 B N X.pop n l' pr r):m9 B N X n l pr r:=by
 obtain⟨f,ef,hf⟩:=to.tr.fs [] M.frs rfl
 exact uO ef to.op fun l' h=>k l' fun i hi=>h i fun y hy z=>by
  have:M.tys.length≤y.1:=hf y hy
  lia
theorem m9.j5(o:H8 M)(k:m9 B N M.j5 n l pr r):m9 B N M n l pr r:=by
 obtain⟨c,ss,tm,e1,e2,k⟩:=k
 exact⟨c,ss,tm,(Z0 o.lt).symm.trans e1,e2,k⟩
structure Fk(B:Bk)(N:Nat)(M1:Mem)(i b1 b2:Nat)(X1 X3:Mem):Prop where
 l0:U4 M1 B
 l1:U4 X1 B
 l3:U4 X3 B
 s1:∀{v:Bool} {n:Nat} {l:Cs} {pr:List PV} {r:PV×List PV},b1=(if v then M1.blks.length else M1.blks.length+1)→g8 (i:Int) l=some (.bool v)→m9 B N ((u9 i M1).j5.to b1) n l pr r→m9 B N M1 (n+1) l pr r
 s2:∀{v:Bool} {n:Nat} {l:Cs} {pr:List PV} {r:PV×List PV},b2=(if v then M1.blks.length else M1.blks.length+1)→g8 (i:Int) l=some (.bool v)→m9 B N ((X1.cls (q8 (M1.blks.length+2))).to b2) n l pr r→m9 B N M1 (n+1) l pr r
 t1:∀{n:Nat} {l:Cs} {pr:List PV} {r:PV×List PV},m9 B N (X3.qX (M1.blks.length+2)) n l pr r→m9 B N X1 (n+1) l pr r
 t3:∀{n:Nat} {l:Cs} {pr:List PV} {r:PV×List PV},m9 B N (X3.qX (M1.blks.length+2)) n l pr r→m9 B N X3 (n+1) l pr r
 o1:H8 ((u9 i M1).j5.to b1)
 o2:H8 ((X1.cls (q8 (M1.blks.length+2))).to b2)
theorem Fk.of(h:TO T M M1)(w:Two M1 b1 b2)(k1:TO T ((u9 i M1).j5.to b1) X1) (k2:H8 ((X1.cls (q8 (M1.blks.length+2))).to b2)→TO T ((X1.cls (q8 (M1.blks.length+2))).to b2) X3) (L:U4 (X3.qX (M1.blks.length+2)) B):Fk B N M1 i b1 b2 X1 X3:=by
 have l1:=w.l1
 have l2:=w.l2
 obtain⟨e2,_⟩:=Iz (t:=q8 (M1.blks.length+2)) (j:=b2) h.op w k1 w.h2 (by exact Nat.lt_succ_of_lt ‹_›) w.ne.symm
 have k2:=k2 ⟨[],e2⟩
 obtain⟨_,e3⟩:=VG h w k1 k2
 obtain⟨_,zl⟩:=Iz (t:=q8 (M1.blks.length+2)) (j:=M1.blks.length+2) h.op w k1 (by exact Nat.le_add_right ..) (by exact Nat.le_refl _) (by exact Nat.ne_of_gt ‹_›)
 have g1:(Tm.goto (M1.blks.length+2)).fine X1.blks.length:=⟨fun j hj=>by rw [List.mem_singleton.mp hj];exact zl,List.nodup_cons.mpr ⟨List.not_mem_nil,.nil⟩⟩
 have g2:=pq g1 (Nat.le_trans (Nat.le_of_eq aD.symm) k2.tr.len)
 have L3c:U4 (X3.cls (q8 (M1.blks.length+2))) B:=L
 have L3:U4 X3 B:=X8 L3c (fM (tm:=.goto (M1.blks.length+2)) k2.op g2)
 have L1c:U4 (X1.cls (q8 (M1.blks.length+2))) B:=L3.back k2.tr.gw
 have L1:U4 X1 B:=X8 L1c (fM (tm:=.goto (M1.blks.length+2)) k1.op g1)
 have LG:U4 (u9 i M1).j5 B:=L1.back k1.tr.gw
 have LF:U4 (u9 i M1) B:=LG.back (Q9 (T:=0)).gw
 have o0:=h.op.j5.j5
 have e1:((u9 i M1).j5.to b1).blks[b1]? = some ([],.none):=Qk h.op w.h1 (by exact Nat.le_succ_of_le ‹_›)
 refine⟨(X8 LF (fM (tm:=.sw (j7 (m7 i)) (M1.blks.length+1) M1.blks.length) o0 (Iv h.op))).back ((Q9 (T:=0)).trans Q9).gw,L1,L3,fun hb g k=>?_,fun hb g k=>?_,fun k=>rA (X:=X3.qX (M1.blks.length+2)) k1.op L1c e3 k,fun k=>rA (X:=X3.qX (M1.blks.length+2)) k2.op L3c e3 k,⟨[],e1⟩,⟨[],e2⟩⟩
 ·exact m9.j5 h.op (m9.j5 h.op.j5 (VH o0 (X:=(u9 i M1).j5.to b1) LF g hb e1 k))
 ·exact m9.j5 h.op (m9.j5 h.op.j5 (VH o0 (X:=(X1.cls (q8 (M1.blks.length+2))).to b2) LF g hb e2 k))
end
end Mine.Internal
namespace Mine.Internal
open PySem PySem.W PySem.Calls PyProof.Rows
theorem Yt{M:Mem}{y:Nat×Bool}{T:Nat}(h:T≤y.1):Tr T M (M.add y):=⟨⟨gw0 M,Nat.le_refl _,fun O O O=>rfl,.inl rfl,id⟩,fun f fs e=>⟨[y],by
 show(match M.frs with|f::fs=>(f++[y])::fs | []=>[])=_
 rw [e],fun z hz=>List.mem_singleton.mp hz▸h⟩,Fz _⟩
theorem TO.add{T:Nat}{M X:Mem}{y:Nat×Bool}(h:TO T M X)(hy:T≤y.1):TO T M (X.add y):=⟨h.le,h.tr.trans (Yt hy),h.op⟩
theorem uP{M:Mem}:∀(k i:Nat) (M:Mem),(M.CV i k).tys=M.tys∧(M.CV i k).sz=M.sz
 |0,_,_=>⟨rfl,rfl⟩
 |k+1,i,M=>uP (M:=M) k (i+1) (M.U3 i)
theorem Yu{M:Mem}(h:TmI M):∃t,Pn M.fix t:=by
 have z:∀i:Nat,∃tm:Tm,∀b,M.fix.blks[i]? = some b→b.2=tm.v∧tm.fine M.fix.blks.length:=fun i=>by
  rw [nq,List.length_map,List.getElem?_map]
  cases e:M.blks[i]? with
  |none=>exact⟨.Vx,fun b h=>nomatch h⟩
  |some b=>
   obtain⟨ss,t⟩:=b
   cases ht:isNone t with
   |true=>exact⟨.Vx,fun b hb=>by cases hb;exact⟨if_pos ht,fun O h=>(nomatch h),.nil⟩⟩
   |false=>
    rcases h i ss t e with q|⟨tm,e1,f⟩
    ·rw [ht] at q;cases q
    ·exact⟨tm,fun b hb=>by cases hb;exact⟨(if_neg (by rw [ht];exact nofun)).trans e1,f⟩⟩
 exact⟨fun i=>(z i).choose,fun i b e=>(z i).choose_spec b e⟩
theorem Um{M:Mem}{t:Nat→Tm}(T:Pn M.fix t):U4 M fun i=>M.fix.blks[i]?.map fun b=>(b.1,t i):=fun i ss tt e=>by
 have e1:M.fix.blks[i]? = some (fK (ss,tt)):=by rw [nq,List.getElem?_map,e];rfl
 refine⟨[],t i,by show Option.map _ M.fix.blks[i]? = _;rw [e1,List.append_nil];rfl,fun h=>⟨rfl,?_⟩⟩
 rw [← (T i _ e1).1]
 exact if_neg (by rw [h];exact nofun)
end Mine.Internal
namespace Mine.Internal
open PySem PySem.W PySem.Calls PyProof.Rows
section
variable{M M1 X X1 X3 Y:Mem}{T T':Nat}{i j b1 b2:Nat}{s p rv t q:PV}{tm:Tm}{l:bG}
theorem W7{N:Nat}(h:j<N):(Tm.goto j).fine N:=⟨fun i hi=>by rw [List.mem_singleton.mp hi];exact h,List.nodup_cons.mpr ⟨List.not_mem_nil,.nil⟩⟩
theorem nH{N:Nat}:Tm.ret.fine N:=⟨fun O h=>(nomatch h),.nil⟩
theorem Un(a:Tr T M.push X)(h:H8 X):Tr T' M X.pop∧H8 X.pop:=by
 obtain⟨l,e,_⟩:=a.fs [] M.frs rfl
 obtain⟨s1,s2,s3⟩:=U0 e
 have z:=cu (X.frs.headD []).reverse h
 have b:TrB M.push X.pop:=a.toTrB.trans ⟨z.1.gw,z.1.len,z.1.fr,z.1.hr,z.1.ti⟩
 exact⟨⟨⟨b.gw,b.len,b.fr,b.hr,b.ti⟩,fun f fs z=>⟨[],by rw [s1,z,List.append_nil],fun O h=>nomatch h⟩,by rw [s2];exact a.ty⟩,z.2⟩
theorem Ku(k:TO T M.push X)(le:T'≤M.tys.length):TO T' M X.pop:=have z:=Un (T':=T') k.tr k.op;⟨le,z.1,z.2⟩
theorem uQ{d:PV→Mem→Mem}(o:H8 M)(h:TO (M.push.temp t).tys.length (M.push.temp t) (d (m7 M.push.tys.length) (M.push.temp t))):TO M.tys.length M (jq t d M):=S8 (((TO.refl (M:=M.push) o).temp (t:=t)).call h)
theorem uR{d:Mem→Mem}(h:TO T M.push (d M.push))(le:T'≤M.tys.length):TO T' M (inBlock d p M):=Ku h.asg le
theorem Gh(o:H8 M):TO 0 M (M.FJ i):=((TO.refl o).le' (Nat.zero_le _)).put.add (Nat.zero_le _)
theorem aH{v:Int}(o:H8 M):TO 0 M (Q8 i v M):=(Gh o).call (S8 (TO.refl (M:=(M.FJ i).push) (Gh o).op).asg)
theorem uT:∀(L:List (List (Nat×Bool))) {M:Mem},H8 M→TrB M (L.foldl (fun M f=>M.fin f.reverse) M)∧H8 (L.foldl (fun M f=>M.fin f.reverse) M)
 | [],_,h=>⟨.refl,h⟩
 |f::L,M,h=>have a:=cu f.reverse h;have z:=uT L a.2;⟨a.1.trans z.1,z.2⟩
theorem Dp:∀(L:List (List (Nat×Bool))) (M:Mem),(L.foldl (fun M f=>M.fin f.reverse) M).frs=M.frs∧(L.foldl (fun M f=>M.fin f.reverse) M).tys=M.tys
 | [],_=>⟨rfl,rfl⟩
 |f::L,M=>have a:=X5 f.reverse M;have z:=Dp L (M.fin f.reverse);⟨z.1.trans a.1,z.2.trans a.2.1⟩
theorem TO.leave(h:TO T M X)(d:Nat):TO T M (X.leave d):=have z:=uT (X.frs.take (X.frs.length-d)) h.op;have w:=Dp (X.frs.take (X.frs.length-d)) X;⟨h.le,h.tr.trans (.same z.1 w.1 w.2),z.2⟩
theorem TO.bO(h:TO T M X)(f:tm.fine X.blks.length):TO T M (X.bO tm.v):=by
 refine⟨h.le,nG (j:=X.blks.length) h.tr.len ((h.tr.trans (iD h.op f)).trans Q9),[],?_⟩
 show(X.cls tm.v).j5.blks[X.blks.length]? = _
 rw [← aD (M:=X) (t:=tm.v)];exact fO _
noncomputable def Kv(l:bG)(M:Mem):Prop := ∀x i,l x=some i→i.head<M.blks.length∧i.behind<M.blks.length
theorem Kv.le(h:Kv l M)(e:M.blks.length≤X.blks.length):Kv l X:=fun x i z=>⟨Nat.lt_of_lt_of_le (h x i z).1 e,Nat.lt_of_lt_of_le (h x i z).2 e⟩
theorem Kv.set{x:Nat}{li:LI}(h:Kv l M)(a:li.head<M.blks.length)(b:li.behind<M.blks.length):Kv (l.set x li) M:=fun y i z=>by
 unfold bG.set at z
 by_cases e:y=x
 ·rw [if_pos e] at z;cases z;exact⟨a,b⟩
 ·rw [if_neg e] at z;exact h y i z
theorem Yv{x:Nat}(h:Kv l M)(o:H8 M):TO M.tys.length M (FN (l x) M):=by
 cases e:l x with
 |none=>exact .refl o
 |some i=>
  have a:=((TO.refl o).asg (p:=i.place) (rv:=I7 (K1 s6 (.int 7)))).leave i.depth
  exact a.bO (tm:=.goto i.behind) (W7 (Nat.lt_of_lt_of_le (h x i e).2 a.tr.len))
theorem Uo{x:Nat}(h:Kv l M)(o:H8 M):TO M.tys.length M (uw (l x) M):=by
 cases e:l x with
 |none=>exact .refl o
 |some i=>
  have a:=(TO.refl o).leave i.depth
  exact a.bO (tm:=.goto i.head) (W7 (Nat.lt_of_lt_of_le (h x i e).1 a.tr.len))
theorem Qn(o:H8 M):TO M.tys.length M (XJ i M):=(((TO.refl o).asg (p:=m7 0) (rv:=I7 (j7 (m7 (1+i))))).leave 0).bO (tm:=.ret) nH
noncomputable abbrev af2(op:Op)(p:Nat)(k:Int)(q:PV)(M:Mem):Mem:=M.asg q (.tup [.str 160,.str op.s,j7 (m7 (1+p)),K1 s6 (.int k)])
theorem Gi{op:Op}{p:Nat}{k:Int}(o:H8 M):TO M.tys.length M (w7 op p k M):=(TO.refl o).truth (f:=af2 op p k) fun M p o=>(TO.refl o).asg
theorem Qo{op:Op}{p:Nat}{k:Int}{a b:PV→Mem→Mem}:JK op p k a b q M=(b q (((a q ((u9 M.tys.length (w7 op p k M)).j5.to (w7 op p k M).blks.length)).cls (q8 ((w7 op p k M).blks.length+2))).to ((w7 op p k M).blks.length+1))).qX ((w7 op p k M).blks.length+2):=by
 unfold JK
 dsimp only
 rw [pA]
theorem af3{op:Op}{p:Nat}{k:Int}{a b:PV→Mem→Mem}(o:H8 M)(ha:∀M',M.blks.length≤M'.blks.length→H8 M'→TO M'.tys.length M' (a q M'))(hb:∀M',M.blks.length≤M'.blks.length→H8 M'→TO M'.tys.length M' (b q M')):TO M.tys.length M (JK op p k a b q M):=by
 have le:M.blks.length≤(w7 op p k M).blks.length:=(Gi o).tr.len
 have l3:(u9 M.tys.length (w7 op p k M)).j5.blks.length=(w7 op p k M).blks.length+3:=by rw [I4,pA]
 have k1:=fun o'=>ha ((u9 M.tys.length (w7 op p k M)).j5.to (w7 op p k M).blks.length) (by show _≤(u9 M.tys.length (w7 op p k M)).j5.blks.length;rw [l3];exact Nat.le_trans le (Nat.le_add_right ..)) o'
 have l1:=fun o'=>(k1 o').tr.len
 rw [Qo]
 exact Ks o (c:=af2 op p k) (fun M p o=>(TO.refl o).asg) (two false:Two (w7 op p k M) _ _) k1 fun o'=>hb _ (by
  show _≤(Mem.cls _ _).blks.length
  rw [aD]
  refine Nat.le_trans le (Nat.le_trans ?_ (l1 (Ql (Gi o).op (two false:Two (w7 op p k M) _ _))))
  show _≤(u9 M.tys.length (w7 op p k M)).j5.blks.length
  rw [l3];exact Nat.le_add_right ..) o'
noncomputable def vd(M:Mem):Mem:=M.j5.j5.qX M.blks.length
theorem nJ(M:Mem):(vd M).blks.length=M.blks.length+2:=by
 show(M.j5.j5.cls _).blks.length=_
 rw [aD,I4,I4]
theorem Gj(o:H8 M)(h1:M.blks.length≤j)(h2:j<M.blks.length+2):(vd M).blks[j]? = some ([],.none):=by
 show(M.j5.j5.cls _).blks[j]? = _
 rw [kY (M:=M.j5.j5) (Nat.ne_of_gt (Nat.lt_of_lt_of_le o.lt h1))]
 by_cases q:j=M.blks.length+1
 ·rw [q,← I4];exact fO _
 ·rw [Z0 (by rw [I4];lia),show j=M.blks.length by lia];exact fO _
theorem Gk(o:H8 M):TO M.tys.length M (vd M):=⟨Nat.le_refl _,nG (j:=M.blks.length) (Nat.le_refl _) ((Q9.trans Q9).trans (iD (tm:=.goto M.blks.length) o.j5.j5 (W7 (by rw [I4,I4];lia)))),[],Gj o (Nat.le_refl _) (Nat.lt_add_of_pos_right (by decide))⟩
theorem zQ{d:LI→Mem→Mem}:M7 d q M=(((inBlock (d ⟨M.blks.length,M.blks.length+1,M.frs.length,q⟩) (m7 (vd M).push.tys.length) ((vd M).push.temp j6)).pop).cls (q8 M.blks.length)).to (M.blks.length+1):=rfl
theorem Qp(o:H8 M)(k:TO T' (vd M) Y):(Y.cls (q8 M.blks.length)).blks[M.blks.length+1]? = some ([],.none):=by
 have hh:M.blks.length+1≠Y.here:=fun z=>k.tr.hr.elim (fun w=>by
  have w:Y.here=M.blks.length:=w
  lia) fun w=>by
  rw [nJ] at w
  lia
 rw [kY hh,k.tr.fr _ (by rw [nJ];lia) (show M.blks.length+1≠M.blks.length by lia)]
 exact Gj o (by lia) (by lia)
theorem Yw(o:H8 M)(k:TO (vd M).tys.length (vd M) Y):TO M.tys.length M ((Y.cls (q8 M.blks.length)).to (M.blks.length+1)):=by
 have a:=(Gk o).call k
 have l:=k.tr.len
 rw [nJ] at l
 exact⟨Nat.le_refl _,nG (j:=M.blks.length+1) (by lia) (a.tr.trans (iD (tm:=.goto M.blks.length) k.op (W7 (by lia)))),[],Qp o k⟩
theorem Qq{d:Mem→Mem}(o:H8 M)(h:∀M',M.blks.length+2≤M'.blks.length→H8 M'→TO M'.tys.length M' (d M')):TO (vd M).tys.length (vd M) ((inBlock d (m7 (vd M).push.tys.length) ((vd M).push.temp j6)).pop):=by
 have t1:=(TO.refl (M:=(vd M).push) (Gk o).op).temp (t:=j6)
 refine S8 (t1.call (uR (h ((vd M).push.temp j6).push ?_ t1.op) (Nat.le_refl _)))
 rw [← nJ M]
 exact t1.tr.len
theorem uU{d:LI→Mem→Mem}(o:H8 M)(h:∀i M',i.head<M'.blks.length→i.behind<M'.blks.length→H8 M'→M.blks.length≤M'.blks.length→TO M'.tys.length M' (d i M')):TO M.tys.length M (M7 d q M):=by
 rw [zQ]
 exact Yw o (Qq o fun M' hl o=>h _ M' (by show M.blks.length<_;lia) (by show M.blks.length+1<_;lia) o (by lia))
theorem IK{goal:Option Nat}{lp:PV→Mem→Mem}(o:H8 M)(h:∀q M',M.blks.length≤M'.blks.length→H8 M'→TO M'.tys.length M' (lp q M')):TO M.tys.length M (Y9 goal lp q M):=by
 cases goal with
 |none=>exact h q M (Nat.le_refl _) o
 |some p=>
  have a:=(TO.refl o).temp (t:=s6)
  exact((a.call (h (m7 M.tys.length) _ a.tr.len a.op)).asg (p:=m7 (1+p)) (rv:=I7 (j7 (m7 M.tys.length)))).asg
theorem Uq{c:Nat}{goal:Option Nat}{lp:PV→Mem→Mem}(o:H8 M)(h:∀q M',M.blks.length≤M'.blks.length→H8 M'→TO M'.tys.length M' (lp q M')):TO M.tys.length M (HN c goal lp q M):=by
 have a:=aH (i:=c) (v:=0) (M:=M.push) o
 have b:=(TO.refl (M:=(Q8 c 0 M.push).push) a.op).temp (t:=T7 goal)
 have hl:M.blks.length≤((Q8 c 0 M.push).push.temp (T7 goal)).blks.length:=Nat.le_trans a.tr.len b.tr.len
 exact uR (d:=fun M=>jq (T7 goal) (Y9 goal lp) (Q8 c 0 M)) (a.call (uQ a.op (IK b.op fun q M' hl' o=>h q M' (Nat.le_trans hl hl') o))) (Nat.le_refl _)
theorem Qs{d:Mem→Mem}{nil:Bool}(o:H8 M)(h:∀M',M.blks.length≤M'.blks.length→H8 M'→TO M'.tys.length M' (d M')):TO M.tys.length M (cP nil d q M):=by
 cases nil with
 |true=>exact(TO.refl o).asg
 |false=>exact S8 (uR (M:=M.push) (h M.push.push (Nat.le_refl _) o) (Nat.le_refl _))
end
theorem bF(e:F):(∀l q M,Kv l M→H8 M→TO M.tys.length M (e.low.1 l q M))∧∀l M,Kv l M→H8 M→TO M.tys.length M (e.low.2 l M):=by
 induction e with
 |nil=>exact⟨fun O O M O o=>.refl o,fun O M O o=>.refl o⟩
 |cons s r hs hr=>
  refine⟨fun O O M O o=>.refl o,fun l M h o=>?_⟩
  have b:=(TO.refl (M:=M.push) o).temp (t:=s.ty)
  have a:=uQ (t:=s.ty) (d:=s.low.1 l) o (hs.1 l (m7 M.push.tys.length) (M.push.temp s.ty) (h.le (X:=M.push.temp s.ty) b.tr.len) b.op)
  exact a.call (hr.2 l _ (h.le a.tr.len) a.op)
 |jK p=>exact⟨fun O q M O o=>(TO.refl o).put.asg,fun O M O o=>.refl o⟩
 |upd op p k=>exact⟨fun O q M O o=>((TO.refl o).J4 op _ _).asg,fun O M O o=>.refl o⟩
 |ch op p k a b ha hb=>exact⟨fun l q M h o=>af3 o (fun M' hl o=>Qs (nil:=false) o fun M2 hl2 o=>ha.2 l M2 (h.le (Nat.le_trans hl hl2)) o) fun M' hl o=>Qs o fun M2 hl2 o=>hb.2 l M2 (h.le (Nat.le_trans hl hl2)) o,fun O M O o=>.refl o⟩
 |ring x c goal rows ih=>exact⟨fun l q M h o=>Uq o fun q M' hl o=>uU o fun i M2 h1 h2 o hl2=>ih.2 (l.set x i) M2 ((h.le (Nat.le_trans hl hl2)).set h1 h2) o,fun O M O o=>.refl o⟩
 |ret p=>exact⟨fun O q M O o=>Qn o,fun O M O o=>.refl o⟩
 |brk x=>exact⟨fun l q M h o=>Yv h o,fun O M O o=>.refl o⟩
 |cont x=>exact⟨fun l q M h o=>Uo h o,fun O M O o=>.refl o⟩
end Mine.Internal
namespace Mine.Internal
open PySem PySem.W PySem.Calls PyProof.Rows
noncomputable def Dq(B:Bk)(N:Nat)(j n:Nat)(l:Cs)(pr:List PV)(r:PV×List PV):Prop := ∃ss tm,B j=some (ss,tm)∧Go B N n ss tm l pr r
noncomputable def Cells(s:Pl)(l:Cs):Prop := ∀i:Nat,i<3→g8 ((1+i:Nat):Int) l=some (.int (s.v i))
noncomputable def Kp(o:List (Nat×Nat))(U T j:Nat)(l l':Cs):Prop := ∀k:Nat,(U≤k∨∃y∈o,k=1+y.2)→k<T→k≠j→g8 (k:Int) l'=g8 (k:Int) l
section
variable{B:Bk}{N n:Nat}{M X:Mem}{l l' l'':Cs}{s:Pl}{i j k T T' U:Nat}{r:PV×List PV}{pr:List PV}{x:PV}{o:List (Nat×Nat)}{v:Int}
theorem Dq.mono{n':Nat}(h:Dq B N j n l pr r)(le:n≤n'):Dq B N j n' l pr r:=h.imp fun ss ⟨tm,a,k⟩=>⟨tm,a,k.mono le⟩
theorem Cells.tmp(c:Cells s l)(h:j=0∨4≤j):Cells s (J7 (j:Int) x l):=fun i hi=>(get_set (by lia)).trans (c i hi)
theorem Cells.set(c:Cells s l)(i:Nat):Cells (s.set i v) (J7 ((1+i:Nat):Int) (.int v) l):=fun m hm=>by
 show _=some (PV.int (if m=i then v else s.v m))
 by_cases e:m=i
 ·rw [if_pos e,e];exact V8
 ·rw [if_neg e];exact(get_set (by lia)).trans (c m hm)
theorem Cells.of(c:Cells s l)(h:∀i,i<3→g8 ((1+i:Nat):Int) l'=g8 ((1+i:Nat):Int) l):Cells s l':=fun i hi=>(h i hi).trans (c i hi)
theorem Kp.refl:Kp o U T j l l:=fun O O O O=>rfl
theorem Kp.tmp(h:Kp o U T j l l'):Kp o U T j l (J7 (j:Int) x l'):=fun k h1 h2 h3=>(get_set h3.symm).trans (h k h1 h2 h3)
theorem Kp.trans(h:Kp o U T j l l')(h':Kp o U T' j l' l'')(le:T≤T'):Kp o U T j l l'':=fun k h1 h2 h3=>(h' k h1 (Nat.lt_of_lt_of_le h2 le) h3).trans (h k h1 h2 h3)
theorem Kp.le0(h:Kp o U T' j l l')(le:T≤T')(e:T≤j)(i:Nat):Kp o U T i l l':=fun k h1 h2 O=>h k h1 (Nat.lt_of_lt_of_le h2 le) (Nat.ne_of_lt (Nat.lt_of_lt_of_le h2 e))
theorem IV(o:H8 M)(L:U4 (M.bO (q8 j)) B) (k:Dq B N j n l pr r):m9 B N M (n+1) l pr r:=by
 have L1:U4 (M.cls (Tm.goto j).v) B:=U4.back (M':=(M.cls (q8 j)).j5) L (Q9 (T:=0)).gw
 obtain⟨c,e1,e2⟩:=closed (tm:=.goto j) o L1
 obtain⟨ss,tm,e3,k⟩:=k
 exact⟨c,[],_,e1,e2,.goto e3 k⟩
theorem Yx(o:H8 M)(L:U4 (M.bO JL) B)(g:g8 0 l=some x)(v:Vk x):m9 B N M (n+1) l pr (.tup [.str 341,x],pr):=by
 have L1:U4 (M.cls Tm.ret.v) B:=U4.back (M':=(M.cls JL).j5) L (Q9 (T:=0)).gw
 obtain⟨c,e1,e2⟩:=closed (tm:=.ret) o L1
 exact⟨c,[],_,e1,e2,.ret g v⟩
theorem IW:∀(L:List (List (Nat×Bool))) {M:Mem} {l:Cs},H8 M→(∀l',(∀i:Nat,(∀f∈L,∀y∈f,y.1≠i)→g8 (i:Int) l'=g8 (i:Int) l)→m9 B N (L.foldl (fun M f=>M.fin f.reverse) M) n l' pr r)→m9 B N M n l pr r
 | [],M,l,o,k=>k l fun O O=>rfl
 |f::L,M,l,o,k=>zP f.reverse o fun l1 h1=>IW L (cu f.reverse o).2 fun l2 h2=>k l2 fun i hi=>(h2 i fun g hg=>hi g (.tail _ hg)).trans (h1 i fun y hy=>hi f (.head _) y (List.mem_reverse.mp hy))
theorem uV{d:Nat}(o:H8 M)(k:∀l',(∀i:Nat,(∀f∈M.frs.take (M.frs.length-d),∀y∈f,y.1≠i)→g8 (i:Int) l'=g8 (i:Int) l)→m9 B N (M.leave d) n l' pr r):m9 B N M n l pr r:=IW _ o k
theorem Kw{d:Nat}(o:H8 M)(L:U4 (M.leave d) B):U4 M B:=X8 L (uT _ o).1
theorem Ja{t:Tm}(o:H8 M)(f:t.fine M.blks.length)(L:U4 (M.cls t.v) B):U4 M B:=X8 L (fM o f)
theorem Ur{t:Tm}(o:H8 M)(f:t.fine M.blks.length)(L:U4 (M.bO t.v) B):U4 M B:=Ja o f (U4.back (M':=(M.cls t.v).j5) L (Q9 (T:=0)).gw)
theorem Qt{op:Op}{p:Nat}{i v:Int}(ho:op.ar=true)(o:H8 X)(hj:1+p<X.tys.length)(L:U4 (J4 (m7 (1+p)) op (j7 (m7 (1+p))) (K1 s6 (.int v)) X) B) (hN:(J4 (m7 (1+p)) op (j7 (m7 (1+p))) (K1 s6 (.int v)) X).tys.length≤N) (g:g8 ((1+p:Nat):Int) l=some (.int i)) (ia:PL i)
  (k:if over (op.f i v)=true then r=(.tup [.str 248,.str op.msg],pr) else ∀l',(∀m:Nat,m<X.tys.length→m≠1+p→g8 (m:Int) l'=g8 (m:Int) l)→g8 ((1+p:Nat):Int) l'=some (.int (wrap (op.f i v)))→m9 B N (J4 (m7 (1+p)) op (j7 (m7 (1+p))) (K1 s6 (.int v)) X) n l' pr r):m9 B N X (n+1) l pr r:=by
 unfold J4 at L hN k
 rw [ho] at L hN k
 have to:=(TO.refl o).temp (t:=mX) |>.asg (p:=m7 X.tys.length) (rv:=.tup [.str 267,.str op.s,j7 (m7 (1+p)),K1 s6 (.int v)])
 have hN:X.tys.length+1≤N:=by rw [← Q6 (t:=mX)];exact hN
 have to2:=(TO.refl to.op).must (o:=j7 (YW X.tys.length 1)) (x:=.bool false) (t:=.str op.msg)
 have L2:U4 (jG ((X.temp mX).asg (m7 X.tys.length) (.tup [.str 267,.str op.s,j7 (m7 (1+p)),K1 s6 (.int v)])) (j7 (YW X.tys.length 1)) (.bool false) (.str op.msg)) B:=W6 L (TO.refl to2.op).asg
 have two:Vk (.tup [.int (wrap (op.f i v)),.bool (over (op.f i v))]):=.two (.inl ⟨_,rfl⟩) (.inr ⟨_,rfl⟩)
 refine aF (t:=mX) o (Q5 ((TO.refl o).temp (t:=mX)).op (j:=X.tys.length) (by exact Nat.succ_le_of_lt ‹_›) (.chk ho ia (.cp g (.int i)) (.cst _ (.int v))) (Ul to.op L2 (v:=over (op.f i v)) (.fld (k:=1) V8 two rfl (.inr ⟨_,rfl⟩)) ?_))
 cases hv:over (op.f i v) with
 |true=>rw [hv] at k;exact k
 |false=>
  rw [hv] at k
  exact Q5 to2.op (j:=1+p) (by lia) (.use (.fld (k:=0) V8 (hv▸two) rfl (.inl ⟨_,rfl⟩)) (.int _)) (k _ (fun i hi ne=>(get_set ne.symm).trans (get_set (by exact Nat.ne_of_gt ‹_›))) V8)
theorem Yy{op:Op}{p:Nat}{i v:Int}(ho:op.ar=false)(o:H8 M)(hN:M.tys.length+1≤N)(g:g8 ((1+p:Nat):Int) l=some (.int i)) (k:∀l',(∀m:Nat,m<M.tys.length→g8 (m:Int) l'=g8 (m:Int) l)→g8 (M.tys.length:Int) l'=some (.bool (op.q i v))→m9 B N (w7 op p v M) n l' pr r):m9 B N M n l pr r:=by
 have t1:=(TO.refl (M:=M) o).temp (t:=T9)
 have t2:TO (M.temp T9).push.tys.length (M.temp T9).push ((M.temp T9).push.asg (m7 M.tys.length) (.tup [.str 160,.str op.s,j7 (m7 (1+p)),K1 s6 (.int v)])):=(TO.refl (M:=(M.temp T9).push) t1.op).asg
 refine aF (t:=T9) o (Q5 (M:=(M.temp T9).push) t1.op (j:=M.tys.length) hN (.cmp ho (.cp g (.int i)) (.cst _ (.int v))) (Y0 (M:=M.temp T9) t2 fun l' h=>k l' (fun m hm=>(h m ?_).trans (get_set (Nat.ne_of_gt hm))) ((h _ ?_).trans V8)))
 ·rw [Q6];exact Nat.lt_succ_of_lt hm
 ·rw [Q6];exact Nat.lt_succ_self _
end
end Mine.Internal
namespace Mine.Internal
open PySem PySem.W PySem.Calls PyProof.Rows
section
variable{B:Bk}{N n:Nat}{M:Mem}{l:Cs}{p:Nat}{i v:Int}{op:Op}{q:PV}{fa fb:PV→Mem→Mem}{r:PV×List PV}{pr:List PV}
theorem VJ(ho:op.ar=false)(o:H8 M)(ha:∀M',M.blks.length≤M'.blks.length→H8 M'→TO M'.tys.length M' (fa q M'))(hb:∀M',M.blks.length≤M'.blks.length→H8 M'→TO M'.tys.length M' (fb q M'))(L:U4 (JK op p v fa fb q M) B)(hN:(JK op p v fa fb q M).tys.length≤N)(g:g8 ((1+p:Nat):Int) l=some (.int i))
  (yes:op.q i v=true→∀Ma l',TO M.tys.length M Ma→U4 (fa q Ma) B→(fa q Ma).tys.length≤N→(∀n l2 Yz,m9 B N (JK op p v fa fb q M) n l2 Yz r→m9 B N (fa q Ma) (n+1) l2 Yz r)→(∀m:Nat,m<M.tys.length→g8 (m:Int) l'=g8 (m:Int) l)→m9 B N Ma n l' pr r)
  (no:op.q i v=false→∀Ma l',TO M.tys.length M Ma→U4 (fb q Ma) B→(fb q Ma).tys.length≤N→(∀n l2 Yz,m9 B N (JK op p v fa fb q M) n l2 Yz r→m9 B N (fb q Ma) (n+1) l2 Yz r)→(∀m:Nat,m<M.tys.length→g8 (m:Int) l'=g8 (m:Int) l)→m9 B N Ma n l' pr r):m9 B N M (n+1) l pr r:=by
 let M1:=w7 op p v M
 let G:=(u9 M.tys.length M1).j5
 let y:=M1.blks.length
 let X1:=fa q (G.to y)
 let X:=(X1.cls (q8 (y+2))).to (y+1)
 let X3:=fb q X
 have e:JK op p v fa fb q M=X3.qX (y+2):=Qo
 rw [e] at L hN yes no
 have h:TO M.tys.length M M1:=Gi o
 have hl:M.blks.length≤y:=h.tr.len
 have lG:G.blks.length=y+3:=by show(u9 M.tys.length M1).j5.blks.length=_;rw [I4,pA]
 have w:Two M1 y (y+1):=two false
 have o1:H8 (G.to y):=Ql h.op w
 have k1':TO (G.to y).tys.length (G.to y) X1:=ha _ (by show M.blks.length≤G.blks.length;lia) o1
 have tl:M.tys.length≤(G.to y).tys.length:=h.tr.tl
 have k1:TO M.tys.length (G.to y) X1:=k1'.le' tl
 have l1:G.blks.length≤X1.blks.length:=k1.tr.len
 have lX:M.blks.length≤X.blks.length:=by show _≤(X1.cls _).blks.length;rw [aD];lia
 have tlX:M.tys.length≤X1.tys.length:=Nat.le_trans tl k1.tr.tl
 have k2':H8 X→TO X.tys.length X X3:=fun o=>hb _ lX o
 have F:=Fk.of (B:=B) (N:=N) (i:=M.tys.length) h w k1 (fun o=>(k2' o).le' tlX) L
 have k2:=k2' F.o2
 have tG:TO M.tys.length M (G.to y):=⟨Nat.le_refl _,nG (j:=y) hl (Iw h),o1⟩
 have tX:TO M.tys.length M X:=⟨Nat.le_refl _,nG (j:=y+1) (Nat.le_succ_of_le hl) ((tG.tr.trans k1.tr).trans (iD (tm:=.goto (y+2)) k1.op (W7 (by lia)))),F.o2⟩
 have n3:X3.tys.length≤N:=hN
 have n1:X1.tys.length≤N:=Nat.le_trans (show X1.tys.length≤X3.tys.length from k2.tr.tl) n3
 have n0:M1.tys.length≤N:=Nat.le_trans (show M1.tys.length≤X1.tys.length from k1.tr.tl) n1
 have m1:M.tys.length+1≤M1.tys.length:=by
  have t1:=(TO.refl (M:=M) o).temp (t:=T9)
  have t2:TO (M.temp T9).tys.length (M.temp T9) M1:=S8 (TO.refl (M:=(M.temp T9).push) t1.op).asg
  have z:=t2.tr.tl
  rw [Q6] at z;exact z
 refine Yy (v:=v) ho o (Nat.le_trans m1 n0) g fun l' hs gc=>?_
 cases c:op.q i v with
 |true=>
  rw [c] at gc
  exact F.s1 (v:=true) rfl gc (yes c _ l' tG F.l1 n1 (fun n l2 Yz z=>F.t1 z) hs)
 |false=>
  rw [c] at gc
  exact F.s2 (v:=false) rfl gc (no c _ l' tX F.l3 n3 (fun n l2 Yz z=>F.t3 z) hs)
end
structure jL(U:Nat)(o:List (Nat×Nat))(lps:bG)(Pt:Nat→Nat→Prop)(M:Mem):Prop where
 ne:M.frs≠[]
 u4:4≤U
 u:U≤M.tys.length
 hb:Kv lps M
 dep:∀x i,lps x=some i→i.depth≤M.frs.length
 pl:∀x i,lps x=some i→∃j,i.place=m7 j∧U≤j∧Pt x j
 pc:∀x i,lps x=some i→∀k,Pt x k→k<M.tys.length∧(U≤k∨∃y∈o,k=1+y.2)
 fr:∀x i,lps x=some i→∀f∈M.frs.take (M.frs.length-i.depth),∀y∈f,¬Pt x y.1∧4≤y.1
 al:∀f∈M.frs,∀y∈f,0<y.1
section
variable{U:Nat}{o:List (Nat×Nat)}{lps:bG}{Pt:Nat→Nat→Prop}{M X:Mem}{T j:Nat}{l l':Cs}
theorem jL.grow{f l:List (Nat×Bool)}{fs:List (List (Nat×Bool))} (h:jL U o lps Pt M) (e0:M.frs=f::fs) (e:X.frs=(f++l)::fs) (hl:∀y∈l,4≤y.1∧∀x i,lps x=some i→¬Pt x y.1) (t:M.tys.length≤X.tys.length) (b:M.blks.length≤X.blks.length):jL U o lps Pt X:=by
 have el:X.frs.length=M.frs.length:=by rw [e,e0];rfl
 refine⟨by rw [e];exact nofun,h.u4,Nat.le_trans h.u t,h.hb.le b,fun x i z=>el▸h.dep x i z,h.pl,fun x i z k q=>⟨Nat.lt_of_lt_of_le (h.pc x i z k q).1 t,(h.pc x i z k q).2⟩,fun x i z g hg y hy=>?_,fun g hg y hy=>?_⟩
 ·rw [el,e] at hg
  have hf:=h.fr x i z
  rw [e0] at hf hg
  generalize (f::fs).length-i.depth=d at *
  cases d with
  |zero=>cases hg
  |succ d=>
   rw [List.take_succ_cons] at hg hf
   rcases List.mem_cons.mp hg with rfl|hg
   ·rcases List.mem_append.mp hy with hy|hy
    ·exact hf f (.head _) y hy
    ·exact⟨(hl y hy).2 x i z,(hl y hy).1⟩
   ·exact hf g (.tail _ hg) y hy
 ·rw [e] at hg
  have ha:=h.al
  rw [e0] at ha
  rcases List.mem_cons.mp hg with rfl|hg
  ·rcases List.mem_append.mp hy with hy|hy
   ·exact ha f (.head _) y hy
   ·exact Nat.lt_of_lt_of_le (by decide) (hl y hy).1
  ·exact ha g (.tail _ hg) y hy
theorem jL.to(h:jL U o lps Pt M)(t:TO M.tys.length M X):jL U o lps Pt X:=by
 obtain⟨f,fs,e0⟩:=List.exists_cons_of_ne_nil h.ne
 obtain⟨l,e,hl⟩:=t.tr.fs f fs e0
 exact h.grow e0 e (fun y hy=>⟨Nat.le_trans h.u4 (Nat.le_trans h.u (hl y hy)),fun x i z q=>Nat.not_lt.mpr (hl y hy) (h.pc x i z _ q).1⟩) t.tr.tl t.tr.len
theorem jL.push(h:jL U o lps Pt M):jL U o lps Pt M.push:=by
 refine⟨nofun,h.u4,h.u,h.hb,fun x i z=>Nat.le_succ_of_le (h.dep x i z),h.pl,h.pc,fun x i z g hg y hy=>?_,fun g hg y hy=>?_⟩
 ·have hg:g∈([]::M.frs).take (M.frs.length+1-i.depth):=hg
  rw [Nat.sub_add_comm (h.dep x i z),List.take_succ_cons] at hg
  rcases List.mem_cons.mp hg with rfl|hg
  ·cases hy
  ·exact h.fr x i z g hg y hy
 ·rcases List.mem_cons.mp (show g∈[]::M.frs from hg) with rfl|hg
  ·cases hy
  ·exact h.al g hg y hy
theorem jL.kp(h:jL U o lps Pt M)(k:Kp o U M.tys.length j l l')(hj:∀x i,lps x=some i→¬Pt x j):∀x i,lps x=some i→∀k:Nat,Pt x k→g8 (k:Int) l'=g8 (k:Int) l:=fun x i z m q=>
 k m (h.pc x i z m q).2 (h.pc x i z m q).1 fun e=>hj x i z (e▸q)
end
structure Cx where
 B:Bk
 N:Nat
 lps:bG
 Pt:Nat→Nat→Prop
 r:PV×List PV
noncomputable def JB(C:Cx)(n:Nat)(l:Cs)(x:Nat)(s:Pl):Prop := ∀i j,C.lps x=some i→i.place=m7 j→∀l',Cells s l'→(∀k:Nat,C.Pt x k→k≠j→g8 (k:Int) l'=g8 (k:Int) l)→g8 (j:Int) l'=some (.int 7)→Dq C.B C.N i.behind n l' s.pr C.r
noncomputable def JC(C:Cx)(n:Nat)(l:Cs)(x:Nat)(s:Pl):Prop := ∀i,C.lps x=some i→∀l',Cells s l'→(∀k:Nat,C.Pt x k→g8 (k:Int) l'=g8 (k:Int) l)→Dq C.B C.N i.head n l' s.pr C.r
noncomputable def Po(C:Cx)(n:Nat)(l:Cs)(K:Pl→Prop)(q:Rt):Prop:=@Ou.rec (fun O=>Prop) (K q.2) (fun x=>JB C n l x q.2) (fun x=>JC C n l x q.2) (fun v=>C.r=(.tup [.str 341,.int v],q.2.pr)) (fun t=>C.r=(.tup [.str 248,.str t],q.2.pr)) q.1
section
variable{C:Cx}{n n':Nat}{l l':Cs}{K K':Pl→Prop}{q:Rt}{k:Pl→Rt}
theorem Po.mono(h:Po C n l K q)(le:n≤n')(hl:∀x i,C.lps x=some i→∀k:Nat,C.Pt x k→g8 (k:Int) l'=g8 (k:Int) l)(f:∀s,q=(.next,s)→K s→K' s):Po C n' l' K' q:=by
 obtain⟨o,s⟩:=q
 cases o with
 |next=>exact f s rfl h
 |brk x=>exact fun i j e p l2 c k7 g=>(h i j e p l2 c (fun m hm ne=>(k7 m hm ne).trans (hl x i e m hm)) g).mono le
 |cont x=>exact fun i e l2 c k7=>(h i e l2 c (fun m hm=>(k7 m hm).trans (hl x i e m hm))).mono le
 |ret v=>exact h
 |zM t=>exact h
theorem Po.sq(h:Po C n l K (sq q k)):Po C n l (fun s=>Po C n l K (k s)) q:=by
 obtain⟨o,s⟩:=q
 cases o<;>exact h
end
structure Bg(U:Nat)(o:List (Nat×Nat))(C:Cx)(M:Mem)(l:Cs)(s:Pl)(P0:Nat):Prop where
 op:H8 M
 ev:jL U o C.lps C.Pt M
 ce:Cells s l
 pf:Pf P0 s
 cn:∀y∈o,3≤y.2∧1+y.2<U
 lp:∀x∈o.map Prod.fst,∃i,C.lps x=some i
structure Ds(U:Nat)(C:Cx)(M:Mem)(j:Nat):Prop where
 lt:j<M.tys.length
 u:U≤j
 fr:∀x i,C.lps x=some i→¬C.Pt x j
noncomputable def Dr(U:Nat)(o:List (Nat×Nat))(e:F):Prop := ∀{C:Cx} {n:Nat} {M:Mem} {l:Cs} {s:Pl} {j P0:Nat},Bg U o C M l s P0→Ds U C M j→U4 (e.low.1 C.lps (m7 j) M) C.B→(e.low.1 C.lps (m7 j) M).tys.length≤C.N→P0+e.tn.1≤sizeLine→
 Po C n l (fun s' => ∀l',Cells s' l'→Kp o U M.tys.length j l l'→m9 C.B C.N (e.low.1 C.lps (m7 j) M) n l' s'.pr C.r) (e.run.1 s)→m9 C.B C.N M (n+e.tn.1) l s.pr C.r
noncomputable def qK(U:Nat)(o:List (Nat×Nat))(e:F):Prop := ∀{C:Cx} {n:Nat} {M:Mem} {l:Cs} {s:Pl} {P0:Nat},Bg U o C M l s P0→U4 (e.low.2 C.lps M) C.B→(e.low.2 C.lps M).tys.length≤C.N→P0+e.tn.1≤sizeLine→
 Po C n l (fun s' => ∀l',Cells s' l'→Kp o U M.tys.length 0 l l'→m9 C.B C.N (e.low.2 C.lps M) n l' s'.pr C.r) (e.run.1 s)→m9 C.B C.N M (n+e.tn.1) l s.pr C.r
end Mine.Internal
namespace Mine.Internal
open PySem PySem.W PySem.Calls PyProof.Rows
section
variable{U:Nat}{o:List (Nat×Nat)}{C:Cx}{n:Nat}{M:Mem}{l:Cs}{s:Pl}{j P0 p x:Nat}{op:Op}{v:Int}{e a b:F}{t:PV}
theorem Ds.j4(d:Ds U C M j)(h:4≤U):j=0∨4≤j:=.inr (Nat.le_trans h d.u)
theorem Bg.n1(h:Bg U o C M l s P0){i:Nat}(hi:i<3):1+i<M.tys.length:=Nat.lt_of_lt_of_le (show 1+i<4 by lia) (Nat.le_trans h.ev.u4 h.ev.u)
theorem Us(hp:p<3):Dr U o (.jK p):=fun{C n M l s j P0} a d L hN hz k=>
 (uN a.op (.print (Nat.lt_of_le_of_lt a.pf.n hz) (.cp (a.ce p hp) (.int _))) (Q5 a.op.put (Nat.lt_of_lt_of_le d.lt hN) .unit (k _ (a.ce.tmp (d.j4 a.ev.u4)) Kp.refl.tmp))).mono (Nat.le_succ n)
theorem Ut(ho:op.ar=true)(hp:p<3):Dr U o (.upd op p v):=fun{C n M l s j P0} a d L hN hz k=>by
 have t:=(TO.refl a.op).J4 (p:=m7 (1+p)) op (j7 (m7 (1+p))) (K1 s6 (.int v))
 have tl:=t.tr.tl
 have hN:(J4 (m7 (1+p)) op (j7 (m7 (1+p))) (K1 s6 (.int v)) M).tys.length≤C.N:=hN
 have k:Po C n l (fun s' => ∀l',Cells s' l'→Kp o U M.tys.length j l l'→m9 C.B C.N ((F.upd op p v).low.1 C.lps (m7 j) M) n l' s'.pr C.r) (if over (op.f (s.v p) v)=true then((.zM op.msg,s):Rt) else(.next,s.set p (wrap (op.f (s.v p) v)))):=k
 refine Qt ho a.op (a.n1 hp) (W6 L (TO.refl t.op).asg) hN (a.ce p hp) (a.pf.v p hp) ?_
 cases c:over (op.f (s.v p) v) with
 |true=>rw [c] at k;exact k
 |false=>
  rw [c] at k
  refine fun l' h g=>Q5 t.op (Nat.lt_of_lt_of_le d.lt (Nat.le_trans tl hN)) .unit (k _ (Cells.tmp (fun i hi=>?_) (d.j4 a.ev.u4)) (Kp.tmp fun m h1 h2 h3=>h m h2 ?_))
  ·show _=some (PV.int (if i=p then _ else s.v i))
   by_cases q:i=p
   ·rw [if_pos q,q];exact g
   ·rw [if_neg q];exact(h _ (a.n1 hi) (by lia)).trans (a.ce i hi)
  ·have:=a.ev.u4
   rcases h1 with h1|⟨y,hy,rfl⟩
   ·lia
   ·exact fun z=>absurd (a.cn y hy).1 (by lia)
theorem qe{i:LI}{l l':Cs}(h:jL U o C.lps C.Pt M)(e:C.lps x=some i)(c:Cells s l)(k:∀m:Nat,(∀f∈M.frs.take (M.frs.length-i.depth),∀y∈f,y.1≠m)→g8 (m:Int) l'=g8 (m:Int) l):Cells s l'∧∀m:Nat,C.Pt x m→g8 (m:Int) l'=g8 (m:Int) l:=
 ⟨c.of fun m hm=>k (1+m) fun f hf y hy z=>by have:=(h.fr x i e f hf y hy).2;lia,fun m hm=>k m fun f hf y hy z=>(h.fr x i e f hf y hy).1 (z▸hm)⟩
theorem Qu(w:Wy o e):Dr U o e:=fun{C n M l s j P0} a d L hN hz k=>by
 cases w with
 |@ret p hp=>
  have k:C.r=(.tup [.str 341,.int (s.v p)],s.pr):=k
  have t1:=(TO.refl a.op).asg (p:=m7 0) (rv:=I7 (j7 (m7 (1+p))))
  have t2:=t1.leave 0
  have L2:U4 (M.asg (m7 0) (I7 (j7 (m7 (1+p))))) C.B:=Kw t1.op (Ur (t:=.ret) t2.op nH L)
  refine Q5 a.op (j:=0) (Nat.lt_of_lt_of_le (Nat.lt_of_lt_of_le (by decide) (Nat.le_trans a.ev.u4 a.ev.u)) (Nat.le_trans (Qn (i:=p) a.op).tr.tl hN)) (.use (.cp (a.ce p hp) (.int _)) (.int _)) (uV (d:=0) t1.op fun l' h=>?_)
  rw [k]
  refine Yx t2.op L ((h 0 fun f hf y hy z=>?_).trans V8) (.int _)
  exact Nat.ne_of_gt (a.ev.al f (List.mem_of_mem_take hf) y hy) z
 |@brk x hx=>
  have k:JB C n l x s:=k
  obtain⟨i,e⟩:∃i,C.lps x=some i:=a.lp x hx
  obtain⟨q,ep,hu,hq⟩:=a.ev.pl x i e
  have t1:=(TO.refl a.op).asg (p:=i.place) (rv:=I7 (K1 s6 (.int 7)))
  have t2:=t1.leave i.depth
  have hb:i.behind<((M.asg i.place (I7 (K1 s6 (.int 7)))).leave i.depth).blks.length:=Nat.lt_of_lt_of_le (a.ev.hb x i e).2 t2.tr.len
  have el:(F.brk x).low.1 C.lps (m7 j) M=((M.asg i.place (I7 (K1 s6 (.int 7)))).leave i.depth).bO (q8 i.behind):=by show FN (C.lps x) M=_;rw [e];rfl
  rw [el] at L hN
  have qM:=(a.ev.pc x i e q hq).1
  rw [ep] at t1 t2 hb L hN
  have t3:=t2.bO (tm:=.goto i.behind) (W7 hb)
  refine Q5 a.op (j:=q) (Nat.lt_of_lt_of_le qM (Nat.le_trans t3.tr.tl hN)) (.use (.cst _ (.int 7)) (.int 7)) (uV (d:=i.depth) t1.op fun l' h=>IV t2.op L ?_)
  obtain⟨c1,c2⟩:=qe (M:=M.asg (m7 q) (I7 (K1 s6 (.int 7)))) (s:=s) (l:=J7 (q:Int) (.int 7) l) (a.ev.to t1) e (a.ce.tmp (.inr (Nat.le_trans a.ev.u4 hu))) h
  exact k i q e ep l' c1 (fun m hm ne=>(c2 m hm).trans (get_set ne.symm)) ((c2 q hq).trans V8)
 |@cont x hx=>
  have k:JC C n l x s:=k
  obtain⟨i,e⟩:∃i,C.lps x=some i:=a.lp x hx
  have t2:=(TO.refl a.op).leave i.depth
  have el:(F.cont x).low.1 C.lps (m7 j) M=(M.leave i.depth).bO (q8 i.head):=by show uw (C.lps x) M=_;rw [e];rfl
  rw [el] at L hN
  refine uV (d:=i.depth) a.op fun l' h=>IV t2.op L ?_
  obtain⟨c1,c2⟩:=qe (s:=s) a.ev e a.ce h
  exact k i e l' c1 c2
end
end Mine.Internal
namespace Mine.Internal
open PySem PySem.W PySem.Calls PyProof.Rows
section
variable{U:Nat}{o:List (Nat×Nat)}{C:Cx}{n:Nat}{M X:Mem}{l l':Cs}{s:Pl}{j P0 p x:Nat}{op:Op}{v:Int}{e a b:F}{t:PV}
theorem jL.n1(h:jL U o C.lps C.Pt M){i:Nat}(hi:i<3):1+i<M.tys.length:=Nat.lt_of_lt_of_le (show 1+i<4 by lia) (Nat.le_trans h.u4 h.u)
theorem Cells.low(h:jL U o C.lps C.Pt M)(c:Cells s l)(k:∀m:Nat,m<M.tys.length→g8 (m:Int) l'=g8 (m:Int) l):Cells s l':=c.of fun i hi=>k _ (h.n1 hi)
theorem Kp.low{T:Nat}{l2:Cs}(h:Kp o U T j l l')(k:∀m:Nat,m<T→g8 (m:Int) l2=g8 (m:Int) l'):Kp o U T j l l2:=fun m h1 h2 h3=>(k m h2).trans (h m h1 h2 h3)
theorem Kp.af4{T:Nat}{l2:Cs}(h:Kp o U T j l' l2)(k:∀m:Nat,m<T→g8 (m:Int) l'=g8 (m:Int) l):Kp o U T j l l2:=fun m h1 h2 h3=>(h m h1 h2 h3).trans (k m h2)
theorem Bg.to(h:Bg U o C M l s P0)(t:TO M.tys.length M X):Bg U o C X l s P0:=⟨t.op,h.ev.to t,h.ce,h.pf,h.cn,h.lp⟩
theorem Bg.push(h:Bg U o C M l s P0):Bg U o C M.push l s P0:=⟨h.op,h.ev.push,h.ce,h.pf,h.cn,h.lp⟩
theorem Bg.with_(h:Bg U o C M l s P0){s':Pl}{P1:Nat}(c:Cells s' l')(p:Pf P1 s'):Bg U o C M l' s' P1:=⟨h.op,h.ev,c,p,h.cn,h.lp⟩
theorem Ds.to(d:Ds U C M j)(t:TO M.tys.length M X):Ds U C X j:=⟨Nat.lt_of_lt_of_le d.lt t.tr.tl,d.u,d.fr⟩
theorem jL.ds(h:jL U o C.lps C.Pt M):Ds U C (M.temp t) M.tys.length:=⟨by rw [Q6];exact Nat.lt_succ_self _,h.u,fun x i e q=>Nat.lt_irrefl _ (h.pc x i e _ q).1⟩
theorem aq8(h:jL U o C.lps C.Pt M)(hu:4≤U):∀x i,C.lps x=some i→¬C.Pt x 0:=fun x i e q=>by
 rcases(h.pc x i e 0 q).2 with z|⟨y,_,z⟩<;>lia
theorem Uu(I:Dr U o e)(a:Bg U o C M l s P0)(L:U4 (jq t (e.low.1 C.lps) M) C.B) (hN:(jq t (e.low.1 C.lps) M).tys.length≤C.N) (hz:P0+e.tn.1≤sizeLine)
  (k:Po C n l (fun s' => ∀l',Cells s' l'→Kp o U M.tys.length 0 l l'→m9 C.B C.N (jq t (e.low.1 C.lps) M) n l' s'.pr C.r) (e.run.1 s)):m9 C.B C.N M (n+e.tn.1) l s.pr C.r:=by
 have t1:=(TO.refl (M:=M.push) a.op).temp (t:=t)
 have t2:TO M.push.tys.length M.push (e.low.1 C.lps (m7 M.push.tys.length) (M.push.temp t)):=t1.call ((bF e).1 C.lps (m7 M.push.tys.length) (M.push.temp t) (a.ev.hb.le t1.tr.len) t1.op)
 refine aF (M:=M.push) (t:=t) a.op (I (a.push.to t1) (jL.ds a.push.ev) (aG t2.op L) (by rw [← cA t2];exact hN) hz (k.mono (Nat.le_refl _) (fun O O O O O=>rfl) fun s' O k l1 c1 k1=>Y0 (M:=M) t2 fun l2 h=>k l2 (c1.low a.ev h) (Kp.low (l':=l1) (k1.le0 ?_ (Nat.le_refl _) 0) h)))
 show M.tys.length≤(M.push.temp t).tys.length
 rw [Q6];exact Nat.le_succ _
theorem nM:qK U o .nil:=fun{C n M l s P0} a L hN hz k=>k l a.ce Kp.refl
theorem pB(ga:∀N s,Pf N s→Pf (N+a.tn.1) (a.run.1 s).2)(I:Dr U o a)(J:qK U o b):qK U o (.cons a b):=fun{C n M l s P0} h L hN hz k=>by
 have hz:P0+(a.tn.1+b.tn.1)≤sizeLine:=hz
 have L:U4 (b.low.2 C.lps (jq a.ty (a.low.1 C.lps) M)) C.B:=L
 have hN:(b.low.2 C.lps (jq a.ty (a.low.1 C.lps) M)).tys.length≤C.N:=hN
 have k:Po C n l (fun s' => ∀l',Cells s' l'→Kp o U M.tys.length 0 l l'→m9 C.B C.N (b.low.2 C.lps (jq a.ty (a.low.1 C.lps) M)) n l' s'.pr C.r) (sq (a.run.1 s) b.run.1):=k
 have t0:=(TO.refl (M:=M.push) h.op).temp (t:=a.ty)
 have t1:TO M.tys.length M (jq a.ty (a.low.1 C.lps) M):=uQ h.op ((bF a).1 C.lps (m7 M.push.tys.length) (M.push.temp a.ty) (h.ev.hb.le t0.tr.len) t0.op)
 have t2:=(bF b).2 C.lps _ (h.ev.hb.le t1.tr.len) t1.op
 have go:=Uu (n:=n+b.tn.1) (t:=a.ty) I h (W6 L t2) (Nat.le_trans t2.tr.tl hN) (by lia) (k.sq.mono (Nat.le_add_right ..) (fun O O O O O=>rfl) fun s1 q1 k l1 c1 k1=>?_)
 ·exact go.mono (by show n+b.tn.1+a.tn.1≤n+(a.tn.1+b.tn.1);lia)
 ·have pf:=ga P0 s h.pf
  rw [q1] at pf
  exact J (h.to t1 |>.with_ c1 pf) L hN (by lia) (k.mono (Nat.le_refl _) (h.ev.kp k1 (aq8 h.ev h.ev.u4)) fun s2 O k l2 c2 k2=>k l2 c2 (k1.trans k2 t1.tr.tl))
theorem Gl(I:qK U o e)(a:Bg U o C M l s P0)(d:Ds U C M j)(L:U4 (inScope (inBlock (e.low.2 C.lps)) (m7 j) M) C.B) (hN:(inScope (inBlock (e.low.2 C.lps)) (m7 j) M).tys.length≤C.N) (hz:P0+e.tn.1≤sizeLine)
  (k:Po C n l (fun s' => ∀l',Cells s' l'→Kp o U M.tys.length j l l'→m9 C.B C.N (inScope (inBlock (e.low.2 C.lps)) (m7 j) M) n l' s'.pr C.r) (e.run.1 s)):m9 C.B C.N M (n+e.tn.1) l s.pr C.r:=by
 have t1:=(bF e).2 C.lps M.push.push a.ev.hb a.op
 have t2:=t1.asg (p:=m7 j) (rv:=j6)
 have t3:TO M.push.tys.length M.push ((e.low.2 C.lps M.push.push).asg (m7 j) j6).pop:=S8 t2
 have L2:=aG t2.op (aG t3.op L)
 have n3:((e.low.2 C.lps M.push.push).asg (m7 j) j6).pop.tys.length≤C.N:=by rw [← cA t3];exact hN
 have n2:((e.low.2 C.lps M.push.push).asg (m7 j) j6).tys.length≤C.N:=by rw [← cA t2];exact n3
 refine I (M:=M.push.push) a.push.push (W6 L2 (TO.refl t1.op).asg) n2 hz (k.mono (Nat.le_refl _) (fun O O O O O=>rfl) fun s' O k l1 c1 k1=>Q5 t1.op (j:=j) (Nat.lt_of_lt_of_le d.lt (Nat.le_trans t1.tr.tl n2)) .unit (Y0 (M:=M.push) t2 fun l2 h2=>Y0 (M:=M) t3 fun l3 h3=>?_))
 have h:∀m:Nat,m<M.tys.length→g8 (m:Int) l3=g8 (m:Int) (J7 (j:Int) (.tup []) l1):=fun m hm=>(h3 m hm).trans (h2 m hm)
 refine k l3 ((c1.tmp (d.j4 a.ev.u4)).low a.ev h) (Kp.low (Kp.tmp fun m h1 h2 h3=>k1 m h1 h2 ?_) h)
 have:=a.ev.u4
 rcases h1 with h1|⟨y,hy,rfl⟩<;>lia
theorem YB(I:qK U o e)(a:Bg U o C M l s P0)(d:Ds U C M j)(L:U4 (cP e.isNil (e.low.2 C.lps) (m7 j) M) C.B) (hN:(cP e.isNil (e.low.2 C.lps) (m7 j) M).tys.length≤C.N) (hz:P0+e.tn.1≤sizeLine)
  (k:Po C n l (fun s' => ∀l',Cells s' l'→Kp o U M.tys.length j l l'→m9 C.B C.N (cP e.isNil (e.low.2 C.lps) (m7 j) M) n l' s'.pr C.r) (e.run.1 s)):m9 C.B C.N M (n+e.tn.1) l s.pr C.r:=by
 cases e with
 |nil=>exact Q5 a.op (Nat.lt_of_lt_of_le d.lt hN) .unit (k _ (a.ce.tmp (d.j4 a.ev.u4)) Kp.refl.tmp)
 |_=>exact Gl I a d L hN hz k
theorem zR{lps:bG}(e:F)(nil:Bool)(q:PV)(h:Kv lps M):∀M',M.blks.length≤M'.blks.length→H8 M'→TO M'.tys.length M' (cP nil (e.low.2 lps) q M'):=fun M' hl o=>Qs o fun M2 hl2 o=>(bF e).2 lps M2 (h.le (Nat.le_trans hl hl2)) o
theorem Qv(ho:op.ar=false)(hp:p<3)(I:qK U o a)(J:qK U o b):Dr U o (.ch op p v a b):=fun{C n M l s j P0} h d L hN hz k=>by
 have hz:P0+(max a.tn.1 b.tn.1+2)≤sizeLine:=hz
 have k:Po C n l (fun s' => ∀l',Cells s' l'→Kp o U M.tys.length j l l'→m9 C.B C.N (JK op p v (inScope (inBlock (a.low.2 C.lps))) (cP b.isNil (b.low.2 C.lps)) (m7 j) M) n l' s'.pr C.r) (if op.q (s.v p) v=true then a.run.1 s else b.run.1 s):=k
 have go:=VJ (n:=n+1+max a.tn.1 b.tn.1) (r:=C.r) (pr:=s.pr) ho h.op (zR a false (m7 j) h.ev.hb) (zR b b.isNil (m7 j) h.ev.hb) L hN (h.ce p hp) (fun c Ma l' tM L1 n1 t1 hs=>?_) fun c Ma l' tM L1 n1 t1 hs=>?_
 ·exact go.mono (by show n+1+max a.tn.1 b.tn.1+1≤n+(max a.tn.1 b.tn.1+2);lia)
 ·rw [if_pos c] at k
  exact m9.mono (Gl (n:=n+1) I ((h.to tM).with_ (h.ce.low h.ev hs) h.pf) (d.to tM) L1 n1 (by lia) (k.mono (Nat.le_succ n) (fun x i e m hm=>hs m (h.ev.pc x i e m hm).1) fun s' O k l2 c2 k2=>t1 _ _ _ (k l2 c2 (Kp.af4 (fun m a1 a2 a3=>k2 m a1 (Nat.lt_of_lt_of_le a2 tM.tr.tl) a3) hs)))) (by lia)
 ·rw [if_neg (by rw [c];exact nofun)] at k
  exact m9.mono (YB (n:=n+1) J ((h.to tM).with_ (h.ce.low h.ev hs) h.pf) (d.to tM) L1 n1 (by lia) (k.mono (Nat.le_succ n) (fun x i e m hm=>hs m (h.ev.pc x i e m hm).1) fun s' O k l2 c2 k2=>t1 _ _ _ (k l2 c2 (Kp.af4 (fun m a1 a2 a3=>k2 m a1 (Nat.lt_of_lt_of_le a2 tM.tr.tl) a3) hs)))) (by lia)
end
end Mine.Internal
namespace Mine.Internal
open PySem PySem.W PySem.Calls PyProof.Rows
noncomputable abbrev QL(x c:Nat)(most:Nat):F:=.ch .ge c (most:Int) (.cons (.brk x) .nil) .nil
noncomputable abbrev VK(c:Nat):F:=.upd .add c 1
section
variable{U:Nat}{o:List (Nat×Nat)}{C:Cx}{n:Nat}{M X:Mem}{l l':Cs}{s:Pl}{P0 x c most i:Nat}
theorem YC(lps:bG)(h:Kv lps M)(op:H8 M):TO M.tys.length M (jq j6 ((QL x c most).low.1 lps) M):=by
 have t0:=(TO.refl (M:=M.push) op).temp (t:=j6)
 exact uQ op ((bF (QL x c most)).1 lps (m7 M.push.tys.length) (M.push.temp j6) (h.le t0.tr.len) t0.op)
theorem YD(lps:bG)(op:H8 M):TO M.tys.length M (jq j6 ((VK c).low.1 lps) M):=by
 have t0:=(TO.refl (M:=M.push) op).temp (t:=j6)
 exact uQ op (((TO.refl t0.op).J4 .add _ _).asg)
theorem Jb(a:Bg U o C M l s P0)(L:U4 (jq j6 ((QL x c most).low.1 C.lps) M) C.B) (hN:(jq j6 ((QL x c most).low.1 C.lps) M).tys.length≤C.N) (g:g8 ((1+c:Nat):Int) l=some (.int (i:Int))) (hx:x∈o.map Prod.fst)
  (yes:most≤i→P0+1≤sizeLine∧∀l',(∀m:Nat,m<M.tys.length→g8 (m:Int) l'=g8 (m:Int) l)→JB C n l' x s) (no:¬most≤i→∀l',(∀m:Nat,m<M.tys.length→g8 (m:Int) l'=g8 (m:Int) l)→m9 C.B C.N (jq j6 ((QL x c most).low.1 C.lps) M) n l' s.pr C.r):m9 C.B C.N M (n+2) l s.pr C.r:=by
 have t1:=(TO.refl (M:=M.push) a.op).temp (t:=j6)
 have t2:TO M.push.tys.length M.push ((QL x c most).low.1 C.lps (m7 M.push.tys.length) (M.push.temp j6)):=t1.call ((bF (QL x c most)).1 C.lps (m7 M.push.tys.length) (M.push.temp j6) (a.ev.hb.le t1.tr.len) t1.op)
 have b:=a.push.to t1
 have d:Ds U C (M.push.temp j6) M.push.tys.length:=jL.ds a.push.ev
 have N2:((QL x c most).low.1 C.lps (m7 M.push.tys.length) (M.push.temp j6)).tys.length≤C.N:=by rw [← cA t2];exact hN
 have lt:M.tys.length≤(M.push.temp j6).tys.length:=by rw [Q6];exact Nat.le_succ _
 refine aF (M:=M.push) (t:=j6) a.op (VJ (n:=n+1) (r:=C.r) (pr:=s.pr) (op:=.ge) rfl t1.op (zR (.cons (.brk x) .nil) false (m7 M.push.tys.length) b.ev.hb) (zR .nil true (m7 M.push.tys.length) b.ev.hb) (aG t2.op L) N2 g (fun q Ma l' tM L1 n1 t1 hs=>?_) fun q Ma l' tM L1 n1 t1 hs=>?_)
 ·have q:most≤i:=Int.ofNat_le.mp (of_decide_eq_true q)
  obtain⟨hz,yes⟩:=yes q
  have I:qK U o (.cons (.brk x) .nil):=pB (Qg (.brk hx)) (Qu (.brk hx)) nM
  exact Gl (n:=n) I ((b.to tM).with_ (b.ce.low b.ev hs) b.pf) (d.to tM) L1 n1 hz (yes l' fun m hm=>hs m (Nat.lt_of_lt_of_le hm lt))
 ·have q:¬most≤i:=fun z=>absurd (Int.ofNat_le.mpr z) (of_decide_eq_false q)
  refine Q5 tM.op (j:=M.tys.length) (Nat.lt_of_lt_of_le d.lt (Nat.le_trans tM.tr.tl n1)) .unit (t1 _ _ _ (Y0 (M:=M) t2 fun l2 h2=>no q l2 fun m hm=>?_))
  exact(h2 m hm).trans ((get_set (Nat.ne_of_gt hm)).trans (hs m (Nat.lt_of_lt_of_le hm lt)))
theorem Uv{lps:bG}(op:H8 M)(hc:1+c<M.tys.length)(L:U4 (jq j6 ((VK c).low.1 lps) M) C.B) (hN:(jq j6 ((VK c).low.1 lps) M).tys.length≤C.N) (g:g8 ((1+c:Nat):Int) l=some (.int (i:Int))) (hi:i<100) {pr:List PV}
  (k:∀l',(∀m:Nat,m<M.tys.length→m≠1+c→g8 (m:Int) l'=g8 (m:Int) l)→g8 ((1+c:Nat):Int) l'=some (.int ((i+1:Nat):Int))→m9 C.B C.N (jq j6 ((VK c).low.1 lps) M) n l' pr C.r):m9 C.B C.N M (n+1) l pr C.r:=by
 have t1:=(TO.refl (M:=M.push) op).temp (t:=j6)
 have tb:=(TO.refl t1.op).J4 (p:=m7 (1+c)) .add (j7 (m7 (1+c))) (K1 s6 (.int 1))
 have t2:TO M.push.tys.length M.push ((VK c).low.1 lps (m7 M.push.tys.length) (M.push.temp j6)):=t1.call tb.asg
 have N2:((VK c).low.1 lps (m7 M.push.tys.length) (M.push.temp j6)).tys.length≤C.N:=by rw [← cA t2];exact hN
 have lt:(M.push.temp j6).tys.length=M.tys.length+1:=Q6 _
 have L2:=aG t2.op L
 have ov:over (Op.add.f (i:Int) 1)=false:=by
  show(!(decide ((0:Int)≤(i:Int)+1)&&decide ((i:Int)+1<256)))=false
  rw [decide_eq_true (by lia),decide_eq_true (by lia)];rfl
 have wr:wrap (Op.add.f (i:Int) 1)=((i+1:Nat):Int):=Uc ov
 refine aF (M:=M.push) (t:=j6) op (Qt (n:=n) (op:=.add) rfl t1.op (by lia) (W6 L2 (TO.refl tb.op).asg) N2 g ⟨by lia,by lia⟩ ?_)
 rw [ov]
 refine fun l' h g'=>Q5 tb.op (j:=M.tys.length) (Nat.lt_of_lt_of_le (by rw [lt];exact Nat.lt_succ_self _) (Nat.le_trans tb.tr.tl N2)) .unit (Y0 (M:=M) t2 fun l2 h2=>k l2 (fun m hm ne=>?_) ?_)
 ·exact(h2 m hm).trans ((get_set (Nat.ne_of_gt hm)).trans (h m (by lia) ne))
 ·rw [← wr]
  exact(h2 _ hc).trans ((get_set (Nat.ne_of_gt hc)).trans g')
end
section
variable{U:Nat}{o:List (Nat×Nat)}{lps:bG}{Pt:Nat→Nat→Prop}{M X:Mem}
theorem jL.cnt{y:Nat×Nat}(h:jL U o lps Pt M):jL U (y::o) lps Pt M:=⟨h.ne,h.u4,h.u,h.hb,h.dep,h.pl,fun x i e k q=>⟨(h.pc x i e k q).1,(h.pc x i e k q).2.imp id fun⟨z,hz,e⟩=>⟨z,.tail _ hz,e⟩⟩,h.fr,h.al⟩
theorem jL.set{x:Nat}{li:LI}{PX:Nat→Prop}{f:List (Nat×Bool)}{fs:List (List (Nat×Bool))} (h:jL U o lps Pt M) (e:M.frs=f::fs) (ef:fs.length=li.depth) (hh:li.head<M.blks.length) (hb:li.behind<M.blks.length) (hp:∃j,li.place=m7 j∧U≤j∧PX j)
  (hc:∀k,PX k→k<M.tys.length∧(U≤k∨∃y∈o,k=1+y.2)) (hf:∀y∈f,¬PX y.1∧4≤y.1):jL U o (lps.set x li) (fun y k=>if y=x then PX k else Pt y k) M:=by
 have two:∀{Q:Nat→LI→(Nat→Prop)→Prop},(Q x li PX)→(∀y i,lps y=some i→Q y i (Pt y))→∀y i,(lps.set x li) y=some i→Q y i (fun k=>if y=x then PX k else Pt y k):=fun{Q} a b y i z=>by
  unfold bG.set at z
  by_cases q:y=x
  ·rw [if_pos q] at z
   cases z
   rw [q,show(fun k=>if x=x then PX k else Pt x k)=PX from funext fun k=>if_pos rfl];exact a
  ·rw [if_neg q] at z
   rw [show(fun k=>if y=x then PX k else Pt y k)=Pt y from funext fun k=>if_neg q];exact b y i z
 refine⟨h.ne,h.u4,h.u,h.hb.set hh hb,two (Q:=fun y i O=>i.depth≤M.frs.length) ?_ h.dep,two (Q:=fun y i P => ∃j,i.place=m7 j∧U≤j∧P j) hp h.pl,two (Q:=fun y i P => ∀k,P k→k<M.tys.length∧(U≤k∨∃y∈o,k=1+y.2)) hc h.pc,two (Q:=fun y i P => ∀f∈M.frs.take (M.frs.length-i.depth),∀y∈f,¬P y.1∧4≤y.1) ?_ h.fr,h.al⟩
 ·rw [e,← ef];exact Nat.le_succ _
 ·intro g hg y hy
  rw [e,← ef,show(f::fs).length-fs.length=1 by show fs.length+1-fs.length=1;lia] at hg
  rw [List.mem_singleton.mp hg] at hy
  exact hf y hy
end
end Mine.Internal
namespace Mine.Internal
open PySem PySem.W PySem.Calls PyProof.Rows
section
variable{U:Nat}{o:List (Nat×Nat)}{C:Cx}{n n':Nat}{M X:Mem}{l l':Cs}{s s1:Pl}{P0 x c most i j k:Nat}{e:F}
noncomputable def lpI(M:Mem)(j:Nat):LI:=⟨M.blks.length,M.blks.length+1,M.frs.length,m7 j⟩
noncomputable def PX(U:Nat)(o:List (Nat×Nat))(M:Mem)(k:Nat):Prop:=k<M.tys.length∧(U≤k∨∃y∈o,k=1+y.2)
noncomputable def Cx.in_(C:Cx)(U:Nat)(o:List (Nat×Nat))(x:Nat)(M:Mem)(j:Nat):Cx:=⟨C.B,C.N,C.lps.set x (lpI M j),fun y k=>if y=x then PX U o M k else C.Pt y k,C.r⟩
theorem Uw{lps:bG}{li:LI}:(lps.set x li) x=some li:=by unfold bG.set;rw [if_pos rfl]
theorem Qw{lps:bG}{li:LI}{y:Nat}(h:y≠x):(lps.set x li) y=lps y:=by unfold bG.set;rw [if_neg h]
theorem Po.round{K K':Pl→Prop}(h:Po C n l K (rounds x e.run.1 (k+1) s)) (le:n≤n') (hl:∀y i,C.lps y=some i→∀m:Nat,C.Pt y m→g8 (m:Int) l'=g8 (m:Int) l)
  (next:∀s2,e.run.1 s=(.next,s2)→Po C n l K (rounds x e.run.1 k s2)→K' s2) (brk:∀s2,K s2→JB (C.in_ U o x M j) n' l' x s2) (cont:∀s2,e.run.1 s=(.cont x,s2)→Po C n l K (rounds x e.run.1 k s2)→JC (C.in_ U o x M j) n' l' x s2):Po (C.in_ U o x M j) n' l' K' (e.run.1 s):=by
 have h:Po C n l K (@Ou.rec (fun O=>Rt) (rounds x e.run.1 k (e.run.1 s).2) (fun y=>if y=x then(.next,(e.run.1 s).2) else e.run.1 s) (fun y=>if y=x then rounds x e.run.1 k (e.run.1 s).2 else e.run.1 s) (fun O=>e.run.1 s) (fun O=>e.run.1 s) (e.run.1 s).1):=h
 generalize e.run.1 s=q at *
 obtain⟨o',s2⟩:=q
 have far:∀y,y≠x→∀m:Nat,(C.in_ U o x M j).Pt y m=C.Pt y m:=fun y q m=>if_neg q
 cases o' with
 |next=>exact next s2 rfl h
 |brk y=>
  have h:Po C n l K (if y=x then((.next,s2):Rt) else(.brk y,s2)):=h
  by_cases q:y=x
  ·rw [if_pos q] at h
   rw [q];exact brk s2 h
  ·rw [if_neg q] at h
   have h:JB C n l y s2:=h
   exact fun i j' ei ep l2 c k7 g=>(h i j' ((Qw q).symm.trans ei) ep l2 c (fun m hm ne=>(k7 m ((far y q m).symm▸hm) ne).trans (hl y i ((Qw q).symm.trans ei) m hm)) g).mono le
 |cont y=>
  have h:Po C n l K (if y=x then rounds x e.run.1 k s2 else((.cont y,s2):Rt)):=h
  by_cases q:y=x
  ·rw [if_pos q] at h
   subst q
   exact cont s2 rfl h
  ·rw [if_neg q] at h
   have h:JC C n l y s2:=h
   exact fun i ei l2 c k7=>(h i ((Qw q).symm.trans ei) l2 c fun m hm=>(k7 m ((far y q m).symm▸hm)).trans (hl y i ((Qw q).symm.trans ei) m hm)).mono le
 |ret v=>exact h
 |zM t=>exact h
end
section
variable{U:Nat}{o:List (Nat×Nat)}{C:Cx}{n:Nat}{M:Mem}{l:Cs}{s:Pl}{P0 x c most j:Nat}{e:F}
noncomputable abbrev gj(x c most:Nat)(e:F):F:=.cons (QL x c most) (.cons (VK c) e)
theorem Dt(I:qK U ((x,c)::o) e) (hf:∀N s,Pf N s→Pf (N+e.tn.1) (e.run.1 s).2) (hm:most≤3) (a:Bg U o C M l s P0) (d:Ds U C M j) (hc:3≤c∧1+c<U) (hno:∀y∈o,y.2≠c) (g0:g8 ((1+c:Nat):Int) l=some (.int 0))
  (L:U4 (M7 (fun i=>(gj x c most e).low.2 (C.lps.set x i)) (m7 j) M) C.B) (hN:(M7 (fun i=>(gj x c most e).low.2 (C.lps.set x i)) (m7 j) M).tys.length≤C.N) (hz:P0+(3*(e.tn.1+4)+3)≤sizeLine)
  (k:Po C n l (fun s' => ∀l',Cells s' l'→Kp o U M.tys.length j l l'→g8 (j:Int) l'=some (.int 7)→m9 C.B C.N (M7 (fun i=>(gj x c most e).low.2 (C.lps.set x i)) (m7 j) M) n l' s'.pr C.r) (rounds x e.run.1 most s)):m9 C.B C.N M (n+(3*(e.tn.1+4)+3)) l s.pr C.r:=by
 rw [zQ] at L hN k
 let D:Cx:=C.in_ U ((x,c)::o) x M j
 let M2:=vd M
 let Mb:=M2.push.temp j6
 let Mc:=Mb.push
 let S1:=jq j6 ((QL x c most).low.1 D.lps) Mc
 let S2:=jq j6 ((VK c).low.1 D.lps) S1
 let S3:=e.low.2 D.lps S2
 let q:=m7 M2.push.tys.length
 let Y:=(S3.asg q j6).pop.pop
 have L:U4 (Y.cls (q8 M.blks.length)) C.B:=L
 have hN:Y.tys.length≤C.N:=hN
 have k:Po C n l (fun s' => ∀l',Cells s' l'→Kp o U M.tys.length j l l'→g8 (j:Int) l'=some (.int 7)→m9 C.B C.N ((Y.cls (q8 M.blks.length)).to (M.blks.length+1)) n l' s'.pr C.r) (rounds x e.run.1 most s):=k
 have b2:M2.blks.length=M.blks.length+2:=nJ M
 have T2:TO M.tys.length M M2:=Gk a.op
 have Tb:TO M2.push.tys.length M2.push Mb:=(TO.refl (M:=M2.push) T2.op).temp
 have lM:M.tys.length≤M2.tys.length:=T2.tr.tl
 have lb:Mb.tys.length=M2.tys.length+1:=Q6 _
 have bb:M2.blks.length≤Mb.blks.length:=Tb.tr.len
 obtain⟨f0,fs0,e0⟩:=List.exists_cons_of_ne_nil a.ev.ne
 obtain⟨g1,e1,_⟩:=T2.tr.fs f0 fs0 e0
 have fb:Mb.frs=[(M2.push.tys.length,true)]::M2.frs:=rfl
 have ev0:jL U ((x,c)::o) C.lps C.Pt Mb:=(((a.ev.cnt (y:=(x,c))).to T2).push).to Tb
 have ev:jL U ((x,c)::o) D.lps D.Pt Mb:=ev0.set (x:=x) (li:=lpI M j) fb (by show M2.frs.length=M.frs.length;rw [e1,e0];rfl) (by show M.blks.length<_;lia) (by show M.blks.length+1<_;lia) ⟨j,rfl,d.u,d.lt,.inl d.u⟩ (fun k h=>⟨Nat.lt_of_lt_of_le h.1 (by lia),h.2⟩) fun y hy=>by
  rw [List.mem_singleton.mp hy]
  exact⟨fun z=>Nat.not_lt.mpr lM z.1,Nat.le_trans a.ev.u4 (Nat.le_trans a.ev.u lM)⟩
 have cn:∀y∈(x,c)::o,3≤y.2∧1+y.2<U:=fun y hy=>by
  rcases List.mem_cons.mp hy with rfl|hy
  ·exact hc
  ·exact a.cn y hy
 have lp:∀y∈((x,c)::o).map Prod.fst,∃i,D.lps y=some i:=fun y hy=>by
  by_cases w:y=x
  ·rw [w];exact⟨_,Uw⟩
  ·obtain⟨i,ei⟩:=a.lp y ((List.mem_cons.mp hy).resolve_left w)
   exact⟨i,(Qw w).trans ei⟩
 have t1:TO Mc.tys.length Mc S1:=YC D.lps ev.push.hb Tb.op
 have ev1:=ev.push.to t1
 have t2:TO S1.tys.length S1 S2:=YD D.lps t1.op
 have t12:=t1.call t2
 have t3:TO S2.tys.length S2 S3:=(bF e).2 D.lps S2 (ev1.hb.le t2.tr.len) t2.op
 have t4:TO Mc.tys.length Mc (S3.asg q j6):=(t12.call t3).asg
 have t5:TO M2.push.tys.length M2.push (S3.asg q j6).pop:=Tb.call (S8 (M:=Mb) t4)
 have tY:TO M2.tys.length M2 Y:=S8 t5
 have LY:U4 Y C.B:=Ja (t:=.goto M.blks.length) tY.op (W7 (by have:=tY.tr.len;lia)) L
 have L4:=aG t4.op (aG t5.op LY)
 have L3:U4 S3 C.B:=W6 L4 (TO.refl (t12.call t3).op).asg
 have L2:U4 S2 C.B:=W6 L3 t3
 have L1:U4 S1 C.B:=W6 L2 t2
 have LM:U4 M2 C.B:=W6 LY tY
 have N5:(S3.asg q j6).pop.tys.length≤C.N:=by rw [← cA t5];exact hN
 have N4:S3.tys.length≤C.N:=by
  have z:=cA (M:=Mb) t4
  rw [z] at N5;exact N5
 have N2:S2.tys.length≤C.N:=Nat.le_trans t3.tr.tl N4
 have N1:S1.tys.length≤C.N:=Nat.le_trans t2.tr.tl N2
 have lc:M.tys.length≤Mc.tys.length:=by show _≤Mb.tys.length;lia
 have ls1:M.tys.length≤S1.tys.length:=Nat.le_trans lc t1.tr.tl
 have ls2:M.tys.length≤S2.tys.length:=Nat.le_trans ls1 t2.tr.tl
 have near:∀m,PX U ((x,c)::o) M m→D.Pt x m:=fun m h=>by
  show if x=x then PX U ((x,c)::o) M m else _
  rw [if_pos rfl];exact h
 have cM:1+c<M.tys.length:=Nat.lt_of_lt_of_le hc.2 a.ev.u
 have h0:M2.blks[M2.here]? = some ([],.none):=Gj a.op (Nat.le_refl _) (Nat.lt_add_of_pos_right (by decide))
 have h1:((Y.cls (q8 M.blks.length)).to (M.blks.length+1)).blks[((Y.cls (q8 M.blks.length)).to (M.blks.length+1)).here]? = some ([],.none):=Qp a.op tY
 have claim:∀(r i:Nat),i+r=most→∀(l1:Cs) (s1:Pl) (P1:Nat),Cells s1 l1→Pf P1 s1→P1+(r*e.tn.1+1)≤sizeLine→g8 ((1+c:Nat):Int) l1=some (.int (i:Int))→(∀m:Nat,(U≤m∨∃y∈o,m=1+y.2)→m<M.tys.length→m≠j→g8 (m:Int) l1=g8 (m:Int) l)→
   Po C n l (fun s' => ∀l',Cells s' l'→Kp o U M.tys.length j l l'→g8 (j:Int) l'=some (.int 7)→m9 C.B C.N ((Y.cls (q8 M.blks.length)).to (M.blks.length+1)) n l' s'.pr C.r) (rounds x e.run.1 r s1)→m9 C.B C.N M2 (n+r*(e.tn.1+4)+2) l1 s1.pr C.r:=by
  intro r
  induction r with
  |zero=>
   intro i hi l1 s1 P1 ce pf hz g kp k
   have aC:Bg U ((x,c)::o) D Mc l1 s1 P1:=⟨Tb.op,ev.push,ce,pf,cn,lp⟩
   have k:∀l',Cells s1 l'→Kp o U M.tys.length j l l'→g8 (j:Int) l'=some (.int 7)→m9 C.B C.N ((Y.cls (q8 M.blks.length)).to (M.blks.length+1)) n l' s1.pr C.r:=k
   refine(aF (M:=M2.push) (t:=j6) T2.op (Jb (n:=n) (C:=D) (i:=i) (x:=x) (M:=Mc) aC L1 N1 g (.head _) (fun O=>⟨by lia,fun l' hs i' j' ei ej l2 c2 k7 g7=>?_⟩) fun z=>absurd (Nat.le_of_eq hi.symm) z)).mono (by lia)
   have ei:i'=lpI M j:=Option.some.inj (ei.symm.trans Uw)
   subst ei
   have ej:j=j':=iZ (List.cons.inj (PV.tup.inj ej)).1
   subst ej
   exact(k l2 c2 (fun m h1 h2 h3=>(k7 m (near m ⟨h2,h1.imp id fun⟨y,hy,e⟩=>⟨y,.tail _ hy,e⟩⟩) h3).trans ((hs m (Nat.lt_of_lt_of_le h2 lc)).trans (kp m h1 h2 h3))) g7).start h1
  |succ r ih=>
   intro i hi l1 s1 P1 ce pf hz g kp k
   have aC:Bg U ((x,c)::o) D Mc l1 s1 P1:=⟨Tb.op,ev.push,ce,pf,cn,lp⟩
   rw [Nat.add_mul,Nat.one_mul] at hz
   have pf2:=hf P1 s1 pf
   refine(aF (M:=M2.push) (t:=j6) T2.op (Jb (n:=n+r*(e.tn.1+4)+2+1+e.tn.1+1) (C:=D) (i:=i) (x:=x) (M:=Mc) aC L1 N1 g (.head _) (fun z=>absurd z (by lia)) fun O la ha=>?_)).mono (by rw [Nat.add_mul];lia)
   refine Uv (n:=n+r*(e.tn.1+4)+2+1+e.tn.1) (C:=D) (i:=i) (lps:=D.lps) t1.op (Nat.lt_of_lt_of_le cM ls1) L2 N2 ((ha _ (Nat.lt_of_lt_of_le cM lc)).trans g) (by lia) fun lb hb gb=>?_
   have same:∀m:Nat,m<M.tys.length→m≠1+c→g8 (m:Int) lb=g8 (m:Int) l1:=fun m hm ne=>(hb m (Nat.lt_of_lt_of_le hm ls1) ne).trans (ha m (Nat.lt_of_lt_of_le hm lc))
   have ofc:∀m:Nat,(U≤m∨∃y∈o,m=1+y.2)→m≠1+c:=fun m hm z=>by
    rcases hm with hm|⟨y,hy,e⟩
    ·lia
    ·exact hno y hy (by lia)
   have base:∀m:Nat,(U≤m∨∃y∈o,m=1+y.2)→m<M.tys.length→m≠j→g8 (m:Int) lb=g8 (m:Int) l:=fun m h1 h2 h3=>(same m h2 (ofc m h1)).trans (kp m h1 h2 h3)
   have ceb:Cells s1 lb:=ce.of fun m hm=>same _ (a.ev.n1 hm) (by lia)
   refine I (C:=D) (n:=n+r*(e.tn.1+4)+2+1) (M:=S2) (P0:=P1) ((aC.to t12).with_ ceb pf) L3 N4 (by lia) ?_
   refine Po.round k (by lia) (fun y i ei m hm=>base m (a.ev.pc y i ei m hm).2 (a.ev.pc y i ei m hm).1 fun z=>d.fr y i ei (z▸hm)) (fun s2 er k l3 c3 k3=>?_) (fun s2 k i' j' ei ej l3 c3 k7 g7=>?_) fun s2 er k i' ei l3 c3 k7=>?_
   ·rw [er] at pf2
    refine Q5 (t12.call t3).op (j:=M2.tys.length) (Nat.lt_of_lt_of_le (by show M2.tys.length<Mb.tys.length;lia) (Nat.le_trans (t12.call t3).tr.tl N4)) .unit (Y0 (M:=Mb) t4 fun l4 h4=>Y0 (M:=M2) t5 fun l5 h5=>rA (X:=M2) tY.op L h0 ?_)
    have low:∀m:Nat,m<M2.tys.length→g8 (m:Int) l5=g8 (m:Int) l3:=fun m hm=>(h5 m hm).trans ((h4 m (by lia)).trans (get_set (Nat.ne_of_gt hm)))
    have on:∀m:Nat,(U≤m∨∃y∈(x,c)::o,m=1+y.2)→m<M.tys.length→g8 (m:Int) l5=g8 (m:Int) lb:=fun m h1 h2=>(low m (Nat.lt_of_lt_of_le h2 lM)).trans (k3 m h1 (Nat.lt_of_lt_of_le h2 ls2) (by
     have:=a.ev.u4
     rcases h1 with h1|⟨y,hy,rfl⟩<;>lia))
    exact ih (i+1) (by lia) l5 s2 (P1+e.tn.1) (c3.of fun m hm=>low _ (Nat.lt_of_lt_of_le (a.ev.n1 hm) lM)) pf2 (by lia) ((on _ (.inr ⟨_,.head _,rfl⟩) cM).trans gb) (fun m h1 h2 h3=>(on m (h1.imp id fun⟨y,hy,e⟩=>⟨y,.tail _ hy,e⟩) h2).trans (base m h1 h2 h3)) k
   ·have ei:i'=lpI M j:=Option.some.inj (ei.symm.trans Uw)
    subst ei
    have ej:j=j':=iZ (List.cons.inj (PV.tup.inj ej)).1
    subst ej
    exact Dq.mono ((k l3 c3 (fun m h1 h2 h3=>(k7 m (near m ⟨h2,h1.imp id fun⟨y,hy,e⟩=>⟨y,.tail _ hy,e⟩⟩) h3).trans (base m h1 h2 h3)) g7).start h1) (by lia)
   ·have ei:i'=lpI M j:=Option.some.inj (ei.symm.trans Uw)
    subst ei
    rw [er] at pf2
    have on:∀m:Nat,(U≤m∨∃y∈(x,c)::o,m=1+y.2)→m<M.tys.length→g8 (m:Int) l3=g8 (m:Int) lb:=fun m h1 h2=>k7 m (near m ⟨h2,h1⟩)
    exact Dq.mono ((ih (i+1) (by lia) l3 s2 (P1+e.tn.1) c3 pf2 (by lia) ((on _ (.inr ⟨_,.head _,rfl⟩) cM).trans gb) (fun m h1 h2 h3=>(on m (h1.imp id fun⟨y,hy,e⟩=>⟨y,.tail _ hy,e⟩) h2).trans (base m h1 h2 h3)) k).start h0) (by lia)
 have T0:=claim most 0 (Nat.zero_add _) l s P0 a.ce a.pf (by have:=Nat.mul_le_mul_right e.tn.1 hm;lia) g0 (fun O O O O=>rfl) k
 refine m9.j5 a.op (m9.j5 a.op.j5 (m9.mono (rA (M:=M.j5.j5) (X:=M2) a.op.j5.j5 LM h0 T0) ?_))
 have:=Nat.mul_le_mul_right (e.tn.1+4) hm
 lia
end
end Mine.Internal
namespace Mine.Internal
open PySem PySem.W PySem.Calls PyProof.Rows
section
variable{B:Bk}{N n:Nat}{M X:Mem}{l:Cs}{i:Nat}{v:Int}{r:PV×List PV}{pr:List PV}
theorem rB{f:List (Nat×Bool)}{fs:List (List (Nat×Bool))} (e:M.frs=f::fs):(Q8 i v M).frs=(f++[(1+i,true)])::fs:=by
 have z:(M.FJ i).frs=(f++[(1+i,true)])::fs:=by
  show(match M.frs with|f::fs=>(f++[(1+i,true)])::fs | []=>[])=_
  rw [e]
 exact(U0 (M:=(M.FJ i).push.asg (m7 (1+i)) (I7 (K1 s6 (.int v)))) (f:=[]) (fs:=(M.FJ i).frs) rfl).1.trans z
theorem zU(o:H8 M)(hi:1+i<M.tys.length)(hN:(Q8 i v M).tys.length≤N)
  (k:∀l',g8 ((1+i:Nat):Int) l'=some (.int v)→(∀m:Nat,m<M.tys.length→m≠1+i→g8 (m:Int) l'=g8 (m:Int) l)→m9 B N (Q8 i v M) n l' pr r):m9 B N M n l pr r:=by
 have t1:=Gh (i:=i) o
 have t2:TO (M.FJ i).push.tys.length (M.FJ i).push ((M.FJ i).push.asg (m7 (1+i)) (I7 (K1 s6 (.int v)))):=(TO.refl (M:=(M.FJ i).push) t1.op).asg
 exact uN o (.live (1+i)) (Q5 (M:=(M.FJ i).push) t1.op (j:=1+i) (Nat.lt_of_lt_of_le hi (Nat.le_trans (aH o).tr.tl hN)) (.use (.cst _ (.int v)) (.int v)) (Y0 (M:=M.FJ i) t2 fun l' h=>k l' ((h _ hi).trans V8) fun m hm ne=>(h m hm).trans (get_set ne.symm)))
theorem Qx{f:List (Nat×Bool)}{c:Nat}(o:H8 X)(e:X.frs=f::M.frs)(hf:∀y∈f,y.1=c∨M.tys.length≤y.1)(k:∀l',(∀i:Nat,i<M.tys.length→i≠c→g8 (i:Int) l'=g8 (i:Int) l)→m9 B N X.pop n l' pr r):m9 B N X n l pr r:=
 uO e o fun l' h=>k l' fun i hi ne=>h i fun y hy z=>(hf y hy).elim (fun w=>ne (z.symm.trans w)) fun w=>Nat.not_lt.mpr w (z▸hi)
end
section
variable{U:Nat}{o:List (Nat×Nat)}{C:Cx}{n:Nat}{M:Mem}{l:Cs}{s:Pl}{P0 x c most j:Nat}{e:F}{goal:Option Nat}
theorem Qy(I:qK U ((x,c)::o) e) (hf:∀N s,Pf N s→Pf (N+e.tn.1) (e.run.1 s).2) (hm:most≤3) (hp:∀p,goal=some p→p<3) (a:Bg U o C M l s P0) (d:Ds U C M j) (hc:3≤c∧1+c<U) (hno:∀y∈o,y.2≠c) (g0:g8 ((1+c:Nat):Int) l=some (.int 0))
  (L:U4 (Y9 goal (M7 (fun i=>(gj x c most e).low.2 (C.lps.set x i))) (m7 j) M) C.B) (hN:(Y9 goal (M7 (fun i=>(gj x c most e).low.2 (C.lps.set x i))) (m7 j) M).tys.length≤C.N) (hz:P0+(3*(e.tn.1+4)+3)≤sizeLine)
  (k:Po C n l (fun s' => ∀l',Cells (qd goal s') l'→Kp o U M.tys.length j l l'→m9 C.B C.N (Y9 goal (M7 (fun i=>(gj x c most e).low.2 (C.lps.set x i))) (m7 j) M) n l' s'.pr C.r) (rounds x e.run.1 most s)):m9 C.B C.N M (n+(3*(e.tn.1+4)+3)) l s.pr C.r:=by
 cases goal with
 |none=>exact Dt I hf hm a d hc hno g0 L hN hz (k.mono (Nat.le_refl _) (fun O O O O O=>rfl) fun s' O k l' c' k' O=>k l' c' k')
 |some p=>
  have hp:=hp p rfl
  have t1:=(TO.refl a.op).temp (t:=s6)
  have lb:(M.temp s6).tys.length=M.tys.length+1:=Q6 _
  have t2:TO (M.temp s6).tys.length (M.temp s6) (M7 (fun i=>(gj x c most e).low.2 (C.lps.set x i)) (m7 M.tys.length) (M.temp s6)):=uU t1.op fun i M' h1 h2 o hl=>(bF (gj x c most e)).2 _ M' ((a.ev.hb.le (Nat.le_trans t1.tr.len hl)).set h1 h2) o
  have t3:=t2.asg (p:=m7 (1+p)) (rv:=I7 (j7 (m7 M.tys.length)))
  have L3:=W6 (M:=((M7 (fun i=>(gj x c most e).low.2 (C.lps.set x i)) (m7 M.tys.length) (M.temp s6)).asg (m7 (1+p)) (I7 (j7 (m7 M.tys.length))))) L (TO.refl t3.op).asg
  have L2:=W6 L3 (TO.refl t2.op).asg
  have N2:(M7 (fun i=>(gj x c most e).low.2 (C.lps.set x i)) (m7 M.tys.length) (M.temp s6)).tys.length≤C.N:=hN
  have lM:M.tys.length≤C.N:=Nat.le_trans (by lia) (Nat.le_trans t2.tr.tl N2)
  have d2:Ds U C (M.temp s6) M.tys.length:=⟨by lia,a.ev.u,fun y i ei q=>Nat.lt_irrefl _ (a.ev.pc y i ei _ q).1⟩
  refine aF (t:=s6) a.op (Dt I hf hm (a.to t1) d2 hc hno g0 L2 N2 hz (k.mono (Nat.le_refl _) (fun O O O O O=>rfl) fun s' O k l' c' k' g'=>?_))
  refine Q5 t2.op (j:=1+p) (Nat.lt_of_lt_of_le (a.n1 hp) lM) (.use (.cp g' (.int 7)) (.int 7)) (Q5 t3.op (j:=j) (Nat.lt_of_lt_of_le d.lt lM) .unit (k _ ((c'.set p).tmp (d.j4 a.ev.u4)) (Kp.tmp fun m h1 h2 h3=>(get_set ?_).trans (k' m h1 (by lia) (Nat.ne_of_lt h2)))))
  have:=a.ev.u4
  rcases h1 with h1|⟨y,hy,rfl⟩
  ·lia
  ·have:=(a.cn y hy).1
   lia
theorem Qz(I:qK U ((x,c)::o) e) (hf:∀N s,Pf N s→Pf (N+e.tn.1) (e.run.1 s).2) (hm:most≤3) (hp:∀p,goal=some p→p<3) (hc:3≤c∧1+c<U) (hno:∀y∈o,y.2≠c):Dr U o (nC x c (most:Int) goal e):=fun{C n M l s j P0} a d L hN hz k=>by
 have hz:P0+(3*(e.tn.1+4)+3)≤sizeLine:=hz
 let lp:=M7 (fun i=>(gj x c most e).low.2 (C.lps.set x i))
 let Ma:=Q8 c 0 M.push
 let q:=m7 Ma.push.tys.length
 let Mb:=Ma.push.temp (T7 goal)
 let Z:=Y9 goal lp q Mb
 let W:=Z.pop
 have L:U4 (W.asg (m7 j) j6).pop C.B:=L
 have hN:(W.asg (m7 j) j6).pop.tys.length≤C.N:=hN
 have k:Po C n l (fun s' => ∀l',Cells s' l'→Kp o U M.tys.length j l l'→m9 C.B C.N (W.asg (m7 j) j6).pop n l' s'.pr C.r) (sq (rounds x e.run.1 most s) fun s=>(.next,qd goal s)):=k
 have cM:1+c<M.tys.length:=Nat.lt_of_lt_of_le hc.2 a.ev.u
 have ta:TO 0 M.push Ma:=aH (M:=M.push) a.op
 have la:M.tys.length≤Ma.tys.length:=ta.tr.tl
 have fa:Ma.frs=[(1+c,true)]::M.frs:=rB (M:=M.push) (f:=[]) rfl
 have eva:jL U o C.lps C.Pt Ma:=a.push.ev.grow (M:=M.push) (f:=[]) (fs:=M.frs) (l:=[(1+c,true)]) rfl fa (fun y hy=>by
  rw [List.mem_singleton.mp hy]
  refine⟨by lia,fun y i ei z=>?_⟩
  rcases(a.ev.pc y i ei _ z).2 with w|⟨y',hy',w⟩
  ·exact Nat.not_lt.mpr w hc.2
  ·exact hno y' hy' (by lia)) la ta.tr.len
 have tb:TO Ma.push.tys.length Ma.push Mb:=(TO.refl (M:=Ma.push) ta.op).temp
 have tl:∀q M',M.blks.length≤M'.blks.length→H8 M'→TO M'.tys.length M' (lp q M'):=fun q M' hl o=>uU o fun i M2 h1 h2 o hl2=>(bF (gj x c most e)).2 _ M2 ((a.ev.hb.le (Nat.le_trans hl hl2)).set h1 h2) o
 have lbb:M.blks.length≤Mb.blks.length:=Nat.le_trans ta.tr.len tb.tr.len
 have tz0:TO Mb.tys.length Mb Z:=IK tb.op fun q M' hl o=>tl q M' (Nat.le_trans lbb hl) o
 have tz:TO Ma.push.tys.length Ma.push Z:=tb.call tz0
 have tw:TO Ma.tys.length Ma W:=S8 tz
 have fw:∃f,W.frs=f::M.frs∧∀y∈f,y.1=1+c∨M.tys.length≤y.1:=by
  obtain⟨f,e,hf⟩:=tw.tr.fs _ _ fa
  refine⟨_,e,fun y hy=>?_⟩
  rcases List.mem_append.mp hy with hy|hy
  ·rw [List.mem_singleton.mp hy];exact .inl rfl
  ·exact .inr (Nat.le_trans la (hf y hy))
 obtain⟨f,fw,hfw⟩:=fw
 have lb:Mb.tys.length=Ma.tys.length+1:=Q6 _
 have L1:=W6 (aG tw.asg.op L) (TO.refl tw.op).asg
 have LZ:=aG tz.op L1
 have NW:W.tys.length≤C.N:=by
  have z:=(U0 (M:=W.asg (m7 j) j6) fw).2.1
  rw [z] at hN;exact hN
 have NZ:Z.tys.length≤C.N:=by rw [← cA tz];exact NW
 have Na:Ma.tys.length≤C.N:=Nat.le_trans tw.tr.tl NW
 refine zU (M:=M.push) (n:=n+(nC x c (most:Int) goal e).tn.1) a.op cM Na fun l1 g1 k1=>?_
 have ce1:Cells s l1:=a.ce.of fun m hm=>k1 _ (a.n1 hm) (by lia)
 have ofc:∀m:Nat,(U≤m∨∃y∈o,m=1+y.2)→m≠1+c:=fun m hm z=>by
  rcases hm with hm|⟨y,hy,e⟩
  ·lia
  ·exact hno y hy (by lia)
 have aa:Bg U o C Mb l1 s P0:=⟨tb.op,eva.push.to tb,ce1,a.pf,a.cn,a.lp⟩
 have db:Ds U C Mb Ma.push.tys.length:=jL.ds eva.push
 refine aF (M:=Ma.push) (t:=T7 goal) ta.op (Qy I hf hm hp aa db hc hno g1 LZ NZ hz (k.sq.mono (Nat.le_refl _) (fun y i ei m hm=>k1 m (a.ev.pc y i ei m hm).1 (ofc m (a.ev.pc y i ei m hm).2)) fun s' O k l2 c2 k2=>?_))
 refine Y0 (M:=Ma) tz fun l3 h3=>Q5 tw.op (j:=j) (Nat.lt_of_lt_of_le d.lt (Nat.le_trans la Na)) .unit (Qx (M:=M) (c:=1+c) tw.asg.op fw hfw fun l4 h4=>?_)
 have low:∀m:Nat,m<M.tys.length→m≠1+c→g8 (m:Int) l4=g8 (m:Int) (J7 (j:Int) (.tup []) l2):=fun m hm ne=>(h4 m hm ne).trans (by
  by_cases q:j=m
  ·rw [q,V8,V8]
  ·rw [get_set q,get_set q];exact h3 m (Nat.lt_of_lt_of_le hm la))
 have hpr:(qd goal s').pr=s'.pr:=by cases goal<;>rfl
 have k:∀l',Cells (qd goal s') l'→Kp o U M.tys.length j l l'→m9 C.B C.N (W.asg (m7 j) j6).pop n l' (qd goal s').pr C.r:=k
 rw [hpr] at k
 refine k l4 ((c2.tmp (d.j4 a.ev.u4)).of fun m hm=>low _ (a.n1 hm) (by lia)) fun m h1 h2 h3=>(low m h2 (ofc m h1)).trans ((get_set h3.symm).trans ((k2 m h1 (by lia) (by show m≠Ma.tys.length;lia)).trans (k1 m h2 (ofc m h1))))
theorem YF{N d k:Nat}{b:Bool}{e:F}(h:Gd N d k b o e)(hU:U=1+N):(b=true→Dr U o e)∧(b=false→qK U o e):=by
 induction h with
 |nil=>exact⟨nofun,fun O=>nM⟩
 |cons ga _ ha hb=>exact⟨nofun,fun O=>pB (iC ga) (ha.1 rfl) (hb.2 rfl)⟩
 |jK hp=>exact⟨fun O=>Us hp,nofun⟩
 |upd ho hp _=>exact⟨fun O=>Ut ho hp,nofun⟩
 |way ho hp y=>exact⟨fun O=>Qv ho hp (pB (Qg y) (Qu y) nM) nM,nofun⟩
 |ch ho hp _ _ ha hb=>exact⟨fun O=>Qv ho hp (ha.2 rfl) (hb.2 rfl),nofun⟩
 |ring hxo hc hN hm hg gs ih=>exact⟨fun O=>Qz (ih.2 rfl) (iC gs) hm hg ⟨hc,by lia⟩ fun y hy=>(hxo y hy).2,nofun⟩
end
end Mine.Internal
namespace Mine.Internal
open PySem PySem.W PySem.Calls PyProof.Rows
noncomputable abbrev V9(k:Nat):List PV:=s6::List.replicate k s6
noncomputable abbrev fQ(k:Nat):Mem:=(kW (V9 k)).push.push.push
noncomputable abbrev uW(r:F)(k:Nat):Mem:=nu r (fQ k)
noncomputable abbrev Gm(r:F)(k:Nat):Mem:=(uW r k).asg (m7 0) (I7 (j7 (m7 (1+0))))
section
variable{r:F}{k:Nat}
theorem zV:Q0 r (V9 k)=((Gm r k).pop.pop.pop).cls Tm.ret.v:=rfl
theorem QB:(fQ k).tys.length=1+k:=by
 show(V9 k).length=1+k
 rw [List.length_cons,List.length_replicate,Nat.add_comm]
theorem Gp:TO 0 (fQ k) (Vz (fQ k))∧(Vz (fQ k)).frs=[[(1,true),(2,true),(3,true)],[],[]]:=by
 have o0:H8 (fQ k):=⟨[],rfl⟩
 have a:=aH (i:=0) (v:=3) o0
 have b:=aH (i:=1) (v:=250) a.op
 have c:=aH (i:=2) (v:=0) b.op
 have cc:∀{M X Y:Mem},TO 0 M X→TO 0 X Y→TO 0 M Y:=fun h k=>⟨Nat.zero_le _,h.tr.trans k.tr,k.op⟩
 refine⟨cc (cc a b) c,?_⟩
 have e1:=rB (i:=0) (v:=3) (M:=fQ k) (f:=[]) (fs:=[[],[]]) rfl
 have e2:=rB (i:=1) (v:=250) e1
 exact rB (i:=2) (v:=0) e2
theorem Gq:TO (Vz (fQ k)).tys.length (Vz (fQ k)) (uW r k):=(bF r).2 (fun O=>none) _ (fun x i h=>nomatch h) Gp.1.op
theorem QC:TO 0 (fQ k) (Gm r k):=TO.asg (X:=uW r k) ⟨Nat.zero_le _,Gp.1.tr.trans ((Gq (r:=r)).tr.le (Nat.zero_le _)),(Gq (r:=r)).op⟩
theorem zW(X:Mem):X.pop.tys=X.tys:=(X5 _ X).2.1
theorem jc{X:Mem}(o:H8 X):TrB X X.pop∧H8 X.pop:=have z:=cu (X.frs.headD []).reverse o;⟨⟨z.1.gw,z.1.len,z.1.fr,z.1.hr,z.1.ti⟩,z.2⟩
theorem Ux(r:F)(k:Nat):∃t,Pn (Q0 r (V9 k)).fix t:=by
 have t:=QC (r:=r) (k:=k)
 have z1:=jc t.op
 have z2:=jc z1.2
 have z3:=jc z2.2
 refine Yu ?_
 rw [zV]
 refine(((t.tr.toTrB.trans z1.1).trans z2.1).trans (z3.1.trans (fM z3.2 nH))).ti fun i ss t e=>?_
 cases i with
 |zero=>cases e;exact .inl rfl
 |succ i=>cases e
theorem YG(h:r.cost≤5000)(hf:r.fl≤90):4*(Q0 r (V9 k)).sz+10≤sizeLine:=by
 have gB:=zJ r (M:=fQ k) nofun (by show 0+(0+(0+0))+_≤100;lia)
 have gC:=S6 (gB.trans (u6 (m7 0) (I7 (j7 (m7 (1+0))))))
 have z1:=S6 gC
 have z0:=(S6 z1).up
 have e:(Q0 r (V9 k)).sz=(((uW r k).asg (m7 0) (I7 (j7 (m7 (1+0))))).pop.pop.pop).sz+2:=rfl
 have e2:(kW (V9 k)).sz=200:=rfl
 rw [e,sizeLine_eq]
 lia
theorem Ky{d m:Nat}(gd:Gd k d m false [] r)(hk:3≤k)(ht:r.tn.1+1≤900){t:Nat→Tm}(T:Pn (Q0 r (V9 k)).fix t):
  ∃ss tm,(Q0 r (V9 k)).fix.blks[0]?.map (fun b=>(b.1,t 0))=some (ss,tm)∧Go (fun i=>(Q0 r (V9 k)).fix.blks[i]?.map fun b=>(b.1,t i)) (Q0 r (V9 k)).fix.tys.length 900 ss tm [] [] (uM (r.run.1 uZ)):=by
 have eN:(Q0 r (V9 k)).fix.tys.length=(Gm r k).tys.length:=by
  rw [show(Q0 r (V9 k)).fix.tys=(Q0 r (V9 k)).tys from(uP (M:=Q0 r (V9 k)) _ _ _).1,zV]
  show(Gm r k).pop.pop.pop.tys.length=_
  rw [zW,zW,zW]
 have L:=Um T
 rw [eN]
 generalize hB:(fun i=>(Q0 r (V9 k)).fix.blks[i]?.map fun b=>(b.1,t i))=B at *
 have tY:=QC (r:=r) (k:=k)
 have tx:=Gq (r:=r) (k:=k)
 obtain⟨tb,fb⟩:=Gp (k:=k)
 have z1:=jc tY.op
 have z2:=jc z1.2
 have z3:=jc z2.2
 rw [zV] at L
 have LZ:=X8 L (fM z3.2 nH)
 have LY:=X8 (X8 (X8 LZ z3.1) z2.1) z1.1
 have LX:U4 (uW r k) B:=W6 LY (TO.refl tx.op).asg
 have o0:H8 (fQ k):=⟨[],rfl⟩
 have l0:(fQ k).tys.length=1+k:=QB
 have lb:(fQ k).tys.length≤(Vz (fQ k)).tys.length:=tb.tr.tl
 have lx:(Vz (fQ k)).tys.length≤(uW r k).tys.length:=tx.tr.tl
 obtain⟨f,ef,hf⟩:=tx.tr.fs _ _ fb
 have hf:∀y∈[(1,true),(2,true),(3,true)]++f,y.1≠0:=fun y hy=>by
  rcases List.mem_append.mp hy with hy|hy
  ·simp only [List.mem_cons,List.not_mem_nil,or_false] at hy
   rcases hy with rfl|rfl|rfl<;>exact nofun
  ·exact Nat.ne_of_gt (Nat.lt_of_lt_of_le (by lia) (hf y hy))
 have efY:(Gm r k).frs=([(1,true),(2,true),(3,true)]++f)::[[],[]]:=ef
 have s1:=(U0 efY).1
 have s2:=(U0 s1).1
 have a1:=aH (i:=0) (v:=3) o0
 have a2:=aH (i:=1) (v:=250) a1.op
 have a3:=aH (i:=2) (v:=0) a2.op
 have n1:=a1.tr.tl
 have n2:=a2.tr.tl
 have n3:=a3.tr.tl
 have n4:(Q8 2 0 (Q8 1 250 (Q8 0 3 (fQ k)))).tys.length≤(uW r k).tys.length:=lx
 have main:m9 B (Gm r k).tys.length (fQ k) (1+r.tn.1) [] [] (uM (r.run.1 uZ)):=by
  refine zU (i:=0) (v:=3) o0 (by lia) (by show _≤(uW r k).tys.length;lia) fun l1 g1 k1=>zU (i:=1) (v:=250) a1.op (by lia) (by show _≤(uW r k).tys.length;lia) fun l2 g2 k2=>zU (i:=2) (v:=0) a2.op (by lia) (by show _≤(uW r k).tys.length;lia) fun l3 g3 k3=>?_
  have c3:Cells uZ l3:=fun i hi=>by
   refine YZ hi ?_ ?_ ?_
   ·exact(k3 1 (by lia) (by decide)).trans ((k2 1 (by lia) (by decide)).trans g1)
   ·exact(k3 2 (by lia) (by decide)).trans g2
   ·exact g3
  let C:Cx:=⟨B,(Gm r k).tys.length,fun O=>none,fun O O=>False,uM (r.run.1 uZ)⟩
  have lev:jL (1+k) [] C.lps C.Pt (Vz (fQ k)):=⟨by rw [fb];exact nofun,by lia,by lia,fun O O h=>(nomatch h),fun O O h=>(nomatch h),fun O O h=>(nomatch h),fun O O h=>(nomatch h),fun O O h=>(nomatch h),fun g hg y hy=>by
   rw [fb] at hg
   simp only [List.mem_cons,List.not_mem_nil,or_false] at hg
   rcases hg with rfl|rfl|rfl
   ·simp only [List.mem_cons,List.not_mem_nil,or_false] at hy
    rcases hy with rfl|rfl|rfl<;>decide
   ·cases hy
   ·cases hy⟩
  refine(YF gd rfl).2 rfl (C:=C) (P0:=0) ⟨tb.op,lev,c3,pf0,fun O h=>(nomatch h),fun O h=>(nomatch h)⟩ LX (Nat.le_refl _) (by rw [sizeLine_eq];lia) ?_
  have hC:C.r=uM (r.run.1 uZ):=rfl
  generalize r.run.1 uZ=q at *
  obtain⟨ou,s⟩:=q
  cases ou with
  |brk x=>exact fun i j h=>nomatch h
  |cont x=>exact fun i h=>nomatch h
  |ret v=>exact hC
  |zM t=>exact hC
  |next=>
   intro l4 c4 _
   refine Q5 tx.op (j:=0) (show 0<(uW r k).tys.length by lia) (.use (.cp (c4 0 (by decide)) (.int _)) (.int _)) (uO efY tY.op fun l5 h5=>uO s1 z1.2 fun l6 h6=>uO s2 z2.2 fun l7 h7=>?_)
   have g7:g8 (0:Int) l7=some (.int (s.v 0)):=((h7 0 fun O h=>nomatch h).trans ((h6 0 fun O h=>nomatch h).trans (h5 0 hf))).trans V8
   obtain⟨c,e1,e2⟩:=closed z3.2 L
   exact⟨c,[],.ret,e1,e2,hC▸.ret g7 (.int _)⟩
 obtain⟨ss,tm,e,go⟩:=main.start rfl
 exact⟨ss,tm,by rw [← hB] at e;exact e,go.mono (by lia)⟩
end
end Mine.Internal
namespace Mine.Internal
open PySem PySem.W PySem.Calls PyProof.Rows
section
variable{P:Params}{g:G (o9 P).T}(hg:v9 g){n w:Nat}{m:Loc}{H R:AH}{Q:PV→AH→Prop}
theorem dW:jT (o9 P).T mj 1 [.none]:=jT.of (fd:=_) (ps:=_) rfl [.none] rfl fun vs h S=>by
 obtain⟨a,r,e1,h1⟩:=O8 h
 cases r with
 |nil=>rw [e1];rfl
 |cons _ _=>cases h1
include hg
theorem Gs{p q r t b:PV}(hn:2≤n)(h:∀a dx H',St H H' [(a,.inst cZ dx),(dx,.attrs [(119,p),(75,q),(39,r),(122,t),(92,b)])]→Q (.obj a) H'):Cl g n (.obj cZ) [p,q,r,t,b] H Q:=
 make hg rfl hn fun n a dx H' hn s=>(qF P).YT hg rfl hn fun n O=>s.set 0 1 rfl rfl rfl rfl fun H' s=>s.set 0 1 rfl rfl rfl rfl fun H' s=>s.set 0 1 rfl rfl rfl rfl fun H' s=>s.set 0 1 rfl rfl rfl rfl fun H' s=>s.set 0 1 rfl rfl rfl rfl fun H' s=>And.intro rfl (h a dx H' s)
theorem Gu(hn:2≤n)(h:∀w Ih wl sg H',Ext H H'→H' w=some (.inst lR Ih)→H' Ih=some (.attrs wl)→wl.lookup 121=some (.obj sg)→H' sg=some (.u0 [])→Q (.obj w) H'):Cl g n (.obj lR) [] H Q:=
 make hg rfl hn fun n a dx H' hn s=>(vU P).XQ hg dW rfl hn fun n O=>s.set 0 1 rfl rfl rfl rfl fun H' s=>fun a1 h1=>(s.new h1 _).set 1 2 rfl rfl rfl rfl fun H' s=>fun a2 h2=>(s.new h2 _).set 2 3 rfl rfl rfl rfl fun H' s=>fun a3 h3=>(s.new h3 _).set 3 4 rfl rfl rfl rfl fun H' s=>
  fun a4 h4=>(s.new h4 _).set 4 5 rfl rfl rfl rfl fun H' s=>fun a5 h5=>(s.new h5 _).set 5 6 rfl rfl rfl rfl fun H' s=>fun a6 h6=>(s.new h6 _).set 6 7 rfl rfl rfl rfl fun H' s=>fun a7 h7=>(s.new h7 _).set 7 8 rfl rfl rfl rfl fun H' s=>And.intro rfl (h a dx _ a3 H' s.keep (s.at 7 rfl) (s.at 8 rfl) rfl (s.at 4 rfl))
omit hg in
theorem af9{l:List PV}{k:Nat}(hz:l.length*k≤2 ^ 24)(hk:(k:Int)<2 ^ 63)(h:Q (.lst (Jh l k)) H):Er g .Mult (.lst l) (.int (k:Int)) H Q:=.rep rfl (by exact Int.natCast_nonneg _) hk hz h
end
end Mine.Internal
namespace Mine.Internal
open PySem PySem.W PySem.Calls PyProof.Rows
theorem VL:∀{l:List PV},PrI l→PV.W2 l=true∧PV.depths l=0∧PV.eqvs l l=true
 | [],_=>⟨rfl,rfl,rfl⟩
 |x::l,h=>by
  obtain⟨i,rfl⟩:=h x (.head _)
  obtain⟨a,b,c⟩:=VL fun y hy=>h y (.tail _ hy)
  refine⟨a,(Nat.max_eq_right (Nat.zero_le _)).trans b,?_⟩
  show((i==i)&&PV.eqvs l l)=true
  rw [c,beq_self_eq_true];rfl
theorem ag0{N0 d k:Nat}{e:F}(gd:Gd N0 d k false [] e):((uM (e.run.1 uZ)).1.isD=true∧(uM (e.run.1 uZ)).1.depth=1∧(uM (e.run.1 uZ)).1.eqv (uM (e.run.1 uZ)).1=true)∧PrI (uM (e.run.1 uZ)).2:=by
 have pf:=iC gd 0 uZ pf0
 have ok:=Qc gd uZ
 generalize e.run.1 uZ=q at *
 obtain⟨o,s⟩:=q
 have one:∀i:Int,(PV.tup [.str 341,.int i]).isD=true∧(PV.tup [.str 341,.int i]).depth=1∧(PV.tup [.str 341,.int i]).eqv (.tup [.str 341,.int i])=true:=fun i=>⟨rfl,rfl,Qd.trans (beq_self_eq_true _)⟩
 cases o with
 |next=>exact⟨one _,pf.p⟩
 |brk y=>cases ok
 |cont y=>cases ok
 |ret v=>exact⟨one _,pf.p⟩
 |zM t=>
  refine⟨⟨rfl,rfl,?_⟩,pf.p⟩
  show(Nat.beq 248 248&&(Nat.beq t t&&true))=true
  rw [show Nat.beq t t=true from Nat.beq_refl t];rfl
theorem ag1{p:PV}{a b:Addr}{l:List PV}{H:AH}{C:Bool→Prop}(hp:p.isD=true)(dp:p.depth=1)(ep:p.eqv p=true)(ha:H a=some (.list l))(hb:H b=some (.list l))(hl:PrI l)(h:C true):rP .Eq (.tup [p,.obj a]) (.tup [p,.obj b]) H C:=by
 obtain⟨d1,d2,d3⟩:=VL hl
 refine xH (by unfold Eo;rw [show(PV.tup [p,.obj a]).isD=false by show(p.isD&&(false&&true))=false;rw [Bool.false_and,Bool.and_false]];rfl) ?_
 have z:∀x,H x=some (.list l)→res H (.tup [p,.obj x]) = .tup [p,.lst l]:=fun x hx=>by
  show PV.tup [res H p,res H (.obj x)]=_
  rw [qQ H p hp,qO,hx]
 have e1:(PV.tup [p,.lst l]).isD=true:=by show(p.isD&&(PV.W2 l&&true))=true;rw [hp,d1];rfl
 refine .eq ?_ ?_
 ·unfold Ag
  rw [z a ha,z b hb]
  refine⟨e1,e1,.inl ?_⟩
  show max p.depth (max (PV.depths l+1) 0)+1≤60
  rw [dp,d2];decide
 ·rw [z a ha,z b hb]
  have:(PV.tup [p,.lst l]).eqv (.tup [p,.lst l])=true:=by show(p.eqv p&&(PV.eqvs l l&&true))=true;rw [ep,d3];rfl
  rw [this];exact h
end Mine.Internal
namespace Mine.Internal
open PySem PySem.W PySem.Calls PyProof.Rows
noncomputable def TM(M:Mem):List PV:=M.blks.map Prod.snd
noncomputable def M8(M:Mem)(S:List Nat):Prop := ∀t∈TM M,∀tm:Tm,t=tm.v→∀j∈tm.succ,j∈S
noncomputable def jd(k:Nat)(M:Mem)(S:List Nat):Prop := ∃S',(∀x∈S,x∈S')∧S'.length≤S.length+k∧M8 M S'
theorem Gv{f:List PV×PV→List PV×PV}(h:∀b,(f b).2=b.2)(l:List (List PV×PV))(i:Nat):(l.modify i f).map Prod.snd=l.map Prod.snd:=List.ext_getElem? fun j=>by
 rw [List.getElem?_map,List.getElem?_map,get_modify]
 by_cases e:i=j
 ·rw [if_pos e]
  cases l[j]? with
  |none=>rfl
  |some b=>exact congrArg some (h b)
 ·rw [if_neg e]
section
variable{M M' X:Mem}{S S':List Nat}{k k' i j:Nat}{p s t rv q:PV}{tm:Tm}
theorem Gx:TM (M.tick.put s)=TM M:=Gv (f:=fun b=>(b.1++[s],b.2)) (fun O=>rfl) M.blks M.here
theorem zX:∀(l:List (Nat×Bool)) (M:Mem),TM (M.fin l)=TM M
 | [],_=>rfl
 | (i,true)::r,M=>(zX r _).trans Gx
 | (_,false)::r,M=>zX r M
theorem Jc:∀(L:List (List (Nat×Bool))) (M:Mem),TM (L.foldl (fun M f=>M.fin f.reverse) M)=TM M
 | [],_=>rfl
 |f::L,M=>(Jc L _).trans (zX ..)
theorem M8.eq(h:M8 M S)(e:TM M'=TM M):M8 M' S:=fun t ht=>h t (e▸ht)
theorem M8.put(h:M8 M S):M8 (M.tick.put s) S:=h.eq Gx
theorem M8.asg(h:M8 M S):M8 (M.asg p rv) S:=h.put
theorem M8.temp(h:M8 M S):M8 (M.temp t) S:=h.eq (Gx (M:=M.newL t))
theorem M8.pop(h:M8 M S):M8 M.pop S:=h.eq (zX (M.frs.headD []).reverse M)
theorem M8.leave(h:M8 M S)(d:Nat):M8 (M.leave d) S:=h.eq (Jc ..)
theorem M8.j5(h:M8 M S):M8 M.j5 S:=fun t ht tm e=>by
 have ht:t∈(M.blks++[([],PV.none)]).map Prod.snd:=ht
 rw [List.map_append] at ht
 rcases List.mem_append.mp ht with ht|ht
 ·exact h t ht tm e
 ·have z:=tm.Gg
  rw [← e,List.mem_singleton.mp ht] at z
  cases z
theorem M8.cls(h:M8 M S)(ht:∀j∈tm.succ,j∈S):M8 (M.cls tm.v) S:=fun t hm VF e=>by
 obtain⟨b,hb,rfl⟩:=List.mem_map.mp hm
 obtain⟨i,hi⟩:=List.mem_iff_getElem?.mp hb
 have hi:(M.blks.modify M.here _)[i]? = some b:=hi
 rw [get_modify] at hi
 by_cases q:M.here=i
 ·rw [if_pos q] at hi
  obtain⟨b',_,rfl⟩:=Option.map_eq_some_iff.mp hi
  rw [← Tm.Qj (show tm.v=VF.v from e)];exact ht
 ·rw [if_neg q] at hi
  exact h b.2 (List.mem_map_of_mem (List.mem_of_getElem? hi)) VF e
theorem M8.up(h:M8 M S)(k:∀x∈S,x∈S'):M8 M S':=fun t ht tm e j hj=>k j (h t ht tm e j hj)
theorem jd.of(h:M8 M S):jd k M S:=⟨S,fun O h=>h,Nat.le_add_right ..,h⟩
theorem jd.bind(h:jd k M S)(f:∀S',(∀x∈S,x∈S')→M8 M S'→jd k' X S'):jd (k+k') X S:=by
 obtain⟨S1,a1,b1,c1⟩:=h
 obtain⟨S2,a2,b2,c2⟩:=f S1 a1 c1
 exact⟨S2,fun x hx=>a2 x (a1 x hx),by lia,c2⟩
theorem jd.map(h:jd k M S)(f:∀S',M8 M S'→M8 X S'):jd k X S:=h.imp fun S' z=>⟨z.1,z.2.1,f S' z.2.2⟩
theorem jd.more(h:jd k M (i::S)):jd (k+1) M S:=by
 obtain⟨S1,a1,b1,c1⟩:=h
 exact⟨S1,fun x hx=>a1 x (.tail _ hx),by rw [List.length_cons] at b1;lia,c1⟩
theorem M8.cons(h:M8 M S):M8 M (i::S):=h.up fun O h=>.tail _ h
theorem je(h:i∈S):∀j∈(Tm.goto i).succ,j∈S:=fun j hj=>by rw [List.mem_singleton.mp hj];exact h
theorem M8.bO(h:M8 M S)(ht:∀j∈tm.succ,j∈S):M8 (M.bO tm.v) S:=(h.cls ht).j5
theorem Kz{op:Op}{a b:PV}(h:M8 M S):jd 1 (J4 p op a b M) S:=by
 unfold J4
 by_cases c:op.ar=true
 ·rw [if_pos c]
  refine jd.more (k:=0) (i:=M.blks.length) (jd.of ?_)
  have z:=(h.temp (t:=mX)).asg (p:=m7 M.tys.length) (rv:=.tup [.str 267,.str op.s,a,b])
  have e:((M.temp mX).asg (m7 M.tys.length) (.tup [.str 267,.str op.s,a,b])).blks.length=M.blks.length:=by
   show(((M.newL mX).blks.modify _ _).modify _ _).length=_
   rw [List.length_modify,List.length_modify];rfl
  exact M8.asg ((z.j5.cons (i:=M.blks.length)).cls (tm:=.fL _ _ _ _) fun j hj=>by
   rw [List.mem_singleton.mp hj,e];exact .head _)
 ·rw [if_neg c];exact .of h.asg
theorem M8.let_{v:Int}(h:M8 M S):M8 (Q8 i v M) S:=M8.pop (M8.asg (M:=(M.FJ i).push) h.put)
theorem VN{d:PV→Mem→Mem}(h:jd k (d (m7 M.push.tys.length) (M.push.temp t)) S):jd k (jq t d M) S:=h.map fun O h=>h.pop
theorem uX{d:Mem→Mem}(h:jd k (d M.push) S):jd k (inBlock d p M) S:=h.map fun O h=>h.asg.pop
theorem YH{op:Op}{v:Int}(h:M8 M S):M8 (w7 op i v M) S:=M8.pop (M8.asg (M:=(M.temp T9).push) h.temp)
theorem ag2{op:Op}{p:Nat}{v:Int}{a b:PV→Mem→Mem}(h:M8 M S)(ha:∀M' S',(∀x∈S,x∈S')→M8 M' S'→jd k (a q M') S')(hb:∀M' S',(∀x∈S,x∈S')→M8 M' S'→jd k' (b q M') S'):jd (3+k+k') (JK op p v a b q M) S:=by
 rw [Qo]
 have h1:=YH (op:=op) (i:=p) (v:=v) h
 have e:jd (k+k') ((b q (((a q ((u9 M.tys.length (w7 op p v M)).j5.to (w7 op p v M).blks.length)).cls (q8 ((w7 op p v M).blks.length+2))).to ((w7 op p v M).blks.length+1))).qX ((w7 op p v M).blks.length+2)) ((w7 op p v M).blks.length::((w7 op p v M).blks.length+1)::((w7 op p v M).blks.length+2)::S):=by
  have hf:M8 (u9 M.tys.length (w7 op p v M)).j5 ((w7 op p v M).blks.length::((w7 op p v M).blks.length+1)::((w7 op p v M).blks.length+2)::S):=M8.j5 (M8.cls (tm:=.sw (j7 (m7 M.tys.length)) ((w7 op p v M).blks.length+1) (w7 op p v M).blks.length) (h1.j5.j5.cons.cons.cons) fun j hj=>by
   rcases List.mem_cons.mp hj with rfl|hj
   ·exact .tail _ (.head _)
   ·rw [List.mem_singleton.mp hj];exact .head _)
  refine(ha ((u9 M.tys.length (w7 op p v M)).j5.to (w7 op p v M).blks.length) _ (fun x hx=>.tail _ (.tail _ (.tail _ hx))) hf).bind fun S1 a1 c1=>?_
  have z1:(w7 op p v M).blks.length+2∈S1:=a1 _ (.tail _ (.tail _ (.head _)))
  obtain⟨S2,a2,b2,c2⟩:=hb (((a q ((u9 M.tys.length (w7 op p v M)).j5.to (w7 op p v M).blks.length)).cls (q8 ((w7 op p v M).blks.length+2))).to ((w7 op p v M).blks.length+1)) S1 (fun x hx=>a1 x (.tail _ (.tail _ (.tail _ hx)))) (c1.cls (tm:=.goto _) (je z1))
  exact⟨S2,a2,b2,c2.cls (tm:=.goto _) (je (a2 _ z1))⟩
 have z:=e.more.more.more
 rwa [show k+k'+1+1+1=3+k+k' by lia] at z
theorem Uy{d:LI→Mem→Mem}(h:M8 M S)(hd:∀i M' S',(∀x∈S,x∈S')→i.head∈S'→i.behind∈S'→M8 M' S'→jd k (d i M') S'):jd (2+k) (M7 d q M) S:=by
 rw [zQ]
 have e:jd k ((((inBlock (d ⟨M.blks.length,M.blks.length+1,M.frs.length,q⟩) (m7 (vd M).push.tys.length) ((vd M).push.temp j6)).pop).cls (q8 M.blks.length)).to (M.blks.length+1)) (M.blks.length::(M.blks.length+1)::S):=by
  have h0:M8 (vd M) (M.blks.length::(M.blks.length+1)::S):=M8.cls (tm:=.goto M.blks.length) h.j5.j5.cons.cons (je (.head _))
  obtain⟨S1,a1,b1,c1⟩:=uX (p:=m7 (vd M).push.tys.length) (M:=(vd M).push.temp j6) (hd ⟨M.blks.length,M.blks.length+1,M.frs.length,q⟩ ((vd M).push.temp j6).push _ (fun x hx=>.tail _ (.tail _ hx)) (.head _) (.tail _ (.head _)) (M8.temp (M:=(vd M).push) h0))
  exact⟨S1,a1,b1,c1.pop.cls (tm:=.goto M.blks.length) (je (a1 _ (.head _)))⟩
 have z:=e.more.more
 rwa [show k+1+1=2+k by lia] at z
theorem Uz{goal:Option Nat}{lp:PV→Mem→Mem}(h:M8 M S)(hl:∀q M',M8 M' S→jd k (lp q M') S):jd k (Y9 goal lp q M) S:=by
 cases goal with
 |none=>exact hl q M h
 |some p=>exact(hl (m7 M.tys.length) _ (h.temp (t:=s6))).map fun O z=>M8.asg (M8.asg z)
theorem VP{d:Mem→Mem}{nil:Bool}(h:M8 M S)(hd:jd k (d M.push.push) S):jd k (cP nil d q M) S:=by
 cases nil with
 |true=>exact .of h.asg
 |false=>exact(uX (M:=M.push) (p:=q) hd).map fun O z=>z.pop
end
noncomputable def F.nb:F→Nat
 |.cons s r=>s.nb+r.nb
 |.upd _ _ _=>1
 |.ch _ _ _ a b=>3+a.nb+b.nb
 |.ring _ _ _ rows=>2+rows.nb
 |_=>0
theorem Gd.nb{N d k:Nat}{b:Bool}{o:List (Nat×Nat)}{e:F}(h:Gd N d k b o e):e.nb≤6*k:=by
 induction h with
 |nil=>exact Nat.zero_le _
 |@cons o s r d k j _ _ a b=>show s.nb+r.nb≤_;lia
 |jK _=>exact Nat.zero_le _
 |upd _ _ _=>show 1≤_;lia
 |@way o op p d v s _ _ w=>
  have e:s.nb=0:=by cases w<;>rfl
  show 3+(s.nb+0)+0≤_
  lia
 |@ch o op p d k j v a b _ _ _ _ ha hb=>show 3+a.nb+b.nb≤_;lia
 |@ring o x c d k most goal some _ _ _ _ _ _ ih=>show 2+(3+(0+0)+0+(1+some.nb))≤_;lia
noncomputable def VR(l:bG)(S:List Nat):Prop := ∀x i,l x=some i→i.head∈S∧i.behind∈S
theorem VR.up{l:bG}{S S':List Nat}(h:VR l S)(k:∀x∈S,x∈S'):VR l S':=fun x i e=>⟨k _ (h x i e).1,k _ (h x i e).2⟩
theorem VR.set{l:bG}{S:List Nat}{x:Nat}{li:LI}(h:VR l S)(a:li.head∈S)(b:li.behind∈S):VR (l.set x li) S:=fun y i z=>by
 unfold bG.set at z
 by_cases e:y=x
 ·rw [if_pos e] at z;cases z;exact⟨a,b⟩
 ·rw [if_neg e] at z;exact h y i z
theorem YJ(e:F):(∀l q M S,VR l S→M8 M S→jd e.nb (e.low.1 l q M) S)∧∀l M S,VR l S→M8 M S→jd e.nb (e.low.2 l M) S:=by
 induction e with
 |nil=>exact⟨fun O O M S O h=>.of h,fun O M S O h=>.of h⟩
 |cons s r hs hr=>exact⟨fun O O M S O h=>.of h,fun l M S hl h=>(VN (t:=s.ty) (hs.1 l (m7 M.push.tys.length) _ S hl (M8.temp (M:=M.push) h))).bind fun S' k h=>hr.2 l _ S' (hl.up k) h⟩
 |jK p=>exact⟨fun O q M S O h=>.of h.put.asg,fun O M S O h=>.of h⟩
 |upd op p k=>exact⟨fun O q M S O h=>(Kz h).map fun O z=>z.asg,fun O M S O h=>.of h⟩
 |ch op p k a b ha hb=>exact⟨fun l q M S hl h=>ag2 h (fun M' S' k h=>VP (nil:=false) h (ha.2 l M'.push.push S' (hl.up k) h)) fun M' S' k h=>VP h (hb.2 l M'.push.push S' (hl.up k) h),fun O M S O h=>.of h⟩
 |ring x c goal rows ih=>exact⟨fun l q M S hl h=>uX (M:=M) (d:=fun M=>jq (T7 goal) (Y9 goal (M7 fun i=>rows.low.2 (l.set x i))) (Q8 c 0 M)) (VN (Uz (M8.temp (M:=(Q8 c 0 M.push).push) (M8.let_ (M:=M.push) h)) fun q M' h=>Uy h fun i M2 S2 k h1 h2 h=>ih.2 (l.set x i) M2 S2 ((hl.up k).set h1 h2) h)),fun O M S O h=>.of h⟩
 |ret p=>exact⟨fun O q M S O h=>.of ((h.asg.leave 0).bO (tm:=.ret) fun O h=>nomatch h),fun O M S O h=>.of h⟩
 |brk x=>
  refine⟨fun l q M S hl h=>?_,fun O M S O h=>.of h⟩
  show jd 0 (FN (l x) M) S
  cases e:l x with
  |none=>exact .of h
  |some i=>exact .of ((h.asg.leave i.depth).bO (tm:=.goto i.behind) (je (hl x i e).2))
 |cont x=>
  refine⟨fun l q M S hl h=>?_,fun O M S O h=>.of h⟩
  show jd 0 (uw (l x) M) S
  cases e:l x with
  |none=>exact .of h
  |some i=>exact .of ((h.leave i.depth).bO (tm:=.goto i.head) (je (hl x i e).1))
theorem UG{r:F}{tys:List PV}{t:Nat→Tm}(hr:r.nb≤54)(T:Pn (Q0 r tys).fix t):∃S:List Nat,S.length≤60∧0∈S∧∀b,b<(Q0 r tys).fix.blks.length→∀j∈(t b).succ,j∈S:=by
 have h0:M8 (kW tys).push.push.push [0]:=fun t ht tm e=>by
  rw [List.mem_singleton.mp (show t∈[PV.none] from ht)] at e
  have z:=tm.Gg
  rw [← e] at z
  cases z
 obtain⟨S,a,b,h⟩:=(YJ r).2 (fun O=>none) _ [0] (fun O O h=>nomatch h) ((h0.let_ (i:=0) (v:=3)).let_ (i:=1) (v:=250) |>.let_ (i:=2) (v:=0))
 have hl:M8 (Q0 r tys) S:=M8.cls (tm:=.ret) (M8.pop (M8.pop (M8.pop (M8.asg (M:=nu r (kW tys).push.push.push) (p:=m7 0) (rv:=I7 (j7 (m7 (1+0)))) h)))) fun O h=>nomatch h
 refine⟨S,Nat.le_trans b (by show 1+r.nb≤60;lia),a 0 (.head _),fun i hi j hj=>?_⟩
 obtain⟨bb,ei⟩:∃bb,(Q0 r tys).fix.blks[i]? = some bb:=⟨_,List.getElem?_eq_getElem hi⟩
 have z:=(T i _ ei).1
 rw [nq,List.getElem?_map] at ei
 obtain⟨b',eb,e2⟩:=Option.map_eq_some_iff.mp ei
 rw [← e2] at z
 have z:(if isNone b'.2 then PV.tup [.str 139] else b'.2)=(t i).v:=z
 cases q:isNone b'.2 with
 |true=>
  rw [q] at z
  have w:(Tm.Vx).v=(t i).v:=z
  rw [← Tm.Qj w] at hj
  cases hj
 |false=>
  rw [q] at z
  exact hl b'.2 (List.mem_map_of_mem (List.mem_of_getElem? eb)) (t i) z j hj
end Mine.Internal
namespace Mine.Internal
open PySem PySem.W PySem.Calls PyProof.Rows
theorem Du(p:PV):∀k,Jh [p] k=List.replicate k p
 |0=>rfl
 |k+1=>congrArg (p :: ·) (Du p k)
section
variable{P:Params}{g:G (o9 P).T}(hg:v9 g){n w:Nat}{m:Loc}{H R:AH}{Q:PV→AH→Prop}
include hg
theorem KC{Q':List PV→AH→Prop}(hn:1≤n)(h:Q' [uG 0 3,uG 1 250,uG 2 0] H):pI m [] (.many [28,89]) (Xe g n []) (fun m H Q=>(X.tup [.str 286,.int 0,.tup [.str 177,.glob 342,.loc 28,.str 143,.none],.call 383 [.loc 89]]).wE g n m H Q) Q' (.lst [.tup [.int 0,.int 3],.tup [.int 1,.int 250],.tup [.int 2,.int 0]]) H:=fun D hD=>
 iT (ct:=.many [28,89]) (f:=fun r:Nat×Int=>.tup [.int (r.1:Int),.int r.2]) (w:=fun r=>uG r.1 r.2) (fun m'=>m'=[]∨∃x y,m'=[(28,x),(89,y)]) (fun r=>[(28,.int (r.1:Int)),(89,.int r.2)]) [(0,3),(1,250),(2,0)]
  (fun a O o m' hm=>⟨by rcases hm with rfl|⟨x,y,rfl⟩<;>rfl,.inr ⟨_,_,rfl⟩⟩) (fun a ha o K k=>V7 hg hn k) (fun O=>rfl) [] _ (.inl (oJ m)) (aj rfl) (by rw [List.nil_append,bV hD];exact h)
theorem UJ{tf Pg wo Ih sg:Addr}{k pn d j:Nat}{wl:List (Nat×PV)}{r:F}{t:Nat→Tm}(hk:4≤k)(hk2:k≤100)(t1:H tf=some (.inst cZ Pg))
  (t2:H Pg=some (.attrs [(119,.str pn),(75,.lst (List.replicate k (.tup [.str 123,s6,.bool true]))),(39,.tup []),(122,s6),(92,oZ r.all)])) (w1:H wo=some (.inst lR Ih)) (w2:H Ih=some (.attrs wl)) (w3:wl.lookup 121=some (.obj sg)) (w4:H sg=some (.u0 []))
  (gd:Gd k d j false [] r) (hf:r.fl≤90) (T:Pn (Q0 r (V9 k)).fix t) (hz:4*(Q0 r (V9 k)).sz+10≤sizeLine) (hS:∃S:List Nat,S.length≤60∧0∈S∧∀b,b<(Q0 r (V9 k)).fix.blks.length→∀j∈(t b).succ,j∈S) (hP:H J0=some (.code gk)) (hn:r.W+10≤n)
  (h:∀f b H',Done (Q0 r (V9 k)).fix t f H b H'→Q (.obj b) H'):Cl g n (.obj yu) [.obj tf,.obj wo] H Q:=by
 have er:(List.replicate k ((.str 123,s6,.bool true):PV×PV×PV)).map (fun r=>r.2.1)=List.replicate k s6:=List.map_replicate
 have ea:(List.replicate k ((.str 123,s6,.bool true):PV×PV×PV)).map Pb=List.replicate k (.tup [.str 123,s6,.bool true]):=List.map_replicate
 have el:(List.replicate k ((.str 123,s6,.bool true):PV×PV×PV)).length=k:=List.length_replicate
 have z:=Px (P:=P) (g:=g) (n:=n) (H:=H) (Q:=Q) hg (tf:=tf) (Pg:=Pg) (w:=wo) (Ih:=Ih) (sg:=sg) (pn:=pn) (res:=s6) (wl:=wl) (rows:=List.replicate k (.str 123,s6,.bool true)) (r:=r) (t:=t)
 rw [er,ea,el] at z
 exact z hk2 hk (fun t ht=>by
  rcases List.mem_cons.mp ht with rfl|ht
  ·exact .one (.int _)
  ·rw [List.eq_of_mem_replicate ht];exact .one (.int _)) t1 t2 w1 w2 w3 w4 gd.fok hf T hz hS hP hn h
noncomputable abbrev ag3:List S:=[.asg (.name 92) (.call 366 [.call 368 [.str 369,.bin .Mult (.lst [.tup [.str 123,.glob 342,.Hj true]]) (.loc 153),.tup [],.glob 342,.loc 353],.call 370 []]),.ret (.cmp .Eq (.call 364 [.loc 92]) (.call 365 [.loc 26]))]
theorem KH{d k j:Nat}{e:F}(gd:Gd k d j false [] e)(hk:4≤k)(hk2:k≤100)(hj:j≤9)(hd:d≤2)(hP:H J0=some (.code gk))(hn:88≤n)(l1:m.lookup 26=some (.lst e.raw.2))(l2:m.lookup 153=some (.int (k:Int))) (l3:m.lookup 353=some (oZ e.all))
  (h:∀H',Ext H H'→Q (.bool true) H'):I9 g n ag3 m H (Ac Q):=by
 obtain⟨s1,s2,s3,_⟩:=gd.sizes
 simp only [if_false,Bool.false_eq_true] at s1 s2 s3
 have sd:=gd.dw
 have st:e.tn.1≤405:=Nat.le_trans gd.tn (by
  have:3 ^ d≤9:=Nat.pow_le_pow_right (n:=3) (by decide) hd
  have:=Nat.mul_le_mul (Nat.mul_le_mul_left 5 this) hj
  lia)
 have hw:∀q,m.lookup 353=some q→(m5 92 q m).lookup 26=some (.lst e.raw.2):=fun q O=>aB (by decide) l1
 refine d7 l2 (af9 (by show 1*k≤_;lia) (by lia) (d7 l3 (Gs hg (leB hn rfl) fun tf Pg H1 s=>Gu hg (leB hn rfl) fun w Ih wl sg H2 E2 w1 w2 w3 w4=>?_)))
 rw [Du] at s
 obtain⟨t,T⟩:=Ux e k
 obtain⟨ss,tm,e0,go⟩:=Ky gd (by lia) (by lia) T
 obtain⟨⟨d1,d2,d3⟩,d4⟩:=ag0 gd
 have sz:=YG (r:=e) (k:=k) (by lia) (by lia)
 refine UJ hg hk hk2 (E2 _ _ (s.at 0 rfl)) (E2 _ _ (s.at 1 rfl)) w1 w2 w3 w4 gd (by lia) T sz (UG (by have:=gd.nb;lia) T) (E2 _ _ (s.keep _ _ hP)) (by lia) fun f b H3 d=>?_
 have es:(Q0 e (V9 k)).fix.sz=(Q0 e (V9 k)).sz:=(uP (M:=Q0 e (V9 k)) _ _ _).2
 have fl:f.length≤sizeLine:=by
  have:=List.Nodup.length_le_of_subset (l₂:=List.range (Q0 e (V9 k)).fix.blks.length) d.nd fun i hi=>List.mem_range.mpr (d.lf i hi)
  rw [List.length_range] at this
  have:(Q0 e (V9 k)).fix.blks.length≤(Q0 e (V9 k)).fix.sz:=d.bk
  lia
 refine d7 K9 (Kr hg (by have:(Q0 e (V9 k)).fix.tys.length≤(Q0 e (V9 k)).fix.sz:=d.ty;lia) fl (leB hn rfl) d e0 go fun Pw H4 E4 p4=>d7 (aB (by decide) l1) (Yp hg gd (by rw [sizeLine_eq];lia) (w:=20) (by lia) (leB hn rfl) fun Pr H5 E5 p5=>?_))
 exact ag1 d1 d2 d3 (E5 _ _ p4) p5 d4 (h _ fun y o e=>E5 _ _ (E4 _ _ (d.keep _ _ (E2 _ _ (s.keep _ _ e)))))
theorem Dv{d k j:Nat}{e:F}(gd:Gd k d j false [] e)(hk:4≤k)(hk2:k≤100)(hj:j≤9)(hd:d≤2)(hP:H J0=some (.code gk))(hn:90≤n)(h:∀H',Ext H H'→Q (.bool true) H'):Cl g n (.obj fX) [.lst e.raw.2,.int (k:Int)] H Q:=by
 obtain⟨s1,s2,s3,_⟩:=gd.sizes
 simp only [if_false,Bool.false_eq_true] at s1 s2 s3
 have tl:e.td.2.length≤5000:=by
  obtain⟨xs,_,e2,e3,_⟩:=(Df hg gd (by lia)).2 rfl
  have:=e.bD
  rw [← e2,List.length_map,e3];lia
 refine(oW P).cl hg rfl hn fun n hn=>KC hg (leB hn rfl) (V6 hg (i:=0) (leB hn rfl) (iY hg ((Df hg gd (by lia)).2 rfl) (by have:=e.bD;lia) (by lia) ?_))
 refine .mk ⟨⟨by decide,by show(3:Int)<5;decide,aj rfl⟩,gJ (.inr rfl) (aj rfl) (Hu (Nat.le_trans (Nat.add_le_add_left tl 3) (aj rfl)) (Hu (aj rfl) ?_))⟩
 show I9 g n ag3 (m5 353 (oZ e.all) (m5 363 _ (m5 362 _ [(26,.lst e.raw.2),(153,.int (k:Int))]))) H (Ac Q)
 refine KH hg gd hk hk2 hj hd hP (leB hn rfl) ?_ ?_ ?_ h
 ·rfl
 ·rfl
 ·rfl
end
end Mine.Internal
namespace Mine.Internal
open PySem PySem.W PySem.Calls PyProof.Rows
noncomputable def F.app:F→F→F
 |.cons s r,e=>.cons s (r.app e)
 |_,e=>e
theorem YK{N d j:Nat}{o:List (Nat×Nat)}{e:F}(h:Gd N d j false o e)(a:F):∀k,Gd N d k false o a→Gd N d (k+j) false o (a.app e)∧(a.app e).raw.2=a.raw.2++e.raw.2:=by
 induction a with
 |nil=>
  intro k g
  cases g
  exact⟨by rw [Nat.zero_add];exact h,rfl⟩
 |cons s r _ ih=>
  intro k g
  cases g with
  |cons g1 g2=>
   obtain⟨z1,z2⟩:=ih _ g2
   exact⟨by rw [Nat.add_assoc];exact .cons g1 z1,congrArg (s.raw.1 :: ·) z2⟩
 |_=>intro k g;cases g
noncomputable abbrev ag4:F:=.cons (nC 90 3 ((2:Nat):Int) (some 2) (.cons (.upd .add 0 1) (.cons (.ch .eq 2 0 (.cons (.cont 90) .nil) .nil) (.cons (.jK 1) .nil)))) (.cons (.jK 0) .nil)
theorem QD:Gd 4 2 5 false [] ag4:=
 .cons (k:=4) (j:=1) (.ring (k:=3) (fun O h=>nomatch h) (by decide) (by decide) (by decide) (fun p e=>by cases e;decide) (.cons (k:=1) (j:=2) (.upd rfl (by decide) ⟨by decide,by decide⟩) (.cons (k:=1) (j:=1) (.way rfl (by decide) (.cont (.head _))) (.cons (k:=1) (j:=0) (.jK (by decide)) .nil)))) (.cons (k:=1) (j:=0) (.jK (by decide)) .nil)
section
variable{P:Params}{g:G (o9 P).T}(hg:v9 g){n:Nat}{H:AH}
include hg
theorem Jd{src bk ob:Addr}:Dh g src bk ob 2 8:=uJ hg (Di hg (uJ hg (Di hg (uJ hg (PJ hg) (by decide)) (by decide)) (by decide)) (by decide)) (by decide)
theorem YL{xs:List Int}(hx:xs.length≤63)(hP:H J0=some (.code gk))(hn:150≤n):Dy g n (.obj Bt) [.lst (xs.map .int)] H fun r H'=>r = .bool true∧H' J0=some (.code gk):=by
 refine(Xu P).YT hg rfl hn fun n hn=>TX hg hx (leB hn rfl) fun a o ha s=>fun ob hob bk hbk=>?_
 have nA:J0≠a:=fun z=>by rw [← z,hP] at ha;cases ha
 have hP1:upd H a o J0=some (.code gk):=(d8 nA).trans hP
 have n1:ob≠a:=fun z=>by rw [z,c7] at hob;cases hob
 have n2:bk≠ob:=fun z=>by rw [z,c7] at hbk;cases hbk
 have zF:upd H a o bk=none:=by rw [← hbk,d8 n2]
 have n3:bk≠a:=fun z=>by rw [z,c7] at zF;cases zF
 have nO:J0≠ob:=fun z=>by rw [← z,hP1] at hob;cases hob
 have nB:J0≠bk:=fun z=>by rw [← z,hP1] at zF;cases zF
 have hP2:upd (upd (upd H a o) ob (.list [])) bk (.u0 [(75,.int ((4:Nat):Int)),(153,.int ((9:Nat):Int)),(379,.obj ob)]) J0=some (.code gk):=(d8 nB).trans ((d8 nO).trans hP1)
 refine Dv hg (k:=4) QD (by decide) (by decide) (by decide) (by decide) hP2 (leB hn rfl) fun H1 E1=>?_
 obtain⟨x,y,ex,ey⟩:=s.at_
 have dw:Dw a bk ob 9 4 [] H1:=⟨⟨x,y,E1 _ _ ((d8 n3.symm).trans ((d8 n1.symm).trans ex)),ey⟩,E1 _ _ (c7 ..),E1 _ _ ((d8 n2.symm).trans (c7 ..)),n3.symm,n1.symm,n2,by decide,fun O h=>nomatch h⟩
 have hP3:=E1 _ _ hP2
 refine Jd hg (leB hn rfl) (by decide) dw fun e1 k1 m1 c1 H2 g1 m1e c1e d1 t1=>Jd hg (leB hn rfl) (by decide) d1 fun e2 k2 m2 c2 H3 g2 m2e c2e d2 t2=>?_
 obtain⟨gd,er⟩:=YK (g2 c2 (Nat.le_refl _)) e1 k1 (g1 c2 c2e.1)
 obtain⟨s1,_,_,_⟩:=(g1 c2 c2e.1).sizes
 obtain⟨s2,_,_,_⟩:=(g2 c2 (Nat.le_refl _)).sizes
 simp only [if_false,Bool.false_eq_true] at s1 s2
 have ln:∀e:F,e.raw.2.length=e.len:=fun e=>by
  induction e with
  |cons s r _ ih=>exact congrArg (·+ 1) ih
  |_=>rfl
 have hP4:H3 J0=some (.code gk):=(t2 _ nA nB nO).trans ((t1 _ nA nB nO).trans hP3)
 refine Ij rfl rfl rfl (by rw [ln,ln];have:=e1.bD;have:=e2.bD;exact Nat.le_trans (show _≤10000 by lia) (aj rfl)) (o7 (r:=.int (c2:Int)) d2.Dg rfl ?_)
 rw [← er]
 exact Dv hg gd (by lia) (by lia) (by lia) (by decide) hP4 (leB hn rfl) fun H' E'=>⟨rfl,E' _ _ hP4⟩
end
end Mine.Internal
theorem PySem.Challenge.cw_ot0049_02_holds : PySem.Challenge.rw_ot0049_02.Holds := by
 exact Mine.Internal.JD fun O O O hg O hx=>Mine.Internal.YL hg hx (Mine.Internal.c7 ..) (Nat.le_refl _)
