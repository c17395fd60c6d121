import PyProof.Rows.All
import Wide.All
import OpenK.AllK
import Wide.FinOn
import PySem.Challenge.RW_ot0049_03
set_option maxRecDepth 100000
set_option Elab.async false
set_option linter.all false
set_option tactic.hygienic false
set_option genSizeOf false
set_option genInjectivity false
namespace Mine.Internal
open PySem PySem.W PySem.Calls PyProof.Rows
theorem Uu{b n z x:Nat}(h:b+n≤z)(k:x<n):b+x<z:=Nat.lt_of_lt_of_le (Nat.add_lt_add_left k b) h
theorem ixp{b n z x:Nat}(h:b+n≤z)(k:x<n):b+x-1<z:=Nat.lt_of_le_of_lt (Nat.sub_le ..) (Uu h k)
theorem ixe{b n z x:Nat}(h:b+n≤z)(k:x≤n):b+x≤z:=Nat.le_trans (Nat.add_le_add_left k b) h
theorem sb1{x z:Nat}(h:1≤x∧x≤z):x-1<z:=Nat.lt_of_lt_of_le (Nat.sub_lt h.1 Nat.one_pos) h.2
theorem sb2{x z:Nat}(h:2≤x∧x≤z):x-1<z:=sb1 ⟨Nat.le_of_succ_le h.1,h.2⟩
theorem uU{a b n:Nat}(h:max a b≤n):a≤n:=Nat.le_trans (Nat.le_max_left a b) h
theorem iB{a b n:Nat}(h:max a b≤n):b≤n:=Nat.le_trans (Nat.le_max_right a b) h
theorem Uv{a k n:Nat}(h:a+k≤n):a≤n:=Nat.le_of_add_right_le h
theorem Gg{x k y j:Nat}(h:x+k≤y)(e:Nat.ble j k=true):j≤y:=Nat.le_trans (Nat.le_of_ble_eq_true e) (Nat.le_trans (Nat.le_add_left k x) h)
theorem lkx{x k y j:Nat}(h:x+k≤y)(e:Nat.ble j k=true):x+j≤y:=Nat.le_trans (Nat.add_le_add_left (Nat.le_of_ble_eq_true e) x) h
theorem Dn{x y k u:Nat}(h:x+(y+k)≤u):x+y≤u:=Nat.le_trans (Nat.add_le_add_left (Nat.le_add_right y k) x) h
theorem YM{x y z k u:Nat}(h:x+(y+z+k)≤u):x+y≤u:=Dn (Dn h)
theorem sz3{x y z w k u:Nat}(h:x+(y+z+w+k)≤u):x+y≤u:=Dn (YM h)
theorem sy2{x y z k u w:Nat}(h:x+(y+z+k)≤u)(e:w≤x+y):w+z≤u:=by lia
theorem sy3{x y z v k u w:Nat}(h:x+(y+z+v+k)≤u)(e:w≤x+y):w+z≤u:=by lia
theorem sx3{x y z v k u w:Nat}(h:x+(y+z+v+k)≤u)(e:w≤x+y):w+v≤u:=by lia
theorem sw2{x y z k u w:Nat}(h:w≤x+(y+k))(e:x≤z):w≤z+(y+k):=by lia
theorem ltt{x y z w:Nat}(h:x<y)(k:y≤z)(e:z≤w):x<w:=Nat.lt_of_lt_of_le h (Nat.le_trans k e)
theorem gap{x z:Nat}(h:x≤z):x+(z-x)≤z:=Nat.le_of_eq (Nat.add_sub_of_le h)
theorem eqs{x y z:Nat}(h:x+(y+1)=z):x<z:=h▸Nat.lt_add_of_pos_right (Nat.succ_pos y)
theorem eqt{x y z:Nat}(h:x+(y+1)=z):x+1+y=z:=by lia
theorem rm1{x y n z k:Nat}(h:x+k*(n+1)<z)(e:Nat.ble 1 k=true):x+1+k*n<z:=by have:=Nat.le_of_ble_eq_true e;rw [Nat.mul_add] at h;lia
theorem gp1{x z:Nat}(h:x<z)(n:¬x+1=z):0<z-(x+1):=Nat.sub_pos_of_lt (Nat.lt_of_le_of_ne h n)
theorem gp2{x z:Nat}(h:x<z)(n:¬x+1=z):x+1+(z-(x+1))≤z:=gap h
theorem ad1{l a b:Nat}(h:l≤a+b):l+1≤a+1+b:=by lia
theorem ad2{l a b:Nat}(h:l≤a+b):l≤a+1+b:=by lia
theorem ad3{l a b k:Nat}(h:l≤a+b):l≤a+(b+1+k):=by lia
theorem ad4{l a b k:Nat}(h:l≤a+b):l≤a+k+b:=by lia
theorem kk1{k z y:Nat}(h:k≤z-y)(p:k > 0)(n:¬y+k=z):y+k<z:=by lia
theorem el1{x z:Nat}(h:x+1=z):x≤z:=by lia
theorem el2{x z:Nat}(h:x=z+1):z<x:=by lia
theorem pr1{x z:Nat}(h:x<z)(n:¬x=0):1≤x∧x≤z:=⟨Nat.one_le_iff_ne_zero.mpr n,Nat.le_of_lt h⟩
theorem pr2{x z:Nat}(h:2≤x∧x≤z)(n:¬x-1=1):2≤x-1∧x-1≤z:=by lia
theorem pr3{x z l y S:Nat}(h:1≤x∧x≤z)(k:l+x+y≤S):l+1+(x-1)+y≤S:=by lia
theorem pr4{x l y S:Nat}(k:l+x+y≤S):l+(x-1)+y≤S:=by lia
theorem pr5{x z l y S:Nat}(h:2≤x∧x≤z)(k:l+y+x≤S):l+1+y+(x-1)≤S:=by lia
theorem pr6{x l y S:Nat}(k:l+y+x≤S):l+y+(x-1)≤S:=by lia
theorem pr7{x z:Nat}(h:2≤x∧x≤z):1≤x:=Nat.le_of_succ_le h.1
theorem pr8{x z:Nat}(h:2≤x∧x≤z):x-1-1<x-1:=by lia
theorem pr9{x z:Nat}(h:1≤x∧x≤z):x-1<x:=by lia
theorem ax8{x z k:Nat}(h:1≤x∧x≤z)(e:k≤x)(n:¬k=0):1≤k∧k≤z:=by lia
theorem ah7{l x y S k:Nat}(h:l+x+y≤S)(e:k≤x):l+k+y≤S:=by lia
theorem ah8{l x y S k:Nat}(h:l+x+y≤S)(e:y-1-k > 0):l+x+k≤S:=by lia
theorem ah9{x z k:Nat}(h:x<z)(e:k≤x)(n:¬k=1)(m:¬k=0):2≤k∧k≤z:=by lia
theorem zl1{x z:Nat}(h:x<z):0+x≤z:=by lia
theorem zl2{x z:Nat}(h:x≤z):0+x≤z:=by lia
theorem sf1{l x q:Nat}(h:1≤l)(k:q+1≤x):1≤l+x-(q+1):=by lia
theorem rm2{x y z:Nat}(h:x+20*(y+1)+100<z):x+3+20*y+100<z:=by lia
theorem rm3{x y z:Nat}(h:x+2*(y+1)<z):x<z:=by lia
theorem qh1{x z u:Nat}(h:x+(z+1)≤u):u-1<u:=by lia
theorem qh2{x z u:Nat}(h:x+(z+1)≤u):x+z≤u-1:=by lia
theorem vf1{x y:Nat}(h:6≤x)(k:y<5):1+y<x:=by lia
theorem vf2{x y k:Nat}(h:k≤x)(e:y=x+1):k≤y:=by lia
theorem dv{l r:Nat}(h:¬l≥r):l<r:=Nat.lt_of_not_le h
theorem c30{x:Nat}(h:x<3):(x:Int)<3:=by lia
theorem lb1{x y k z w:Nat}(h:x+y+k≤z)(e:w≤x):w+y≤z:=by lia
theorem bx{P:Nat→Prop}{n k:Nat}(h:k<n+1)(p:P 0)(q:∀j,j<n→P (j+1)):P k:=by
 cases k with
 |zero=>exact p
 |succ k=>exact q k (Nat.lt_of_succ_lt_succ h)
theorem Uw{P:Nat→Prop}(k:Nat)(h:k<0):P k:=absurd h (Nat.not_lt_zero k)
@[elab_as_elim] theorem VP{P:Nat→Prop}{k:Nat}(h:k<2)(p0:P 0)(p1:P 1):P k:=bx h p0 fun O h=>bx (P:=fun j=>P (j+1)) h p1 Uw
@[elab_as_elim] theorem lt3{P:Nat→Prop}{k:Nat}(h:k<3)(p0:P 0)(p1:P 1)(p2:P 2):P k:=bx h p0 fun O h=>bx (P:=fun j=>P (j+1)) h p1 fun O h=>bx (P:=fun j=>P (j+2)) h p2 Uw
@[elab_as_elim] theorem lt4{P:Nat→Prop}{k:Nat}(h:k<4)(p0:P 0)(p1:P 1)(p2:P 2)(p3:P 3):P k:=bx h p0 fun O h=>bx (P:=fun j=>P (j+1)) h p1 fun O h=>bx (P:=fun j=>P (j+2)) h p2 fun O h=>bx (P:=fun j=>P (j+3)) h p3 Uw
@[elab_as_elim] theorem YQ{P:Nat→Prop}{k:Nat}(h:k<5)(p0:P 0)(p1:P 1)(p2:P 2)(p3:P 3)(p4:P 4):P k:=bx h p0 fun O h=>bx (P:=fun j=>P (j+1)) h p1 fun O h=>bx (P:=fun j=>P (j+2)) h p2 fun O h=>bx (P:=fun j=>P (j+3)) h p3 fun O h=>bx (P:=fun j=>P (j+4)) h p4 Uw
@[elab_as_elim] theorem lt6{P:Nat→Prop}{k:Nat}(h:k<6)(p0:P 0)(p1:P 1)(p2:P 2)(p3:P 3)(p4:P 4)(p5:P 5):P k:=bx h p0 fun O h=>bx (P:=fun j=>P (j+1)) h p1 fun O h=>bx (P:=fun j=>P (j+2)) h p2 fun O h=>bx (P:=fun j=>P (j+3)) h p3 fun O h=>bx (P:=fun j=>P (j+4)) h p4 fun O h=>bx (P:=fun j=>P (j+5)) h p5 Uw
@[elab_as_elim] theorem lt7{P:Nat→Prop}{k:Nat}(h:k<7)(p0:P 0)(p1:P 1)(p2:P 2)(p3:P 3)(p4:P 4)(p5:P 5)(p6:P 6):P k:=bx h p0 fun O h=>bx (P:=fun j=>P (j+1)) h p1 fun O h=>bx (P:=fun j=>P (j+2)) h p2 fun O h=>bx (P:=fun j=>P (j+3)) h p3 fun O h=>bx (P:=fun j=>P (j+4)) h p4 fun O h=>bx (P:=fun j=>P (j+5)) h p5 fun O h=>bx (P:=fun j=>P (j+6)) h p6 Uw
@[elab_as_elim] theorem lt8{P:Nat→Prop}{k:Nat}(h:k<8)(p0:P 0)(p1:P 1)(p2:P 2)(p3:P 3)(p4:P 4)(p5:P 5)(p6:P 6)(p7:P 7):P k:=bx h p0 fun O h=>bx (P:=fun j=>P (j+1)) h p1 fun O h=>bx (P:=fun j=>P (j+2)) h p2 fun O h=>bx (P:=fun j=>P (j+3)) h p3 fun O h=>bx (P:=fun j=>P (j+4)) h p4 fun O h=>bx (P:=fun j=>P (j+5)) h p5 fun O h=>bx (P:=fun j=>P (j+6)) h p6 fun O h=>bx (P:=fun j=>P (j+7)) h p7 Uw
@[elab_as_elim] theorem lt9{P:Nat→Prop}{k:Nat}(h:k<9)(p0:P 0)(p1:P 1)(p2:P 2)(p3:P 3)(p4:P 4)(p5:P 5)(p6:P 6)(p7:P 7)(p8:P 8):P k:=bx h p0 fun O h=>bx (P:=fun j=>P (j+1)) h p1 fun O h=>bx (P:=fun j=>P (j+2)) h p2 fun O h=>bx (P:=fun j=>P (j+3)) h p3 fun O h=>bx (P:=fun j=>P (j+4)) h p4 fun O h=>bx (P:=fun j=>P (j+5)) h p5 fun O h=>bx (P:=fun j=>P (j+6)) h p6 fun O h=>bx (P:=fun j=>P (j+7)) h p7 fun O h=>bx (P:=fun j=>P (j+8)) h p8 Uw
noncomputable abbrev lk{α:Type}(o:Option α)(Q:α→Prop):Prop:=@Option.rec α (fun O=>Prop) False Q o
noncomputable abbrev sel(b:Bool)(P R:Prop):Prop:=@Bool.rec (fun O=>Prop) R P b
noncomputable def Kq{α:Type}(f:α→Bool)(g:List α→Bool)(l:List α):Bool:=@List.rec α (fun O=>Bool) false (fun v vs O=>f v&&g vs) l
theorem d8{α:Type}{o:Option α}{x:α}{Q:α→Prop}(e:o=some x)(h:Q x):lk o Q:=by subst e;exact h
theorem K8{α:Type}{o:Option α}{Q:α→Prop}(h:lk o Q):∃x,o=some x∧Q x:=by
 cases o with
 |none=>exact h.elim
 |some x=>exact⟨x,rfl,h⟩
theorem V3{b:Bool}{P R:Prop}(e:b=true)(h:P):sel b P R:=by subst e;exact h
theorem cA{b:Bool}{P R:Prop}(e:b=false)(h:R):sel b P R:=by subst e;exact h
theorem mV{b:Bool}{P:Prop}(h:sel b P False):b=true∧P:=by
 cases b with
 |true=>exact⟨rfl,h⟩
 |false=>exact h.elim
theorem xr{b:Bool}{P P' R R':Prop}(h:sel b P R)(k:P→P')(z:R→R'):if b=true then P' else R':=by
 cases b with
 |true=>exact k h
 |false=>exact z h
set_option genInjectivity true in
inductive PV where
 |none|bool (b:Bool)|int (i:Int)|str (n:Nat)
 |tup (l:List PV)|lst (l:List PV)|obj (a:Addr)
 |blt (n:String)|typ (n:String)|rng (lo hi:Int)
 deriving Inhabited
inductive q7 where
 |list (l:List PV)
 |m6 (l:List (Int×PV))
 |w5 (l:List (Nat×PV))
 |w7 (l:List ((Int×Int)×PV))
 |inst (C dx:Addr)
 |attrs (l:List (Nat×PV))
 |code (q:Str)
noncomputable abbrev AH:=Addr→Option q7
noncomputable def upd(H:AH)(a:Addr)(o:q7):AH:=fun b=>if b=a then some o else H b
theorem c7(H:AH)(a:Addr)(o:q7):upd H a o a=some o:=if_pos rfl
theorem d9{H:AH}{a b:Addr}{o:q7}(h:b≠a):upd H a o b=H b:=if_neg h
noncomputable abbrev YS(vs:List Value)(n:Nat):Obj:=⟨.type "tuple",none,.seq vs.toArray n,#[]⟩
noncomputable abbrev zH(vs:List Value)(n:Nat):Obj:=⟨.type "list",none,.seq vs.toArray n,#[]⟩
inductive YT(h:Heap)(v:Value)(R:List Value→Prop):Prop
 |mk (a:Addr) (vs:List Value) (n:Nat) (e:v = .ref a) (o:h.get? a=some (YS vs n)) (r:R vs)
inductive ai2(h:Heap)(H:AH)(v:Value)(R:List Value→Prop):Prop
 |mk (a:Addr) (vs:List Value) (n:Nat) (e:v = .ref a) (o:h.get? a=some (zH vs n)) (q:H a=none) (r:R vs)
inductive ai3(h:Heap)(lo hi:Int)(v:Value):Prop
 |mk (a:Addr) (t u w:Tok) (e:v = .ref a) (o:IsRange h a lo hi 1 t u w)
inductive ai4(vs:List Value)(P:Value→Prop)(R:List Value→Prop):Prop
 |mk (v:Value) (r:List Value) (e:vs=v::r) (p:P v) (z:R r)
section
variable(tab:Nat→Str)
mutual
noncomputable def Rep(h:Heap)(H:AH):PV→Value→Prop
 |.none,v=>v = .none
 |.bool b,v=>v = .bool b
 |.int i,v => ∃t,v = .int i t
 |.str n,v => ∃t,v = .str (tab n) t
 |.tup l,v=>YT h v (j7 h H l)
 |.lst l,v=>ai2 h H v (j7 h H l)
 |.obj a,v=>v = .ref a
 |.blt n,v=>v = .builtin n∧handedIn (.builtin n)=true
 |.typ n,v=>v = .type n
 |.rng lo hi,v=>ai3 h lo hi v
noncomputable def j7(h:Heap)(H:AH):List PV→List Value→Prop
 | [],vs=>vs=[]
 |x::xs,vs=>ai4 vs (Rep h H x) (j7 h H xs)
end
end
noncomputable abbrev Kr(v:Value):Prop:=v = .type "range"∨v = .type "code"
structure N7(h:Heap)(H:AH)(h':Heap)(H':AH):Prop where
 tup:∀b o xs k,h.get? b=some o→o.data = .seq xs k→o.cls = .type "tuple"→h'.get? b=some o
 lst:∀b o xs k,h.get? b=some o→o.data = .seq xs k→o.cls = .type "list"→H b=none→h'.get? b=some o∧H' b=none
 rng:∀b o xs,h.get? b=some o→o.data = .fields xs→Kr o.cls→h'.get? b=some o
theorem N7.refl(h:Heap)(H:AH):N7 h H h H:=⟨fun O O O O e O O=>e,fun O O O O e O O q=>⟨e,q⟩,fun O O O e O O=>e⟩
theorem N7.trans{h h' h'':Heap}{H H' mU:AH}(a:N7 h H h' H')(b:N7 h' H' h'' mU):N7 h H h'' mU:=
 ⟨fun x o xs k e d c=>b.tup x o xs k (a.tup x o xs k e d c) d c,fun x o xs k e d c q=>let⟨e',q'⟩:=a.lst x o xs k e d c q;b.lst x o xs k e' d c q',fun x o xs e d c=>b.rng x o xs (a.rng x o xs e d c) d c⟩
section
variable{tab:Nat→Str}{h h':Heap}{H H':AH}
mutual
theorem Rep.keeps(P:N7 h H h' H'):∀{p:PV} {v:Value},Rep tab h H p v→Rep tab h' H' p v
 |.none,_,r=>r
 |.bool _,_,r=>r
 |.int _,_,r=>r
 |.str _,_,r=>r
 |.tup _,_,⟨a,vs,n,e,o,r⟩=>⟨a,vs,n,e,P.tup _ _ _ _ o rfl rfl,j7.keeps P r⟩
 |.lst _,_,⟨a,vs,n,e,o,q,r⟩=>⟨a,vs,n,e,(P.lst _ _ _ _ o rfl rfl q).1,(P.lst _ _ _ _ o rfl rfl q).2,j7.keeps P r⟩
 |.obj _,_,r=>r
 |.blt _,_,r=>r
 |.typ _,_,r=>r
 |.rng _ _,_,⟨a,t,u,w,e,o⟩=>⟨a,t,u,w,e,P.rng _ _ _ o rfl (.inl rfl)⟩
theorem j7.keeps(P:N7 h H h' H'):∀{l:List PV} {vs:List Value},j7 tab h H l vs→j7 tab h' H' l vs
 | [],_,r=>r
 |_::_,_,⟨v,r,e,q,z⟩=>⟨v,r,e,Rep.keeps P q,j7.keeps P z⟩
end
theorem j7.length:∀{l:List PV} {vs:List Value},j7 tab h H l vs→vs.length=l.length
 | [],_,r=>by cases r;rfl
 |_::_,_,⟨v,r,e,_,z⟩=>by rw [e,List.length_cons,List.length_cons,j7.length z]
theorem j7.append:∀{l m:List PV} {vs ws:List Value},j7 tab h H l vs→j7 tab h H m ws→j7 tab h H (l++m) (vs++ws)
 | [],_,_,_,r,q=>by cases r;exact q
 |_::_,_,_,_,⟨v,r,e,p,z⟩,q=>⟨v,r++_,by rw [e];rfl,p,j7.append z q⟩
theorem j7.one{p:PV}{v:Value}(r:Rep tab h H p v):j7 tab h H [p] [v]:=⟨v,[],rfl,r,rfl⟩
theorem j7.get:∀{l:List PV} {vs:List Value} {k:Nat} {p:PV},j7 tab h H l vs→l[k]? = some p→∃v,vs[k]? = some v∧Rep tab h H p v
 | [],_,_,_,_,e=>by simp at e
 |x::xs,_,0,_,⟨v,r,e,q,z⟩,e'=>by
  rw [List.getElem?_cons_zero] at e';cases e'
  exact⟨v,by rw [e];rfl,q⟩
 |x::xs,_,k+1,p,⟨v,r,e,q,z⟩,e'=>by
  rw [List.getElem?_cons_succ] at e'
  obtain⟨u,a,b⟩:=j7.get z e'
  exact⟨u,by rw [e,List.getElem?_cons_succ];exact a,b⟩
theorem j7.set:∀{l:List PV} {vs:List Value} {p:PV} {v:Value} (k:Nat),j7 tab h H l vs→Rep tab h H p v→j7 tab h H (l.set k p) (vs.set k v)
 | [],_,_,_,_,r,_=>by cases r;exact rfl
 |x::xs,_,_,v',0,⟨v,r,e,q,z⟩,q'=>⟨v',r,by rw [e];rfl,q',z⟩
 |x::xs,_,_,v',k+1,⟨v,r,e,q,z⟩,q'=>⟨v,r.set k v',by rw [e];rfl,q,j7.set k z q'⟩
theorem j7.drop:∀{l:List PV} {vs:List Value} (k:Nat),j7 tab h H l vs→j7 tab h H (l.drop k) (vs.drop k)
 |_,_,0,r=>r
 | [],_,k+1,r=>by cases r;exact rfl
 |x::xs,_,k+1,⟨v,r,e,q,z⟩=>by rw [e];exact j7.drop k z
theorem j7.take:∀{l:List PV} {vs:List Value} (k:Nat),j7 tab h H l vs→j7 tab h H (l.take k) (vs.take k)
 |_,_,0,r=>rfl
 | [],_,k+1,r=>by cases r;exact rfl
 |x::xs,_,k+1,⟨v,r,e,q,z⟩=>by rw [e];exact⟨v,_,rfl,q,j7.take k z⟩
theorem j7.reverse:∀{l:List PV} {vs:List Value},j7 tab h H l vs→j7 tab h H l.reverse vs.reverse
 | [],_,r=>by cases r;exact rfl
 |x::xs,_,⟨v,r,e,q,z⟩=>by rw [e,List.reverse_cons,List.reverse_cons];exact j7.append (j7.reverse z) (.one q)
theorem Rep.handed{p:PV}{v:Value}(r:Rep tab h H p v):handedIn v=true:=by
 cases p
 case int=>obtain⟨_,e⟩:=r;subst e;rfl
 case str=>obtain⟨_,e⟩:=r;subst e;rfl
 case tup=>obtain⟨_,_,_,e,_⟩:=r;subst e;rfl
 case lst=>obtain⟨_,_,_,e,_⟩:=r;subst e;rfl
 case blt=>obtain⟨e,h⟩:=r;subst e;exact h
 case rng=>obtain⟨_,_,_,_,e,_⟩:=r;subst e;rfl
 all_goals (cases r;rfl)
end
structure Fn where
 fd:FuncData
 ps:List Nat
structure T where
 prog:Program
 tab:Nat→Str
 K:Frag
 glob:Nat→Option PV
 w5:Addr→Nat→Option PV
 fld:Addr→Nat→Bool
 meth:Addr→Nat→Option Addr
 qK:Addr→Nat→Option Addr
 init:Addr→Option Addr
 fn:Addr→Option Fn
 cat:Nat→Nat→Option Nat
 lam:List (Str×NameKind)→Option (Addr×Addr×Str)
structure G(τ:T) where
 w:World
 h₀:Heap
 os:OsState
noncomputable abbrev G.prog{τ:T}(_:G τ):Program:=τ.prog
noncomputable abbrev G.tab{τ:T}(_:G τ):Nat→Str:=τ.tab
noncomputable abbrev G.K{τ:T}(_:G τ):Frag:=τ.K
noncomputable abbrev G.glob{τ:T}(_:G τ):Nat→Option PV:=τ.glob
noncomputable abbrev G.fld{τ:T}(_:G τ):Addr→Nat→Bool:=τ.fld
noncomputable abbrev G.meth{τ:T}(_:G τ):Addr→Nat→Option Addr:=τ.meth
noncomputable abbrev G.qK{τ:T}(_:G τ):Addr→Nat→Option Addr:=τ.qK
noncomputable abbrev G.init{τ:T}(_:G τ):Addr→Option Addr:=τ.init
noncomputable abbrev G.fn{τ:T}(_:G τ):Addr→Option Fn:=τ.fn
noncomputable def fD(tab:Nat→Str)(h:Heap)(H:AH):Option PV→Option Value→Prop
 |none,v=>v=none
 |some p,v => ∃u,v=some u∧Rep tab h H p u
theorem fD.keeps{tab:Nat→Str}{h h':Heap}{H H':AH}(P:N7 h H h' H'):∀{p:Option PV} {v:Option Value},fD tab h H p v→fD tab h' H' p v
 |none,_,r=>r
 |some _,_,⟨u,e,r⟩=>⟨u,e,r.keeps P⟩
inductive bO{K J:Type}(f:K→J)(tab:Nat→Str)(h:Heap)(H:AH):List (K×PV)→List (J×Value)→Prop
 |nil:bO f tab h H [] []
 |cons {k:K} {p:PV} {v:Value} {l:List (K×PV)} {r:List (J×Value)} (q:Rep tab h H p v) (z:bO f tab h H l r):bO f tab h H ((k,p)::l) ((f k,v)::r)
theorem bO.keeps{K J:Type}{f:K→J}{tab:Nat→Str}{h h':Heap}{H H':AH}(P:N7 h H h' H'){l:List (K×PV)}{kvs:List (J×Value)}(r:bO f tab h H l kvs):bO f tab h' H' l kvs:=by
 induction r with
 |nil=>exact .nil
 |cons q _ ih=>exact .cons (q.keeps P) ih
inductive J6(tab:Nat→Str)(h:Heap)(H:AH):List ((Int×Int)×PV)→List (List Int×Addr×Value)→Prop
 |nil:J6 tab h H [] []
 |cons {i j:Int} {p:PV} {c:Addr} {v:Value} {l:List ((Int×Int)×PV)} {r:List (List Int×Addr×Value)} (q:Rep tab h H p v) (z:J6 tab h H l r):J6 tab h H (((i,j),p)::l) (([i,j],c,v)::r)
theorem J6.keeps{tab:Nat→Str}{h h':Heap}{H H':AH}(P:N7 h H h' H'){l:List ((Int×Int)×PV)} {xs:List (List Int×Addr×Value)} (r:J6 tab h H l xs):J6 tab h' H' l xs:=by
 induction r with
 |nil=>exact .nil
 |cons q _ ih=>exact .cons (q.keeps P) ih
inductive ai5(h:Heap)(a:Addr)(R:List Value→Prop):Prop
 |mk (vs:List Value) (n:Nat) (o:h.get? a=some (zH vs n)) (r:R vs)
section
variable{τ:T}(g:G τ)
noncomputable def iC(h:Heap)(H:AH)(a:Addr):q7→Prop
 |.list l=>ai5 h a (j7 g.tab h H l)
 |.m6 l => ∃kvs,h.DictOf (intKind g.prog g.w) a kvs∧bO id g.tab h H l kvs
 |.w5 l => ∃kvs,h.DictOf (strKind g.prog g.w) a kvs∧bO g.tab g.tab h H l kvs
 |.w7 l => ∃xs,h.DictOfH (tupleKind (intKind g.prog g.w)) a xs∧J6 g.tab h H l xs
 |.inst C dx=>h.get? a=some (instObj C dx)
 |.code q => ∃ps:Array Value,h.get? a=some (tabObj ps)∧TriplesOk ps.toList∧∀pos v,codeAmong pos ps.toList=some v→∃c o vs t,v = .ref c∧h.get? c=some o∧o.cls = .type "code"∧o.data = .fields vs∧vs[1]? = some (.str q t)
 |.attrs l => ∃m,h.Ns1 a m∧Within m (l.map fun p=>g.tab p.1)∧∀x,fD g.tab h H (l.lookup x) (m (g.tab x))
end
theorem Ks{α β:Type}{h h':Heap}{a:Addr}{P:Obj→α→β→Prop}(e:∀x,h.get? a=some x→h'.get? a=some x)(z:∃o b c,h.get? a=some o∧P o b c):∃o b c,h'.get? a=some o∧P o b c:=
 z.imp fun O=>Exists.imp fun O=>Exists.imp fun O z=>⟨e _ z.1,z.2⟩
theorem iC.keeps{τ:T}{g:G τ}{h h':Heap}{H H':AH}(P:N7 h H h' H'){a:Addr}{o:q7}(r:iC g h H a o)(e:∀x,h.get? a=some x→h'.get? a=some x):iC g h' H' a o:=by
 cases o with
 |list l=>obtain⟨vs,n,e1,r⟩:=r;exact⟨vs,n,e _ e1,r.keeps P⟩
 |m6 l=>exact r.imp fun O z=>⟨Ks e z.1,z.2.keeps P⟩
 |w5 l=>exact r.imp fun O z=>⟨Ks e z.1,z.2.keeps P⟩
 |w7 l=>
  refine r.imp fun xs z=>⟨z.1.imp fun o=>Exists.imp fun es=>Exists.imp fun ep w=>⟨e _ w.1,w.2.1,w.2.2.1,w.2.2.2.1,fun x hx=>?_,w.2.2.2.2.2⟩,z.2.keeps P⟩
  exact(w.2.2.2.2.1 x hx).imp fun o'=>Exists.imp fun its=>Exists.imp fun n' q=>⟨P.tup _ _ _ _ q.1 q.2.2.1 q.2.1,q.2⟩
 |inst C dx=>exact e _ r
 |code q=>obtain⟨ps,e1,e2,r⟩:=r;exact⟨ps,e _ e1,e2,fun pos v k=>(r pos v k).imp fun c=>Exists.imp fun o=>Exists.imp fun vs=>Exists.imp fun t z=>⟨z.1,P.rng _ _ _ z.2.1 z.2.2.2.1 (.inr z.2.2.1),z.2.2⟩⟩
 |attrs l=>exact r.imp fun O z=>⟨Ks e z.1,z.2.1,fun x=>(z.2.2 x).keeps P⟩
structure m9{τ:T}(g:G τ)(s:Shared)(H:AH):Prop where
 keep:∀b o,g.h₀.get? b=some o→s.heap.get? b=some o
 fresh:∀a,H a≠none→g.h₀.get? a=none
 obj:∀a o,H a=some o→iC g s.heap H a o
 gens:s.gens = #[]
 os:s.os=g.os
structure Goes(F:Addr→Prop)(h:Heap)(H:AH)(h':Heap)(H':AH):Prop where
 keep:∀b o,h.get? b=some o→H b=none→¬F b→h'.get? b=some o
 new:∀b,H b=none→H' b≠none→h.get? b=none
 ex:∀b o,h.get? b=some o→∃o',h'.get? b=some o'
 q8:N7 h H h' H'
theorem Goes.refl(F:Addr→Prop)(h:Heap)(H:AH):Goes F h H h H:=⟨fun O O e O O=>e,fun O a b=>absurd a b,fun O o e=>⟨o,e⟩,.refl ..⟩
theorem Goes.trans{F:Addr→Prop}{h h' h'':Heap}{H H' mU:AH}(a:Goes F h H h' H')(b:Goes F h' H' h'' mU):Goes F h H h'' mU:=by
 have un:∀x,h.get? x≠none→H x=none→H' x=none:=fun x q e=>Classical.byContradiction fun z=>q (a.new x e z)
 refine⟨fun x o e q f=>b.keep x o (a.keep x o e q f) (un x (by rw [e];simp) q) f,fun x q z=>?_,fun x o e=>let⟨o',e'⟩:=a.ex x o e;b.ex x o' e',a.q8.trans b.q8⟩
 by_cases y:H' x=none
 ·have:=b.new x y z
  cases c:h.get? x with
  |none=>rfl
  |some o=>obtain⟨o',e'⟩:=a.ex x o c;rw [e'] at this;cases this
 ·exact a.new x q y
theorem Goes.weak{F F':Addr→Prop}{h h':Heap}{H H':AH}(a:Goes F h H h' H')(k:∀x,F x→F' x):Goes F' h H h' H':=
 ⟨fun b o e q f=>a.keep b o e q fun z=>f (k b z),a.new,a.ex,a.q8⟩
noncomputable abbrev Calm:=Goes (fun O=>False)
theorem Calm.push(h:Heap)(H:AH)(o:Obj):Calm h H (h.push o) H:=
 ⟨fun O O e O O=>Heap.get?_push_of_some _ e,fun O a b=>absurd a b,fun O O e=>⟨_,Heap.get?_push_of_some _ e⟩,⟨fun O O O O e O O=>Heap.get?_push_of_some _ e,fun O O O O e O O q=>⟨Heap.get?_push_of_some _ e,q⟩,fun O O O e O O=>Heap.get?_push_of_some _ e⟩⟩
section
variable{τ:T}{g:G τ}{s:Shared}{H:AH}
theorem iC.has{h:Heap}{a:Addr}{o:q7}(r:iC g h H a o):∃x,h.get? a=some x:=by
 cases o with
 |list l=>cases r with|mk _ _ o _=>exact⟨_,o⟩
 |m6 l=>exact r.elim fun O z=>z.1.elim fun O z=>z.elim fun O z=>z.elim fun O z=>⟨_,z.1⟩
 |w5 l=>exact r.elim fun O z=>z.1.elim fun O z=>z.elim fun O z=>z.elim fun O z=>⟨_,z.1⟩
 |w7 l=>exact r.elim fun O z=>z.1.elim fun O z=>z.elim fun O z=>z.elim fun O z=>⟨_,z.1⟩
 |inst C dx=>exact⟨_,r⟩
 |attrs l=>exact r.elim fun O z=>z.1.elim fun O z=>z.elim fun O z=>z.elim fun O z=>⟨_,z.1⟩
 |code q=>exact r.elim fun O z=>⟨_,z.1⟩
theorem m9.off(S:m9 g s H){a:Addr}(h:s.heap.objs.size≤a):H a=none:=by
 cases e:H a with
 |none=>rfl
 |some o=>exact((S.obj a o e).has.elim fun O e=>absurd (Nat.lt_of_lt_of_le (Heap.lt_size e) h) (Nat.lt_irrefl _))
theorem m9.push(S:m9 g s H)(o:Obj)(t:Nat):m9 g {s with heap:=s.heap.push o,toks:=t} H:=
 ⟨fun b o' e=>Heap.get?_push_of_some _ (S.keep b o' e),S.fresh,fun a o' e=>(S.obj a o' e).keeps (Calm.push s.heap H o).q8 fun O e=>Heap.get?_push_of_some _ e,S.gens,S.os⟩
theorem m9.tok(S:m9 g s H)(t:Nat):m9 g {s with toks:=t} H:=⟨S.keep,S.fresh,S.obj,S.gens,S.os⟩
theorem m9.static(S:m9 g s H):N7 g.h₀ (fun O=>none) s.heap H:=by
 refine⟨fun b o O O e O O=>S.keep b o e,fun b o O O e O O O=>⟨S.keep b o e,?_⟩,fun b o O e O O=>S.keep b o e⟩
 exact Classical.byContradiction fun z=>by have:=S.fresh b z;rw [e] at this;cases this
end
structure v8{τ:T}(g:G τ):Prop where
 inj:∀i j,g.tab i=g.tab j→i=j
 YW:∀i,(g.tab i==("__debug__" : Str))=false
 X:g.K.In g.h₀
 nolimit:g.h₀.NoLimit
 names:∃mg mb,g.h₀.Ns mainGlobals mg∧g.h₀.Ns builtinsNs mb∧∀x p,g.glob x=some p→
  ∃v,(mg (g.tab x)=some v∨(mg (g.tab x)=none∧mb (g.tab x)=some v))∧Rep g.tab g.h₀ (fun O=>none) p v
 mods:g.h₀.get? sysModules≠none
 bm:∃mg,g.h₀.Ns mainGlobals mg∧∀P,(∀o,g.h₀.get? P≠some o)→g.h₀.BuiltinsAt mg P
 lam:∀ns c P q,τ.lam ns=some (c,P,q)→CodeHd g.h₀ c P∧P≠mainGlobals
 aq:∀x,PySem.PyData.strOk (g.tab x)=true
 Gh:∀x,(g.tab x==("__classdict__" : Str))=false
 fld:∀C x,g.fld C x=true→plainGet g.K C (g.tab x)=true∧hasDictIn g.K C=true∧findIn g.K (.ref C) (g.tab x)=some none∧plainOver g.K C=true∧findIn g.K (.ref C) "__setattr__" = some (some (.builtin "object.__setattr__"))
 meth:∀C x f,g.meth C x=some f→plainGet g.K C (g.tab x)=true∧findIn g.K (.ref C) (g.tab x)=some (some (.ref f))∧isFn g.K (.ref f)=true∧keepIn g.K (.ref f)=true
 fn:∀f d,g.fn f=some d→∃oc od osl,g.K.lookup f=some ⟨oc,od,.func d.fd,osl⟩∧keepIn g.K (.ref f)=true∧codeIn g.K d.fd.code d.fd.qualname=true
 qK:∀C x f,g.qK C x=some f→∃mc,specialIn g.K (.ref C) "__getattribute__" = some (some (.builtin "type.__getattribute__"))∧readsIn g.K C mc=true∧findCls g.K (.ref C) mc (g.tab x)=some (.val (.ref f))∧keepIn g.K (.ref f)=true
 sd:∀a x p,τ.w5 a x=some p→∃m v,g.h₀.MapOf (strKind g.prog g.w) a m∧m (g.tab x)=some v∧Rep g.tab g.h₀ (fun O=>none) p v
 init:∀C f,g.init C=some f→makesIn g.K C=true∧findIn g.K (.ref C) "__init__" = some (some (.ref f))∧isFn g.K (.ref f)=true∧keepIn g.K (.ref C)=true
noncomputable abbrev Loc:=List (Nat×PV)
noncomputable def j8(x:Nat)(p:PV):Loc→Loc
 | []=>[(x,p)]
 |q::r=>@Bool.rec (fun O=>Loc) (q::j8 x p r) ((x,p)::r) (Nat.beq q.1 x)
theorem jM{α:Type}{y q:Nat}{p:α}{r:List (Nat×α)}(h:y=q):((q,p)::r).lookup y=some p:=by rw [List.lookup_cons,h,beq_self_eq_true]
theorem fG{α:Type}{y q:Nat}{p:α}{r:List (Nat×α)}(h:y≠q):((q,p)::r).lookup y=r.lookup y:=by rw [List.lookup_cons,beq_eq_false_iff_ne.mpr h]
theorem qd{x:Nat}{p:PV}{q:Nat×PV}{r:Loc}{b:Bool}(e:Nat.beq q.1 x=b):j8 x p (q::r) = @Bool.rec (fun O=>Loc) (q::j8 x p r) ((x,p)::r) b:=by
 subst e;rfl
theorem s6(x:Nat)(p:PV)(y:Nat)(m:Loc):(j8 x p m).lookup y=if y=x then some p else m.lookup y:=by
 induction m with
 |nil=>
  by_cases h:y=x
  ·rw [if_pos h];exact jM h
  ·rw [if_neg h];exact fG h
 |cons q r ih=>
  obtain⟨q1,q2⟩:=q
  cases e:Nat.beq q1 x with
  |true=>
   rw [qd e]
   by_cases h:y=x
   ·rw [if_pos h];exact jM h
   ·rw [if_neg h,fG fun w=>h (w.trans (Nat.eq_of_beq_eq_true e))];exact fG h
  |false=>
   rw [qd e]
   by_cases w:y=q1
   ·rw [jM w,if_neg fun h=>Nat.ne_of_beq_eq_false e (w.symm.trans h)];exact(jM w).symm
   ·rw [fG w,ih];exact congrArg (ite _ _) (fG w).symm
structure z9{τ:T}(g:G τ)(env:Env)(m:Loc)(h:Heap)(H:AH):Prop where
 kind:env.scope.kind = .function
 globs:env.globals=mainGlobals
 Ku:env.builtins=builtinsNs
 ns:∃mv,h.Ns env.locals mv∧∀x p,m.lookup x=some p→env.kindOf (g.tab x)=some .local→∃v,mv (g.tab x)=some v∧Rep g.tab h H p v
 cell:∀x p,m.lookup x=some p→(env.kindOf (g.tab x)=some .cell∨env.kindOf (g.tab x)=some .free)→∃c v,env.cells.lookup (g.tab x)=some c∧h.IsCell c (some v)∧Rep g.tab h H p v
 kinds:∀x p,m.lookup x=some p→env.kindOf (g.tab x)=some .local∨env.kindOf (g.tab x)=some .cell∨env.kindOf (g.tab x)=some .free
 Iv:H env.locals=none
 Qy:g.h₀.get? env.locals=none
 cells:∀x c,env.cells.lookup x=some c→H c=none∧g.h₀.get? c=none∧∃v,h.IsCell c v
 inj:∀x y c,env.cells.lookup x=some c→env.cells.lookup y=some c→x=y
 has:∀x,env.kindOf x=some .cell→∃c,env.cells.lookup x=some c
theorem z9.Gi{τ:T}{g:G τ}{env:Env}{m:Loc}{h h':Heap}{H H':AH}(F:z9 g env m h H)
  (k:∀b o,h.get? b=some o→H b=none→(b=env.locals∨∃x,env.cells.lookup x=some b)→h'.get? b=some o) (un:∀x,h.get? x≠none→H x=none→(x=env.locals∨∃y,env.cells.lookup y=some x)→H' x=none) (P:N7 h H h' H'):z9 g env m h' H':=by
 have cl:∀x c v,env.cells.lookup x=some c→h.IsCell c v→H c=none→h'.IsCell c v∧H' c=none:=fun x c v z ⟨o,e,d⟩ q=>⟨⟨o,k c o e q (.inr ⟨x,z⟩),d⟩,un c (by rw [e];simp) q (.inr ⟨x,z⟩)⟩
 obtain⟨mv,⟨o,es,ep,e,d⟩,r⟩:=F.ns
 refine⟨F.kind,F.globs,F.Ku,⟨mv,⟨o,es,ep,k _ _ e F.Iv (.inl rfl),d⟩,fun x p q k=>?_⟩,fun x p q k=>?_,F.kinds,un _ (by rw [e];simp) F.Iv (.inl rfl),F.Qy,fun x c q=>?_,F.inj,F.has⟩
 ·obtain⟨v,z,y⟩:=r x p q k;exact⟨v,z,y.keeps P⟩
 ·obtain⟨c,v,z,y,w⟩:=F.cell x p q k
  exact⟨c,v,z,(cl _ c _ z y (F.cells _ _ z).1).1,w.keeps P⟩
 ·obtain⟨z,y,v,w⟩:=F.cells x c q
  exact⟨(cl _ c v q w z).2,y,v,(cl _ c v q w z).1⟩
theorem z9.Kv{τ:T}{g:G τ}{env:Env}{m:Loc}{h h':Heap}{H H':AH}{P:Addr→Prop}(F:z9 g env m h H)(a:Goes P h H h' H')(np:∀b,(b=env.locals∨∃x,env.cells.lookup x=some b)→¬P b):z9 g env m h' H':=
 F.Gi (fun b o e q w=>a.keep b o e q (np b w)) (fun x q e O=>Classical.byContradiction fun z=>q (a.new x e z)) a.q8
theorem z9.goes{τ:T}{g:G τ}{env:Env}{m:Loc}{h h':Heap}{H H':AH}(F:z9 g env m h H)(a:Calm h H h' H'):z9 g env m h' H':=F.Kv a fun O O=>id
structure K1(n:Nat)(A:Around):Prop where
 handled:A.handled=none
 depth:A.depth+2*n<recursionLimit
 units:A.units+20*n+100<cLine
inductive Y5{τ:T}(g:G τ)(s:Shared)(H:AH)(Q:PV→AH→Prop)(v:Value)(s':Shared):Prop
 |mk (p:PV) (H':AH) (r:Rep g.tab s'.heap H' p v) (S:m9 g s' H') (c:Calm s.heap H s'.heap H') (q:Q p H')
noncomputable def W{τ:T}(g:G τ)(A:Around)(t:Sem Value)(s:Shared)(H:AH)(Q:PV→AH→Prop):Prop:=wpAny (model g.prog g.w) A t (Y5 g s H Q) (fun O O=>False) s
noncomputable def Ev{τ:T}(g:G τ)(n:Nat)(env:Env)(m:Loc)(H:AH)(e:PySem.Expr)(Q:PV→AH→Prop):Prop:=
 ∀A s,K1 n A→m9 g s H→z9 g env m s.heap H→W g A (eval e env) s H Q
theorem Y5.step{τ:T}{g:G τ}{s s₁:Shared}{H H₁:AH}{Q:PV→AH→Prop}(c:Calm s.heap H s₁.heap H₁){v:Value}{s':Shared}(x:Y5 g s₁ H₁ Q v s'):Y5 g s H Q v s':=
 let⟨p,H',r,S,c',q⟩:=x;⟨p,H',r,S,c.trans c',q⟩
theorem Ev.then{τ:T}{g:G τ}{n:Nat}{env:Env}{m:Loc}{H:AH}{e:PySem.Expr}{Q:PV→AH→Prop}(h:Ev g n env m H e Q){A:Around}{s:Shared}{P:Value→Shared→Prop}{E:Value→Shared→Prop}
  (R:K1 n A) (S:m9 g s H) (F:z9 g env m s.heap H)
  (k:∀v s' p H',Rep g.tab s'.heap H' p v→m9 g s' H'→Calm s.heap H s'.heap H'→z9 g env m s'.heap H'→Q p H'→P v s'):wpAny (model g.prog g.w) A (eval e env) P E s:=
 wpAny_mono (h A s R S F) (fun v s' ⟨p,H',r,S',c,q⟩=>k v s' p H' r S' c (F.goes c) q) fun O O x=>x.elim
theorem Ev.mono{τ:T}{g:G τ}{n:Nat}{env:Env}{m:Loc}{H:AH}{e:PySem.Expr}{Q Q':PV→AH→Prop}(h:Ev g n env m H e Q)(k:∀p H',Q p H'→Q' p H'):Ev g n env m H e Q':=
 fun A s R S F=>h.then R S F fun O O p H' r S' c O q=>⟨p,H',r,S',c,k p H' q⟩
section
variable{τ:T}{g:G τ}{n:Nat}{env:Env}{m:Loc}{H:AH}{Q:PV→AH→Prop}
theorem m7{s:Shared}{v:Value}{p:PV}(S:m9 g s H)(r:Rep g.tab s.heap H p v)(q:Q p H)(t:Nat):Y5 g s H Q v {s with toks:=t}:=
 ⟨p,H,r,S.tok t,.refl ..,q⟩
theorem Ev.YX{k:Nat}{pos:Pos}(q:Q .none H):Ev g n env m H (.Constant .none k pos) Q:=fun A s R S F=>(wpAny_pure (m7 (p:=.none) S rfl q s.toks):wpAny _ A (Sem.pure Value.none) _ _ s)
theorem Ev.YZ{b:Bool}{k:Nat}{pos:Pos}(q:Q (.bool b) H):Ev g n env m H (.Constant (.bool b) k pos) Q:=fun A s R S F=>(wpAny_pure (m7 (p:=.bool b) S rfl q s.toks):wpAny _ A (Sem.pure (Value.bool b)) _ _ s)
theorem Ev.Qz{i:Int}{k:Nat}{pos:Pos}(q:Q (.int i) H):Ev g n env m H (.Constant (.int i) k pos) Q:=fun A s R S F=>wpAny_Constant_int (m7 (p:=.int i) S ⟨_,rfl⟩ q _)
theorem Ev.Za{x k:Nat}{pos:Pos}(q:Q (.str x) H):Ev g n env m H (.Constant (.str (g.tab x)) k pos) Q:=fun A s R S F=>Constant_str (m7 (p:=.str x) S ⟨_,rfl⟩ q _)
theorem Ev.loc{x:Nat}{pos:Pos}{p:PV}(hg:v8 g)(e:m.lookup x=some p)(q:Q p H):Ev g n env m H (.Name (g.tab x) pos) Q:=fun A s R S F=>by
 have hd:=hg.YW x
 rcases F.kinds x p e with k|k
 ·obtain⟨mv,hN,r⟩:=F.ns
  obtain⟨v,hv,hr⟩:=r x p e k
  exact wpAny_Name (wpAny_loadName_local F.kind k hN hv (m7 S hr q s.toks)) hd
 ·obtain⟨c,v,hc,hv,hr⟩:=F.cell x p e k
  rcases k with k|k
  ·exact wpAny_Name (wpAny_loadName_cell F.kind k hc hv (m7 S hr q s.toks)) hd
  ·exact wpAny_Name (wpAny_loadName_free F.kind k hc hv (m7 S hr q s.toks) (hg.Gh x)) hd
theorem Ev.glob{x:Nat}{pos:Pos}{p:PV}(hg:v8 g)(e:g.glob x=some p)(k:env.kindOf (g.tab x)=some .globalImplicit)(q:Q p H):Ev g n env m H (.Name (g.tab x) pos) Q:=fun A s R S F=>by
 obtain⟨mg,mb,hG,hB,r⟩:=hg.names
 obtain⟨v,hv,hr⟩:=r x p e
 refine Name_function_global F.kind k ?_ (hg.YW x)
 have hG':s.heap.Ns env.globals mg:=by rw [F.globs];exact hG.keeps S.keep
 have hB':s.heap.Ns env.builtins mb:=by rw [F.Ku];exact hB.keeps S.keep
 have z:Y5 g s H Q v s:=m7 S (hr.keeps S.static) q s.toks
 rcases hv with hv|⟨h1,h2⟩
 ·exact loadGlobal_global hG' hv z
 ·exact loadGlobal_builtin hG' h1 hB' h2 z
inductive ai6{τ:T}(g:G τ)(s:Shared)(H:AH)(k:Nat)(Q:List PV→AH→Prop)(vs:List Value)(s':Shared):Prop
 |mk (l:List PV) (H':AH) (e:l.length=k) (r:j7 g.tab s'.heap H' l vs) (S:m9 g s' H') (c:Calm s.heap H s'.heap H') (q:Q l H')
noncomputable def oJ{τ:T}(g:G τ)(n:Nat)(env:Env)(m:Loc)(H:AH)(pos:Pos)(es:List PySem.Expr)(Q:List PV→AH→Prop):Prop:=
 ∀A s,K1 n A→m9 g s H→z9 g env m s.heap H→wpAny (model g.prog g.w) A (spliced (backTo pos (starEach es env))) (ai6 g s H es.length Q) (fun O O=>False) s
noncomputable def bQ(e:PySem.Expr):Prop := ∀rest env,starEach (e::rest) env=(false,eval e env)::starEach rest env
theorem oJ.nil{pos:Pos}{Q:List PV→AH→Prop}(q:Q [] H):oJ g n env m H pos [] Q:=fun A s R S F=>spliced_nil ⟨[],H,rfl,rfl,S,.refl ..,q⟩
theorem oJ.cons{pos:Pos}{e:PySem.Expr}{es:List PySem.Expr}{Q:List PV→AH→Prop}(hp:bQ e)(h:Ev g n env m H e fun p H₁=>oJ g n env m H₁ pos es fun l H₂=>Q (p::l) H₂):oJ g n env m H pos (e::es) Q:=fun A s R S F=>by
 show wpAny _ _ (spliced (backTo pos (starEach (e::es) env))) _ _ _
 rw [hp]
 refine spliced_cons (h.then R S F fun v s₁ p H₁ r S₁ c F₁ k=>?_)
 refine wpAny_mono (k A s₁ R S₁ F₁) (fun vs s₂ ⟨l,H₂,z,rl,S₂,c₂,q⟩=>?_) fun O O x=>x
 exact⟨p::l,H₂,by rw [List.length_cons,z,List.length_cons],⟨v,vs,rfl,r.keeps c₂.q8,rl⟩,S₂,c.trans c₂,q⟩
theorem oJ.then{pos:Pos}{es:List PySem.Expr}{Q:List PV→AH→Prop}(h:oJ g n env m H pos es Q){A:Around}{s:Shared}{P:List Value→Shared→Prop}{E:Value→Shared→Prop}
  (R:K1 n A) (S:m9 g s H) (F:z9 g env m s.heap H)
  (k:∀vs s' l H',j7 g.tab s'.heap H' l vs→m9 g s' H'→Calm s.heap H s'.heap H'→z9 g env m s'.heap H'→l.length=es.length→Q l H'→P vs s'):wpAny (model g.prog g.w) A (spliced (backTo pos (starEach es env))) P E s:=
 wpAny_mono (h A s R S F) (fun v s' ⟨p,H',z,r,S',c,q⟩=>k v s' p H' r S' c (F.goes c) z q) fun O O x=>x.elim
theorem dh{s:Shared}{o:Obj}{p:PV}(S:m9 g s H)(r:Rep g.tab (s.heap.push o) H p (.ref s.heap.objs.size))(q:Q p H):Y5 g s H Q (.ref s.heap.objs.size) {s with heap:=s.heap.push o}:=
 ⟨p,H,r,S.push o s.toks,Calm.push ..,q⟩
theorem untracked{s:Shared}(S:m9 g s H):H s.heap.objs.size=none:=S.off (Nat.le_refl _)
theorem zJ{A:Around}{s:Shared}{l:List PV}{vs:List Value}(S:m9 g s H)(r:j7 g.tab s.heap H l vs)(hz:l.length≤sizeLine)(q:Q (.tup l) H):W g A (newTuple vs) s H Q:=
 wpAny_newObj_type (dh (p:=.tup l) S ⟨_,vs,0,rfl,Heap.get?_push_size _ rfl,r.keeps (Calm.push ..).q8⟩ q) (by show vs.toArray.size≤sizeLine;rw [List.size_toArray,r.length];exact hz)
theorem Dp{A:Around}{s:Shared}{l:List PV}{vs:List Value}(S:m9 g s H)(r:j7 g.tab s.heap H l vs)(hz:l.length≤sizeLine)(q:Q (.lst l) H):W g A (newList vs) s H Q:=
 wpAny_newObj_type (dh (p:=.lst l) S ⟨_,vs,0,rfl,Heap.get?_push_size _ rfl,untracked S,r.keeps (Calm.push ..).q8⟩ q) (by show vs.toArray.size≤sizeLine;rw [List.size_toArray,r.length];exact hz)
theorem Y5.calm{s s₁:Shared}{H₁:AH}(c:Calm s.heap H s₁.heap H₁){A:Around}{t:Sem Value}(h:wpAny (model g.prog g.w) A t (Y5 g s₁ H₁ Q) (fun O O=>False) s₁):wpAny (model g.prog g.w) A t (Y5 g s H Q) (fun O O=>False) s₁:=
 wpAny_mono h (fun O O x=>x.step c) fun O O x=>x
theorem Ev.tuple{pos:Pos}{k:Nat}{es:List PySem.Expr}(hz:es.length≤sizeLine)(h:oJ g n env m H pos es fun l H'=>Q (.tup l) H'):Ev g n env m H (.Tuple es k pos) Q:=fun A s R S F=>
 Tuple_ (h.then R S F fun vs s' l H' r S' c F' z q=>Y5.calm c (zJ S' r (z▸hz) q))
theorem Ev.list{pos:Pos}{es:List PySem.Expr}(hz:es.length≤sizeLine)(h:oJ g n env m H pos es fun l H'=>Q (.lst l) H'):Ev g n env m H (.List es pos) Q:=fun A s R S F=>
 List_ (h.then R S F fun vs s' l H' r S' c F' z q=>Y5.calm c (Dp S' r (z▸hz) q))
theorem m9.track{s:Shared}{o:q7}{x:Obj}(S:m9 g s H)(hf:x.isFreed=false)(r:iC g (s.heap.push x) (upd H s.heap.objs.size o) s.heap.objs.size o):
  m9 g {s with heap:=s.heap.push x} (upd H s.heap.objs.size o)∧Calm s.heap H (s.heap.push x) (upd H s.heap.objs.size o):=by
 have P:N7 s.heap H (s.heap.push x) (upd H s.heap.objs.size o):=⟨fun O O O O e O O=>Heap.get?_push_of_some _ e,fun b O O O e O O q=>⟨Heap.get?_push_of_some _ e,by rw [d9 (Nat.ne_of_lt (Heap.lt_size e))];exact q⟩,fun O O O e O O=>Heap.get?_push_of_some _ e⟩
 refine⟨⟨fun b o' e=>Heap.get?_push_of_some _ (S.keep b o' e),fun a q=>?_,fun a o' e=>?_,S.gens,S.os⟩,fun O O e O O=>Heap.get?_push_of_some _ e,fun b a q=>?_,fun O O e=>⟨_,Heap.get?_push_of_some _ e⟩,P⟩
 ·by_cases h:a=s.heap.objs.size
  ·cases e:g.h₀.get? a with
   |none=>rfl
   |some o'=>exact absurd (Heap.lt_size (S.keep _ _ e)) (by rw [h];exact Nat.lt_irrefl _)
  ·rw [d9 h] at q;exact S.fresh a q
 ·by_cases h:a=s.heap.objs.size
  ·subst h;rw [c7] at e;cases e;exact r
  ·rw [d9 h] at e;exact(S.obj a o' e).keeps P fun O e=>Heap.get?_push_of_some _ e
 ·by_cases h:b=s.heap.objs.size
  ·cases e:s.heap.get? b with
   |none=>rfl
   |some o'=>exact absurd (Heap.lt_size e) (by rw [h];exact Nat.lt_irrefl _)
  ·rw [d9 h] at q;exact absurd a q
theorem aj{s:Shared}{h':Heap}{a:Addr}{o o':q7}(S:m9 g s H)(e:H a=some o)(B:Heap.SameBut a s.heap h'):N7 s.heap H h' (upd H a o'):=by
 have ne:∀b,H b=none→b≠a:=fun b q z=>by rw [z,e] at q;cases q
 have key:∀b x,s.heap.get? b=some x→((∃xs k,x.data = .seq xs k)∧x.cls = .type "tuple"∨(∃xs,x.data = .fields xs)∧Kr x.cls)→b≠a:=by
  intro b x q w z
  subst z
  have r:=S.obj _ _ e
  cases o with
  |list l=>obtain⟨vs,n,e1,_⟩:=r;rw [q] at e1;cases e1;rcases w with⟨_,c⟩|⟨_,c⟩<;>exact absurd c (by simp)
  |m6 l=>obtain⟨_,⟨o,_,_,e1,_,d1,_⟩,_⟩:=r;rw [q] at e1;cases e1;rcases w with⟨⟨_,_,d⟩,_⟩|⟨⟨_,d⟩,_⟩<;>rw [d] at d1<;>cases d1
  |w5 l=>obtain⟨_,⟨o,_,_,e1,_,d1,_⟩,_⟩:=r;rw [q] at e1;cases e1;rcases w with⟨⟨_,_,d⟩,_⟩|⟨⟨_,d⟩,_⟩<;>rw [d] at d1<;>cases d1
  |w7 l=>obtain⟨_,⟨o,_,_,e1,_,d1,_⟩,_⟩:=r;rw [q] at e1;cases e1;rcases w with⟨⟨_,_,d⟩,_⟩|⟨⟨_,d⟩,_⟩<;>rw [d] at d1<;>cases d1
  |inst C dx=>have e1:s.heap.get? _=_:=r;rw [q] at e1;cases e1;rcases w with⟨_,c⟩|⟨_,c⟩<;>exact absurd c (by simp)
  |code nm=>obtain⟨_,e1,_⟩:=r;rw [q] at e1;cases e1;rcases w with⟨_,c⟩|⟨_,c⟩<;>exact absurd c (by simp)
  |attrs l=>obtain⟨_,⟨o,_,_,e1,d1,_⟩,_⟩:=r;rw [q] at e1;cases e1;rcases w with⟨⟨_,_,d⟩,_⟩|⟨⟨_,d⟩,_⟩<;>rw [d] at d1<;>cases d1
 exact⟨fun b x xs k q d c=>(B.2 b (key b x q (.inl ⟨⟨xs,k,d⟩,c⟩))).trans q,fun b x xs k q d c z=>⟨(B.2 b (ne b z)).trans q,by rw [d9 (ne b z)];exact z⟩,fun b x xs q d c=>(B.2 b (key b x q (.inr ⟨⟨xs,d⟩,c⟩))).trans q⟩
theorem m9.turn{s:Shared}{h':Heap}{a:Addr}{o o':q7}(S:m9 g s H)(e:H a=some o)(B:Heap.SameBut a s.heap h')(r:iC g h' (upd H a o') a o')(t:Nat):
  m9 g {s with heap:=h',toks:=t} (upd H a o')∧Calm s.heap H h' (upd H a o'):=by
 have ne:∀b,H b=none→b≠a:=fun b q z=>by rw [z,e] at q;cases q
 have P:=aj (o':=o') S e B
 have un:∀b,upd H a o' b≠none→H b≠none:=fun b q z=>by rw [d9 (ne b z)] at q;exact q z
 refine⟨⟨fun b x q=>(B.2 b fun z=>?_).trans (S.keep b x q),fun b q=>S.fresh b (un b q),fun b x q=>?_,S.gens,S.os⟩,fun b x q z O=>(B.2 b (ne b z)).trans q,fun b z q=>absurd z (un b q),fun b x q=>?_,P⟩
 ·subst z
  have:=S.fresh b (by rw [e];simp)
  rw [this] at q;cases q
 ·by_cases z:b=a
  ·subst z;rw [c7] at q;cases q;exact r
  ·rw [d9 z] at q;exact(S.obj b x q).keeps P fun O y=>(B.2 b z).trans y
 ·by_cases z:b=a
  ·subst z
   exact r.has
  ·exact⟨x,(B.2 b z).trans q⟩
theorem Ev.Zb{pos:Pos}{es:List PySem.Expr}(hz:es.length≤sizeLine)(h:oJ g n env m H pos es fun l H' => ∀a,H' a=none→Q (.obj a) (upd H' a (.list l))):Ev g n env m H (.List es pos) Q:=fun A s R S F=>
 List_ (h.then R S F fun vs s' l H' r S' c F' z q=>Y5.calm c (by
  obtain⟨S₂,c₂⟩:=S'.track (o:=.list l) (x:={cls:=.type "list",data:=.seq vs.toArray}) rfl ⟨vs,0,Heap.get?_push_size _ rfl,r.keeps (N7.mk (fun O O O O e O O=>Heap.get?_push_of_some _ e) (fun b O O O e O O q=>⟨Heap.get?_push_of_some _ e,by rw [d9 (Nat.ne_of_lt (Heap.lt_size e))];exact q⟩) fun O O O e O O=>Heap.get?_push_of_some _ e)⟩
  refine wpAny_newObj_type ⟨.obj s'.heap.objs.size,_,rfl,S₂,c₂,q _ (untracked S')⟩ (by show vs.toArray.size≤sizeLine;rw [List.size_toArray,r.length,z];exact hz)))
end
end Mine.Internal
namespace Mine.Internal
open PySem PySem.W PySem.Calls PyProof.Rows Builtin Builtin.ObjectAttr
theorem jl{h:Heap}{a:Addr}{m:Str→Option Value}(N:h.Ns1 a m)(name:Str):∃o,h.get? a=some o∧lookIn name o=some (m name):=by
 obtain⟨o,es,ep,e,d,k,_,f⟩:=N
 refine⟨o,e,?_⟩
 unfold lookIn
 rw [d]
 dsimp only
 have:=f name
 unfold nsFind findBy at this
 rw [← Array.find?_toList] at this
 rw [← this]
 cases q:es.toList.find? (fun x=>x.key.isStr name) with
 |some x=>rfl
 |none=>
  have:(es.toList.any fun x=>x.refKey)=false:=by
   rw [List.any_eq_false]
   intro x hx
   obtain⟨n,t,z⟩:=k x (Array.mem_toList_iff.mp hx)
   simp [DictEntry.refKey,z]
  simp only [this,Option.map_none,Bool.false_eq_true,if_false]
section
variable{τ:T}{g:G τ}{n:Nat}{env:Env}{m:Loc}{H:AH}{Q:PV→AH→Prop}
theorem Gj{s:Shared}{a C dx:Addr}{l:List (Nat×PV)}(S:m9 g s H)(e1:H a=some (.inst C dx))(e2:H dx=some (.attrs l))(x:Nat):
  ∃(od:Obj) (mA:Str→Option Value),InstAt s.heap a (instObj C dx) C (some od)∧s.heap.get? dx=some od∧lookIn (g.tab x) od=some (mA (g.tab x))∧fD g.tab s.heap H (l.lookup x) (mA (g.tab x)):=by
 have r1:=S.obj _ _ e1
 obtain⟨mA,N,_,r⟩:=S.obj _ _ e2
 obtain⟨od,e,q⟩:=jl N (g.tab x)
 exact⟨od,mA,⟨r1,rfl,rfl,e⟩,e,q,r x⟩
theorem Dq{A:Around}{s:Shared}{a C dx:Addr}{l:List (Nat×PV)}{x:Nat}{p:PV}{ex:Bool}(hg:v8 g)(S:m9 g s H)(e1:H a=some (.inst C dx))(e2:H dx=some (.attrs l))(hf:g.fld C x=true)(hl:l.lookup x=some p)(q:Q p H):
  W g A (getAttr (.ref a) (g.tab x) ex) s H Q:=by
 obtain⟨od,mA,I,_,hk,r⟩:=Gj S e1 e2 x
 rw [hl] at r
 obtain⟨u,hu,ru⟩:=r
 obtain⟨f1,f2,f3,_⟩:=hg.fld C x hf
 rw [hu] at hk
 exact get_value (hg.X.keeps S.keep) I (plainGet_of f1).1 (findObj_own f2 f3 rfl hk) ru.handed (m7 S ru q _)
inductive j6{τ:T}(g:G τ)(x:Nat)(Q:PV→AH→Prop):PV→AH→Prop
 |mk {a C dx:Addr} {l:List (Nat×PV)} {q:PV} {H:AH} (e1:H a=some (.inst C dx)) (e2:H dx=some (.attrs l)) (hf:τ.fld C x=true) (hl:l.lookup x=some q) (h:Q q H):j6 g x Q (.obj a) H
noncomputable def vR(e:PySem.Expr):Prop := ∀attr env,attributeBase e attr env (eval e env)=eval e env
theorem Ev.attr{e:PySem.Expr}{x:Nat}{pos:Pos}(hg:v8 g)(hb:vR e)(h:Ev g n env m H e (j6 g x Q)):Ev g n env m H (.Attribute e (g.tab x) pos) Q:=fun A s R S F=>by
 refine Attribute_any_ (h.then R S F fun v s' p H' r S' c F' q=>?_) (by rw [arm_eval_Attribute,hb])
 cases q with | @mk a C dx l y H' e1 e2 hf hl q=>?_
 cases r
 exact Y5.calm c (Dq hg S' e1 e2 hf hl q)
theorem oK{tab:Nat→Str}{l:List (Nat×PV)}{m:Str→Option Value}(w:Within m (l.map fun p=>tab p.1))(x:Nat)(p:PV)(v:Value):Within (fun y=>if y=tab x then some v else m y) ((j8 x p l).map fun p=>tab p.1):=by
 have a:∀l:List (Nat×PV),tab x∈(j8 x p l).map fun p=>tab p.1:=by
  intro l
  induction l with
  |nil=>exact .head _
  |cons q r ih=>
   unfold j8
   cases e:Nat.beq q.1 x with
   |true=>exact .head _
   |false=>exact .tail _ ih
 have b:∀(l:List (Nat×PV)) y,y∈(l.map fun p=>tab p.1)→y∈(j8 x p l).map fun p=>tab p.1:=by
  intro l
  induction l with
  |nil=>intro y h;cases h
  |cons q r ih=>
   intro y h
   unfold j8
   cases e:Nat.beq q.1 x with
   |true=>
    have:q.1=x:=Nat.eq_of_beq_eq_true e
    rw [List.map_cons] at h ⊢
    rcases List.mem_cons.mp h with h|h
    ·rw [h,this];exact .head _
    ·exact .tail _ h
   |false=>
    rw [List.map_cons] at h ⊢
    rcases List.mem_cons.mp h with h|h
    ·rw [h];exact .head _
    ·exact .tail _ (ih y h)
 intro y h
 by_cases e:y=tab x
 ·rw [e];exact a l
 ·simp only [e,if_false] at h;exact b l y (w y h)
theorem oM(x:Nat)(p:PV):∀l:List (Nat×PV),(j8 x p l).length≤l.length+1
 | []=>Nat.le_refl _
 |q::r=>by
  unfold j8
  cases Nat.beq q.1 x with
  |true=>exact Nat.le_succ _
  |false=>exact Nat.succ_le_succ (oM x p r)
theorem Iw{h':Heap}{s:Shared}{dx:Addr}{l:List (Nat×PV)}{mA:Str→Option Value}{x:Nat}{p:PV}{v:Value}(hg:v8 g)(S:m9 g s H)(e:H dx=some (.attrs l))
  (w:Within mA (l.map fun p=>g.tab p.1)) (r:∀x,fD g.tab s.heap H (l.lookup x) (mA (g.tab x))) (rv:Rep g.tab s.heap H p v)
  (hn:h'.Ns1 dx fun y=>if y=g.tab x then some v else mA y) (B:Heap.SameBut dx s.heap h'):iC g h' (upd H dx (.attrs (j8 x p l))) dx (.attrs (j8 x p l)):=by
 have P:N7 s.heap H h' (upd H dx (.attrs (j8 x p l))):=aj S e B
 refine⟨_,hn,oK w x p v,fun y=>?_⟩
 rw [s6]
 by_cases h:y=x
 ·subst h;simp only [if_true];exact⟨v,rfl,rv.keeps P⟩
 ·have:¬g.tab y=g.tab x:=fun z=>h (hg.inj _ _ z)
  simp only [h,this,if_false]
  exact(r y).keeps P
theorem VR{prog:Program}{w:World}{A:Around}{K:Frag}{R:Result→Shared→Prop}{s:Shared}{a C dx:Addr}{mA:Str→Option Value}{ns:List Str}{name:Str}{tk:Tok}{v:Value}(X:K.In s.heap)
  (r1:s.heap.get? a=some (instObj C dx)) (N:s.heap.Ns1 dx mA) (w':Within (fun y=>if y=name then some v else mA y) ns) (hz:ns.length≤1000)
  (f2:hasDictIn K C=true) (f3:findIn K (.ref C) name=some none) (f4:plainOver K C=true)
  (h:∀h',h'.Ns1 dx (fun y=>if y=name then some v else mA y)→Heap.SameBut dx s.heap h'→R (.ok (.ret .none)) {s with heap:=h',toks:=s.toks+1}):
  codeAny (model prog w) A (.call (.builtin "object.__setattr__") ⟨[.ref a,.str name tk,v],[]⟩) R s:=by
 obtain⟨od,e,_⟩:=jl N name
 have I:InstAt s.heap a (instObj C dx) C (some od):=⟨r1,rfl,rfl,e⟩
 refine osa_open X I f4 (by unfold takerIn;rw [f3];rfl) fun b=>?_
 obtain⟨cd,hc,hd⟩:=any_some f2
 refine wpAny_bind (wpAny_pure (wpAny_bind (wpAny_bind (wpAny_loadPart r1 (wpAny_bind ((looks_clsIn X hc).here ?_))))))
 rw [hd]
 refine wpAny_pure (a:=some dx) (wpAny_bind (wpAny_pure (wpAny_bind ?_)))
 refine wpAny_nsSet1 N fun h' hn B=>?_
 obtain⟨o',es,ep,g1,g2,g3⟩:=hn.count w'
 refine wpAny_bind (wpAny_lookBehind g1 (by rw [g2];refine pastItsLine_dict (Nat.le_trans g3 ?_);rw [sizeLine_eq];exact Nat.le_trans ‹_› (by decide)) ?_)
 exact wpAny_pure (h h' hn B)
theorem Dr{A:Around}{s:Shared}{a C dx:Addr}{l:List (Nat×PV)}{x:Nat}{p:PV}{v:Value}(hg:v8 g)(S:m9 g s H)(e1:H a=some (.inst C dx))(e2:H dx=some (.attrs l))(hf:g.fld C x=true)(hz:l.length<900)(rv:Rep g.tab s.heap H p v):
  wpAny (model g.prog g.w) A (setAttr (.ref a) (g.tab x) v) (fun O s'=>m9 g s' (upd H dx (.attrs (j8 x p l)))∧Calm s.heap H s'.heap (upd H dx (.attrs (j8 x p l)))) (fun O O=>False) s:=by
 obtain⟨f1,f2,f3,f4,f5⟩:=hg.fld C x hf
 have r1:s.heap.get? a=some (instObj C dx):=S.obj _ _ e1
 obtain⟨mA,N,w,r⟩:=S.obj _ _ e2
 obtain⟨od,e,_⟩:=jl N (g.tab x)
 have I:InstAt s.heap a (instObj C dx) C (some od):=⟨r1,rfl,rfl,e⟩
 have X:=hg.X.keeps S.keep
 refine set_plain X I f5 (VR (s:={s with toks:=s.toks+1}) X r1 N (oK w x p v) (by rw [List.length_map];have:=oM x p l;lia) f2 f3 f4 fun h' hn B=>?_)
 exact S.turn e2 B (Iw hg S e2 w r rv hn B) (s.toks+1+1)
end
section
variable{τ:T}{g:G τ}{n:Nat}{env:Env}{m:Loc}{H:AH}{Q:PV→AH→Prop}
inductive Ux{τ:T}(g:G τ)(s:Shared)(H:AH)(Q:PV→AH→Prop)(r:Result)(s':Shared):Prop
 |mk (v:Value) (e:r = .ok (.ret v)) (x:Y5 g s H Q v s')
noncomputable def Cl{τ:T}(g:G τ)(n:Nat)(p:PV)(l:List PV)(H:AH)(Q:PV→AH→Prop):Prop:=
 ∀A s v vs,K1 n A→m9 g s H→Rep g.tab s.heap H p v→j7 g.tab s.heap H l vs→W g A (call v vs) s H Q
theorem Cl.mono{p:PV}{l:List PV}{Q':PV→AH→Prop}(h:Cl g n p l H Q)(k:∀p H',Q p H'→Q' p H'):Cl g n p l H Q':=
 fun A s v vs R S a b=>wpAny_mono (h A s v vs R S a b) (fun u s' ⟨p,H',x,y,z,q⟩=>⟨p,H',x,y,z,k p H' q⟩) fun O O x=>x
theorem Cl.call{p:PV}{l:List PV}(h:Cl g n p l H Q){A:Around}{s:Shared}{v:Value}{vs:List Value}(R:K1 n A)(S:m9 g s H)(a:Rep g.tab s.heap H p v)(b:j7 g.tab s.heap H l vs):
  W g A (call v vs) s H Q:=h A s v vs R S a b
theorem Cl.b1{x:String}{p:PV}(h:∀A s v,K1 n A→m9 g s H→Rep g.tab s.heap H p v→W g A (PySem.call (.builtin x) [v]) s H Q):Cl g n (.blt x) [p] H Q:=fun A s v vs R S rv rl=>by
 obtain⟨rfl,_⟩:=rv
 obtain⟨v1,r1,rfl,h1,rfl⟩:=rl
 exact h A s v1 R S h1
theorem Cl.b2{x:String}{p q:PV}(h:∀A s v u,K1 n A→m9 g s H→Rep g.tab s.heap H p v→Rep g.tab s.heap H q u→W g A (PySem.call (.builtin x) [v,u]) s H Q):Cl g n (.blt x) [p,q] H Q:=fun A s v vs R S rv rl=>by
 obtain⟨rfl,_⟩:=rv
 obtain⟨v1,r1,rfl,h1,v2,r2,rfl,h2,rfl⟩:=rl
 exact h A s v1 v2 R S h1 h2
theorem Cl.b3{x:String}{p q r:PV}(h:∀A s v u w,K1 n A→m9 g s H→Rep g.tab s.heap H p v→Rep g.tab s.heap H q u→Rep g.tab s.heap H r w→W g A (PySem.call (.builtin x) [v,u,w]) s H Q):Cl g n (.blt x) [p,q,r] H Q:=fun A s v vs R S rv rl=>by
 obtain⟨rfl,_⟩:=rv
 obtain⟨v1,r1,rfl,h1,v2,r2,rfl,h2,v3,r3,rfl,h3,rfl⟩:=rl
 exact h A s v1 v2 v3 R S h1 h2 h3
theorem Cl.t1{x:String}{p:PV}(h:∀A s v,K1 n A→m9 g s H→Rep g.tab s.heap H p v→W g A (PySem.call (.type x) [v]) s H Q):Cl g n (.typ x) [p] H Q:=fun A s v vs R S rv rl=>by
 cases rv
 obtain⟨v1,r1,rfl,h1,rfl⟩:=rl
 exact h A s v1 R S h1
theorem Cl.t2{x:String}{p q:PV}(h:∀A s v u,K1 n A→m9 g s H→Rep g.tab s.heap H p v→Rep g.tab s.heap H q u→W g A (PySem.call (.type x) [v,u]) s H Q):Cl g n (.typ x) [p,q] H Q:=fun A s v vs R S rv rl=>by
 cases rv
 obtain⟨v1,r1,rfl,h1,v2,r2,rfl,h2,rfl⟩:=rl
 exact h A s v1 v2 R S h1 h2
noncomputable def Dl{τ:T}(g:G τ)(n:Nat)(p:PV)(l:List PV)(H:AH)(Q:PV→AH→Prop):Prop:=
 ∀A s v vs,K1 n A→m9 g s H→Rep g.tab s.heap H p v→j7 g.tab s.heap H l vs→codeAny (model g.prog g.w) A (.call v ⟨vs,[]⟩) (Ux g s H Q) s
theorem Dl.cl{p:PV}{l:List PV}(h:Dl g n p l H Q):Cl g n p l H Q:=fun A s v vs R S a b=>wpAny_call (codeAny_mono (h A s v vs R S a b) fun r s' ⟨u,e,x⟩=>by subst e;exact x)
noncomputable def Plain{τ:T}(g:G τ)(p:PV):Prop := ∀(M:Model) (h:Heap) (H:AH) (v:Value),(∀b o,g.h₀.get? b=some o→h.get? b=some o)→Rep g.tab h H p v→
 ∃k,(k=Keeper.frame∨k=Keeper.machine∨k=Keeper.boundFrame)∧Looks M h (keeperOf v) k
theorem qe{f:Addr}(hg:v8 g)(h:keepIn g.K (.ref f)=true):Plain g (.obj f):=fun M hp H v k r=>by cases r;exact keeps_K h hp (hg.X.keeps k)
theorem vU{x:String}:Plain g (.blt x):=fun M hp H v k r=>by obtain⟨rfl,_⟩:=r;exact⟨.machine,.inr (.inl rfl),.now⟩
theorem Iz{x:String}:Plain g (.typ x):=fun M hp H v k r=>by cases r;exact⟨.machine,.inr (.inl rfl),.now⟩
theorem noStar{pos:Pos}{env:Env}:∀{es:List PySem.Expr},(∀e∈es,bQ e)→((backTo pos (starEach es env)).any (·.1))=false
 | [],_=>rfl
 |e::es,h=>by rw [h e (.head _)];exact noStar fun x hx=>h x (.tail _ hx)
theorem pG{M:Model}{A:Around}{E:Value→Shared→Prop}{s:Shared}{f:Value}{Q:Args→Shared→Prop}(h:wpAny M A (spliced []) (fun vs s'=>Q ⟨vs,[]⟩ s') E s):wpAny M A (evalArgs f true [] []) Q E s:=by
 unfold evalArgs
 show wpAny M A (spliced [] >>= _) Q E s
 refine wpAny_bind (wpAny_mono h (fun vs s' h'=>wpAny_bind (wpAny_pure ?_)) fun O O x=>x)
 refine wpAny_holding ?_
 exact wpAny_bind (wpAny_pure (wpAny_bind (wpAny_pure (wpAny_pure h'))))
theorem bA{pos:Pos}{p:PV}{fv:Value}{fl:List PV}{fs:List Value}{es:List PySem.Expr}{A:Around}{s:Shared}(hg:v8 g)(R:K1 n A)(S:m9 g s H)(F:z9 g env m s.heap H)(hs:∀e∈es,bQ e)
  (hp:Plain g p) (rp:Rep g.tab s.heap H p fv) (rf:j7 g.tab s.heap H fl fs) (h:oJ g n env m H pos es fun l H'=>Cl g n p (fl++l) H' Q):
  W g A (callWith pos fv fs (backTo pos (starEach es env)) []) s H Q:=by
 refine callWith_of (P:=fun hh => ∃H':AH,(∀b o,g.h₀.get? b=some o→hh.get? b=some o)∧Rep g.tab hh H' p fv) (by rw [noStar hs];rfl) (fun hh ⟨H',k,r⟩=>hp _ hh H' fv k r) ?_
 have key:wpAny (model g.prog g.w) A (spliced (backTo pos (starEach es env))) (fun vs s₁=>(∃H':AH,(∀b o,g.h₀.get? b=some o→s₁.heap.get? b=some o)∧Rep g.tab s₁.heap H' p fv)∧
   wpAny (model g.prog g.w) A (call fv (fs++vs) []) (Y5 g s H Q) (fun O O=>False) s₁) (fun O O=>False) s:=
  h.then R S F fun vs s' l H' r S' c F' z q=>⟨⟨H',S'.keep,rp.keeps c.q8⟩,Y5.calm c (q.call R S' (rp.keeps c.q8) (j7.append (j7.keeps c.q8 rf) r))⟩
 cases es with
 |nil=>exact pG key
 |cons e es=>
  have hx:backTo pos (starEach (e::es) env)=(false,eval e env)::backTo pos (starEach es env):=by rw [hs e (.head _) es env];rfl
  rw [hx] at key ⊢
  exact evalArgs_plain key
theorem Ev.call{f:PySem.Expr}{es:List PySem.Expr}{pos:Pos}(hg:v8 g)(hf:eval (.Call f es [] pos) env=(eval f env >>= fun v=>callWith pos v [] (backTo pos (starEach es env)) []))
  (hs:∀e∈es,bQ e) (h:Ev g n env m H f fun p H₁=>Plain g p∧oJ g n env m H₁ pos es fun l H₂=>Cl g n p l H₂ Q):Ev g n env m H (.Call f es [] pos) Q:=fun A s R S F=>by
 rw [hf]
 refine wpAny_bind (h.then R S F fun v s' p H' r S' c F' q=>Y5.calm c ?_)
 exact bA hg R S' F' hs q.1 r (fl:=[]) rfl q.2
inductive MethP{τ:T}(g:G τ)(x:Nat)(k:Addr→Addr→AH→Prop):PV→AH→Prop
 |mk {a C dx:Addr} {l:List (Nat×PV)} {f:Addr} {H:AH} (e1:H a=some (.inst C dx)) (e2:H dx=some (.attrs l)) (e3:τ.meth C x=some f) (e4:l.lookup x=none) (h:k a f H):MethP g x k (.obj a) H
theorem MethP.mono{x:Nat}{k k':Addr→Addr→AH→Prop}{p:PV}{H:AH}(h:MethP g x k p H)(z:∀a f H,k a f H→k' a f H):MethP g x k' p H:=by
 cases h with
 |mk e1 e2 e3 e4 h=>exact .mk e1 e2 e3 e4 (z _ _ _ h)
theorem Ev.meth{o:PySem.Expr}{x:Nat}{es:List PySem.Expr}{apos pos:Pos}(hg:v8 g)(hb:vR o)(hline:(apos.endLine==pos.line)=true)(hlen:es.length<30)(hs:∀e∈es,bQ e)
  (h:Ev g n env m H o (MethP g x fun a f H₁=>oJ g n env m H₁ pos es fun l H₂=>Cl g n (.obj f) (.obj a::l) H₂ Q)):Ev g n env m H (.Call (.Attribute o (g.tab x) apos) es [] pos) Q:=fun A s R S F=>by
 rw [arm_eval_Call,hb]
 refine wpAny_bind (h.then R S F fun v s' p H' r S' c F' q=>Y5.calm c (wpAny_bind (wpAny_standAt ?_)))
 cases q with | @mk a C dx l f H' e1 e2 hm hl q=>?_
 cases r
 obtain⟨od,mA,I,_,hk,r⟩:=Gj S' e1 e2 x
 rw [hl] at r
 obtain⟨f1,f2,f3,f4⟩:=hg.meth C x f hm
 have few:methodCallForm (es.length+([]:List Keyword).length) (backTo pos (starEach es env)) (backToKw pos (keywordEach [] env))=true:=by
  have:(backTo pos (starEach es env)).all (fun y => !y.1)=true:=by
   have:=noStar (pos:=pos) (env:=env) hs
   rw [List.any_eq_false] at this
   rw [List.all_eq_true]
   intro y hy
   have:=this y hy
   simpa using this
  unfold methodCallForm
  rw [this]
  show(true&&true&&decide (es.length+0+0<30))=true
  simp [hlen]
 unfold methodCall
 rw [few]
 refine wpAny_bind (wpAny_holding ?_)
 show wpAny _ _ (getMethod (.ref a) (g.tab x) _) _ _ _
 refine method_fn (hg.X.keeps S'.keep) I (plainGet_of f1).1 (plainGet_of f1).2 f2 (beq_iff_eq.mp f3) (by
  have r':mA (g.tab x)=none:=r
  show Option.map _ (lookIn (g.tab x) od)=_
  rw [hk,r'];rfl) ?_
 refine wpAny_bind ?_
 unfold methodCallPos
 rw [hline]
 refine wpAny_pure ?_
 exact bA hg R S' F' hs (qe hg f4) (rfl:Rep g.tab s'.heap H' (.obj f) (.ref f)) (fl:=[.obj a]) (j7.one (rfl:Rep g.tab s'.heap H' (.obj a) (.ref a))) q
end
inductive Out where
 |next|brk|cont|ret (p:PV)
noncomputable def Wa(tab:Nat→Str)(h:Heap)(H:AH):Out→Flow→Prop
 |.next,f=>f = .next
 |.brk,f=>f = .brk
 |.cont,f=>f = .cont
 |.ret p,f => ∃v,f = .ret v∧Rep tab h H p v
noncomputable def Own(env:Env)(b:Addr):Prop:=b=env.locals∨∃x,env.kindOf x=some .cell∧env.cells.lookup x=some b
inductive Kh{τ:T}(g:G τ)(env:Env)(s:Shared)(H:AH)(Q:Out→Loc→AH→Prop)(f:Flow)(s':Shared):Prop
 |mk (o:Out) (m':Loc) (H':AH) (r:Wa g.tab s'.heap H' o f) (S:m9 g s' H') (F:z9 g env m' s'.heap H') (c:Goes (Own env) s.heap H s'.heap H') (q:Q o m' H')
noncomputable def Ex{τ:T}(g:G τ)(n:Nat)(env:Env)(m:Loc)(H:AH)(ss:List Stmt)(Q:Out→Loc→AH→Prop):Prop:=
 ∀A s,K1 n A→m9 g s H→z9 g env m s.heap H→wpAny (model g.prog g.w) A (execs ss env) (Kh g env s H Q) (fun O O=>False) s
noncomputable def eU{τ:T}(g:G τ)(n:Nat)(env:Env)(m:Loc)(H:AH)(st:Stmt)(Q:Out→Loc→AH→Prop):Prop:=
 ∀A s,K1 n A→m9 g s H→z9 g env m s.heap H→wpAny (model g.prog g.w) A (exec st env) (Kh g env s H Q) (fun O O=>False) s
section
variable{τ:T}{g:G τ}{n:Nat}{env:Env}{m:Loc}{H:AH}
theorem Kh.step{s s₁:Shared}{H₁:AH}{Q:Out→Loc→AH→Prop}(c:Goes (Own env) s.heap H s₁.heap H₁){f:Flow}{s':Shared}(x:Kh g env s₁ H₁ Q f s'):Kh g env s H Q f s':=
 let⟨o,m',H',r,S,F,c',q⟩:=x;⟨o,m',H',r,S,F,c.trans c',q⟩
theorem Goes.own{h h':Heap}{H H':AH}(c:Calm h H h' H'):Goes (Own env) h H h' H':=c.weak fun O z=>z.elim
theorem Ex.nil{Q:Out→Loc→AH→Prop}(q:Q .next m H):Ex g n env m H [] Q:=fun A s R S F=>wpAny_execs_nil ⟨.next,m,H,rfl,S,F,.refl ..,q⟩
theorem Ex.cons{st:Stmt}{rest:List Stmt}{Q:Out→Loc→AH→Prop}(h:eU g n env m H st fun o m' H'=>match o with | .next=>Ex g n env m' H' rest Q|o=>Q o m' H'):Ex g n env m H (st::rest) Q:=fun A s R S F=>by
 refine wpAny_execs_cons (wpAny_mono (h A s R S F) (fun f s' x=>?_) fun O O x=>x.elim)
 obtain⟨o,m',H',r,S',F',c,q⟩:=x
 cases o with
 |next=>cases r;exact wpAny_mono (q A s' R S' F') (fun O O x=>x.step c) fun O O x=>x
 |brk=>cases r;exact⟨.brk,m',H',rfl,S',F',c,q⟩
 |cont=>cases r;exact⟨.cont,m',H',rfl,S',F',c,q⟩
 |ret p=>obtain⟨v,rfl,r⟩:=r;exact⟨.ret p,m',H',⟨v,rfl,r⟩,S',F',c,q⟩
theorem mW{kindOf:Str→Option NameKind}{y:Str}:∀(bs:List (Str×Value)) (m:Str→Option Value),(∀x∈bs,x.1≠y)→bindL kindOf bs m y=m y∧bindC kindOf bs m y=m y
 | [],_,_=>⟨rfl,rfl⟩
 | (x,v)::r,m,h=>by
  have ne:y≠x:=fun e=>h (x,v) (.head _) e.symm
  have ih:=fun m'=>mW (kindOf:=kindOf) (y:=y) r m' fun z hz=>h z (.tail _ hz)
  unfold bindL bindC
  constructor
  ·rw [(ih _).1];split
   ·simp [ne]
   ·rfl
  ·rw [(ih _).2];split
   ·rfl
   ·simp [ne]
theorem xu(tab:Nat→Str)(inj:∀i j,tab i=tab j→i=j){kindOf:Str→Option NameKind}{h:Heap}{H:AH}:∀{ps:List Nat} {l:List PV} {vs:List Value} {x:Nat} {p:PV} (mL mC:Str→Option Value),ps.Nodup→j7 tab h H l vs→(ps.zip l).lookup x=some p→
  ∃v,Rep tab h H p v∧(kindOf (tab x)=some .local→bindL kindOf ((ps.map tab).zip vs) mL (tab x)=some v)∧(kindOf (tab x)≠some .local→bindC kindOf ((ps.map tab).zip vs) mC (tab x)=some v)
 | [],_,_,_,_,_,_,_,_,e=>by simp at e
 |_::_,[],_,_,_,_,_,_,_,e=>by simp at e
 |y::ps,q::l,_,x,p,mL,mC,nd,⟨v,r,e,hq,hr⟩,el=>by
  subst e
  rw [List.zip_cons_cons,List.lookup_cons] at el
  obtain⟨n1,n2⟩:=List.nodup_cons.mp nd
  by_cases hx:x=y
  ·subst hx
   rw [beq_self_eq_true] at el
   cases el
   have nin:∀z∈(ps.map tab).zip r,z.1≠tab x:=by
    intro z hz e
    have:=(List.of_mem_zip hz).1
    obtain⟨i,hi,hi'⟩:=List.mem_map.mp this
    rw [e] at hi'
    exact n1 (inj _ _ hi'▸hi)
   refine⟨v,hq,fun k=>?_,fun k=>?_⟩
   ·show bindL kindOf ((tab x,v)::(ps.map tab).zip r) mL (tab x)=_
    unfold bindL
    rw [(mW _ _ nin).1,if_pos k];simp
   ·show bindC kindOf ((tab x,v)::(ps.map tab).zip r) mC (tab x)=_
    unfold bindC
    rw [(mW _ _ nin).2,if_neg k];simp
  ·have:(x==y)=false:=beq_eq_false_iff_ne.mpr hx
   rw [this] at el
   exact xu tab inj (kindOf:=kindOf) (if kindOf (tab y)=some .local then fun z=>if z=tab y then some v else mL z else mL) (if kindOf (tab y)=some .local then mC else fun z=>if z=tab y then some v else mC z) n2 hr el
noncomputable abbrev IV(Q:PV→AH→Prop)(o:Out)(_:Loc)(H':AH):Prop:=@Out.rec (fun O=>Prop) (Q .none H') False False (fun p=>Q p H') o
theorem Dl.body{f:Addr}{fd:FuncData}{ps:List Nat}{body:List Stmt}{l l':List PV}{Q:PV→AH→Prop}(hg:v8 g)(hf:g.fn f=some ⟨fd,ps⟩)(hb:fd.body = .stmts body)(hcl:fd.closure=[])
  (hco:fd.scope.isCoroutine=false) (hgen:fd.scope.isGenerator=false) (hk:fd.scope.kind = .function) (hgl:fd.globals=mainGlobals) (hbl:fd.builtins=builtinsNs) (nd:ps.Nodup)
  (hkind:∀x∈ps,fd.scope.names.lookup (g.tab x)=some .local∨fd.scope.names.lookup (g.tab x)=some .cell)
  (hlen:l'.length≤ps.length)
  (hbind:∀s vs,m9 g s H→j7 g.tab s.heap H l vs→∃vs',j7 g.tab s.heap H l' vs'∧BindsTo s fd ⟨vs,[]⟩ ((ps.map g.tab).zip vs'))
  (h:∀env,env.scope=fd.scope→env.code=fd.code→env.qual=fd.qualname ++ ".<locals>."→Ex g n env (ps.zip l') H body (IV Q)):Dl g (n+1) (.obj f) l H Q:=fun A s v vs R S rv rl=>by
 cases rv
 obtain⟨oc,od,osl,hK,_,hcd⟩:=hg.fn f _ hf
 have X:=hg.X.keeps S.keep
 obtain⟨vs',rl',hbd⟩:=hbind s vs S rl
 refine codeAny_call_function (by have:=R.depth;exact Mine.Internal.rm3 ‹_›) (X _ _ hK) rfl hco hgen hb (codeRec_of X hcd) (hbd _ _ _ _ ?_)
 rw [hcl]
 refine wpAny_newFunctionEnv_cells hk (fun x hx=>?_) fun env he s₁ x=>?_
 ·obtain⟨y,hy⟩:=x
  obtain⟨i,hi,rfl⟩:=List.mem_map.mp (List.of_mem_zip hx).1
  rcases hkind i hi with k|k
  ·exact .inl k
  ·exact .inr ⟨k,cellsFrom_some _ _ _ (.inl k)⟩
 have hL:env.locals=s.heap.objs.size:=by rw [he];rfl
 have hsc:env.scope=fd.scope:=by rw [he];rfl
 have hcs:env.cells=cellsFrom (s.heap.objs.size+1) fd.scope.names []:=by rw [he];rfl
 obtain⟨h₁,tk,hs₁,hk₁⟩:=x.done
 have C0:Calm s.heap H h₁ H:=⟨fun b o e O O=>hk₁ b o e,fun O a b=>absurd a b,fun b o e=>⟨o,hk₁ b o e⟩,⟨fun b o O O e O O=>hk₁ b o e,fun b o O O e O O q=>⟨hk₁ b o e,q⟩,fun b o O e O O=>hk₁ b o e⟩⟩
 have S₁:m9 g s₁ H:=by rw [hs₁];exact⟨fun b o e=>hk₁ b o (S.keep b o e),S.fresh,fun a o e=>(S.obj a o e).keeps C0.q8 fun x e=>hk₁ _ x e,S.gens,S.os⟩
 have big:∀c,s.heap.objs.size≤c→H c=none∧g.h₀.get? c=none:=fun c hc=>by
  constructor
  ·exact S.off hc
  ·cases e:g.h₀.get? c with
   |none=>rfl
   |some o=>exact absurd (Nat.lt_of_lt_of_le (Heap.lt_size (S.keep c o e)) hc) (Nat.lt_irrefl _)
 have cb:∀y c,env.cells.lookup y=some c→s.heap.objs.size≤c:=fun y c e=>by
  have:=x.above y c (mem_of_lookup e)
  rw [hL] at this;exact Nat.le_of_lt this
 have F₁:z9 g env (ps.zip l') s₁.heap H:=by
  have kd:∀z p,(ps.zip l').lookup z=some p→env.kindOf (g.tab z)=some .local∨env.kindOf (g.tab z)=some .cell:=fun z p e=>by
   have:z∈ps:=by
    have:∀(ps:List Nat) (l:List PV),(ps.zip l).lookup z=some p→z∈ps:=by
     intro ps
     induction ps with
     |nil=>intro l e;simp at e
     |cons y ps ih=>
      intro l e
      cases l with
      |nil=>simp at e
      |cons q l=>
       rw [List.zip_cons_cons,List.lookup_cons] at e
       by_cases hz:z=y
       ·rw [hz];exact .head _
       ·have:(z==y)=false:=beq_eq_false_iff_ne.mpr hz
        rw [this] at e;exact .tail _ (ih l e)
    exact this ps l' e
   unfold Env.kindOf;rw [hsc]
   exact hkind z this
  refine⟨by rw [hsc];exact hk,by rw [he];exact hgl,by rw [he];exact hbl,⟨_,x.toInCall.ns,fun z p e k=>?_⟩,fun z p e k=>?_,fun z p e=>(kd z p e).imp id .inl,hL▸(big _ (Nat.le_refl _)).1,hL▸(big _ (Nat.le_refl _)).2,fun y c e=>?_,fun y z c e1 e2=>?_,fun y k=>?_⟩
  ·obtain⟨v,r,b,_⟩:=xu g.tab hg.inj (kindOf:=env.kindOf) (fun O=>none) (fun O=>none) nd rl' e
   exact⟨v,b k,by rw [hs₁];exact r.keeps C0.q8⟩
  ·obtain⟨v,r,_,b⟩:=xu g.tab hg.inj (kindOf:=env.kindOf) (fun O=>none) (fun O=>none) nd rl' e
   have kc:env.kindOf (g.tab z)=some .cell:=by
    rcases kd z p e with q|q
    ·rcases k with k|k<;>rw [q] at k<;>cases k
    ·exact q
   obtain⟨c,hc⟩:=Option.isSome_iff_exists.mp (cellsFrom_some (x:=g.tab z) fd.scope.names (s.heap.objs.size+1) [] (.inl (by have:=kc;unfold Env.kindOf at this;rwa [hsc] at this)))
   have:=x.cell (g.tab z) c (by rw [hcs];exact hc)
   rw [b (by rw [kc];simp)] at this
   exact⟨c,v,by rw [hcs];exact hc,this,by rw [hs₁];exact r.keeps C0.q8⟩
  ·have:=big c (cb y c e)
   exact⟨this.1,this.2,_,x.cell y c e⟩
  ·exact name_of_addr x.apart (mem_of_lookup e1) (mem_of_lookup e2)
  ·obtain⟨c,hc⟩:=Option.isSome_iff_exists.mp (cellsFrom_some (x:=y) fd.scope.names (s.heap.objs.size+1) [] (.inl (by have:=k;unfold Env.kindOf at this;rwa [hsc] at this)))
   exact⟨c,by rw [hcs];exact hc⟩
 refine⟨(hg.nolimit.keeps S.keep).keeps x.toInCall.keep,codeAny_func ?_⟩
 have R₁:K1 n (A.deeper env):=⟨R.handled,by have:=R.depth;show A.depth+1+2*n<_;lia,by have:=R.units;show A.units+3+20*n+100<_;exact Mine.Internal.rm2 ‹_›⟩
 refine wpAny_mono (h env hsc (by rw [he];rfl) (by rw [he];rfl) (A.deeper env) s₁ R₁ S₁ F₁) (fun fl s' z=>?_) fun O O z=>z.elim
 obtain⟨o,m',H',r,S',F',c,q⟩:=z
 have C:Calm s.heap H s'.heap H':=by
  refine⟨fun b ob e qn O=>?_,fun b qn z=>?_,fun b ob e=>c.ex b ob (by rw [hs₁];exact hk₁ b ob e),?_⟩
  ·refine c.keep b ob (by rw [hs₁];exact hk₁ b ob e) qn fun ow=>?_
   rcases ow with ow|⟨y,_,hy⟩
   ·rw [ow,hL] at e;exact absurd (Heap.lt_size e) (Nat.lt_irrefl _)
   ·exact absurd (Nat.lt_of_lt_of_le (Heap.lt_size e) (cb y b hy)) (Nat.lt_irrefl _)
  ·have:=c.new b qn z
   cases e:s.heap.get? b with
   |none=>rfl
   |some ob=>rw [hs₁] at this;rw [hk₁ b ob e] at this;cases this
  ·have:=c.q8
   rw [hs₁] at this
   exact C0.q8.trans this
 cases o with
 |next=>cases r;exact⟨.none,rfl,.none,H',rfl,S',C,q⟩
 |brk=>exact q.elim
 |cont=>exact q.elim
 |ret p=>obtain⟨v,rfl,r⟩:=r;exact⟨v,rfl,p,H',r,S',C,q⟩
end
section
variable{τ:T}{g:G τ}{n:Nat}{env:Env}{m:Loc}{H:AH}
theorem jN{s:Shared}{h':Heap}{c:Addr}{x:Obj}(S:m9 g s H)(e:s.heap.get? c=some x)(nd:(∀xs k,x.data≠.seq xs k)∧∀xs,x.data = .fields xs→¬Kr x.cls)(hc:H c=none)(hb:g.h₀.get? c=none)(B:Heap.SameBut c s.heap h')
  (ex:∃y,h'.get? c=some y) (t:Nat):m9 g {s with heap:=h',toks:=t} H∧Goes (fun b=>b=c) s.heap H h' H:=by
 have P:N7 s.heap H h' H:=by
  refine⟨fun b o xs k q d cc=>?_,fun b o xs k q d cc z=>⟨?_,z⟩,fun b o xs q d cc=>?_⟩
  all_goals
   refine(B.2 b fun z=>?_).trans q
   subst z
   rw [e] at q;cases q;first|exact nd.1 _ _ d|exact nd.2 _ d cc
 refine⟨⟨fun b o q=>(B.2 b fun z=>?_).trans (S.keep b o q),S.fresh,fun a o q=>(S.obj a o q).keeps P fun y z=>(B.2 a fun w=>?_).trans z,S.gens,S.os⟩,fun b o q O f=>(B.2 b f).trans q,fun O a b=>absurd a b,fun b o q=>?_,P⟩
 ·subst z;rw [hb] at q;cases q
 ·subst w;rw [hc] at q;cases q
 ·by_cases z:b=c
  ·subst z;exact ex
  ·exact⟨o,(B.2 b z).trans q⟩
theorem gk{A:Around}{s:Shared}{x:Nat}{p:PV}{v:Value}(hg:v8 g)(S:m9 g s H)(F:z9 g env m s.heap H)(k:env.kindOf (g.tab x)=some .local)(r:Rep g.tab s.heap H p v):
  wpAny (model g.prog g.w) A (storeName env (g.tab x) v) (fun O s'=>m9 g s' H∧z9 g env (j8 x p m) s'.heap H∧Goes (fun b=>b=env.locals) s.heap H s'.heap H) (fun O O=>False) s:=by
 have inj:∀y,g.tab y=g.tab x→y=x:=fun y e=>hg.inj _ _ e
 obtain⟨mv,N,rl⟩:=F.ns
 obtain⟨oL,es,ep,eL,dL,_⟩:=id N
 refine wpAny_storeName_local k N (fun h' hn B=>?_) (by rw [F.kind];rfl)
 obtain⟨oL',es',ep',eL',_⟩:=id hn
 obtain⟨S',c⟩:=jN S eL ⟨fun xs k e=>(by rw [dL] at e;cases e),fun xs e=>(by rw [dL] at e;cases e)⟩ F.Iv F.Qy B ⟨_,eL'⟩ (s.toks+1)
 have cc:∀c v,s.heap.IsCell c v→c≠env.locals:=fun c v ⟨o,e,d⟩ z=>by rw [z,eL] at e;cases e;rw [dL] at d;cases d
 refine⟨S',⟨F.kind,F.globs,F.Ku,⟨_,hn,fun y q e ky=>?_⟩,fun y q e ky=>?_,fun y q e=>?_,F.Iv,F.Qy,fun y d e=>?_,F.inj,F.has⟩,c⟩
 ·rw [s6] at e
  by_cases z:y=x
  ·subst z;simp only [if_true] at e ⊢;cases e;exact⟨v,rfl,r.keeps c.q8⟩
  ·simp only [z,if_false] at e
   obtain⟨u,a,b⟩:=rl y q e ky
   exact⟨u,by rw [if_neg fun w=>z (inj y w)];exact a,b.keeps c.q8⟩
 ·rw [s6] at e
  by_cases z:y=x
  ·subst z;rcases ky with ky|ky<;>rw [k] at ky<;>cases ky
  ·simp only [z,if_false] at e
   obtain⟨d,u,a,b,w⟩:=F.cell y q e ky
   exact⟨d,u,a,b.sameBut B (cc _ _ b),w.keeps c.q8⟩
 ·rw [s6] at e
  by_cases z:y=x
  ·subst z;exact .inl k
  ·simp only [z,if_false] at e;exact F.kinds y q e
 ·obtain⟨a,b,u,w⟩:=F.cells y d e
  exact⟨a,b,u,w.sameBut B (cc _ _ w)⟩
theorem zL{A:Around}{s:Shared}{x:Nat}{p:PV}{v:Value}(hg:v8 g)(S:m9 g s H)(F:z9 g env m s.heap H)(k:env.kindOf (g.tab x)=some .local∨env.kindOf (g.tab x)=some .cell)(r:Rep g.tab s.heap H p v):
  wpAny (model g.prog g.w) A (storeName env (g.tab x) v) (fun O s'=>m9 g s' H∧z9 g env (j8 x p m) s'.heap H∧Goes (Own env) s.heap H s'.heap H) (fun O O=>False) s:=by
 have inj:∀y,g.tab y=g.tab x→y=x:=fun y e=>hg.inj _ _ e
 obtain⟨mv,N,rl⟩:=F.ns
 rcases k with k|k
 ·exact wpAny_mono (gk hg S F k r) (fun O O ⟨a,b,c⟩=>⟨a,b,c.weak fun O z=>.inl z⟩) fun O O x=>x
 ·obtain⟨d,hd⟩:=F.has _ k
  obtain⟨a,b,u,w⟩:=F.cells _ _ hd
  obtain⟨oc,ec,dc⟩:=id w
  refine wpAny_storeName_cell F.kind k hd w fun h' hv B=>?_
  obtain⟨oc',ec',_⟩:=id hv
  obtain⟨S',c⟩:=jN S ec ⟨fun xs k e=>(by rw [dc] at e;cases e),fun xs e=>(by rw [dc] at e;cases e)⟩ a b B ⟨_,ec'⟩ s.toks
  have nL:env.locals≠d:=fun z=>by
   obtain⟨oL,es,ep,eL,dL,_⟩:=id N
   rw [z,ec] at eL;cases eL;rw [dc] at dL;cases dL
  refine⟨S',⟨F.kind,F.globs,F.Ku,⟨_,N.sameBut B nL,fun y q e ky=>?_⟩,fun y q e ky=>?_,fun y q e=>?_,F.Iv,F.Qy,fun y d' e=>?_,F.inj,F.has⟩,c.weak fun b z=>.inr ⟨_,k,by rw [z];exact hd⟩⟩
  ·rw [s6] at e
   by_cases z:y=x
   ·subst z;rw [k] at ky;cases ky
   ·simp only [z,if_false] at e
    obtain⟨u,a,b⟩:=rl y q e ky
    exact⟨u,a,b.keeps c.q8⟩
  ·rw [s6] at e
   by_cases z:y=x
   ·subst z;simp only [if_true] at e;cases e;exact⟨d,v,hd,hv,r.keeps c.q8⟩
   ·simp only [z,if_false] at e
    obtain⟨d',u',a',b',w'⟩:=F.cell y q e ky
    refine⟨d',u',a',b'.sameBut B fun zz=>?_,w'.keeps c.q8⟩
    subst zz
    exact z (inj y (F.inj _ _ _ a' hd))
  ·rw [s6] at e
   by_cases z:y=x
   ·subst z;exact .inr (.inl k)
   ·simp only [z,if_false] at e;exact F.kinds y q e
  ·obtain⟨a',b',u',w'⟩:=F.cells y d' e
   by_cases z:d'=d
   ·subst z;exact⟨a',b',_,hv⟩
   ·exact⟨a',b',u',w'.sameBut B z⟩
theorem eU.ret{e:PySem.Expr}{pos:Pos}{Q:Out→Loc→AH→Prop}(h:Ev g n env m H e fun p H'=>Q (.ret p) m H'):eU g n env m H (.Return (some e) pos) Q:=fun A s R S F=>
 wpAny_Return_some (h.then R S F fun v s' p H' r S' c F' q=>⟨.ret p,m,H',⟨v,rfl,r⟩,S',F',c.own,q⟩)
theorem eU.QB{pos:Pos}{Q:Out→Loc→AH→Prop}(q:Q (.ret .none) m H):eU g n env m H (.Return none pos) Q:=fun A s R S F=>
 wpAny_Return_none ⟨.ret .none,m,H,⟨.none,rfl,rfl⟩,S,F,.refl ..,q⟩
theorem eU.expr{e:PySem.Expr}{pos:Pos}{Q:Out→Loc→AH→Prop}(hi:interactive env=false)(hs:swapsWith e none pos.line env=pure false)(h:Ev g n env m H e fun O H'=>Q .next m H'):eU g n env m H (.Expr e pos) Q:=fun A s R S F=>
 wpAny_Expr_any (h.then R S F fun v s' p H' r S' c F' q=>⟨.next,m,H',rfl,S',F',c.own,q⟩) hi hs
inductive Zc{τ:T}(g:G τ)(s:Shared)(H:AH)(Q:Bool→AH→Prop)(b:Bool)(s':Shared):Prop
 |mk (H':AH) (S:m9 g s' H') (c:Calm s.heap H s'.heap H') (q:Q b H')
noncomputable def Ts{τ:T}(g:G τ)(n:Nat)(env:Env)(m:Loc)(H:AH)(e:PySem.Expr)(Q:Bool→AH→Prop):Prop:=
 ∀A s,K1 n A→m9 g s H→z9 g env m s.heap H→wpAny (model g.prog g.w) A (isTrue e env (eval e env)) (Zc g s H Q) (fun O O=>False) s
theorem Ts.then{e:PySem.Expr}{Q:Bool→AH→Prop}(h:Ts g n env m H e Q){A:Around}{s:Shared}{P:Bool→Shared→Prop}{E:Value→Shared→Prop}(R:K1 n A)(S:m9 g s H)(F:z9 g env m s.heap H)
  (k:∀b s' H',m9 g s' H'→Calm s.heap H s'.heap H'→z9 g env m s'.heap H'→Q b H'→P b s'):wpAny (model g.prog g.w) A (isTrue e env (eval e env)) P E s:=
 wpAny_mono (h A s R S F) (fun b s' ⟨H',S',c,q⟩=>k b s' H' S' c (F.goes c) q) fun O O x=>x.elim
theorem Zc.step{s s₁:Shared}{H₁:AH}{Q:Bool→AH→Prop}(c:Calm s.heap H s₁.heap H₁){b:Bool}{s':Shared}(x:Zc g s₁ H₁ Q b s'):Zc g s H Q b s':=
 let⟨H',S,c',q⟩:=x;⟨H',S,c.trans c',q⟩
theorem eU.iff{t:PySem.Expr}{a b:List Stmt}{pos:Pos}{Q:Out→Loc→AH→Prop}(h:Ts g n env m H t fun c H'=>if c then Ex g n env m H' a Q else Ex g n env m H' b Q):eU g n env m H (.If t a b pos) Q:=fun A s R S F=>by
 refine wpAny_If (h.then R S F fun c s' H' S' z F' q=>?_)
 cases c with
 |true=>exact wpAny_mono (q A s' R S' F') (fun O O x=>x.step z.own) fun O O x=>x
 |false=>exact wpAny_mono (q A s' R S' F') (fun O O x=>x.step z.own) fun O O x=>x
theorem Ev.ifx{t a b:PySem.Expr}{pos:Pos}{Q:PV→AH→Prop}(h:Ts g n env m H t fun c H'=>if c then Ev g n env m H' a Q else Ev g n env m H' b Q):Ev g n env m H (.IfExp t a b pos) Q:=fun A s R S F=>by
 refine wpAny_IfExp (h.then R S F fun c s' H' S' z F' q=>?_)
 cases c with
 |true=>exact Y5.calm z (q A s' R S' F')
 |false=>exact Y5.calm z (q A s' R S' F')
theorem Ts.not{e:PySem.Expr}{pos:Pos}{Q:Bool→AH→Prop}(h:Ts g n env m H e fun b H'=>Q (!b) H'):Ts g n env m H (.UnaryOp .Not e pos) Q:=fun A s R S F=>
 isTrue_not (h.then R S F fun b s' H' S' c F' q=>⟨H',S',c,q⟩)
theorem Ts.Wb{pos:Pos}{Q:Bool→AH→Prop}(q:Q true H):Ts g n env m H (.BoolOp .And [] pos) Q:=fun A s R S F=>isTrue_and_nil ⟨H,S,.refl ..,q⟩
theorem Ts.Zd{pos:Pos}{Q:Bool→AH→Prop}(q:Q false H):Ts g n env m H (.BoolOp .Or [] pos) Q:=fun A s R S F=>isTrue_or_nil ⟨H,S,.refl ..,q⟩
theorem Ts.and{e:PySem.Expr}{es:List PySem.Expr}{pos:Pos}{Q:Bool→AH→Prop}(h:Ts g n env m H e fun b H'=>if b then Ts g n env m H' (.BoolOp .And es pos) Q else Q false H'):Ts g n env m H (.BoolOp .And (e::es) pos) Q:=fun A s R S F=>by
 refine isTrue_and (h.then R S F fun b s' H' S' c F' q=>?_)
 cases b with
 |true=>exact wpAny_mono (q A s' R S' F') (fun O O x=>x.step c) fun O O x=>x
 |false=>exact⟨H',S',c,q⟩
theorem Ts.or{e:PySem.Expr}{es:List PySem.Expr}{pos:Pos}{Q:Bool→AH→Prop}(h:Ts g n env m H e fun b H'=>if b then Q true H' else Ts g n env m H' (.BoolOp .Or es pos) Q):Ts g n env m H (.BoolOp .Or (e::es) pos) Q:=fun A s R S F=>by
 refine isTrue_or (h.then R S F fun b s' H' S' c F' q=>?_)
 cases b with
 |true=>exact⟨H',S',c,q⟩
 |false=>exact wpAny_mono (q A s' R S' F') (fun O O x=>x.step c) fun O O x=>x
end
end Mine.Internal
namespace Mine.Internal
open PySem PySem.W PySem.Calls PyProof.Rows PySem.SeqAt
noncomputable def PV.isD:PV→Bool:=PV.rec (motive_1:=fun O=>Bool) (motive_2:=fun O=>Bool) true (fun O=>true) (fun O=>true) (fun O=>true) (fun O b=>b) (fun O b=>b) (fun O=>false) (fun O=>false) (fun O=>false) (fun O O=>false) true fun O O a b=>a&&b
noncomputable def PV.eV:List PV→Bool:=PV.rec_1 (motive_1:=fun O=>Bool) (motive_2:=fun O=>Bool) true (fun O=>true) (fun O=>true) (fun O=>true) (fun O b=>b) (fun O b=>b) (fun O=>false) (fun O=>false) (fun O=>false) (fun O O=>false) true fun O O a b=>a&&b
noncomputable def PV.toD(tab:Nat→Str):PV→PyData:=PV.rec (motive_1:=fun O=>PyData) (motive_2:=fun O=>List PyData) .none .bool .int (fun n=>.str (tab n)) (fun O=>.tuple) (fun O=>.list) (fun O=>.none) (fun O=>.none) (fun O=>.none) (fun O O=>.none) [] fun O O a b=>a::b
noncomputable def PV.mX(tab:Nat→Str):List PV→List PyData:=PV.rec_1 (motive_1:=fun O=>PyData) (motive_2:=fun O=>List PyData) .none .bool .int (fun n=>.str (tab n)) (fun O=>.tuple) (fun O=>.list) (fun O=>.none) (fun O=>.none) (fun O=>.none) (fun O O=>.none) [] fun O O a b=>a::b
noncomputable def PV.depth:PV→Nat:=PV.rec (motive_1:=fun O=>Nat) (motive_2:=fun O=>Nat) 0 (fun O=>0) (fun O=>0) (fun O=>0) (fun O n=>n+1) (fun O n=>n+1) (fun O=>0) (fun O=>0) (fun O=>0) (fun O O=>0) 0 fun O O a b=>max a b
noncomputable def PV.depths:List PV→Nat:=PV.rec_1 (motive_1:=fun O=>Nat) (motive_2:=fun O=>Nat) 0 (fun O=>0) (fun O=>0) (fun O=>0) (fun O n=>n+1) (fun O n=>n+1) (fun O=>0) (fun O=>0) (fun O=>0) (fun O O=>0) 0 fun O O a b=>max a b
noncomputable def nIs:PV→Bool
 |.none=>true
 |_=>false
noncomputable def bIs(a:Bool):PV→Bool
 |.bool b=>a==b
 |.int j=>(if a then 1 else 0)==j
 |_=>false
noncomputable def iIs(i:Int):PV→Bool
 |.bool b=>i==(if b then 1 else 0)
 |.int j=>i==j
 |_=>false
noncomputable def sIs(m:Nat):PV→Bool
 |.str n=>Nat.beq m n
 |_=>false
noncomputable def tIs(f:List PV→Bool):PV→Bool
 |.tup l=>f l
 |_=>false
noncomputable def lIs(f:List PV→Bool):PV→Bool
 |.lst l=>f l
 |_=>false
noncomputable def PV.eqv:PV→PV→Bool:=PV.rec (motive_1:=fun O=>PV→Bool) (motive_2:=fun O=>List PV→Bool) nIs bIs iIs sIs (fun O=>tIs) (fun O=>lIs) (fun O O=>false) (fun O O=>false) (fun O O=>false) (fun O O O=>false) List.isEmpty fun O O=>Kq
noncomputable def PV.eqvs:List PV→List PV→Bool:=PV.rec_1 (motive_1:=fun O=>PV→Bool) (motive_2:=fun O=>List PV→Bool) nIs bIs iIs sIs (fun O=>tIs) (fun O=>lIs) (fun O O=>false) (fun O O=>false) (fun O O=>false) (fun O O O=>false) List.isEmpty fun O O=>Kq
theorem gn(tab:Nat→Str):∀p:PV,(p.toD tab).depth=p.depth:=
 PV.rec (motive_1:=fun p=>(p.toD tab).depth=p.depth) (motive_2:=fun l=>PyData.depthAll (PV.mX tab l)=PV.depths l) rfl (fun O=>rfl) (fun O=>rfl) (fun O=>rfl) (fun O e=>congrArg (·+ 1) e) (fun O e=>congrArg (·+ 1) e) (fun O=>rfl) (fun O=>rfl) (fun O=>rfl) (fun O O=>rfl)
  rfl fun O O a b=>congr (congrArg max a) b
theorem Ds(tab:Nat→Str)(l:List PV):PyData.depthAll (PV.mX tab l)=PV.depths l:=Nat.succ.inj (gn tab (.tup l))
theorem Z1{tab:Nat→Str}(h:∀x,PyData.strOk (tab x)=true):∀p:PV,(p.toD tab).canLay0=true:=
 PV.rec (motive_1:=fun p=>(p.toD tab).canLay0=true) (motive_2:=fun l=>PyData.canLayAll0 (PV.mX tab l)=true) rfl (fun O=>rfl) (fun O=>rfl) h (fun O e=>e) (fun O e=>e) (fun O=>rfl) (fun O=>rfl) (fun O=>rfl) (fun O O=>rfl)
  rfl fun O O a b=>Bool.and_eq_true_iff.mpr ⟨a,b⟩
theorem jO{tab:Nat→Str}(h:∀x,PyData.strOk (tab x)=true)(l:List PV):PyData.canLayAll0 (PV.mX tab l)=true:=Z1 h (.tup l)
noncomputable abbrev EqD(tab:Nat→Str)(p:PV):Prop := ∀q,p.isD=true→q.isD=true→PyData.eqv (p.toD tab) (q.toD tab)=p.eqv q
noncomputable abbrev ai8(tab:Nat→Str)(l:List PV):Prop := ∀k,PV.eV l=true→PV.eV k=true→PyData.eqvAll (PV.mX tab l) (PV.mX tab k)=PV.eqvs l k
section
variable{tab:Nat→Str}(inj:∀i j,tab i=tab j→i=j)
include inj
theorem QC(m n:Nat):(tab m==tab n)=Nat.beq m n:=by
 cases e:Nat.beq m n with
 |false=>exact beq_eq_false_iff_ne.mpr fun z=>absurd (inj _ _ z) (Nat.ne_of_beq_eq_false e)
 |true=>exact beq_iff_eq.mpr (congrArg tab (Nat.eq_of_beq_eq_true e))
theorem xG:∀p,EqD tab p:=
 PV.rec (motive_1:=EqD tab) (motive_2:=ai8 tab) (fun q O b=>by cases q<;>first|rfl|cases b) (fun O q O b=>by cases q<;>first|rfl|cases b) (fun O q O b=>by cases q<;>first|rfl|cases b)
  (fun m q O b=>by
   cases q with
   |str n=>exact QC inj m n
   |_=>first|rfl|cases b)
  (fun l z q a b=>by
   cases q with
   |tup k=>exact z k a b
   |_=>first|rfl|cases b)
  (fun l z q a b=>by
   cases q with
   |lst k=>exact z k a b
   |_=>first|rfl|cases b)
  (fun O O a=>nomatch (show false=true from a)) (fun O O a=>nomatch (show false=true from a)) (fun O O a=>nomatch (show false=true from a)) (fun O O O a=>nomatch (show false=true from a))
  (fun k O O=>by cases k<;>rfl) fun p l x y k a b=>by
   cases k with
   |nil=>rfl
   |cons q k=>exact congr (congrArg and (x q (Bool.and_eq_true_iff.mp a).1 (Bool.and_eq_true_iff.mp b).1)) (y k (Bool.and_eq_true_iff.mp a).2 (Bool.and_eq_true_iff.mp b).2)
theorem Gk{p:PV}(hp:p.isD=true):∀l:List PV,PV.eV l=true→(PV.mX tab l).any (fun y=>PyData.eqv y (p.toD tab))=l.any fun y=>y.eqv p
 | [],_=>rfl
 |q::l,a=>congr (congrArg or (xG inj q p (Bool.and_eq_true_iff.mp a).1 hp)) (Gk hp l (Bool.and_eq_true_iff.mp a).2)
end
noncomputable abbrev RdP(tab:Nat→Str)(h:Heap)(H:AH)(p:PV):Prop := ∀v,p.isD=true→Rep tab h H p v→∃as,Reads h v (p.toD tab) as
noncomputable abbrev RdL(tab:Nat→Str)(h:Heap)(H:AH)(l:List PV):Prop := ∀vs,PV.eV l=true→j7 tab h H l vs→∃as,ReadsAll h vs (PV.mX tab l) as
section
variable{tab:Nat→Str}{h:Heap}{H:AH}
theorem Wc{l:List PV}(z:RdL tab h H l):RdP tab h H (.tup l):=fun v d r=>by
 obtain⟨a,vs,k,e,o,r⟩:=r
 subst e
 exact(z vs d r).imp fun as z=>.tuple o rfl rfl z
theorem Wd{l:List PV}(z:RdL tab h H l):RdP tab h H (.lst l):=fun v d r=>by
 obtain⟨a,vs,k,e,o,_,r⟩:=r
 subst e
 exact(z vs d r).elim fun as z=>⟨_,.list o rfl rfl z⟩
theorem xH{p:PV}{l:List PV}{q:PV}{k:List PV}(x:∀v,q.isD=true→Rep tab h H p v→∃as,Reads h v (q.toD tab) as)(y:∀vs,PV.eV k=true→j7 tab h H l vs→∃as,ReadsAll h vs (PV.mX tab k) as):∀vs,PV.eV (q::k)=true→j7 tab h H (p::l) vs→∃as,ReadsAll h vs (PV.mX tab (q::k)) as:=fun vs d r=>by
 obtain⟨v,r,e,u,z⟩:=r
 subst e
 have d':=Bool.and_eq_true_iff.mp d
 exact(x v d'.1 u).elim fun as x=>(y r d'.2 z).elim fun bs y=>⟨_,.cons x y⟩
theorem Dt{l:List PV}(e:l=[]):∀vs,PV.eV l=true→j7 tab h H [] vs→∃as,ReadsAll h vs (PV.mX tab l) as:=fun vs O r=>by subst e;cases r;exact⟨_,.nil⟩
theorem au(p:PV):RdP tab h H p:=
 PV.rec (motive_1:=RdP tab h H) (motive_2:=RdL tab h H) (fun v O r=>by cases r;exact⟨_,.none⟩) (fun b v O r=>by cases r;exact⟨_,.bool b⟩) (fun i v O r=>r.elim fun t e=>e▸⟨_,.int i t⟩) (fun n v O r=>r.elim fun t e=>e▸⟨_,.str _ t⟩)
  (fun O=>Wc) (fun O=>Wd) (fun O O d=>nomatch (show false=true from d)) (fun O O d=>nomatch (show false=true from d)) (fun O O d=>nomatch (show false=true from d)) (fun O O O d=>nomatch (show false=true from d)) (Dt rfl) (fun O O x y=>xH x y) p
theorem zM(l:List PV):RdL tab h H l:=by
 induction l with
 |nil=>exact Dt rfl
 |cons p l ih=>exact xH (au p) ih
end
mutual
noncomputable def res(H:AH):PV→PV
 |.obj a=>match H a with
  |some (.list l)=>.lst l
  |_=>.obj a
 |.tup l=>.tup (uV H l)
 |.none=>.none | .bool b=>.bool b | .int i=>.int i | .str n=>.str n | .lst l=>.lst l | .blt n=>.blt n | .typ n=>.typ n | .rng a b=>.rng a b
noncomputable def uV(H:AH):List PV→List PV
 | []=>[]
 |p::l=>res H p::uV H l
end
section
variable{τ:T}{g:G τ}{n:Nat}{env:Env}{m:Loc}{H:AH}
theorem qg(a:Addr):res H (.obj a)=match H a with
  |some (.list l)=>.lst l
  |_=>.obj a:=rfl
noncomputable abbrev RsP(g:G τ)(h:Heap)(H:AH)(p:PV):Prop := ∀v,(res H p).isD=true→Rep g.tab h H p v→∃as,Reads h v ((res H p).toD g.tab) as
noncomputable abbrev RsL(g:G τ)(h:Heap)(H:AH)(l:List PV):Prop := ∀vs,PV.eV (uV H l)=true→j7 g.tab h H l vs→∃as,ReadsAll h vs (PV.mX g.tab (uV H l)) as
theorem Wg{s:Shared}(S:m9 g s H)(a:Addr):RsP g s.heap H (.obj a):=fun v d r=>by
 rw [qg] at d ⊢
 cases e:H a with
 |none=>rw [e] at d;cases d
 |some o=>
  rw [e] at d
  cases o with
  |list l=>
   cases r
   obtain⟨vs,k,e1,r⟩:=S.obj _ _ e
   exact(zM l vs d r).elim fun as z=>⟨_,.list e1 rfl rfl z⟩
  |_=>cases d
theorem Wh{h:Heap}{l:List PV}(z:RsL g h H l):RsP g h H (.tup l):=fun v d r=>by
 obtain⟨a,vs,k,e,o,r⟩:=r
 subst e
 exact(z vs d r).imp fun as z=>.tuple o rfl rfl z
theorem cC{s:Shared}(S:m9 g s H)(p:PV):RsP g s.heap H p:=
 PV.rec (motive_1:=RsP g s.heap H) (motive_2:=RsL g s.heap H) (au .none) (fun b=>au (.bool b)) (fun i=>au (.int i)) (fun n=>au (.str n)) (fun O=>Wh) (fun l O=>au (.lst l)) (Wg S)
  (fun O O d=>nomatch (show false=true from d)) (fun O O d=>nomatch (show false=true from d)) (fun O O O d=>nomatch (show false=true from d)) (Dt rfl) (fun O O x y=>xH x y) p
theorem zN{A:Around}(R:K1 n A){p q:PV}(h:p.depth≤60∨q.depth≤60)(tab:Nat→Str):A.units+min (p.toD tab).depth (q.toD tab).depth<cLine:=by
 rw [gn,gn]
 have:=R.units
 have h1:=Nat.min_le_left p.depth q.depth
 have h2:=Nat.min_le_right p.depth q.depth
 rcases h with h|h<;>lia
noncomputable def zO(H:AH)(p q:PV):Prop:=(res H p).isD=true∧(res H q).isD=true∧((res H q).depth≤60∨(res H p).depth≤60)
theorem Ze{A:Around}{s:Shared}{p q:PV}{u v:Value}{P:Value→Shared→Prop}{E:Value→Shared→Prop}(hg:v8 g)(R:K1 n A)(S:m9 g s H)(ru:Rep g.tab s.heap H p u)(rv:Rep g.tab s.heap H q v)(ok:zO H p q)
  (h:P (.bool ((res H p).eqv (res H q))) s):wpAny (model g.prog g.w) A (compareOp .Eq u v) P E s:=by
 obtain⟨as,a⟩:=cC S _ _ ok.1 ru
 obtain⟨bs,b⟩:=cC S _ _ ok.2.1 rv
 exact compareEq_reads a b (Z1 hg.aq _) (Z1 hg.aq _) (zN R ok.2.2.symm g.tab) (by rw [xG hg.inj _ _ ok.1 ok.2.1];exact h)
theorem Zf{A:Around}{s:Shared}{p q:PV}{u v:Value}{P:Value→Shared→Prop}{E:Value→Shared→Prop}(hg:v8 g)(R:K1 n A)(S:m9 g s H)(ru:Rep g.tab s.heap H p u)(rv:Rep g.tab s.heap H q v)(ok:zO H p q)
  (h:P (.bool (!(res H p).eqv (res H q))) s):wpAny (model g.prog g.w) A (compareOp .NotEq u v) P E s:=by
 obtain⟨as,a⟩:=cC S _ _ ok.1 ru
 obtain⟨bs,b⟩:=cC S _ _ ok.2.1 rv
 exact compareNe_reads a b (Z1 hg.aq _) (Z1 hg.aq _) (zN R ok.2.2.symm g.tab) (by rw [xG hg.inj _ _ ok.1 ok.2.1];exact h)
theorem room_in{A:Around}(R:K1 n A){l:List PV}{q:PV}(h:PV.depths l≤60∨q.depth≤60)(tab:Nat→Str):A.units+1+min (PyData.depthAll (PV.mX tab l)) (q.toD tab).depth<cLine:=by
 rw [Ds,gn]
 have:=R.units
 have h1:=Nat.min_le_left (PV.depths l) q.depth
 have h2:=Nat.min_le_right (PV.depths l) q.depth
 rcases h with h|h<;>lia
noncomputable def Kw(p:PV)(l:List PV):Prop:=p.isD=true∧PV.eV l=true∧(PV.depths l≤60∨p.depth≤60)
theorem Ky{A:Around}{s:Shared}{p q:PV}{l:List PV}{u v:Value}{P:Value→Shared→Prop}{E:Value→Shared→Prop}(hg:v8 g)(R:K1 n A)(S:m9 g s H)(ru:Rep g.tab s.heap H p u)(rv:Rep g.tab s.heap H q v)
  (hq:res H q = .tup l∨res H q = .lst l) (ok:Kw p l):
  (P (.bool (l.any fun y=>y.eqv p)) s→wpAny (model g.prog g.w) A (compareOp .In u v) P E s)∧(P (.bool (!l.any fun y=>y.eqv p)) s→wpAny (model g.prog g.w) A (compareOp .NotIn u v) P E s):=by
 obtain⟨as,a⟩:=au _ _ ok.1 ru
 have dq:(res H q).isD=true:=by rcases hq with e|e<;>rw [e]<;>exact ok.2.1
 obtain⟨bs,b⟩:=cC S _ _ dq rv
 have rm:=room_in R ok.2.2 g.tab
 have an:=Gk hg.inj ok.1 l ok.2.1
 rcases hq with e|e<;>rw [e] at b
 ·exact⟨fun h=>in_tuple_reads b a (jO hg.aq _) (Z1 hg.aq _) rm ((congrArg (fun b=>P (.bool b) s) an).mpr h),fun h=>notIn_tuple_reads b a (jO hg.aq _) (Z1 hg.aq _) rm ((congrArg (fun b=>P (.bool !b) s) an).mpr h)⟩
 ·exact⟨fun h=>in_list_reads b a (jO hg.aq _) (Z1 hg.aq _) rm ((congrArg (fun b=>P (.bool b) s) an).mpr h),fun h=>notIn_list_reads b a (jO hg.aq _) (Z1 hg.aq _) rm ((congrArg (fun b=>P (.bool !b) s) an).mpr h)⟩
end
noncomputable def mY:PySem.Operator→Int→Int→Option Int
 |.Add,a,b=>some (a+b)
 |.Sub,a,b=>some (a-b)
 |.Mult,a,b=>if a.natAbs<2 ^ 62∨b.natAbs<2 ^ 62 then some (a*b) else none
 |.FloorDiv,a,b=>if b≠0∧b.natAbs<1073741824 then some (a.fdiv b) else none
 |.Mod,a,b=>if b=0 then none else some (a.fmod b)
 |.Pow,a,b=>if 0≤b∧b≤1000000∧a.natAbs<2 ^ 64 then some (a ^ b.toNat) else none
 |_,_,_=>none
section
variable{τ:T}{g:G τ}{n:Nat}{env:Env}{m:Loc}{H:AH}{Q:PV→AH→Prop}{A:Around}{s:Shared}
theorem aA{α:Type}{c:Prop} [Decidable c]{x y:α}(h:(if c then some x else none)=some y):c∧x=y:=by
 by_cases k:c
 ·rw [if_pos k] at h;exact⟨k,Option.some.inj h⟩
 ·rw [if_neg k] at h;cases h
theorem Kz{α:Type}{c:Prop} [Decidable c]{x y:α}(h:(if c then none else some x)=some y):¬c∧x=y:=by
 by_cases k:c
 ·rw [if_pos k] at h;cases h
 ·rw [if_neg k] at h;exact⟨k,Option.some.inj h⟩
theorem Gl{a:Int}(h:a.natAbs<2 ^ 62):Builtin.Int.intBits a≤64:=intBits_le_64 (by lia) (by lia)
theorem QD{op:PySem.Operator}{a b c:Int}{t u:Tok}(S:m9 g s H)(h:mY op a b=some c)(q:Q (.int c) H):
  W g A (binaryOp op (.int a t) (.int b u)) s H Q:=by
 have z:∀k,Y5 g s H Q (.int c k) {s with toks:=s.toks+1}:=fun k=>m7 (p:=.int c) S ⟨_,rfl⟩ q _
 cases op<;>first|exact nomatch (show none=some c from h)|skip
 case Add=>cases h;exact PySem.P.add_int (z _)
 case Sub=>cases h;exact PySem.P.sub_int (z _)
 case Mult=>obtain⟨hc,rfl⟩:=aA h;exact PySem.P.mul_int (z _) (hc.elim (fun x=>.of_left (Gl x)) fun x=>.of_right (Gl x))
 case FloorDiv=>obtain⟨hc,rfl⟩:=aA h;exact floordiv_int hc.1 (z _) (.inl (PyProof.noPylong_small hc.2))
 case Mod=>obtain⟨hc,rfl⟩:=Kz h;exact mod_int hc (z _)
 case Pow=>obtain⟨hc,rfl⟩:=aA h;exact pow_int_small hc.1 hc.2.1 hc.2.2 (z _)
theorem S9{h:Heap}{p:PV}{v:Value}{l:List PV}(S:m9 g s H)(r:Rep g.tab s.heap H p v)(e:p = .lst l∨∃a,p = .obj a∧H a=some (.list l)):
  ∃a vs k,v = .ref a∧s.heap.get? a=some (zH vs k)∧j7 g.tab s.heap H l vs:=by
 rcases e with rfl|⟨a,rfl,e⟩
 ·obtain⟨a,vs,k,e,o,_,r⟩:=r;exact⟨a,vs,k,e,o,r⟩
 ·cases r
  obtain⟨vs,k,o,r⟩:=S.obj _ _ e
  exact⟨a,vs,k,rfl,o,r⟩
noncomputable def q7.zP : q7→Option (List PV)
 |.list l=>some l
 |_=>none
noncomputable def v7(H:AH):PV→Option (List PV)
 |.lst l=>some l
 |.obj a=>(H a).bind q7.zP
 |_=>none
theorem I3{a:Addr}{l:List PV}(o:H a=some (.list l)):v7 H (.obj a)=some l:=congrArg (fun o=>Option.bind o q7.zP) o
set_option tactic.hygienic true in
theorem u9{p:PV}{l:List PV}(h:v7 H p=some l):p = .lst l∨∃a,p = .obj a∧H a=some (.list l):=by
 cases p<;>first|exact nomatch (show none=some l from h)|skip
 case lst=>cases h;exact .inl rfl
 case obj a=>
  cases e:H a with
  |none=>rw [show v7 H (.obj a)=(H a).bind q7.zP from rfl,e] at h;cases h
  |some o=>
   rw [show v7 H (.obj a)=(H a).bind q7.zP from rfl,e] at h
   cases o<;>first|exact nomatch (show none=some l from h)|(cases h;exact .inr ⟨a,rfl,e⟩)
theorem mZ{vs:List Value}{l:List PV}(S:m9 g s H)(r:j7 g.tab s.heap H l vs)(q:Q (.lst l) H):Y5 g s H Q (.ref s.heap.objs.size) {s with heap:=s.heap.push {cls:=.type "list",data:=.seq vs.toArray}}:=
 dh (p:=.lst l) S ⟨_,vs,0,rfl,Heap.get?_push_size _ rfl,untracked S,r.keeps (Calm.push ..).q8⟩ q
theorem Du{vs:List Value}{l:List PV}(S:m9 g s H)(r:j7 g.tab s.heap H l vs)(q:∀a,H a=none→Q (.obj a) (upd H a (.list l))):Y5 g s H Q (.ref s.heap.objs.size) {s with heap:=s.heap.push {cls:=.type "list",data:=.seq vs.toArray}}:=by
 obtain⟨S₂,c₂⟩:=S.track (o:=.list l) (x:={cls:=.type "list",data:=.seq vs.toArray}) rfl ⟨vs,0,Heap.get?_push_size _ rfl,r.keeps (N7.mk (fun O O O O e O O=>Heap.get?_push_of_some _ e) (fun b O O O e O O q=>⟨Heap.get?_push_of_some _ e,by rw [d9 (Nat.ne_of_lt (Heap.lt_size e))];exact q⟩) fun O O O e O O=>Heap.get?_push_of_some _ e)⟩
 exact⟨.obj s.heap.objs.size,_,rfl,S₂,c₂,q _ (untracked S)⟩
theorem Gm{l k:List PV}{p q:PV}{u v:Value}(S:m9 g s H)(ru:Rep g.tab s.heap H p u)(rv:Rep g.tab s.heap H q v)(ep:v7 H p=some l)(eq:v7 H q=some k)(hz:l.length+k.length≤sizeLine)
  {P:Value→Shared→Prop} {E:Value→Shared→Prop}
  (h:∀vs:List Value,j7 g.tab s.heap H (l++k) vs→P (.ref s.heap.objs.size) {s with heap:=s.heap.push {cls:=.type "list",data:=.seq vs.toArray}}):
  wpAny (model g.prog g.w) A (binaryOp .Add u v) P E s:=by
 obtain⟨a,vs,n1,rfl,o1,r1⟩:=S9 (h:=s.heap) S ru (u9 ep)
 obtain⟨b,ws,n2,rfl,o2,r2⟩:=S9 (h:=s.heap) S rv (u9 eq)
 refine PySem.P.add_list o1 o2 ?_ (by rw [List.size_toArray,List.size_toArray,r1.length,r2.length];exact hz)
 have e:vs.toArray++ws.toArray=(vs++ws).toArray:=by simp
 rw [e]
 exact h _ (r1.append r2)
theorem QF{l k:List PV}{u v:Value}(S:m9 g s H)(ru:Rep g.tab s.heap H (.tup l) u)(rv:Rep g.tab s.heap H (.tup k) v)(hz:l.length+k.length≤sizeLine)(q:Q (.tup (l++k)) H):
  W g A (binaryOp .Add u v) s H Q:=by
 obtain⟨a,vs,n1,rfl,o1,r1⟩:=id ru
 obtain⟨b,ws,n2,rfl,o2,r2⟩:=id rv
 have e:vs.toArray++ws.toArray=(vs++ws).toArray:=by simp
 by_cases hv:vs=[]
 ·subst hv
  have hl:l=[]:=List.eq_nil_of_length_eq_zero (by rw [← r1.length];rfl)
  subst hl
  exact concat_meets ⟨_,o1,rfl⟩ ⟨_,o2,rfl⟩ noFill_tuple_add seq_tuple_add PySem.F.slot_tuple_add PySem.F.entry_tuple_add (PySem.F.args_tuple_add_2 _ _)
   (tuple_addW0 a b _ _ n1 n2 none none #[] #[] (by simp)) ⟨o1,o2,m7 S rv q s.toks⟩
 ·by_cases hw:ws=[]
  ·subst hw
   have hk:k=[]:=List.eq_nil_of_length_eq_zero (by rw [← r2.length];rfl)
   subst hk
   rw [List.append_nil] at q
   exact concat_meets ⟨_,o1,rfl⟩ ⟨_,o2,rfl⟩ noFill_tuple_add seq_tuple_add PySem.F.slot_tuple_add PySem.F.entry_tuple_add (PySem.F.args_tuple_add_2 _ _)
    (tuple_addW1 a b _ _ n1 n2 none none #[] #[] (by simpa using hv) (by simp)) ⟨o1,o2,m7 S ru q s.toks⟩
  ·refine PySem.P.add_tuple o1 o2 (by simpa using hv) (by simpa using hw) ?_ (by rw [List.size_toArray,List.size_toArray,r1.length,r2.length];exact hz)
   rw [e]
   exact dh (p:=.tup (l++k)) S ⟨_,_,0,rfl,Heap.get?_push_size _ rfl,(r1.append r2).keeps (Calm.push ..).q8⟩ q
noncomputable def KC(l:List PV):Nat→List PV
 |0=>[]
 |k+1=>l++KC l k
theorem j7.rep{h:Heap}{tab:Nat→Str}{l:List PV}{vs:List Value}(r:j7 tab h H l vs):∀k,j7 tab h H (KC l k) (List.replicate k vs).flatten
 |0=>rfl
 |k+1=>by rw [List.replicate_succ,List.flatten_cons];exact r.append (j7.rep r k)
theorem QG{l:List PV}{p:PV}{u:Value}{x:Int}{t:Tok}(S:m9 g s H)(ru:Rep g.tab s.heap H p u)(ep:v7 H p=some l)(hlo : -(2 ^ 63:Int)≤x)(hhi:x<2 ^ 63)(hz:l.length*x.toNat≤2 ^ 24)
  (q:Q (.lst (KC l x.toNat)) H):W g A (binaryOp .Mult u (.int x t)) s H Q:=by
 obtain⟨a,vs,n1,rfl,o1,r1⟩:=S9 (h:=s.heap) S ru (u9 ep)
 have e2:vs.toArray.size=l.length:=by rw [List.size_toArray,r1.length]
 have Zg:¬(!Builtin.List.listFitsIndex x)=true:=by simp [Builtin.List.listFitsIndex];lia
 have Zh:¬Builtin.List.listTooLong (vs.toArray.size*x.toNat)=true:=by
  rw [e2];unfold Builtin.List.listTooLong;rw [sizeLine_eq,decide_eq_true_eq];exact Nat.not_lt.mpr ‹_›
 have Zi:¬vs.toArray.size*x.toNat > (2 ^ 63-1) / 8:=by rw [e2];lia
 refine wpAny_binaryOp_repeat_ref (T := "list") (U := "int") (by decide) ⟨_,o1,rfl⟩ (fun s'=>typeIs_int s' x t) noFill_list_mul F.fills_int_mul F.slot_int_rmul repeat_list F.slot_int_index.lookup
  (call_meets F.slot_int_rmul (typeIs_int s x t) F.entry_int_rmul (F.args_int_rmul_2 _ _) (int___rmul___int_list x t a vs.toArray n1)
   ⟨o1,rfl,⟨_,o1,rfl⟩,call_meets F.slot_list_mul ⟨_,o1,rfl⟩ F.entry_list_mul (F.args_list_mul_2 _ _)
    (AutoListH.list___mul___list_int_3 a vs.toArray n1 x t Zg Zi Zh)
    ⟨o1,?_⟩⟩)
 rw [listMul_foldl]
 have e:(#[]:Array Value).toList++(List.replicate (if vs.toArray.isEmpty=true then 0 else x.toNat) vs.toArray.toList).flatten=(List.replicate x.toNat vs).flatten:=by
  by_cases hv:vs=[]
  ·subst hv;simp
  ·have:vs.toArray.isEmpty=false:=by simpa using hv
   simp [this]
 rw [e]
 exact mZ S (r1.rep _) q
inductive Dv{τ:T}(g:G τ)(H:AH)(Q:PV→AH→Prop):PySem.Operator→PV→PV→Prop
 |int {op:PySem.Operator} {a b c:Int} (e:mY op a b=some c) (h:Q (.int c) H):Dv g H Q op (.int a) (.int b)
 |tup {l k:List PV} (e:l.length+k.length≤sizeLine) (h:Q (.tup (l++k)) H):Dv g H Q .Add (.tup l) (.tup k)
 |str {a b c:Nat} (t:g.tab c=g.tab a++g.tab b∧(g.tab a).length+(g.tab b).length≤sizeLine) (h:Q (.str c) H):Dv g H Q .Add (.str a) (.str b)
 |seq {p q:PV} {l k:List PV} (e1:v7 H p=some l) (e2:v7 H q=some k) (z:l.length+k.length≤sizeLine) (h:Q (.lst (l++k)) H):Dv g H Q .Add p q
 |rep {p:PV} {l:List PV} {x:Int} (e:v7 H p=some l) (h1 : -(2 ^ 63:Int)≤x) (h2:x<2 ^ 63) (h3:l.length*x.toNat≤2 ^ 24) (h:Q (.lst (KC l x.toNat)) H):Dv g H Q .Mult p (.int x)
noncomputable abbrev Wi(g:G τ)(op:PySem.Operator)(p q:PV)(H:AH)(Q:PV→AH→Prop):Prop:=Dv g H Q op p q
theorem Wj{op:PySem.Operator}{p q:PV}{u v:Value}(S:m9 g s H)(ru:Rep g.tab s.heap H p u)(rv:Rep g.tab s.heap H q v)(h:Wi g op p q H Q):
  W g A (binaryOp op u v) s H Q:=by
 cases h with
 |int e h=>obtain⟨t,rfl⟩:=ru;obtain⟨t',rfl⟩:=rv;exact QD S e h
 |tup e h=>exact QF S ru rv e h
 |str t h=>obtain⟨_,rfl⟩:=ru;obtain⟨_,rfl⟩:=rv;exact add_str (fun t' tk=>m7 (p:=.str _) S ⟨t',by rw [t.1]⟩ h _) t.2
 |seq e1 e2 z h=>exact Gm S ru rv e1 e2 z fun vs r=>mZ S r h
 |rep e h1 h2 h3 h=>obtain⟨t',rfl⟩:=rv;exact QG S ru e h1 h2 h3 h
theorem Ev.bin{a b:PySem.Expr}{op:PySem.Operator}{pos:Pos}(h:Ev g n env m H a fun p H₁=>Ev g n env m H₁ b fun q H₂=>Wi g op p q H₂ Q):Ev g n env m H (.BinOp a op b pos) Q:=fun A s R S F=>by
 refine wpAny_BinOp (h.then R S F fun u s₁ p H₁ ru S₁ c₁ F₁ k=>?_)
 refine Ev.then k R S₁ F₁ fun v s₂ q H₂ rv S₂ c₂ F₂ k=>?_
 exact Y5.calm (c₁.trans c₂) (Wj S₂ (ru.keeps c₂.q8) rv k)
theorem Ev.Wm{a b:PySem.Expr}{pos:Pos}(h:Ev g n env m H a fun p H₁=>Ev g n env m H₁ b fun q H₂ => ∃l k,v7 H₂ p=some l∧v7 H₂ q=some k∧l.length+k.length≤sizeLine∧∀a,H₂ a=none→Q (.obj a) (upd H₂ a (.list (l++k)))):Ev g n env m H (.BinOp a .Add b pos) Q:=fun A s R S F=>by
 refine wpAny_BinOp (h.then R S F fun u s₁ p H₁ ru S₁ c₁ F₁ k=>?_)
 refine Ev.then k R S₁ F₁ fun v s₂ q H₂ rv S₂ c₂ F₂ k=>?_
 obtain⟨l,k,e1,e2,hz,h⟩:=k
 exact Y5.calm (c₁.trans c₂) (Gm S₂ (ru.keeps c₂.q8) rv e1 e2 hz fun vs r=>Du S₂ r h)
set_option tactic.hygienic true in
theorem Ev.neg{a:PySem.Expr}{pos:Pos}(h:Ev g n env m H a fun p H₁=>match p with | .int i=>Q (.int (-i)) H₁|_=>False):Ev g n env m H (.UnaryOp .USub a pos) Q:=fun A s R S F=>by
 refine UnaryOp_ (h.then R S F fun u s₁ p H₁ ru S₁ c₁ F₁ k=>?_)
 cases p<;>first|exact(show False from k).elim|skip
 case int i=>obtain⟨t,rfl⟩:=ru;exact Y5.calm c₁ (PySem.P.neg_int (m7 (p:=.int _) S₁ ⟨_,rfl⟩ k _))
end
theorem pH(slice:PySem.Expr)(o i:Value):∃ops,subscripted slice false o i=operate ops (getItem o i):=by
 cases slice with
 |Slice _ _ c _=>cases c<;>exact⟨_,rfl⟩
 |_=>exact⟨_,rfl⟩
section
variable{K:Type} [DecidableEq K]
noncomputable def N8(k:K)(p:PV):List (K×PV)→List (K×PV)
 | []=>[(k,p)]
 |q::r=>if q.1=k then(k,p)::r else q::N8 k p r
noncomputable def iD(k:K):List (K×PV)→List (K×PV)
 | []=>[]
 |q::r=>if q.1=k then r else q::iD k r
noncomputable def m8(k:K):List (K×PV)→Option PV
 | []=>none
 |q::r=>if q.1=k then some q.2 else m8 k r
variable{k:K}{p:PV}{q:K×PV}{r:List (K×PV)}
theorem qL(e:q.1=k):N8 k p (q::r)=(k,p)::r:=if_pos e
theorem jP(e:¬q.1=k):N8 k p (q::r)=q::N8 k p r:=if_neg e
theorem KH(e:q.1=k):iD k (q::r)=r:=if_pos e
theorem zQ(e:¬q.1=k):iD k (q::r)=q::iD k r:=if_neg e
theorem qM(e:q.1=k):m8 k (q::r)=some q.2:=if_pos e
theorem qN(e:¬q.1=k):m8 k (q::r)=m8 k r:=if_neg e
theorem oN(k:K)(p:PV)(l:List (K×PV)):(N8 k p l).length≤l.length+1:=by
 induction l with
 |nil=>exact Nat.le_refl _
 |cons q r ih=>
  by_cases e:q.1=k
  ·rw [qL e];exact Nat.le_succ _
  ·rw [jP e];exact Nat.succ_le_succ ih
end
section
variable{J β:Type} [DecidableEq J]{j k:J}{b:β}{l:List (J×β)}
theorem xJ(e:j=k):(((j,b)::l).find? fun x=>decide (x.1=k)).map (·.2)=some b:=by rw [List.find?_cons_of_pos (p:=fun x:J×β=>decide (x.1=k)) (decide_eq_true e)];rfl
theorem qj(e:¬j=k):(((j,b)::l).find? fun x=>decide (x.1=k)).map (·.2)=(l.find? fun x=>decide (x.1=k)).map (·.2):=by rw [List.find?_cons_of_neg (p:=fun x:J×β=>decide (x.1=k)) fun h=>e (of_decide_eq_true h)]
variable{u v:Value}{kvs:List (J×Value)}
theorem Dw(n:k∉kvs.map (·.1)):stored ((k,u)::kvs) k v=(k,v)::kvs:=by
 refine(if_pos (congrArg (·|| kvs.any fun x=>decide (x.1=k)) (decide_eq_true rfl))).trans ?_
 rw [List.map_cons,if_pos rfl,map_store_of_not_mem kvs k v n]
theorem Dy(e:¬j=k):stored ((j,u)::kvs) k v=(j,u)::stored kvs k v:=by
 have z:((j,u)::kvs).any (fun x=>decide (x.1=k))=kvs.any fun x=>decide (x.1=k):=congrArg (·|| kvs.any fun x=>decide (x.1=k)) (decide_eq_false e)
 by_cases h:kvs.any (fun x=>decide (x.1=k))=true
 ·rw [show stored kvs k v=_ from if_pos h]
  refine(if_pos (z.trans h)).trans ?_
  rw [List.map_cons,if_neg e]
 ·rw [show stored kvs k v=_ from if_neg h]
  exact if_neg fun w=>h (z.symm.trans w)
end
section
variable{K J:Type} [DecidableEq K] [DecidableEq J]{f:K→J}(inj:∀a b,f a=f b→a=b){tab:Nat→Str}{h:Heap}{H:AH}{k:K}{l:List (K×PV)}{kvs:List (J×Value)}
theorem bO.length(r:bO f tab h H l kvs):kvs.length=l.length:=by
 induction r with
 |nil=>rfl
 |cons _ _ ih=>exact congrArg Nat.succ ih
include inj
theorem bO.get(k:K)(r:bO f tab h H l kvs):fD tab h H (m8 k l) (valueAt kvs (f k)):=by
 induction r with
 |nil=>rfl
 |@cons i p v _ _ q z ih=>
  by_cases e:i=k
  ·rw [qM e];exact⟨v,xJ (congrArg f e),q⟩
  ·rw [qN e,show valueAt (_::_) (f k)=valueAt _ (f k) from qj fun w=>e (inj _ _ w)];exact ih
theorem bO.set(k:K){p:PV}{v:Value}(rv:Rep tab h H p v)(r:bO f tab h H l kvs)(nd:(kvs.map (·.1)).Nodup):bO f tab h H (N8 k p l) (stored kvs (f k) v):=by
 induction r with
 |nil=>exact .cons rv .nil
 |@cons i _ _ _ _ q z ih=>
  have n:=List.nodup_cons.mp nd
  by_cases e:i=k
  ·subst e;rw [qL (q:=(i,_)) rfl,Dw n.1];exact .cons rv z
  ·rw [jP e,Dy fun w=>e (inj _ _ w)];exact .cons q (ih n.2)
theorem bO.del(k:K)(r:bO f tab h H l kvs)(nd:(kvs.map (·.1)).Nodup):bO f tab h H (iD k l) (without kvs (f k)):=by
 induction r with
 |nil=>exact .nil
 |@cons i _ v _ r q z ih=>
  have n:=List.nodup_cons.mp nd
  by_cases e:i=k
  ·subst e
   rw [KH (q:=(i,_)) rfl,show without ((f i,v)::r) (f i)=without r (f i) from List.filter_cons_of_neg (p:=fun x:J×Value=>decide (x.1≠f i)) fun h=>(of_decide_eq_true h:f i≠f i) rfl,without_of_not_mem r _ n.1]
   exact z
  ·rw [zQ e,show without ((f i,v)::r) (f k)=(f i,v)::without r (f k) from List.filter_cons_of_pos (p:=fun x:J×Value=>decide (x.1≠f k)) (decide_eq_true fun w=>e (inj _ _ w))]
   exact .cons q (ih n.2)
end
set_option genInjectivity false in
set_option genSizeOf false in
structure KD{τ:T}(g:G τ)(K J:Type) [DecidableEq K] [DecidableEq J] where
 knd:KeyKind g.prog g.w J
 f:K→J
 inj:v8 g→∀a b,f a=f b→a=b
 ob:List (K×PV)→q7
 key:K→PV
 Wo:∀h H a l,iC g h H a (ob l) ↔ ∃kvs,h.DictOf knd a kvs∧bO f g.tab h H l kvs
 is:∀h H k v,Rep g.tab h H (key k) v→knd.is (f k) v=true
noncomputable def KD.int{τ:T}(g:G τ):KD g Int Int:=⟨intKind g.prog g.w,id,fun O O O e=>e,.m6,.int,fun O O O O=>.rfl,fun O O k v ⟨t,e⟩=>by subst e;simp [intKind,Value.isInt]⟩
noncomputable def KD.str{τ:T}(g:G τ):KD g Nat Str:=⟨PySem.strKind g.prog g.w,g.tab,fun hg=>hg.inj,.w5,.str,fun O O O O=>.rfl,fun O O k v ⟨t,e⟩=>by subst e;simp [PySem.strKind,Value.isStrOf]⟩
section
variable{τ:T}{g:G τ}{n:Nat}{env:Env}{m:Loc}{H:AH}{Q:PV→AH→Prop}{A:Around}{s:Shared}
theorem ni{a:Addr}{o:q7}(hg:v8 g)(S:m9 g s H)(e:H a=some o):(a==sysModules)=false:=by
 rw [beq_eq_false_iff_ne]
 intro z
 exact hg.mods (z▸S.fresh a (by rw [e];simp))
section
variable{K J:Type} [DecidableEq K] [DecidableEq J](D:KD g K J)
theorem KD.rep{a:Addr}{l:List (K×PV)}(S:m9 g s H)(e:H a=some (D.ob l)):∃kvs,s.heap.DictOf D.knd a kvs∧bO D.f g.tab s.heap H l kvs:=(D.Wo _ _ _ _).mp (S.obj _ _ e)
theorem KD.getItem(hg:v8 g){a:Addr}{l:List (K×PV)}{k:K}{r:PV}{kv:Value}(S:m9 g s H)(e:H a=some (D.ob l))(rk:Rep g.tab s.heap H (D.key k) kv)(hk:m8 k l=some r)(q:Q r H):
  W g A (getItem (.ref a) kv) s H Q:=by
 obtain⟨kvs,hd,hr⟩:=D.rep S e
 have:=hr.get (D.inj hg) k
 rw [hk] at this
 obtain⟨u,hu,ru⟩:=this
 exact wpAny_getItem_of (D.is _ _ _ _ rk) hd.mapOf hu (m7 S ru q _)
theorem KD.isIn(hg:v8 g){a:Addr}{l:List (K×PV)}{k:K}{kv:Value}{P:Value→Shared→Prop}{E:Value→Shared→Prop}(S:m9 g s H)(e:H a=some (D.ob l))(rk:Rep g.tab s.heap H (D.key k) kv):
  (P (.bool (m8 k l).isSome) {s with toks:=s.toks+1}→wpAny (model g.prog g.w) A (compareOp .In kv (.ref a)) P E s)∧(P (.bool (!(m8 k l).isSome)) {s with toks:=s.toks+1}→wpAny (model g.prog g.w) A (compareOp .NotIn kv (.ref a)) P E s):=by
 obtain⟨kvs,hd,hr⟩:=D.rep S e
 have:=hr.get (D.inj hg) k
 have eq:(valueAt kvs (D.f k)).isSome=(m8 k l).isSome:=by
  cases z:m8 k l with
  |none=>rw [z] at this;rw [show valueAt kvs (D.f k)=none from this];rfl
  |some r=>rw [z] at this;obtain⟨u,hu,_⟩:=this;rw [hu];rfl
 exact⟨fun h=>wpAny_in_of (D.is _ _ _ _ rk) (ni hg S e) hd.mapOf (by rw [eq];exact h),fun h=>wpAny_notIn_of (D.is _ _ _ _ rk) (ni hg S e) hd.mapOf (by rw [eq];exact h)⟩
theorem KD.setItem(hg:v8 g){a:Addr}{l:List (K×PV)}{k:K}{p:PV}{kv v:Value}(S:m9 g s H)(e:H a=some (D.ob l))(rk:Rep g.tab s.heap H (D.key k) kv)(rv:Rep g.tab s.heap H p v)(hz:l.length≤sizeLine):
  wpAny (model g.prog g.w) A (setItem (.ref a) kv v) (fun O s'=>m9 g s' (upd H a (D.ob (N8 k p l)))∧Calm s.heap H s'.heap (upd H a (D.ob (N8 k p l)))) (fun O O=>False) s:=by
 obtain⟨kvs,hd,hr⟩:=D.rep S e
 have nd:(kvs.map (·.1)).Nodup:=hd.elim fun O z=>z.elim fun O z=>z.elim fun O z=>z.2.2.2.2.2
 refine wpAny_setItem_pairs (D.is _ _ _ _ rk) hd (fun h' hd' B=>?_) (by rw [hr.length];exact hz)
 exact S.turn e B ((D.Wo _ _ _ _).mpr ⟨_,hd',(hr.set (D.inj hg) k rv nd).keeps (aj S e B)⟩) (s.toks+1)
end
end
section
variable{τ:T}{g:G τ}{n:Nat}{env:Env}{m:Loc}{H:AH}{Q:PV→AH→Prop}{A:Around}{s:Shared}
theorem qO(R:K1 n A):A.in1.units<cLine:=by
 have:=R.units
 show A.units+1<cLine
 lia
theorem Dz{i j:Int}{v:Value}(r:Rep g.tab s.heap H (.tup [.int i,.int j]) v):∃a,v = .ref a∧IsTupleKey (intKind g.prog g.w) s.heap [i,j] a:=by
 obtain⟨a,vs,k,rfl,o,v1,r1,rfl,⟨t1,rfl⟩,v2,r2,rfl,⟨t2,rfl⟩,rfl⟩:=r
 exact⟨a,rfl,_,_,_,o,rfl,rfl,.cons (by simp [intKind,Value.isInt]) (.cons (by simp [intKind,Value.isInt]) .nil)⟩
theorem Gn{i j i' j':Int}(e:¬(i',j')=(i,j)):¬ [i',j']=[i,j]:=fun w=>by cases w;exact e rfl
theorem DG{k:List Int}{v:Value}{xs:List (List Int×Addr×Value)}(h:k∉xs.map (·.1)):xs.map (putAt k v)=xs:=by
 induction xs with
 |nil=>rfl
 |cons x xs ih=>
  have h':k∉x.1::xs.map (·.1):=h
  rw [List.map_cons,ih fun z=>h' (.tail _ z),show putAt k v x=x from if_neg fun(e:x.1=k)=>h' (e▸.head _)]
section
variable{h:Heap}{tab:Nat→Str}{l:List ((Int×Int)×PV)} {xs:List (List Int×Addr×Value)}
theorem J6.get(i j:Int)(r:J6 tab h H l xs):fD tab h H (m8 (i,j) l) ((atKey xs [i,j]).map (·.2)):=by
 induction r with
 |nil=>rfl
 |@cons i' j' _ c v _ _ q z ih=>
  by_cases e:(i',j')=(i,j)
  ·cases e;rw [qM (q:=((_,_),_)) rfl];exact⟨v,congrArg (Option.map fun x:Addr×Value=>x.2) (xJ rfl),q⟩
  ·rw [qN e,show atKey (_::_) [i,j]=atKey _ [i,j] from qj (Gn e)];exact ih
theorem J6.length(r:J6 tab h H l xs):xs.length=l.length:=by
 induction r with
 |nil=>rfl
 |cons _ _ ih=>exact congrArg Nat.succ ih
theorem J6.set(i j:Int)(a:Addr){p:PV}{v:Value}(rv:Rep tab h H p v)(r:J6 tab h H l xs)(nd:(xs.map (·.1)).Nodup):J6 tab h H (N8 (i,j) p l) (storedH xs [i,j] a v):=by
 induction r with
 |nil=>exact .cons rv .nil
 |@cons i' j' _ c u _ r q z ih=>
  have n:=List.nodup_cons.mp nd
  by_cases e:(i',j')=(i,j)
  ·cases e
   rw [qL (q:=((_,_),_)) rfl,storedH_old (xJ rfl),List.map_cons,show putAt [i,j] v ([i,j],c,u)=([i,j],c,v) from if_pos rfl,DG n.1]
   exact .cons rv z
  ·have ih:=ih n.2
   have e':=Gn e
   rw [jP e]
   cases k:atKey r [i,j] with
   |none=>rw [storedH_new k] at ih;rw [storedH_new ((qj e').trans k)];exact .cons q ih
   |some x=>rw [storedH_old k] at ih;rw [storedH_old ((qj e').trans k),List.map_cons,show putAt [i,j] v ([i',j'],c,u)=([i',j'],c,u) from if_neg e'];exact .cons q ih
end
theorem ai9(hg:v8 g){a:Addr}{l:List ((Int×Int)×PV)} {i j:Int} {r:PV} {kv:Value} (R:K1 n A) (S:m9 g s H) (e:H a=some (.w7 l)) (rk:Rep g.tab s.heap H (.tup [.int i,.int j]) kv) (hk:m8 (i,j) l=some r) (q:Q r H):
  W g A (getItem (.ref a) kv) s H Q:=by
 obtain⟨xs,hd,hr⟩:=S.obj _ _ e
 obtain⟨b,rfl,hkey⟩:=Dz rk
 have:=hr.get i j
 rw [hk] at this
 obtain⟨u,hu,ru⟩:=this
 obtain⟨pr,hp,rfl⟩:=Option.map_eq_some_iff.mp hu
 exact wpAny_getItem_heap (knd:=tupleKind (intKind g.prog g.w)) (qO R) hkey hd hp (m7 S ru q _)
theorem tin(hg:v8 g){a:Addr}{l:List ((Int×Int)×PV)} {i j:Int} {kv:Value} {P:Value→Shared→Prop} {E:Value→Shared→Prop} (R:K1 n A) (S:m9 g s H) (e:H a=some (.w7 l)) (rk:Rep g.tab s.heap H (.tup [.int i,.int j]) kv)
  (h:∀t,P (.bool (m8 (i,j) l).isSome) {s with toks:=t}):wpAny (model g.prog g.w) A (compareOp .In kv (.ref a)) P E s:=by
 obtain⟨xs,hd,hr⟩:=S.obj _ _ e
 obtain⟨b,rfl,hkey⟩:=Dz rk
 have:=hr.get i j
 have eq:(atKey xs [i,j]).isSome=(m8 (i,j) l).isSome:=by
  cases z:m8 (i,j) l with
  |none=>rw [z] at this;have t:(atKey xs [i,j]).map (·.2)=none:=this;rw [Option.map_eq_none_iff] at t;rw [t];rfl
  |some r=>rw [z] at this;obtain⟨u,hu,_⟩:=this;obtain⟨pr,hp,rfl⟩:=Option.map_eq_some_iff.mp hu;rw [hp];rfl
 exact wpAny_in_heap (knd:=tupleKind (intKind g.prog g.w)) (qO R) hkey (ni hg S e) hd (by rw [eq];exact h _)
theorem aj0(hg:v8 g){a:Addr}{l:List ((Int×Int)×PV)} {i j:Int} {p:PV} {kv v:Value} (R:K1 n A) (S:m9 g s H) (e:H a=some (.w7 l)) (rk:Rep g.tab s.heap H (.tup [.int i,.int j]) kv) (rv:Rep g.tab s.heap H p v) (hz:l.length≤sizeLine):
  wpAny (model g.prog g.w) A (setItem (.ref a) kv v) (fun O s'=>m9 g s' (upd H a (.w7 (N8 (i,j) p l)))∧Calm s.heap H s'.heap (upd H a (.w7 (N8 (i,j) p l)))) (fun O O=>False) s:=by
 obtain⟨xs,hd,hr⟩:=S.obj _ _ e
 obtain⟨b,rfl,hkey⟩:=Dz rk
 have nd:(xs.map (·.1)).Nodup:=hd.elim fun O z=>z.elim fun O z=>z.elim fun O z=>z.2.2.2.2.2
 refine wpAny_setItem_heap (knd:=tupleKind (intKind g.prog g.w)) (qO R) hkey hd (fun h' hd' B=>?_) (by rw [hr.length];exact hz)
 exact S.turn (o':=.w7 (N8 (i,j) p l)) e B ⟨_,hd',(hr.set i j b rv nd).keeps (aj S e B)⟩ _
noncomputable def DK(l:List PV)(i:Int):Option PV:=
 if 0≤i then(if i<2 ^ 62 then l[i.toNat]? else none)
 else if 0≤i+l.length∧ -(2 ^ 62)<i then l[(i+l.length).toNat]? else none
theorem vV(i:Int)(n:Nat):seqIndex? i n=if i<0 then(if 0≤i+n then some (i+n).toNat else none) else if i<n then some i.toNat else none:=by
 unfold seqIndex?
 by_cases h:i<0
 ·simp only [h,if_true,Bool.and_eq_true,decide_eq_true_eq]
  by_cases h2:0≤i+n
  ·rw [if_pos ⟨h2,by lia⟩,if_pos h2]
  ·rw [if_neg (fun z=>h2 z.1),if_neg h2]
 ·simp only [h,if_false,Bool.and_eq_true,decide_eq_true_eq]
  by_cases h2:i<n
  ·rw [if_pos ⟨by lia,h2⟩,if_pos h2]
  ·rw [if_neg (fun z=>h2 z.2),if_neg h2]
theorem Gp{α:Type}{c:Prop} [Decidable c]{x:Option α}{y:α}(h:(if c then x else none)=some y):c∧x=some y:=by
 by_cases k:c
 ·rw [if_pos k] at h;exact⟨k,h⟩
 ·rw [if_neg k] at h;cases h
theorem Gq{l:List PV}{i:Int}{p:PV}(h:DK l i=some p) : -(2 ^ 63)≤i∧i<2 ^ 63∧∃k,seqIndex? i l.length=some k∧l[k]? = some p:=by
 rw [vV]
 by_cases q:0≤i
 ·obtain⟨h2,h⟩:=Gp ((if_pos q).symm.trans h)
  have hk:=(List.getElem?_eq_some_iff.mp h).1
  exact⟨by lia,by lia,i.toNat,by rw [if_neg (by lia),if_pos (by lia)],h⟩
 ·obtain⟨h2,h⟩:=Gp ((if_neg q).symm.trans h)
  exact⟨by lia,by lia,_,by rw [if_pos (by lia),if_pos h2.1],h⟩
noncomputable def intOf:PV→Option Int
 |.int i=>some i
 |_=>none
noncomputable def Zj:List PV→Option (Int×Int)
 | [a,b]=>(intOf a).bind fun i=>(intOf b).map (Prod.mk i)
 |_=>none
noncomputable def pairOf:PV→Option (Int×Int)
 |.tup l=>Zj l
 |_=>none
theorem qP{p:PV}{i:Int}(h:intOf p=some i):p = .int i:=by
 cases p<;>first|(cases h;done)|skip
 cases h;rfl
set_option tactic.hygienic true in
theorem zR{p:PV}{ij:Int×Int}(h:pairOf p=some ij):p = .tup [.int ij.1,.int ij.2]:=by
 cases p<;>first|exact nomatch (show none=some ij from h)|skip
 case tup l=>
  rcases l with _|⟨a,_|⟨b,_|⟨c,l⟩⟩⟩<;>first|exact nomatch (show none=some ij from h)|skip
  obtain⟨i,h1,h⟩:=Option.bind_eq_some_iff.mp (show((intOf a).bind fun i=>(intOf b).map (Prod.mk i))=some ij from h)
  obtain⟨j,h2,rfl⟩:=Option.map_eq_some_iff.mp h
  rw [qP h1,qP h2]
inductive xK{τ:T}(g:G τ)(H:AH)(Q:PV→AH→Prop):PV→PV→Prop
 |tup {l:List PV} {i:Int} {r:PV} (e:DK l i=some r) (h:Q r H):xK g H Q (.tup l) (.int i)
 |lst {l:List PV} {i:Int} {r:PV} (e:DK l i=some r) (h:Q r H):xK g H Q (.lst l) (.int i)
 |sd {a:Addr} {k:Nat} {r:PV} (e:τ.w5 a k=some r) (h:Q r H):xK g H Q (.obj a) (.str k)
 |ol {a:Addr} {l:List PV} {i:Int} {r:PV} (o:H a=some (.list l)) (e:DK l i=some r) (h:Q r H):xK g H Q (.obj a) (.int i)
 |od {a:Addr} {l:List (Int×PV)} {k:Int} {r:PV} (o:H a=some (.m6 l)) (e:m8 k l=some r) (h:Q r H):xK g H Q (.obj a) (.int k)
 |os {a:Addr} {l:List (Nat×PV)} {k:Nat} {r:PV} (o:H a=some (.w5 l)) (e:m8 k l=some r) (h:Q r H):xK g H Q (.obj a) (.str k)
 |ot {a:Addr} {l:List ((Int×Int)×PV)} {i j:Int} {r:PV} (o:H a=some (.w7 l)) (e:m8 (i,j) l=some r) (h:Q r H):xK g H Q (.obj a) (.tup [.int i,.int j])
noncomputable abbrev QJ(g:G τ)(p q:PV)(H:AH)(Q:PV→AH→Prop):Prop:=xK g H Q p q
theorem Z2{value slice:PySem.Expr}{o i:Value}{T id:String}{P:Value→Shared→Prop}{E:Value→Shared→Prop}(hT:s.TypeIs o T)(hl:typeLookup (.type T) "__getitem__" = pure (some (.builtin id)))
  (h:wpAny (model g.prog g.w) A (getItem o i) P E s):wpAny (model g.prog g.w) A (subscriptTail value slice o i) P E s:=
 let⟨_,e⟩:=pH slice o i
 tail_any hT hl h e
theorem zU{l:List PV}{i:Int}{r:PV}{u:Value}{value slice:PySem.Expr}(S:m9 g s H){p:PV}(ru:Rep g.tab s.heap H p u)(e:p = .lst l∨∃a,p = .obj a∧H a=some (.list l)){t:Tok}(hr:DK l i=some r)(q:Q r H):
  W g A (subscriptTail value slice u (.int i t)) s H Q:=by
 obtain⟨a,vs,k,rfl,o,rl⟩:=S9 (h:=s.heap) S ru e
 obtain⟨lo,hi,j,hj,hj'⟩:=Gq hr
 obtain⟨x,hx,rx⟩:=rl.get hj'
 have hl:s.heap.IsList a vs.toArray:=⟨_,o,rfl,_,rfl⟩
 refine Z2 hl.typeIs slot_list_getitem.lookup ?_
 have z:Y5 g s H Q x s:=m7 S rx q s.toks
 rw [vV] at hj
 by_cases h0:i<0
 ·rw [if_pos h0] at hj
  have e2:=rl.length
  have e3:vs.toArray.size=l.length:=by rw [List.size_toArray,e2]
  obtain⟨h1,rfl⟩:=aA hj
  exact wpAny_getItem_list_neg hl h0 (by lia) (by lia) (by rw [e3];simpa using hx) z
 ·rw [if_neg h0] at hj
  obtain⟨h1,rfl⟩:=aA hj
  exact wpAny_getItem_list hl (by lia) hi (by simpa using hx) z
theorem Wq{p q:PV}{u v:Value}{value slice:PySem.Expr}(hg:v8 g)(R:K1 n A)(S:m9 g s H)(ru:Rep g.tab s.heap H p u)(rv:Rep g.tab s.heap H q v)(h:QJ g p q H Q):
  W g A (subscriptTail value slice u v) s H Q:=by
 cases h with
 |@tup l i r hr h=>
  obtain⟨t,rfl⟩:=rv
  obtain⟨a,vs,k,rfl,o,rl⟩:=ru
  obtain⟨lo,hi,j,hj,hj'⟩:=Gq hr
  obtain⟨x,hx,rx⟩:=rl.get hj'
  have hT:IsTup s.heap a vs.toArray:=⟨_,o,rfl,_,rfl⟩
  exact Z2 hT.typeIs slot_tuple_getitem.lookup (getItem_tuple hT lo hi (by rw [List.size_toArray,rl.length];exact hj) (by simpa using hx) (m7 S rx h s.toks))
 |lst hr h=>obtain⟨t,rfl⟩:=rv;exact zU (t:=t) S ru (.inl rfl) hr h
 |@sd a k r hr h=>
  cases ru
  obtain⟨mm,x,hm,hx,rx⟩:=hg.sd _ _ _ hr
  have hm':s.heap.MapOf (PySem.strKind g.prog g.w) a mm:=let⟨o,es,ep,e1,e2⟩:=hm;⟨o,es,ep,S.keep _ _ e1,e2⟩
  obtain⟨t,rfl⟩:=rv
  exact Z2 hm'.typeIs slot_dict_getitem.lookup (wpAny_getItem_of (strKind_is g.prog g.w (g.tab k) t) hm' hx (m7 S (rx.keeps S.static) h _))
 |ol o hr h=>obtain⟨t,rfl⟩:=rv;exact zU (t:=t) S ru (.inr ⟨_,rfl,o⟩) hr h
 |od o hr h=>cases ru;obtain⟨kvs,hd,_⟩:=(KD.int g).rep S o;exact Z2 hd.typeIs slot_dict_getitem.lookup ((KD.int g).getItem hg S o rv hr h)
 |os o hr h=>cases ru;obtain⟨kvs,hd,_⟩:=(KD.str g).rep S o;exact Z2 hd.typeIs slot_dict_getitem.lookup ((KD.str g).getItem hg S o rv hr h)
 |ot o hr h=>cases ru;obtain⟨xs,hd,_⟩:=S.obj _ _ o;exact Z2 hd.typeIs slot_dict_getitem.lookup (ai9 hg R S o rv hr h)
theorem Ev.sub{a b:PySem.Expr}{pos:Pos}(hg:v8 g)(h:Ev g n env m H a fun p H₁=>Ev g n env m H₁ b fun q H₂=>QJ g p q H₂ Q):Ev g n env m H (.Subscript a b pos) Q:=fun A s R S F=>by
 refine Subscript_ (h.then R S F fun u s₁ p H₁ ru S₁ c₁ F₁ k=>?_)
 refine Ev.then k R S₁ F₁ fun v s₂ q H₂ rv S₂ c₂ F₂ k=>?_
 exact Y5.calm (c₁.trans c₂) (Wq hg R S₂ (ru.keeps c₂.q8) rv k)
end
noncomputable def Wr:PySem.CmpOp→Int→Int→Option Bool
 |.Lt,a,b=>some (decide (a<b))
 |.LtE,a,b=>some (decide (a≤b))
 |.Gt,a,b=>some (decide (b<a))
 |.GtE,a,b=>some (decide (b≤a))
 |_,_,_=>none
noncomputable def isNone:PV→Bool
 |.none=>true
 |_=>false
inductive Ws(H:AH)(Q:Bool→Prop):PV→PV→Prop
 |tup {p:PV} {l:List PV} (o:Kw p (uV H l)) (h:Q ((uV H l).any fun y=>y.eqv p)):Ws H Q p (.tup l)
 |lst {p:PV} {l:List PV} (o:Kw p l) (h:Q (l.any fun y=>y.eqv p)):Ws H Q p (.lst l)
 |ol {p:PV} {a:Addr} {l:List PV} (e:H a=some (.list l)) (o:Kw p l) (h:Q (l.any fun y=>y.eqv p)):Ws H Q p (.obj a)
 |od {k:Int} {a:Addr} {l:List (Int×PV)} (e:H a=some (.m6 l)) (h:Q (m8 k l).isSome):Ws H Q (.int k) (.obj a)
 |os {k:Nat} {a:Addr} {l:List (Nat×PV)} (e:H a=some (.w5 l)) (h:Q (m8 k l).isSome):Ws H Q (.str k) (.obj a)
 |ot {i j:Int} {a:Addr} {l:List ((Int×Int)×PV)} (e:H a=some (.w7 l)) (h:Q (m8 (i,j) l).isSome):Ws H Q (.tup [.int i,.int j]) (.obj a)
noncomputable abbrev InP(p q:PV)(H:AH)(Q:Bool→Prop):Prop:=Ws H Q p q
noncomputable def NoT(q:PV)(H:AH):Prop := ∀a l,q = .obj a→H a=some (.w7 l)→False
inductive xM(H:AH)(Q:Bool→Prop):PySem.CmpOp→PV→PV→Prop
 |eq {p q:PV} (o:zO H p q) (h:Q ((res H p).eqv (res H q))):xM H Q .Eq p q
 |ne {p q:PV} (o:zO H p q) (h:Q (!(res H p).eqv (res H q))):xM H Q .NotEq p q
 |is {p:PV} (h:Q (isNone p)):xM H Q .Is p .none
 |isn {p:PV} (h:Q (!isNone p)):xM H Q .IsNot p .none
 |mem {p q:PV} (h:InP p q H Q):xM H Q .In p q
 |nmem {p q:PV} (n:NoT q H) (h:InP p q H fun b=>Q (!b)):xM H Q .NotIn p q
 |ord {op:PySem.CmpOp} {a b:Int} {c:Bool} (e:Wr op a b=some c) (h:Q c):xM H Q op (.int a) (.int b)
noncomputable abbrev zV(op:PySem.CmpOp)(p q:PV)(H:AH)(Q:Bool→Prop):Prop:=xM H Q op p q
section
variable{τ:T}{g:G τ}{n:Nat}{env:Env}{m:Loc}{H:AH}{A:Around}{s:Shared}
theorem zW{p:PV}{v:Value}(r:Rep g.tab s.heap H p v):(v == .none)=isNone p:=by
 cases p
 case none=>cases r;rfl
 case bool=>cases r;rfl
 case int=>obtain⟨_,rfl⟩:=r;rfl
 case str=>obtain⟨_,rfl⟩:=r;rfl
 case tup=>obtain⟨_,_,_,rfl,_⟩:=r;rfl
 case lst=>obtain⟨_,_,_,rfl,_⟩:=r;rfl
 case obj=>cases r;rfl
 case blt=>obtain⟨rfl,_⟩:=r;rfl
 case typ=>cases r;rfl
 case rng=>obtain⟨_,_,_,_,rfl,_⟩:=r;rfl
theorem Uy{p q:PV}{u v:Value}{P:Value→Shared→Prop}{E:Value→Shared→Prop}{B:Bool→Prop}(hg:v8 g)(R:K1 n A)(S:m9 g s H)(ru:Rep g.tab s.heap H p u)(rv:Rep g.tab s.heap H q v)(h:InP p q H B):
  ((∀b,B b→∀t,P (.bool b) {s with toks:=t})→wpAny (model g.prog g.w) A (compareOp .In u v) P E s)∧
  (NoT q H→(∀b,B b→∀t,P (.bool (!b)) {s with toks:=t})→wpAny (model g.prog g.w) A (compareOp .NotIn u v) P E s):=by
 cases h with
 |@tup _ l o h=>have c:=Ky (P:=P) (E:=E) hg R S ru rv (.inl (show res H (.tup l) = .tup (uV H l) from rfl)) o;exact⟨fun k=>c.1 (k _ h s.toks),fun O k=>c.2 (k _ h s.toks)⟩
 |lst o h=>have c:=Ky (P:=P) (E:=E) hg R S ru rv (.inr rfl) o;exact⟨fun k=>c.1 (k _ h s.toks),fun O k=>c.2 (k _ h s.toks)⟩
 |@ol _ a l e o h=>have c:=Ky (P:=P) (E:=E) hg R S ru rv (.inr (show res H (.obj a) = .lst l by rw [qg,e])) o;exact⟨fun k=>c.1 (k _ h s.toks),fun O k=>c.2 (k _ h s.toks)⟩
 |od e h=>cases rv;have c:=(KD.int g).isIn (A:=A) (P:=P) (E:=E) hg S e ru;exact⟨fun z=>c.1 (z _ h _),fun O z=>c.2 (z _ h _)⟩
 |os e h=>cases rv;have c:=(KD.str g).isIn (A:=A) (P:=P) (E:=E) hg S e ru;exact⟨fun z=>c.1 (z _ h _),fun O z=>c.2 (z _ h _)⟩
 |ot e h=>cases rv;exact⟨fun z=>tin hg R S e ru fun t=>z _ h t,fun z=>(z _ _ rfl e).elim⟩
theorem xO{op:PySem.CmpOp}{p q:PV}{u v:Value}{P:Value→Shared→Prop}{E:Value→Shared→Prop}{B:Bool→Prop}(hg:v8 g)(R:K1 n A)(S:m9 g s H)(ru:Rep g.tab s.heap H p u)(rv:Rep g.tab s.heap H q v)(h:zV op p q H B)
  (k:∀b,B b→∀t,P (.bool b) {s with toks:=t}):wpAny (model g.prog g.w) A (compareOp op u v) P E s:=by
 cases h with
 |eq o h=>exact Ze hg R S ru rv o (k _ h s.toks)
 |ne o h=>exact Zf hg R S ru rv o (k _ h s.toks)
 |is h=>cases rv;exact is_none_gen (by rw [zW ru];exact k _ h s.toks)
 |isn h=>cases rv;exact isnot_none_gen (by rw [zW ru];exact k _ h s.toks)
 |mem h=>exact(Uy hg R S ru rv h).1 k
 |nmem n h=>exact(Uy (B:=fun b=>B (!b)) hg R S ru rv h).2 n fun b hb t=>k (!b) hb t
 |ord e h=>
  obtain⟨t,rfl⟩:=ru;obtain⟨t',rfl⟩:=rv
  cases op<;>cases e
  ·exact PySem.P.lt_int (k _ h s.toks)
  ·exact PySem.P.le_int (k _ h s.toks)
  ·exact PySem.P.gt_int (k _ h s.toks)
  ·exact PySem.P.ge_int (k _ h s.toks)
theorem Ev.cmp{a b:PySem.Expr}{op:PySem.CmpOp}{pos:Pos}{Q:PV→AH→Prop}(hg:v8 g)(hm:behindInMarks op b=false)(h:Ev g n env m H a fun p H₁=>Ev g n env m H₁ b fun q H₂=>zV op p q H₂ fun c=>Q (.bool c) H₂):Ev g n env m H (.Compare a [op] [b] pos) Q:=fun A s R S F=>by
 refine wpAny_Compare1 (h.then R S F fun u s₁ p H₁ ru S₁ c₁ F₁ k=>?_) hm
 refine Ev.then k R S₁ F₁ fun v s₂ q H₂ rv S₂ c₂ F₂ k=>?_
 exact xO hg R S₂ (ru.keeps c₂.q8) rv k fun c hc t=>(m7 (p:=.bool c) S₂ rfl hc t).step (c₁.trans c₂)
theorem Ts.cmp{a b:PySem.Expr}{op:PySem.CmpOp}{pos:Pos}{Q:Bool→AH→Prop}(hg:v8 g)(hm:behindInMarks op b=false)(h:Ev g n env m H a fun p H₁=>Ev g n env m H₁ b fun q H₂=>zV op p q H₂ fun c=>Q c H₂):Ts g n env m H (.Compare a [op] [b] pos) Q:=fun A s R S F=>by
 refine wpAny_isTrue_Compare1 (h.then R S F fun u s₁ p H₁ ru S₁ c₁ F₁ k=>?_) hm
 refine Ev.then k R S₁ F₁ fun v s₂ q H₂ rv S₂ c₂ F₂ k=>?_
 exact xO hg R S₂ (ru.keeps c₂.q8) rv k fun c hc t=>wpAny_truthy_bool ⟨H₂,S₂.tok t,c₁.trans c₂,hc⟩
theorem Ev.QK{a b c:PySem.Expr}{o1 o2:PySem.CmpOp}{pos:Pos}{Q:PV→AH→Prop}(hg:v8 g)(hm:lastMarks [o1,o2] [b,c]=false)(h:Ev g n env m H a fun p H₁=>Ev g n env m H₁ b fun q H₂=>zV o1 p q H₂ fun x=>if x then Ev g n env m H₂ c fun r H₃=>zV o2 q r H₃ fun y=>Q (.bool y) H₃ else Q (.bool false) H₂):Ev g n env m H (.Compare a [o1,o2] [b,c] pos) Q:=fun A s R S F=>by
 refine Compare_chain (h.then R S F fun u s₁ p H₁ ru S₁ c₁ F₁ k=>?_) hm
 refine chain_link (Ev.then k R S₁ F₁ fun v s₂ q H₂ rv S₂ c₂ F₂ k=>?_)
 refine xO hg R S₂ (ru.keeps c₂.q8) rv k fun x hx t=>wpAny_truthy_bool ?_
 cases x with
 |false=>exact(m7 (p:=.bool false) S₂ rfl hx t).step (c₁.trans c₂)
 |true=>
  refine chain_last (Ev.then (H:=H₂) hx R (S₂.tok t) F₂ fun w s₃ r H₃ uW S₃ c₃ F₃ k=>?_)
  have rv':Rep g.tab s₃.heap H₃ q v:=rv.keeps c₃.q8
  exact xO hg R S₃ rv' uW k fun y hy t'=>(m7 (p:=.bool y) S₃ rfl hy t').step ((c₁.trans c₂).trans c₃)
noncomputable def aB(p:PV)(Q:Bool→Prop):Prop:=
 match p with
 |.none=>Q false
 |.bool b=>Q b
 |.int i=>Q (i != 0)
 |_=>False
theorem jQ{p:PV}{v:Value}{B:Bool→Prop}{P:Bool→Shared→Prop}{E:Value→Shared→Prop}(r:Rep g.tab s.heap H p v)(h:aB p B)(k:∀b,B b→P b s):wpAny (model g.prog g.w) A (truthy v) P E s:=by
 cases p<;>first|exact(show False from h).elim|skip
 case none=>cases r;exact wpAny_pure (k _ h)
 case bool=>cases r;exact wpAny_truthy_bool (k _ h)
 case int=>obtain⟨t,rfl⟩:=r;exact PySem.P.truthy_int (k _ h)
noncomputable def plainT(e:PySem.Expr):Prop := ∀env whole,isTrue e env whole=(do let v ← whole;standAt e.pos;holding [v] (truthy v))
theorem Ts.plain{e:PySem.Expr}{Q:Bool→AH→Prop}(hp:plainT e)(h:Ev g n env m H e fun p H'=>aB p fun b=>Q b H'):Ts g n env m H e Q:=fun A s R S F=>by
 refine isTrue_plain (h.then R S F fun v s' p H' r S' c F' q=>?_) (hp _ _)
 exact jQ r q fun b hb=>⟨H',S',c,hb⟩
theorem Ev.not{e:PySem.Expr}{pos:Pos}{Q:PV→AH→Prop}(h:Ev g n env m H e fun p H'=>aB p fun b=>Q (.bool (!b)) H'):Ev g n env m H (.UnaryOp .Not e pos) Q:=fun A s R S F=>by
 refine UnaryOp_ (h.then R S F fun u s₁ p H₁ ru S₁ c₁ F₁ k=>?_)
 unfold unaryOp
 refine wpAny_holding ?_
 show wpAny _ _ (do return Value.bool (!(← truthy u))) _ _ _
 exact wpAny_bind (jQ ru k fun b q=>wpAny_pure ⟨.bool (!b),H₁,rfl,S₁,c₁,q⟩)
theorem Ev.aj2{e:PySem.Expr}{pos:Pos}{Q:PV→AH→Prop}(h:Ev g n env m H e Q):Ev g n env m H (.BoolOp .And [e] pos) Q:=fun A s R S F=>BoolOp_one (h A s R S F)
theorem Ev.or1{e:PySem.Expr}{pos:Pos}{Q:PV→AH→Prop}(h:Ev g n env m H e Q):Ev g n env m H (.BoolOp .Or [e] pos) Q:=fun A s R S F=>BoolOp_one (h A s R S F)
theorem Ev.aj3{e e2:PySem.Expr}{es:List PySem.Expr}{pos:Pos}{Q:PV→AH→Prop}(h:Ev g n env m H e fun p H'=>aB p fun b=>if b then Ev g n env m H' (.BoolOp .And (e2::es) pos) Q else Q p H'):Ev g n env m H (.BoolOp .And (e::e2::es) pos) Q:=fun A s R S F=>by
 refine BoolOp_and (h.then R S F fun u s₁ p H₁ ru S₁ c₁ F₁ k=>jQ ru k fun b q=>?_)
 cases b with
 |false=>exact⟨p,H₁,ru,S₁,c₁,q⟩
 |true=>exact Y5.calm c₁ (q A s₁ R S₁ F₁)
theorem Ev.orS{e e2:PySem.Expr}{es:List PySem.Expr}{pos:Pos}{Q:PV→AH→Prop}(h:Ev g n env m H e fun p H'=>aB p fun b=>if b then Q p H' else Ev g n env m H' (.BoolOp .Or (e2::es) pos) Q):Ev g n env m H (.BoolOp .Or (e::e2::es) pos) Q:=fun A s R S F=>by
 refine BoolOp_or (h.then R S F fun u s₁ p H₁ ru S₁ c₁ F₁ k=>jQ ru k fun b q=>?_)
 cases b with
 |true=>exact⟨p,H₁,ru,S₁,c₁,q⟩
 |false=>exact Y5.calm c₁ (q A s₁ R S₁ F₁)
end
theorem IW(b n:Nat)(hb:b≤n):Builtin.Slice.sliceAdjust none (some (b:Int)) 1 (n:Int)=(0,(b:Int)):=by
 unfold Builtin.Slice.sliceAdjust
 have h1:¬((1:Int)<0):=by lia
 have h2:¬((b:Int)<0):=by lia
 simp only [h1,h2,if_false]
 congr 1
 lia
theorem Ja(b:Nat):Builtin.Slice.slicePlaces 0 (b:Int) 1=b:=by
 unfold Builtin.Slice.slicePlaces
 have h1:(1:Int) > 0:=by exact Int.le_refl _
 simp only [h1,if_true,Int.ediv_one]
 split<;>lia
theorem V4{α β:Type}{f k:α→Option β}:∀{l:List α},(∀x∈l,f x=k x)→l.filterMap f=l.filterMap k
 | [],_=>rfl
 |x::l,h=>by rw [List.filterMap_cons,List.filterMap_cons,h x (.head _),V4 fun y hy=>h y (.tail _ hy)]
theorem KJ(items:Array Value):slicePick items none none (some (-1))=items.reverse:=by
 have hb:sliceBounds none none (some (-1)) items.size=((items.size:Int)-1,-1,-1):=by
  unfold sliceBounds
  simp
 unfold slicePick
 rw [hb]
 dsimp only
 have hr:sliceRange ((items.size:Int)-1) (-1) (-1)=(List.range items.size).map fun k=>items.size-1-k:=by
  unfold sliceRange
  have h1:¬((-1:Int) > 0):=by lia
  rw [if_neg h1]
  have hc:(if(items.size:Int)-1 > -1 then((items.size:Int)-1 - -1 - -1-1) / (- -1) else 0).toNat=items.size:=by
   split
   ·have:(- -1:Int)=1:=by lia
    rw [this,Int.ediv_one];lia
   ·lia
  dsimp only
  rw [hc]
  refine List.map_congr_left fun k hk=>?_
  have:=List.mem_range.mp hk
  lia
 rw [hr,List.filterMap_map]
 have e:=pick_run items.reverse 0 items.size
 rw [List.filterMap_map] at e
 have e2:(List.range items.size).filterMap ((fun x=>items[x]?) ∘ fun k=>items.size-1-k)=(List.range items.size).filterMap ((fun x=>items.reverse[x]?) ∘ fun x=>0+x):=by
  refine V4 fun k hk=>?_
  have hk':=List.mem_range.mp hk
  simp only [Function.comp_apply,Nat.zero_add]
  rw [Array.getElem?_reverse (by simpa using hk')]
 rw [e2,e,List.drop_zero,List.take_of_length_le (by simp)]
section
variable{τ:T}{g:G τ}{n:Nat}{env:Env}{m:Loc}{H:AH}{Q:PV→AH→Prop}{A:Around}{s:Shared}
theorem pI{sl:Addr}{b k:Nat}{u:Tok}{P:Int×Int×Nat→Shared→Prop}{E:Value→Shared→Prop}(hs:s.heap.IsSliceOf sl .none (.int b u) .none)(hb:b≤k)(h:P (0,1,b) s):
  wpAny (model g.prog g.w) A (Builtin.Slice.sliceApplied (.ref sl) (pure (k:Int))) P E s:=by
 obtain⟨os,hos,hcs,hds⟩:=id hs
 unfold Builtin.Slice.sliceApplied Builtin.Slice.sliceFields
 refine wpAny_bind (wpAny_bind (wpAny_field hos hds (x:=.none) rfl (wpAny_bind (wpAny_field hos hds (x:=.int b u) rfl (wpAny_bind (wpAny_field hos hds (x:=.none) rfl (wpAny_pure ?_)))))))
 refine wpAny_bind (slicePart_none ?_)
 show wpAny _ _ (if((1:Int)==0)=true then _ else _) _ _ s
 rw [if_neg (by decide)]
 refine wpAny_bind (slicePart_none (wpAny_bind (slicePart_int (wpAny_bind (wpAny_pure ?_)))))
 show wpAny _ _ (match Builtin.Slice.sliceAdjust none (some (b:Int)) 1 (k:Int) with|(lo,hi)=>pure (lo,(1:Int),Builtin.Slice.slicePlaces lo hi 1)) _ _ s
 rw [IW b k hb]
 show wpAny _ _ (pure (0,(1:Int),Builtin.Slice.slicePlaces 0 (b:Int) 1)) _ _ s
 rw [Ja]
 exact wpAny_pure h
theorem nj{t sl:Addr}{items:Array Value}{b:Nat}{u:Tok}{P:Value→Shared→Prop}{E:Value→Shared→Prop}(ht:IsTup s.heap t items)(hs:s.heap.IsSliceOf sl .none (.int b u) .none)(hb:b<items.size)
  (h:P (.ref s.heap.objs.size) {s with heap:=s.heap.push {cls:=.type "tuple",data:=.seq (items.toList.take b).toArray}})
  (hsz:items.size≤sizeLine):wpAny (model g.prog g.w) A (getItem (.ref t) (.ref sl)) P E s:=by
 have hdrop:sizeOk (.seq (items.toList.take b).toArray):=by
  show(items.toList.take b).toArray.size≤sizeLine
  rw [List.size_toArray,List.length_take,Array.length_toList]
  lia
 obtain⟨os,hos,hcs,hds⟩:=id hs
 have hTs:s.TypeIs (.ref sl) "slice" := ⟨os,hos,hcs⟩
 unfold getItem
 try with_reducible refine wpAny_holding ?_
 first|refine wpAny_bind (wpAny_pure ?_)|skip
 refine wpAny_bind (wpAny_sequenceKey ht.typeIs (by decide) ?_)
 refine wpAny_bind (wpAny_callSpecial?_slot (name:=Str.ofString "__getitem__") ht.typeIs slot_tuple_getitem
  (wpAny_call_entry slot_tuple_getitem ht.typeIs entry_tuple_getitem ?_ (args_tuple_getitem _ _)))
 show wpAny _ _ (Builtin.Tuple.tupleItemsOf (.ref t) >>= _) _ _ s
 refine wpAny_bind (tupleItemsOf_ ht ?_)
 refine wpAny_bind (wpAny_typeOf hTs ?_)
 rw [if_pos (by decide)]
 refine wpAny_bind (pI hs (Nat.le_of_lt hb) ?_)
 have hno:¬(((0:Int)==0&&(1:Int)==1&&b==items.size)=true):=by
  have:(b==items.size)=false:=by rw [beq_eq_false_iff_ne];exact Nat.ne_of_lt ‹_›
  rw [this];simp
 show wpAny _ _ (if((0:Int)==0&&(1:Int)==1&&b==items.size)=true then _ else _) _ _ s
 have pk:((List.range b).filterMap fun(k:Nat)=>items[((0:Int)+(k:Int)*1).toNat]?).toArray=(items.toList.take b).toArray:=by
  have e:(fun(k:Nat)=>items[((0:Int)+(k:Int)*1).toNat]?)=fun k=>items[0+k]? := by
   funext k
   have:((0:Int)+(k:Int)*1).toNat=0+k:=by exact Nat.add_comm ..
   rw [this]
  rw [e]
  have:=pick_run items 0 b
  rw [List.filterMap_map] at this
  have e2:((fun x=>items[x]?) ∘ fun x=>0+x)=fun k=>items[0+k]? := rfl
  rw [e2] at this
  rw [this,List.drop_zero]
 rw [if_neg hno,pk]
 first
  |exact wpAny_bind (m:=Builtin.Tuple.tupleExact _) (wpAny_newObj_type (wpAny_pure ⟨_,rfl,wpAny_pure h⟩) hdrop)
  |exact wpAny_bind (m:=Builtin.Tuple.tupleExact _) (wpAny_newObj_type (wpAny_bind (wpAny_pure (wpAny_pure ⟨_,rfl,wpAny_pure h⟩))) hdrop)
  |exact wpAny_bind (wpAny_bind (m:=Builtin.Tuple.tupleExact _) (wpAny_newObj_type (wpAny_pure (wpAny_pure ⟨_,rfl,wpAny_pure h⟩)) hdrop))
  |exact wpAny_bind (wpAny_bind (m:=Builtin.Tuple.tupleExact _) (wpAny_newObj_type (wpAny_pure ⟨_,rfl,wpAny_pure h⟩) hdrop))
noncomputable def YF(from_:Bool)(p:PV)(i:Int)(H:AH)(Q:PV→AH→Prop):Prop:=
 match p with
 |.tup l=>if from_ then(1≤i∧i≤l.length∧l.length≤sizeLine)∧Q (.tup (l.drop i.toNat)) H else(0≤i∧i<l.length∧l.length≤sizeLine)∧Q (.tup (l.take i.toNat)) H
 |p=>match v7 H p with
  |some l=>l.length≤sizeLine∧(if from_ then 0≤i∧Q (.lst (l.drop i.toNat)) H else if 0≤i then Q (.lst (l.take i.toNat)) H else Q (.lst (l.take (l.length-(-i).toNat))) H)
  |none=>False
theorem jm{x:Obj}(S:m9 g s H):m9 g {s with heap:=s.heap.push x} H∧Calm s.heap H (s.heap.push x) H:=⟨S.push x s.toks,Calm.push ..⟩
theorem gq{p:PV}{l:List PV}{u vl vu vs:Value}{lo hi st:Option Int}{l':List PV}{value slice:PySem.Expr}(S:m9 g s H)(ru:Rep g.tab s.heap H p u)(e:v7 H p=some l)(hz:l.length≤sizeLine)
  (pl:IsPart vl lo) (pu:IsPart vu hi) (ps:IsPart vs st) (h0:st≠some 0)
  (hp:∀{vs:List Value} {h:Heap},j7 g.tab h H l vs→∃ws,slicePick vs.toArray lo hi st=ws.toArray∧j7 g.tab h H l' ws) (q:Q (.lst l') H):
  wpAny (model g.prog g.w) A (subscriptTail value slice u (.ref s.heap.objs.size)) (Y5 g s H Q) (fun O O=>False) {s with heap:=s.heap.push {cls:=.type "slice",data:=.fields #[vl,vu,vs]}}:=by
 obtain⟨S',c⟩:=jm (x:={cls:=.type "slice",data:=.fields #[vl,vu,vs]}) S
 obtain⟨a,ws,k,rfl,o,rl⟩:=S9 (h:=s.heap) S ru (u9 e)
 obtain⟨zs,e1,rz⟩:=hp (rl.keeps c.q8)
 have hl:Heap.IsList (s.heap.push {cls:=.type "slice",data:=.fields #[vl,vu,vs]}) a ws.toArray:=⟨_,Heap.get?_push_of_some _ o,rfl,_,rfl⟩
 refine Y5.calm (s₁:={s with heap:=s.heap.push {cls:=.type "slice",data:=.fields #[vl,vu,vs]}}) c ?_
 refine Z2 (s:={s with heap:=s.heap.push {cls:=.type "slice",data:=.fields #[vl,vu,vs]}}) hl.typeIs slot_list_getitem.lookup (wpAny_getItem_list_slice hl (Heap.IsSliceOf.new ..) pl pu ps h0 ?_ (by rw [List.size_toArray,rl.length];exact hz))
 rw [e1]
 exact mZ (s:={s with heap:=s.heap.push {cls:=.type "slice",data:=.fields #[vl,vu,vs]}}) S' rz q
set_option tactic.hygienic true in
theorem Ev.Wt{a b:PySem.Expr}{p pos:Pos}{Q:PV→AH→Prop}(hg:v8 g)(h:Ev g n env m H a fun p H₁=>Ev g n env m H₁ b fun q H₂=>match q with | .int i=>YF true p i H₂ Q|_=>False):Ev g n env m H (.Subscript a (.Slice (some b) none none p) pos) Q:=fun A s R S F=>by
 refine Subscript_ (h.then R S F fun u s₁ p H₁ ru S₁ c₁ F₁ k=>wpAny_Slice (Ev.then k R S₁ F₁ fun v s₂ q H₂ rv S₂ c₂ F₂ k=>?_))
 rw [evalPart_none]
 refine wpAny_pure (wpAny_pure ?_)
 refine wpAny_mono (Q:=Y5 g s₂ H₂ Q) (E:=fun O O=>False) ?_ (fun O O x=>x.step (c₁.trans c₂)) fun O O x=>x
 split at k
 ·next i=>
  obtain⟨t,rfl⟩:=rv
  have ru:=ru.keeps c₂.q8
  unfold YF at k
  split at k
  ·next l=>
   rw [if_pos rfl] at k
   obtain⟨⟨h1,h2,h3⟩,q⟩:=k
   obtain⟨a,vs,j,rfl,o,rl⟩:=ru
   obtain⟨S',c⟩:=jm (x:={cls:=.type "slice",data:=.fields #[.int i t,.none,.none]}) S₂
   have hT:IsTup (s₂.heap.push {cls:=.type "slice",data:=.fields #[.int i t,.none,.none]}) a vs.toArray:=⟨_,Heap.get?_push_of_some _ o,rfl,_,rfl⟩
   have ei:(i.toNat:Int)=i:=by lia
   refine Y5.calm (s₁:={s₂ with heap:=s₂.heap.push {cls:=.type "slice",data:=.fields #[.int i t,.none,.none]}}) c ?_
   refine Z2 (s:={s₂ with heap:=s₂.heap.push {cls:=.type "slice",data:=.fields #[.int i t,.none,.none]}}) hT.typeIs slot_tuple_getitem.lookup (getItem_tuple_from (a:=i.toNat) (u:=t) hT (by rw [ei];exact Heap.IsSliceOf.new ..) (by lia) (by rw [List.size_toArray,rl.length];lia) ?_ (by rw [List.size_toArray,rl.length];exact h3))
   exact dh (s:={s₂ with heap:=s₂.heap.push {cls:=.type "slice",data:=.fields #[.int i t,.none,.none]}}) (p:=.tup (List.drop i.toNat _)) S' ⟨_,_,0,rfl,Heap.get?_push_size _ rfl,((rl.drop i.toNat).keeps c.q8).keeps (Calm.push ..).q8⟩ q
  ·next p _=>
   split at k
   ·next l e=>
    obtain⟨hz,k⟩:=k
    rw [if_pos rfl] at k
    refine gq S₂ ru e hz (.int i t) .none .none (by simp) (fun{vs h} r=>?_) k.2
    have ei:(i.toNat:Int)=i:=by lia
    refine⟨vs.drop i.toNat,?_,r.drop _⟩
    have:=slicePick_from' vs.toArray i.toNat
    rw [ei] at this
    rw [this]
   ·exact k.elim
 ·exact k.elim
set_option tactic.hygienic true in
theorem Ev.aj4{a b:PySem.Expr}{p pos:Pos}{Q:PV→AH→Prop}(hg:v8 g)(h:Ev g n env m H a fun p H₁=>Ev g n env m H₁ b fun q H₂=>match q with | .int i=>YF false p i H₂ Q|_=>False):Ev g n env m H (.Subscript a (.Slice none (some b) none p) pos) Q:=fun A s R S F=>by
 refine Subscript_ (h.then R S F fun u s₁ p H₁ ru S₁ c₁ F₁ k=>wpAny_Slice ?_)
 rw [evalPart_none]
 refine wpAny_pure (Ev.then k R S₁ F₁ fun v s₂ q H₂ rv S₂ c₂ F₂ k=>?_)
 refine wpAny_pure ?_
 refine wpAny_mono (Q:=Y5 g s₂ H₂ Q) (E:=fun O O=>False) ?_ (fun O O x=>x.step (c₁.trans c₂)) fun O O x=>x
 split at k
 ·next i=>
  obtain⟨t,rfl⟩:=rv
  have ru:=ru.keeps c₂.q8
  unfold YF at k
  split at k
  ·next l=>
   rw [if_neg (by simp)] at k
   obtain⟨⟨h1,h2,h3⟩,q⟩:=k
   obtain⟨a,vs,j,rfl,o,rl⟩:=ru
   obtain⟨S',c⟩:=jm (x:={cls:=.type "slice",data:=.fields #[.none,.int i t,.none]}) S₂
   have hT:IsTup (s₂.heap.push {cls:=.type "slice",data:=.fields #[.none,.int i t,.none]}) a vs.toArray:=⟨_,Heap.get?_push_of_some _ o,rfl,_,rfl⟩
   have ei:(i.toNat:Int)=i:=by lia
   refine Y5.calm (s₁:={s₂ with heap:=s₂.heap.push {cls:=.type "slice",data:=.fields #[.none,.int i t,.none]}}) c ?_
   refine Z2 (s:={s₂ with heap:=s₂.heap.push {cls:=.type "slice",data:=.fields #[.none,.int i t,.none]}}) hT.typeIs slot_tuple_getitem.lookup (nj (b:=i.toNat) (u:=t) hT (by rw [ei];exact Heap.IsSliceOf.new ..) (by rw [List.size_toArray,rl.length];lia) ?_ (by rw [List.size_toArray,rl.length];exact h3))
   exact dh (s:={s₂ with heap:=s₂.heap.push {cls:=.type "slice",data:=.fields #[.none,.int i t,.none]}}) (p:=.tup (List.take i.toNat _)) S' ⟨_,_,0,rfl,Heap.get?_push_size _ rfl,((rl.take i.toNat).keeps c.q8).keeps (Calm.push ..).q8⟩ q
  ·next p _=>
   split at k
   ·next l e=>
    obtain⟨hz,k⟩:=k
    rw [if_neg (by simp)] at k
    by_cases hi:0≤i
    ·rw [if_pos hi] at k
     refine gq S₂ ru e hz .none (.int i t) .none (by simp) (fun{vs h} r=>?_) k
     have ei:(i.toNat:Int)=i:=by lia
     refine⟨vs.take i.toNat,?_,r.take _⟩
     have:=slicePick_upto' vs.toArray i.toNat
     rw [ei] at this
     rw [this]
    ·rw [if_neg hi] at k
     refine gq S₂ ru e hz .none (.int i t) .none (by simp) (fun{vs h} r=>?_) k
     have ei : -((-i).toNat:Int)=i:=by lia
     refine⟨vs.take (l.length-(-i).toNat),?_,r.take _⟩
     have:=slicePick_butLast vs.toArray (-i).toNat (by lia)
     rw [ei] at this
     rw [this,List.size_toArray,r.length]
   ·exact k.elim
 ·exact k.elim
theorem Ev.Zk{a b:PySem.Expr}{p pos:Pos}{Q:PV→AH→Prop}(hg:v8 g)(h:Ev g n env m H a fun p H₁=>Ev g n env m H₁ b fun q H₂=>q = .int (-1)∧match v7 H₂ p with|some l=>l.length≤sizeLine∧Q (.lst l.reverse) H₂|none=>False):Ev g n env m H (.Subscript a (.Slice none none (some b) p) pos) Q:=fun A s R S F=>by
 refine Subscript_ (h.then R S F fun u s₁ p H₁ ru S₁ c₁ F₁ k=>wpAny_Slice ?_)
 rw [evalPart_none]
 refine wpAny_pure (wpAny_pure (Ev.then k R S₁ F₁ fun v s₂ q H₂ rv S₂ c₂ F₂ k=>?_))
 refine wpAny_mono (Q:=Y5 g s₂ H₂ Q) (E:=fun O O=>False) ?_ (fun O O x=>x.step (c₁.trans c₂)) fun O O x=>x
 obtain⟨rfl,k⟩:=k
 obtain⟨t,rfl⟩:=rv
 split at k
 ·next l e=>
  refine gq S₂ (ru.keeps c₂.q8) e k.1 .none .none (.int (-1) t) (by simp) (fun{vs h} r=>⟨vs.reverse,?_,r.reverse⟩) k.2
  rw [KJ];simp
 ·exact k.elim
end
section
variable{τ:T}{g:G τ}{n:Nat}{env:Env}{m:Loc}{H:AH}{Q:PV→AH→Prop}{A:Around}{s:Shared}
theorem m9.kept{h':Heap}(S:m9 g s H)(k:∀b o,s.heap.get? b=some o→h'.get? b=some o)(t:Nat):m9 g {s with heap:=h',toks:=t} H∧Calm s.heap H h' H:=by
 have P:N7 s.heap H h' H:=⟨fun b o O O e O O=>k b o e,fun b o O O e O O q=>⟨k b o e,q⟩,fun b o O e O O=>k b o e⟩
 exact⟨⟨fun b o e=>k b o (S.keep b o e),S.fresh,fun a o e=>(S.obj a o e).keeps P fun x z=>k _ _ z,S.gens,S.os⟩,fun b o e O O=>k b o e,fun O a b=>absurd a b,fun b o e=>⟨o,k b o e⟩,P⟩
theorem jR{h':Heap}{a:Addr}{l l':List PV}{vs':List Value}{k:Nat}(S:m9 g s H)(e:H a=some (.list l))(B:Heap.SameBut a s.heap h')(ho:h'.get? a=some (zH vs' k))(r:j7 g.tab s.heap H l' vs')(t:Nat):
  m9 g {s with heap:=h',toks:=t} (upd H a (.list l'))∧Calm s.heap H h' (upd H a (.list l')):=
 S.turn (o':=.list l') e B ⟨vs',k,ho,r.keeps (aj S e B)⟩ t
theorem KN{h':Heap}{H':AH}{t:Nat}(S:m9 g {s with heap:=h',toks:=t} H')(c:Calm s.heap H h' H')(q:Q .none H'):Y5 g s H Q .none {s with heap:=h',toks:=t}:=⟨.none,H',rfl,S,c,q⟩
theorem z6{a:Addr}{l:List PV}{p:PV}(e:H a=some (.list l))(hz:l.length≤sizeLine)(q:Q .none (upd H a (.list (l++[p])))):Cl g n (.blt "list.append") [.obj a,p] H Q:=.b2 fun A s v1 v2 R S h1 h2=>by
 cases h1
 obtain⟨ws,k,o,uW⟩:=S.obj _ _ e
 refine call_meets (self:=.ref a) (rest:=[v2]) PySem.F.slot_list_append (⟨_,o,rfl⟩:s.TypeIs (.ref a) "list") PySem.F.entry_list_append (PySem.F.args_list_append_2 _ _) (list_append a ws.toArray k v2 (by rw [List.size_toArray,uW.length];exact hz)) ⟨o,?_⟩
 have hu:=Heap.get?_update_self (Obj.mapSeq fun x=>x.push v2) o rfl
 obtain⟨S',c⟩:=jR (l':=l++[p]) (vs':=ws++[v2]) S e (Heap.SameBut.update ..) (by
  rw [hu]
  simp only [Obj.mapSeq,List.push_toArray]
  rfl) (uW.append (.one h2)) s.toks
 exact KN S' c q
theorem nq{a:Addr}{l k:List PV}{p:PV}(e:H a=some (.list l))(ep:p = .tup k∨v7 H p=some k)(hz:l.length+k.length≤sizeLine)(q:Q .none (upd H a (.list (l++k)))):Cl g n (.blt "list.extend") [.obj a,p] H Q:=.b2 fun A s v1 v2 R S h1 h2=>by
 cases h1
 obtain⟨ws,j,o,uW⟩:=S.obj _ _ e
 have e1:ws.toArray.size=l.length:=by rw [List.size_toArray,uW.length]
 have fin:∀(b:Addr) (zs:List Value),v2 = .ref b→j7 g.tab s.heap H k zs→Y5 g s H Q .none {s with heap:=s.heap.update a (Obj.mapSeq fun x=>x++zs.toArray)}:=by
  intro b zs _ rz
  have hu:=Heap.get?_update_self (Obj.mapSeq fun x=>x++zs.toArray) o rfl
  obtain⟨S',c⟩:=jR (l':=l++k) (vs':=ws++zs) S e (Heap.SameBut.update ..) (by
   rw [hu]
   simp only [Obj.mapSeq,List.append_toArray]
   rfl) (uW.append rz) s.toks
  exact KN S' c q
 have d1:∀zs:List Value,zs.length=k.length→¬(!ws.toArray.isEmpty&&Builtin.List.listTooLong (ws.toArray.size+zs.toArray.size))=true:=fun zs ez=>by
  have:Builtin.List.listTooLong (ws.toArray.size+zs.toArray.size)=false:=by
   unfold Builtin.List.listTooLong;rw [decide_eq_false_iff_not,e1,List.size_toArray,ez];exact Nat.not_lt.mpr ‹_›
  rw [this];simp
 rcases ep with rfl|ep
 ·obtain⟨b,zs,i,rfl,o2,rz⟩:=h2
  have ez:zs.toArray.size=k.length:=by rw [List.size_toArray,rz.length]
  exact call_meets (self:=.ref a) (rest:=[.ref b]) PySem.F.slot_list_extend (⟨_,o,rfl⟩:s.TypeIs (.ref a) "list") PySem.F.entry_list_extend (PySem.F.args_list_extend_2 _ _)
   (AutoSeq1.list_extend_list_tuple_0 a ws.toArray j b zs.toArray i (d1 zs rz.length) (by lia) (by lia)) ⟨o,o2,fin b zs rfl rz⟩
 ·obtain⟨b,zs,i,rfl,o2,rz⟩:=S9 (h:=s.heap) S h2 (u9 ep)
  have ez:zs.toArray.size=k.length:=by rw [List.size_toArray,rz.length]
  exact call_meets (self:=.ref a) (rest:=[.ref b]) PySem.F.slot_list_extend (⟨_,o,rfl⟩:s.TypeIs (.ref a) "list") PySem.F.entry_list_extend (PySem.F.args_list_extend_2 _ _)
   (AutoSeq1.list_extend_list_list_0 a ws.toArray j b zs.toArray i (d1 zs rz.length) (by lia) (by lia)) ⟨o,o2,fin b zs rfl rz⟩
theorem DN{a:Addr}{l:List PV}{p:PV}(e:H a=some (.list (l++[p]))) (hz:l.length+1≤sizeLine) (q:Q p (upd H a (.list l))):Cl g n (.blt "list.pop") [.obj a] H Q:=.b1 fun A s v1 R S h1=>by
 cases h1
 obtain⟨ws,j,o,uW⟩:=S.obj _ _ e
 have el:=uW.length
 rw [List.length_append,List.length_singleton] at el
 obtain⟨y,hy,ry⟩:=uW.get (k:=l.length) (p:=p) (by simp)
 have e1:ws.toArray.size=l.length+1:=by rw [List.size_toArray,el]
 refine call_meets (self:=.ref a) (rest:=[]) PySem.F.slot_list_pop (⟨_,o,rfl⟩:s.TypeIs (.ref a) "list") PySem.F.entry_list_pop (PySem.F.args_list_pop_1 _) (MeetsSeq.list_pop_last a ws.toArray j y (by rw [e1];simpa using hy) (by lia)) ⟨o,?_⟩
 have hu:=Heap.get?_update_self (Obj.mapSeq fun xs=>xs.eraseIdxIfInBounds (ws.toArray.size-1)) o rfl
 have ee:ws.toArray.eraseIdxIfInBounds (ws.toArray.size-1)=(ws.take l.length).toArray:=by
  rw [e1]
  simp only [Nat.add_sub_cancel,List.eraseIdxIfInBounds_toArray]
  rw [List.eraseIdx_eq_take_drop_succ,List.drop_of_length_le (by lia),List.append_nil]
 have rt:=uW.take l.length
 rw [List.take_left'] at rt
 ·obtain⟨S',c⟩:=jR (l':=l) (vs':=ws.take l.length) S e (Heap.SameBut.update ..) (by
   rw [hu]
   simp only [Obj.mapSeq,ee]
   rfl) rt s.toks
  exact⟨p,_,ry.keeps c.q8,S',c,q⟩
 ·rfl
noncomputable def Wu(p:PV)(H:AH):Option Nat:=
 match p with
 |.tup l=>some l.length
 |.rng a b=>some (b-a).toNat
 |p=>(v7 H p).map List.length
theorem Gs{i:Int}{t k:Nat}{p:Prop}(S:m9 g s H)(q:Q (.int i) H):Y5 g s H Q (.int i t) {s with toks:=k}:=m7 (p:=.int i) S ⟨_,rfl⟩ q k
theorem jo(a b:Int):Builtin.Range.rangeSize a b 1=((b-a).toNat:Int):=PyProof.Rows.rangeSize_nat a b
theorem KQ{p:PV}{k:Nat}(e:Wu p H=some k):(∃l,p = .tup l∧l.length=k)∨(∃a b,p = .rng a b∧(b-a).toNat=k)∨∃l,v7 H p=some l∧l.length=k:=by
 cases p with
 |tup l=>exact .inl ⟨l,rfl,Option.some.inj e⟩
 |rng a b=>exact .inr (.inl ⟨a,b,rfl,Option.some.inj e⟩)
 |lst l=>exact .inr (.inr ⟨l,rfl,Option.some.inj e⟩)
 |obj a=>exact .inr (.inr (Option.map_eq_some_iff.mp e))
 |_=>cases e
theorem V5{p:PV}{k:Nat}(e:Wu p H=some k)(hz:k<2 ^ 62)(q:Q (.int k) H):Cl g n (.blt "len") [p] H Q:=.b1 fun A s v1 R S h1=>by
 rcases KQ e with⟨l,rfl,rfl⟩|⟨a,b,rfl,rfl⟩|⟨l,el,rfl⟩
 ·obtain⟨a,ws,j,rfl,o,uW⟩:=h1
  have e1:ws.toArray.size=l.length:=by rw [List.size_toArray,uW.length]
  exact len_tuple (⟨_,o,rfl,_,rfl⟩:IsTup s.heap a ws.toArray) (by rw [e1];lia) (e1▸Gs (p:=True) S q)
 ·obtain⟨c,t,u,x,rfl,o⟩:=h1
  exact call_len_range o (jo a b) (by lia) (Gs (p:=True) S q)
 ·obtain⟨a,ws,j,rfl,o,uW⟩:=S9 (h:=s.heap) S h1 (u9 el)
  have e1:ws.toArray.size=l.length:=by rw [List.size_toArray,uW.length]
  exact call_len_list (⟨_,o,rfl,_,rfl⟩:s.heap.IsList a ws.toArray) (by rw [e1];lia) (e1▸Gs (p:=True) S q)
theorem Wv{p:PV}{k:List PV}{v:Value}(S:m9 g s H)(r:Rep g.tab s.heap H p v)(e:p = .tup k∨v7 H p=some k):∃(b:Addr) (ob:Obj) (zs:List Value) (i:Nat) (T:String),(T = "list"∨T = "tuple")∧v = .ref b∧s.heap.get? b=some ob∧ob.cls = .type T∧ob.data = .seq zs.toArray i∧j7 g.tab s.heap H k zs:=by
 rcases e with rfl|e
 ·obtain⟨b,zs,i,rfl,o,rz⟩:=r;exact⟨b,_,zs,i,"tuple",.inr rfl,rfl,o,rfl,rfl,rz⟩
 ·obtain⟨b,zs,i,rfl,o,rz⟩:=S9 (h:=s.heap) S r (u9 e);exact⟨b,_,zs,i,"list",.inl rfl,rfl,o,rfl,rfl,rz⟩
theorem Gu{h':Heap}{c:Nat}{vs:List Value}{l:List PV}{t:Nat}(S:m9 g s H)(k:∀b o,s.heap.get? b=some o→h'.get? b=some o)(e:h'.get? s.heap.objs.size=some (zH vs c))(r:j7 g.tab s.heap H l vs):
  (Q (.lst l) H→Y5 g s H Q (.ref s.heap.objs.size) {s with heap:=h',toks:=t})∧((∀a,H a=none→Q (.obj a) (upd H a (.list l)))→Y5 g s H Q (.ref s.heap.objs.size) {s with heap:=h',toks:=t}):=by
 obtain⟨S',c'⟩:=S.kept k t
 refine⟨fun q=>⟨.lst l,H,⟨_,vs,c,rfl,e,untracked S,r.keeps c'.q8⟩,S',c',q⟩,fun q=>?_⟩
 have un:=untracked S
 have ne:∀b o,s.heap.get? b=some o→b≠s.heap.objs.size:=fun b o z w=>Nat.lt_irrefl _ (w▸Heap.lt_size z)
 have P:N7 s.heap H h' (upd H s.heap.objs.size (.list l)):=⟨fun b o O O e O O=>k b o e,fun b o O O e O O q=>⟨k b o e,by rw [d9 (ne b o e)];exact q⟩,fun b o O e O O=>k b o e⟩
 have C:Calm s.heap H h' (upd H s.heap.objs.size (.list l)):=⟨fun b o e O O=>k b o e,fun b a z=>by
  by_cases w:b=s.heap.objs.size
  ·rw [w];cases y:s.heap.get? s.heap.objs.size with
   |none=>rfl
   |some o=>exact absurd rfl (ne _ o y)
  ·rw [d9 w] at z;exact absurd a z,fun b o e=>⟨o,k b o e⟩,P⟩
 refine⟨.obj _,_,rfl,⟨fun b o e=>k b o (S.keep b o e),fun a z=>?_,fun a o z=>?_,S.gens,S.os⟩,C,q _ un⟩
 ·by_cases w:a=s.heap.objs.size
  ·rw [w];cases y:g.h₀.get? s.heap.objs.size with
   |none=>rfl
   |some o=>exact absurd rfl (ne _ o (S.keep _ _ y))
  ·rw [d9 w] at z;exact S.fresh a z
 ·by_cases w:a=s.heap.objs.size
  ·subst w;rw [c7] at z;cases z;exact⟨vs,c,e,r.keeps P⟩
  ·rw [d9 w] at z;exact(S.obj a o z).keeps P fun O y=>k _ _ y
theorem xP{p:PV}{k:List PV}(e:p = .tup k∨v7 H p=some k)(hz:k.length≤sizeLine)(q:Q (.lst k) H∨∀a,H a=none→Q (.obj a) (upd H a (.list k))):Cl g n (.typ "list") [p] H Q:=.t1 fun A s v1 R S h1=>by
 obtain⟨b,ob,zs,i,T,hT,rfl,ho,hc,hd,rz⟩:=Wv S h1 e
 refine call_list_seq b hT ho hc hd (fun h' c' kp e'=>?_) (by rw [List.size_toArray,rz.length];exact hz)
 have z:=Gu (Q:=Q) (t:=s.toks) S kp e' rz
 exact q.elim z.1 z.2
noncomputable def J2(a:Int):Nat→List PV
 |0=>[]
 |k+1=>.int a::J2 (a+1) k
theorem W2(k:Nat):∀a,(J2 a k).length=k:=by
 induction k with
 |zero=>intro a;rfl
 |succ k ih=>intro a;rw [J2,List.length_cons,ih]
theorem qQ(k:Nat):∀(a:Int) (j:Nat),j<k→(J2 a k)[j]? = some (.int (a+j)):=by
 induction k with
 |zero=>intro a j h;exact absurd ‹_› (Nat.not_lt_zero _)
 |succ k ih=>
  intro a j h
  cases j with
  |zero=>rw [J2,List.getElem?_cons_zero];simp
  |succ j=>rw [J2,List.getElem?_cons_succ,ih _ _ (by exact Nat.le_of_succ_le_succ ‹_›)];congr 2;lia
theorem Gv{h:Heap}{tab:Nat→Str}:∀{l:List PV} {vs:List Value},vs.length=l.length→(∀(j:Nat) (p:PV),l[j]? = some p→∃v,vs[j]? = some v∧Rep tab h H p v)→j7 tab h H l vs
 | [],[],_,_=>rfl
 | [],_::_,e,_=>by simp at e
 |_::_,[],e,_=>by simp at e
 |p::l,v::vs,e,k=>by
  obtain⟨v',hv,r⟩:=k 0 p rfl
  cases hv
  exact⟨v,vs,rfl,r,Gv (by simpa using e) fun j q hq=>by
   obtain⟨x,hx,rx⟩:=k (j+1) q (by rw [List.getElem?_cons_succ];exact hq)
   exact⟨x,by rw [List.getElem?_cons_succ] at hx;exact hx,rx⟩⟩
theorem gA{b:Int}(q:Q (.rng 0 b) H):Cl g n (.typ "range") [.int b] H Q:=.t1 fun A s v1 R S r1=>by
 obtain⟨t,rfl⟩:=r1
 refine call_range_1 ?_
 have c:=Calm.push s.heap H {cls:=.type "range",data:=.fields #[.int 0 s.toks,.int b t,.int 1 (s.toks+1)]}
 exact⟨.rng 0 b,H,⟨_,_,_,_,rfl,Heap.get?_push_size _ rfl⟩,S.push _ _,c,q⟩
theorem Jb{a b:Int}(q:Q (.rng a b) H):Cl g n (.typ "range") [.int a,.int b] H Q:=.t2 fun A s v1 v2 R S r1 r2=>by
 obtain⟨t,rfl⟩:=r1
 obtain⟨t',rfl⟩:=r2
 refine call_range_2 ?_
 exact⟨.rng a b,H,⟨_,_,_,_,rfl,Heap.get?_push_size _ rfl⟩,S.push _ _,Calm.push ..,q⟩
noncomputable def DP(a b:Int):Prop := -(2 ^ 60)≤a∧a<2 ^ 60∧ -(2 ^ 60)≤b∧b<2 ^ 60
theorem DQ{a b:Int}(hs:DP a b)(hz:(b-a).toNat≤2 ^ 24)(q:Q (.lst (J2 a (b-a).toNat)) H∨∀x,H x=none→Q (.obj x) (upd H x (.list (J2 a (b-a).toNat)))):Cl g n (.typ "list") [.rng a b] H Q:=.t1 fun A s v1 R S r1=>by
 obtain⟨c,t,u,x,rfl,o⟩:=r1
 refine call_list_range R.handled o (small_one (by have:=hs.1;lia) (by have:=hs.2.1;lia) (by have:=hs.2.2.1;lia) (by have:=hs.2.2.2;lia)) (jo a b) hz fun h' tk acc' c' kp e' it=>?_
 have rz:j7 g.tab s.heap H (J2 a (b-a).toNat) acc'.toList:=by
  refine Gv ?_ fun j p hp=>?_
  ·rw [W2,Array.length_toList];exact it.1
  ·have hj:j<(b-a).toNat:=by have:=(List.getElem?_eq_some_iff.mp hp).1;rwa [W2] at this
   rw [qQ _ _ _ hj] at hp
   cases hp
   have hj':j<acc'.size:=by rw [it.1];exact hj
   obtain⟨t',e'⟩:=it.2 j _ (Array.getElem?_eq_getElem hj')
   exact⟨_,by rw [Array.getElem?_toList];exact Array.getElem?_eq_getElem hj',t',by rw [e',Int.mul_one]⟩
 have e2:h'.get? s.heap.objs.size=some (zH acc'.toList c'):=by rw [e']
 have z:=Gu (Q:=Q) (t:=tk) S kp e2 rz
 exact q.elim z.1 z.2
end
section
variable{τ:T}{g:G τ}{n:Nat}{env:Env}{m:Loc}{H:AH}{Q:PV→AH→Prop}{A:Around}{s:Shared}
theorem KD.getD{K J:Type} [DecidableEq K] [DecidableEq J](D:KD g K J)(hg:v8 g){a:Addr}{l:List (K×PV)}{k:K}{kv dv:Value}{d:PV}(S:m9 g s H)(e:H a=some (D.ob l))(rk:Rep g.tab s.heap H (D.key k) kv)(rd:Rep g.tab s.heap H d dv)(q:Q ((m8 k l).getD d) H):
  W g A (call (.builtin "dict.get") [.ref a,kv,dv]) s H Q∧(d = .none→W g A (call (.builtin "dict.get") [.ref a,kv]) s H Q):=by
 obtain⟨kvs,hd,hr⟩:=D.rep S e
 have r:=hr.get (D.inj hg) k
 have key:∀t,Y5 g s H Q ((valueAt kvs (D.f k)).getD dv) {s with toks:=t}:=fun t=>by
  cases z:m8 k l with
  |none=>rw [z] at r q;rw [show valueAt kvs (D.f k)=none from r];exact m7 S rd q t
  |some x=>rw [z] at r q;obtain⟨u,hu,ru⟩:=r;rw [hu];exact m7 S ru q t
 refine⟨call_meetsIn (self:=.ref a) (rest:=[kv,dv]) PySem.F.slot_dict_get hd.typeIs PySem.F.entry_dict_get (PySem.F.args_dict_get_3 _ _ _) (meets_dict_get_default D.knd a (D.is _ _ _ _ rk) (ni hg S e) dv) ⟨_,hd.mapOf,key _⟩,fun h=>?_⟩
 subst h
 cases rd
 exact call_meetsIn (self:=.ref a) (rest:=[kv]) PySem.F.slot_dict_get hd.typeIs PySem.F.entry_dict_get (PySem.F.args_dict_get_2 _ _) (meets_dict_get D.knd a (D.is _ _ _ _ rk) (ni hg S e)) ⟨_,hd.mapOf,key _⟩
theorem QL{a:Addr}{l:List (Int×PV)}{i:Int}{d:PV}(hg:v8 g)(e:H a=some (.m6 l))(q:Q ((m8 i l).getD d) H):Cl g n (.blt "dict.get") [.obj a,.int i,d] H Q:=.b3 fun A s v1 v2 v3 R S h1 h2 h3=>by
 cases h1
 exact((KD.int g).getD hg S e h2 h3 q).1
theorem xQ{prog:Program}{w:World}{K:Type} [DecidableEq K]{knd:PySem.KeyKind prog w K}{k:K}{key dv:Value}{a:Addr}{kvs:List (K×Value)}(hkey:knd.is k key=true)(hd:(a==sysModules)=false)(hpart:(keyPart key).isSome=true):
  MeetsIn prog w (Builtin.«dict.pop» ⟨[.ref a,key,dv],[]⟩) (fun O R s=>s.heap.DictOf knd a kvs∧valueAt kvs k=none∧R (.ok (.ret dv)) {s with toks:=s.toks+1}):=
 .of_wp fun A R s ⟨hm,hv,h⟩=>by
  unfold Builtin.«dict.pop»
  refine wpAny_bind ?_
  unfold Builtin.Dict.keyAndDefault
  refine wpAny_bind (wpAny_notOrdered_dict hm.typeIs ?_)
  show wpAny _ _ (pure (a,key,some dv)) _ _ s
  refine wpAny_pure ?_
  simp only [hpart,if_true]
  refine wpAny_bind (wpAny_pure ?_)
  simp only [Bool.false_eq_true,if_false]
  refine wpAny_bind (wpAny_takeOut_pairs_none hkey hm hv ?_)
  simp only [Option.isNone_none,if_true]
  refine wpAny_bind (wpAny_missedRemoval_other hd ?_)
  exact wpAny_bind (wpAny_rule (wpAny_pure ⟨dv,rfl,h⟩))
theorem vW{K:Type} [DecidableEq K]{k:K}:∀{l:List (K×PV)},m8 k l=none→iD k l=l
 | [],_=>rfl
 |q::r,h=>by
  by_cases hk:q.1=k
  ·rw [qM hk] at h;cases h
  ·rw [qN hk] at h;rw [zQ hk,vW h]
theorem QM{a:Addr}{l:List (Int×PV)}{k:Int}{d:PV}(hg:v8 g)(e:H a=some (.m6 l))(hz:l.length≤sizeLine)(q:Q ((m8 k l).getD d) (upd H a (.m6 (iD k l)))):Cl g n (.blt "dict.pop") [.obj a,.int k,d] H Q:=.b3 fun A s v1 v2 v3 R S h1 h2 h3=>by
 cases h1
 obtain⟨kvs,hd,hr⟩:=(KD.int g).rep S e
 have nd:(kvs.map (·.1)).Nodup:=by obtain⟨_,_,_,_,_,_,_,_,nd⟩:=hd;exact nd
 have r:=hr.get ((KD.int g).inj hg) k
 have hkey:=(KD.int g).is _ _ _ _ h2
 obtain⟨t,rfl⟩:=h2
 cases z:m8 k l with
 |none=>
  rw [z] at r q
  rw [vW z] at q
  have hH:upd H a (.m6 l)=H:=by
   funext b
   by_cases w:b=a
   ·rw [w,c7,e]
   ·rw [d9 w]
  rw [hH] at q
  exact call_meetsIn (self:=.ref a) (rest:=[.int k t,v3]) PySem.F.slot_dict_pop hd.typeIs PySem.F.entry_dict_pop (PySem.F.args_dict_pop_3 _ _ _) (xQ (kvs:=kvs) hkey (ni hg S e) rfl) ⟨hd,r,m7 S h3 q _⟩
 |some x=>
  rw [z] at r q
  obtain⟨u,hu,ru⟩:=r
  refine call_meetsIn (self:=.ref a) (rest:=[.int k t,v3]) PySem.F.slot_dict_pop hd.typeIs PySem.F.entry_dict_pop (PySem.F.args_dict_pop_3 _ _ _) (meets_dict_pop_there (knd:=(KD.int g).knd) (d:=a) hkey [v3] (.inr ⟨v3,rfl⟩) rfl) ⟨kvs,u,hd,by rw [hr.length];exact hz,hu,fun h' hd' B=>?_⟩
  obtain⟨S',c⟩:=S.turn (o':=.m6 (iD k l)) e B ⟨_,hd',(hr.del ((KD.int g).inj hg) k nd).keeps (aj S e B)⟩ (s.toks+1)
  exact⟨x,_,ru.keeps c.q8,S',c,q⟩
theorem cD{p:PV}{k:List PV}(e:p = .tup k∨v7 H p=some k)(hz:k.length≤sizeLine)(q:Q (.tup k) H):Cl g n (.typ "tuple") [p] H Q:=.t1 fun A s v1 R S h1=>by
 rcases e with rfl|e
 ·have h1':=h1
  obtain⟨b,zs,i,rfl,o,rz⟩:=h1
  exact call_tuple_tup (⟨_,o,rfl,_,rfl⟩:IsTup s.heap b zs.toArray) (m7 S h1' q s.toks)
 ·obtain⟨b,zs,i,rfl,o,rz⟩:=S9 (h:=s.heap) S h1 (u9 e)
  refine call_tuple_list (⟨_,o,rfl,_,rfl⟩:s.heap.IsList b zs.toArray) (fun h' kp=>?_) (by rw [List.size_toArray,rz.length];exact hz)
  obtain⟨S',c⟩:=S.kept kp s.toks
  exact(dh (s:={s with heap:=h'}) (p:=.tup k) S' ⟨_,zs,0,rfl,Heap.get?_push_size _ rfl,(rz.keeps c.q8).keeps (Calm.push ..).q8⟩ q).step c
theorem gC{i:Int}(q:Q (.int i) H):Cl g n (.typ "int") [.int i] H Q:=.t1 fun A s v1 R S h1=>by
 obtain⟨t,rfl⟩:=h1
 exact call_int_int (m7 (p:=.int i) S ⟨_,rfl⟩ q s.toks)
theorem QS{b:Bool}(q:Q (.int (if b then 1 else 0)) H):Cl g n (.typ "int") [.bool b] H Q:=.t1 fun A s v1 R S h1=>by
 cases h1
 exact call_int_bool (m7 (p:=.int _) S ⟨_,rfl⟩ q _)
theorem Ww{a b:Int}(q:Q (.int (if b > a then b else a)) H):Cl g n (.blt "max") [.int a,.int b] H Q:=.b2 fun A s v1 v2 R S r1 r2=>by
 obtain⟨t,rfl⟩:=r1
 obtain⟨t',rfl⟩:=r2
 refine max_two_ints R.handled fun h' tk kp=>?_
 obtain⟨S',c⟩:=S.kept kp tk
 split
 ·next h=>rw [if_pos h] at q;exact⟨.int b,H,⟨_,rfl⟩,S',c,q⟩
 ·next h=>rw [if_neg h] at q;exact⟨.int a,H,⟨_,rfl⟩,S',c,q⟩
noncomputable def bools:List PV→Option (List Bool)
 | []=>some []
 |.bool b::l=>(bools l).map (b :: ·)
 |_::_=>none
theorem vX:∀{l:List PV} {bs:List Bool},bools l=some bs→l=bs.map .bool
 | [],bs,h=>by cases h;rfl
 |p::l,bs,h=>by
  cases p<;>first|(cases h;done)|skip
  obtain⟨cs,hc,rfl⟩:=Option.map_eq_some_iff.mp h
  rw [List.map_cons,← vX hc]
theorem Wx{p:PV}{l:List PV}{bs:List Bool}(e:v7 H p=some l)(eb:bools l=some bs)(q:Q (.bool (bs.all id)) H):Cl g n (.blt "all") [p] H Q:=.b1 fun A s v1 R S h1=>by
 obtain⟨a,ws,j,rfl,o,uW⟩:=S9 (h:=s.heap) S h1 (u9 e)
 have hl:s.heap.IsList a ws.toArray:=⟨_,o,rfl,_,rfl⟩
 have hlt:a<s.heap.objs.size:=Heap.lt_size o
 refine call_all_walk (wpAny_pyIter_list hl ?_)
 have hb:=vX eb
 have hlen:ws.length=bs.length:=by rw [uW.length,hb,List.length_map]
 have vals:∀i b,bs[i]? = some b→ws[i]? = some (Value.bool b):=fun i b hi=>by
  obtain⟨v,hv,r⟩:=uW.get (k:=i) (p:=.bool b) (by rw [hb,List.getElem?_map,hi];rfl)
  cases r;exact hv
 refine⟨s.heap.objs.size,_,_,_,_,_,fun i=>(bs[i]?).getD true,rfl,Walks.list (A:=A.in1) R.handled s.heap.objs.size a (Nat.ne_of_lt hlt) ws.toArray,⟨⟨_,Heap.get?_push_size _ rfl,rfl,rfl⟩,hl.push _⟩,?_,fun h' tk kp=>?_⟩
 ·intro i v s' Q' E' hP hQ
  have hP':ws[i]? = some v:=by simpa using hP
  have hi:i<bs.length:=by rw [← hlen];exact(List.getElem?_eq_some_iff.mp hP').1
  obtain⟨b,hb'⟩:∃b,bs[i]? = some b:=⟨bs[i],List.getElem?_eq_getElem hi⟩
  rw [vals i b hb'] at hP'
  cases hP'
  have hQ':Q' b s':=by simpa [hb'] using hQ
  exact wpAny_truthy_bool hQ'
 ·have kp':∀b o,s.heap.get? b=some o→h'.get? b=some o:=fun b o z=>kp b o (fun hm=>by
   rcases List.mem_cons.mp hm with w|w
   ·rw [w] at z;exact Nat.lt_irrefl _ (Heap.lt_size z)
   ·cases w) (Heap.get?_push_of_some _ z)
  obtain⟨S',c⟩:=S.kept kp' tk
  have eq:(List.range ws.toArray.size).all (fun i=>(bs[i]?).getD true)=bs.all id:=by
   rw [List.size_toArray,hlen,Bool.eq_iff_iff,List.all_eq_true,List.all_eq_true]
   constructor
   ·intro h x hx
    obtain⟨i,hi,rfl⟩:=List.mem_iff_getElem.mp hx
    have:=h i (List.mem_range.mpr hi)
    rw [List.getElem?_eq_getElem hi] at this
    exact this
   ·intro h i hi
    have hi':=List.mem_range.mp hi
    rw [List.getElem?_eq_getElem hi']
    exact h _ (List.getElem_mem hi')
  rw [eq]
  exact⟨.bool _,H,rfl,S',c,q⟩
noncomputable def BM(T:String)(name:Str)(id:String):Prop:=PlainAttrs T∧Slot T name id∧typeOf (.builtin id)=pure (.type "method_descriptor")∧handedIn (.builtin id)=true
noncomputable def QT(T:String)(name:Str)(id:String):Bool:=
 (T == "list" && ((name == "append" && id == "list.append")||(name == "extend" && id == "list.extend")||(name == "pop" && id == "list.pop"))) ||
 (T == "dict" && ((name == "get" && id == "dict.get")||(name == "pop" && id == "dict.pop")))
theorem Uz{T:String}{name:Str}{id:String}(h:QT T name id=true):BM T name id:=by
 unfold QT at h
 simp only [Bool.or_eq_true,Bool.and_eq_true,beq_iff_eq] at h
 rcases h with⟨rfl,(⟨rfl,rfl⟩|⟨rfl,rfl⟩)|⟨rfl,rfl⟩⟩|⟨rfl,⟨rfl,rfl⟩|⟨rfl,rfl⟩⟩
 ·exact⟨PySem.F.plainAttrs_list,PySem.F.slot_list_append,PySem.F.type_list_append,by decide⟩
 ·exact⟨PySem.F.plainAttrs_list,PySem.F.slot_list_extend,PySem.F.type_list_extend,by decide⟩
 ·exact⟨PySem.F.plainAttrs_list,PySem.F.slot_list_pop,PySem.F.type_list_pop,by decide⟩
 ·exact⟨PySem.F.plainAttrs_dict,PySem.F.slot_dict_get,PySem.F.type_dict_get,by decide⟩
 ·exact⟨PySem.F.plainAttrs_dict,PySem.F.slot_dict_pop,PySem.F.type_dict_pop,by decide⟩
inductive pJ(H:AH):String→PV→Prop
 |list {a:Addr} {l:List PV}:H a=some (.list l)→pJ H "list" (.obj a)
 |m6 {a:Addr} {l:List (Int×PV)}:H a=some (.m6 l)→pJ H "dict" (.obj a)
 |w5 {a:Addr} {l:List (Nat×PV)}:H a=some (.w5 l)→pJ H "dict" (.obj a)
 |w7 {a:Addr} {l:List ((Int×Int)×PV)}:H a=some (.w7 l)→pJ H "dict" (.obj a)
set_option tactic.hygienic true in
theorem Zm{T:String}{p:PV}{v:Value}(S:m9 g s H)(r:Rep g.tab s.heap H p v)(h:pJ H T p):s.TypeIs v T∧∀a,v = .ref a→∃ob,s.heap.get? a=some ob∧ob.dict=none:=by
 cases h with
 |list e=>cases r;obtain⟨vs,k,o,_⟩:=S.obj _ _ e;exact⟨⟨_,o,rfl⟩,fun b hb=>by cases hb;exact⟨_,o,rfl⟩⟩
 |m6 e=>cases r;obtain⟨kvs,hd,_⟩:=(KD.int g).rep S e;exact⟨hd.typeIs,hd.mapOf.noDict⟩
 |w5 e=>cases r;obtain⟨kvs,hd,_⟩:=(KD.str g).rep S e;exact⟨hd.typeIs,hd.mapOf.noDict⟩
 |w7 e=>cases r;obtain⟨xs,hd,_⟩:=S.obj _ _ e;exact⟨hd.typeIs,dictOfH_noDict hd⟩
theorem Ev.Q0{o:PySem.Expr}{x:Nat}{T id:String}{es:List PySem.Expr}{apos pos:Pos}{Q:PV→AH→Prop}(hg:v8 g)(hb:vR o)(hbm:BM T (g.tab x) id)(hline:(apos.endLine==pos.line)=true)(hlen:es.length<30)(hs:∀e∈es,bQ e)
  (h:Ev g n env m H o fun p H₁=>pJ H₁ T p∧oJ g n env m H₁ pos es fun l H₂=>Cl g n (.blt id) (p::l) H₂ Q):Ev g n env m H (.Call (.Attribute o (g.tab x) apos) es [] pos) Q:=fun A s R S F=>by
 refine wpAny_Call_method_late (trees:=backTo pos (starEach es env)) (hb _ _) ?_ hline rfl (h.then R S F fun v s' p H' r S' c F' q=>?_)
 ·have:(backTo pos (starEach es env)).all (fun y => !y.1)=true:=by
   have:=noStar (pos:=pos) (env:=env) hs
   rw [List.any_eq_false] at this
   rw [List.all_eq_true]
   intro y hy
   have:=this y hy
   simpa using this
  rw [this]
  show(true&&true&&decide (es.length+0+0<30))=true
  simp [hlen]
 ·obtain⟨b1,b2,b3,b4⟩:=hbm
  obtain⟨t1,t2⟩:=Zm S' r q.1
  refine⟨T,id,b1,b2,b3,t1,t2,?_⟩
  exact Y5.calm c (bA (fl:=[p]) hg R S' F' hs vU (⟨rfl,b4⟩:Rep g.tab s'.heap H' (.blt id) (.builtin id)) (j7.one r) q.2)
end
section
variable{τ:T}{g:G τ}{n:Nat}{env:Env}{m:Loc}{H:AH}{A:Around}{s:Shared}
noncomputable def itemsOf(H:AH):PV→Option (List PV)
 |.tup l=>some l
 |.rng a b=>some (J2 a (b-a).toNat)
 |p=>v7 H p
noncomputable def zX:PV→Prop
 |.rng a b=>DP a b
 |_=>True
noncomputable def okW(p:PV)(k:Prop):Prop:=match p with
 |.rng a b=>DP a b∧k
 |_=>k
theorem okW.src{p:PV}{k:Prop}(h:okW p k):zX p∧k:=by cases p<;>first|exact h|exact⟨trivial,h⟩
inductive aj5(I:Addr)(k:Nat)(h:Heap)(R:List Value→Prop):Prop
 |mk (t:Addr) (vs:List Value) (j:Nat) (i:IsTupIter h I t k) (o:h.get? t=some (YS vs j)) (r:R vs)
inductive aj6(I:Addr)(k:Nat)(h:Heap)(H:AH)(R:List Value→Prop):Prop
 |mk (t:Addr) (vs:List Value) (j:Nat) (i:h.IsListIter I t k) (o:h.get? t=some (zH vs j)) (q:H t=none) (r:R vs)
noncomputable def K5(g:G τ)(p:PV)(I:Addr)(k:Nat)(h:Heap)(H:AH):Prop:=
 match p with
 |.tup l=>aj5 I k h (j7 g.tab h H l)
 |.rng a b=>IsRangeIter h I (a+k) (((b-a).toNat:Int)-k) 1
 |.lst l=>aj6 I k h H (j7 g.tab h H l)
 |.obj a=>h.IsListIter I a k∧∃l,H a=some (.list l)
 |_=>False
set_option tactic.hygienic true in
theorem K5.keeps{p:PV}{I:Addr}{k:Nat}{h h':Heap}{H H':AH}(x:K5 g p I k h H)(ki:∀o,h.get? I=some o→h'.get? I=some o)(P:N7 h H h' H')(e:itemsOf H' p=itemsOf H p):K5 g p I k h' H':=by
 cases p
 case tup l=>obtain⟨t,vs,j,⟨o,e1,e2⟩,e3,r⟩:=x;exact⟨t,vs,j,⟨o,ki _ e1,e2⟩,P.tup _ _ _ _ e3 rfl rfl,r.keeps P⟩
 case rng a b=>exact ki _ x
 case lst l=>obtain⟨t,vs,j,⟨o,e1,e2⟩,e3,q,r⟩:=x;exact⟨t,vs,j,⟨o,ki _ e1,e2⟩,(P.lst _ _ _ _ e3 rfl rfl q).1,(P.lst _ _ _ _ e3 rfl rfl q).2,r.keeps P⟩
 case obj a=>
  obtain⟨⟨o,e1,e2⟩,l,hl⟩:=x
  rcases u9 (show v7 H' (.obj a)=some l from e.trans (I3 hl)) with w|⟨b,w,e⟩
  ·cases w
  ·cases w;exact⟨⟨o,ki _ e1,e2⟩,l,e⟩
 all_goals exact x.elim
set_option tactic.hygienic true in
theorem K5.at{p:PV}{I:Addr}{k:Nat}{h:Heap}(x:K5 g p I k h H):∃o xs,h.get? I=some o∧o.data = .fields xs∧¬Kr o.cls∧o.cls≠.type "tuple"∧o.cls≠.type "list" := by
 cases p
 case tup l=>obtain⟨t,vs,j,⟨o,e1,e2,e3⟩,_⟩:=x;exact⟨o,_,e1,e3,by rw [e2];simp,by rw [e2];simp,by rw [e2];simp⟩
 case rng a b=>exact⟨_,_,x,rfl,by simp,by simp,by simp⟩
 case lst l=>obtain⟨t,vs,j,⟨o,e1,e2,e3⟩,_⟩:=x;exact⟨o,_,e1,e3,by rw [e2];simp,by rw [e2];simp,by rw [e2];simp⟩
 case obj a=>obtain⟨⟨o,e1,e2,e3⟩,_⟩:=x;exact⟨o,_,e1,e3,by rw [e2];simp,by rw [e2];simp,by rw [e2];simp⟩
 all_goals exact x.elim
theorem bB(S:m9 g s H):s.heap.get? s.heap.objs.size=none∧H s.heap.objs.size=none∧g.h₀.get? s.heap.objs.size=none:=by
 have f:∀o,s.heap.get? s.heap.objs.size=some o→False:=fun o e=>Nat.lt_irrefl _ (Heap.lt_size e)
 refine⟨?_,untracked S,?_⟩
 ·cases e:s.heap.get? s.heap.objs.size with
  |none=>rfl
  |some o=>exact(f o e).elim
 ·cases e:g.h₀.get? s.heap.objs.size with
  |none=>rfl
  |some o=>exact(f o (S.keep _ _ e)).elim
set_option tactic.hygienic true in
theorem jq{p:PV}{v:Value}{l:List PV}{P:Value→Shared→Prop}{E:Value→Shared→Prop}(S:m9 g s H)(r:Rep g.tab s.heap H p v)(e:itemsOf H p=some l)(ok:zX p)
  (k:∀I s₁,m9 g s₁ H→Calm s.heap H s₁.heap H→K5 g p I 0 s₁.heap H→s.heap.get? I=none→H I=none→g.h₀.get? I=none→P (.ref I) s₁):wpAny (model g.prog g.w) A (pyIter v) P E s:=by
 obtain⟨f1,f2,f3⟩:=bB S
 have c:∀x,m9 g {s with heap:=s.heap.push x} H∧Calm s.heap H (s.heap.push x) H:=fun x=>⟨S.push x s.toks,Calm.push ..⟩
 cases p
 case tup l=>
  obtain⟨t,vs,j,rfl,o,rl⟩:=r
  refine iter_tuple (⟨_,o,rfl,_,rfl⟩:IsTup s.heap t vs.toArray) (k _ _ (c _).1 (c _).2 ⟨t,vs,j,⟨_,Heap.get?_push_size _ rfl,rfl,rfl⟩,Heap.get?_push_of_some _ o,rl.keeps (c _).2.q8⟩ f1 f2 f3)
 case rng a b=>
  obtain⟨t,x,y,z,rfl,o⟩:=r
  refine wpAny_pyIter_range o (small_one (by have:=ok.1;lia) (by have:=ok.2.1;lia) (by have:=ok.2.2.1;lia) (by have:=ok.2.2.2;lia)) (k _ _ (c _).1 (c _).2 ?_ f1 f2 f3)
  show Heap.get? _ _=_
  rw [Heap.get?_push_size _ rfl,jo]
  simp
 case lst l=>
  obtain⟨t,vs,j,rfl,o,q,rl⟩:=r
  exact wpAny_pyIter_list (⟨_,o,rfl,_,rfl⟩:s.heap.IsList t vs.toArray) (k _ _ (c _).1 (c _).2 ⟨t,vs,j,⟨_,Heap.get?_push_size _ rfl,rfl,rfl⟩,Heap.get?_push_of_some _ o,q,rl.keeps (c _).2.q8⟩ f1 f2 f3)
 case obj a=>
  rcases u9 (p:=.obj a) e with w|⟨b,w,e⟩
  ·cases w
  ·cases w
   cases r
   obtain⟨vs,j,o,rl⟩:=S.obj _ _ e
   exact wpAny_pyIter_list (⟨_,o,rfl,_,rfl⟩:s.heap.IsList a vs.toArray) (k _ _ (c _).1 (c _).2 ⟨⟨_,Heap.get?_push_size _ rfl,rfl,rfl⟩,l,e⟩ f1 f2 f3)
 all_goals cases e
theorem Wy{h':Heap}{c:Addr}{x:Obj}{xs:Array Value}(S:m9 g s H)(e:s.heap.get? c=some x)(nd:x.data = .fields xs∧¬Kr x.cls)(hc:H c=none)(hb:g.h₀.get? c=none)(B:Heap.ExtBut c s.heap h')(t:Nat):
  m9 g {s with heap:=h',toks:=t} H∧N7 s.heap H h' H:=by
 have P:N7 s.heap H h' H:=by
  refine⟨fun b o ys k q d cc=>B b o (fun z=>?_) q,fun b o ys k q d cc z=>⟨B b o (fun z=>?_) q,z⟩,fun b o ys q d cc=>B b o (fun z=>?_) q⟩
  all_goals (subst z;rw [e] at q;cases q)
  ·rw [nd.1] at d;cases d
  ·rw [nd.1] at d;cases d
  ·exact nd.2 cc
 refine⟨⟨fun b o q=>B b o (fun z=>?_) (S.keep b o q),S.fresh,fun a o q=>(S.obj a o q).keeps P fun y z=>B a y (fun w=>?_) z,S.gens,S.os⟩,P⟩
 ·subst z;rw [hb] at q;cases q
 ·subst w;rw [hc] at q;cases q
theorem Goes.ext{F:Addr→Prop}{h h' h'':Heap}{H H':AH}{c:Addr}(a:Goes F h H h' H')(B:Heap.ExtBut c h' h'')(hc:h.get? c=none)(P:N7 h' H' h'' H'):Goes F h H h'' H':=by
 have ne:∀b o,h.get? b=some o→b≠c:=fun b o e z=>by rw [z,hc] at e;cases e
 exact⟨fun b o e q f=>B b o (ne b o e) (a.keep b o e q f),a.new,fun b o e=>let⟨o',e'⟩:=a.ex b o e;⟨o',B b o' (ne b o e) e'⟩,a.q8.trans P⟩
theorem Goes.drop{F F':Addr→Prop}{h h':Heap}{H H':AH}(a:Goes F h H h' H')(k:∀b,F b→h.get? b=none∨F' b):Goes F' h H h' H':=
 ⟨fun b o e q f=>a.keep b o e q fun z=>(k b z).elim (fun w=>by rw [e] at w;cases w) f,a.new,a.ex,a.q8⟩
set_option tactic.hygienic true in
theorem nu{p q:PV}{l:List PV}{I:Addr}{k:Nat}{P:Option Value→Shared→Prop}{E:Value→Shared→Prop}(S:m9 g s H)(x:K5 g p I k s.heap H)(hI:H I=none)(hb:g.h₀.get? I=none)(e:itemsOf H p=some l)(hq:l[k]? = some q)
  (K:∀v s',Rep g.tab s'.heap H q v→m9 g s' H→Goes (fun b=>b=I) s.heap H s'.heap H→K5 g p I (k+1) s'.heap H→P (some v) s'):wpAny (model g.prog g.w) A (pyNext (.ref I)) P E s:=by
 obtain⟨o,xs,e1,e2,e3,e4,e5⟩:=x.at
 have turn:∀h' t,Heap.SameBut I s.heap h'→(∃y,h'.get? I=some y)→m9 g {s with heap:=h',toks:=t} H∧Goes (fun b=>b=I) s.heap H h' H:=fun h' t B ex=>
  jN S e1 ⟨fun ys j d=>(by rw [e2] at d;cases d),fun ys O=>e3⟩ hI hb B ex t
 cases p
 case tup l'=>
  obtain⟨t,vs,j,it,ot,rl⟩:=x
  cases e
  obtain⟨v,hv,rv⟩:=rl.get hq
  have hne:t≠I:=fun z=>by rw [z,e1] at ot;cases ot;cases e2
  refine next_tuple_item it (⟨_,ot,rfl,_,rfl⟩:IsTup s.heap t vs.toArray) (by simpa using hv) fun h' it' B=>?_
  obtain⟨S',c⟩:=turn h' s.toks B (let⟨o,z,_⟩:=it';⟨o,z⟩)
  exact K v _ (rv.keeps c.q8) S' c ⟨t,vs,j,it',(B.2 t hne).trans ot,rl.keeps c.q8⟩
 case rng a b=>
  cases e
  have hk:k<(b-a).toNat:=by have:=(List.getElem?_eq_some_iff.mp hq).1;rwa [W2] at this
  rw [qQ _ _ _ hk] at hq
  cases hq
  have x':IsRangeIter s.heap I (a+k) (((b-a).toNat:Int)-k) 1:=x
  refine wpAny_pyNext_range_item x' (by lia) fun h' it' B=>?_
  obtain⟨S',c⟩:=turn h' (s.toks+1) B ⟨_,it'⟩
  refine K _ _ ⟨_,rfl⟩ S' c ?_
  show IsRangeIter h' I _ _ 1
  have h1:a+((k+1:Nat):Int)=a+k+1:=by lia
  have h2:((b-a).toNat:Int)-((k+1:Nat):Int)=(b-a).toNat-k-1:=by lia
  rw [h1,h2];exact it'
 case lst l'=>
  obtain⟨t,vs,j,it,ot,ut,rl⟩:=x
  cases e
  obtain⟨v,hv,rv⟩:=rl.get hq
  have hne:t≠I:=fun z=>by rw [z,e1] at ot;cases ot;cases e2
  refine wpAny_pyNext_list_item it (⟨_,ot,rfl,_,rfl⟩:s.heap.IsList t vs.toArray) (by simpa using hv) fun h' it' B=>?_
  obtain⟨S',c⟩:=turn h' s.toks B (let⟨o,z,_⟩:=it';⟨o,z⟩)
  exact K v _ (rv.keeps c.q8) S' c ⟨t,vs,j,it',(B.2 t hne).trans ot,ut,rl.keeps c.q8⟩
 case obj a=>
  obtain⟨it,l',hl⟩:=x
  have el:l'=l:=Option.some.inj ((I3 hl).symm.trans e)
  subst el
  obtain⟨vs,j,ot,rl⟩:=S.obj _ _ hl
  obtain⟨v,hv,rv⟩:=rl.get hq
  refine wpAny_pyNext_list_item it (⟨_,ot,rfl,_,rfl⟩:s.heap.IsList a vs.toArray) (by simpa using hv) fun h' it' B=>?_
  obtain⟨S',c⟩:=turn h' s.toks B (let⟨o,z,_⟩:=it';⟨o,z⟩)
  exact K v _ (rv.keeps c.q8) S' c ⟨it',l',hl⟩
 all_goals exact x.elim
set_option tactic.hygienic true in
theorem qR{p:PV}{l:List PV}{I:Addr}{P:Option Value→Shared→Prop}{E:Value→Shared→Prop}(hh:A.handled=none)(S:m9 g s H)(x:K5 g p I l.length s.heap H)(hI:H I=none)(hb:g.h₀.get? I=none)(e:itemsOf H p=some l)
  (K:∀h',m9 g {s with heap:=h'} H→Heap.ExtBut I s.heap h'→N7 s.heap H h' H→P none {s with heap:=h'}):wpAny (model g.prog g.w) A (pyNext (.ref I)) P E s:=by
 obtain⟨o,xs,e1,e2,e3,e4,e5⟩:=x.at
 have turn:∀h',Heap.ExtBut I s.heap h'→P none {s with heap:=h'}:=fun h' B=>by
  obtain⟨S',P'⟩:=Wy S e1 ⟨e2,e3⟩ hI hb B s.toks
  exact K h' S' B P'
 cases p
 case tup l'=>
  obtain⟨t,vs,j,it,ot,rl⟩:=x
  cases e
  exact next_tuple_end hh it (⟨_,ot,rfl,_,rfl⟩:IsTup s.heap t vs.toArray) (by rw [← rl.length];simp) turn
 case rng a b=>
  cases e
  have x':IsRangeIter s.heap I (a+((J2 a (b-a).toNat).length:Nat)) (((b-a).toNat:Int)-((J2 a (b-a).toNat).length:Nat)) 1:=x
  exact wpAny_pyNext_range_end hh x' (by rw [W2];lia) turn
 case lst l'=>
  obtain⟨t,vs,j,it,ot,ut,rl⟩:=x
  cases e
  exact wpAny_pyNext_list_end hh it (⟨_,ot,rfl,_,rfl⟩:s.heap.IsList t vs.toArray) (by rw [← rl.length];simp) turn
 case obj a=>
  obtain⟨it,l',hl⟩:=x
  have el:l'=l:=Option.some.inj ((I3 hl).symm.trans e)
  subst el
  obtain⟨vs,j,ot,rl⟩:=S.obj _ _ hl
  exact wpAny_pyNext_list_end hh it (⟨_,ot,rfl,_,rfl⟩:s.heap.IsList a vs.toArray) (by rw [← rl.length];simp) turn
 all_goals exact x.elim
end
section
variable{τ:T}{g:G τ}{n:Nat}{env:Env}{m:Loc}{H:AH}{A:Around}{s:Shared}
inductive KR(v:PV)(H:AH)(Q:AH→Prop):PV→PV→Prop
 |list {a:Addr} {l:List PV} {i:Int} (o:H a=some (.list l)) (h1:0≤i) (h2:i<l.length) (h3:l.length≤sizeLine) (h:Q (upd H a (.list (l.set i.toNat v)))):KR v H Q (.obj a) (.int i)
 |m6 {a:Addr} {l:List (Int×PV)} {i:Int} (o:H a=some (.m6 l)) (z:l.length≤sizeLine) (h:Q (upd H a (.m6 (N8 i v l)))):KR v H Q (.obj a) (.int i)
 |w5 {a:Addr} {l:List (Nat×PV)} {i:Nat} (o:H a=some (.w5 l)) (z:l.length≤sizeLine) (h:Q (upd H a (.w5 (N8 i v l)))):KR v H Q (.obj a) (.str i)
 |w7 {a:Addr} {l:List ((Int×Int)×PV)} {ij:Int×Int} (o:H a=some (.w7 l)) (z:l.length≤sizeLine) (h:Q (upd H a (.w7 (N8 ij v l)))):KR v H Q (.obj a) (.tup [.int ij.1,.int ij.2])
noncomputable abbrev DR(p k v:PV)(H:AH)(Q:AH→Prop):Prop:=KR v H Q p k
theorem DW{a:Addr}{vs:List Value}{j:Nat}{i:Int}{t:Tok}{v:Value}{Q:Unit→Shared→Prop}{E:Value→Shared→Prop}(o:s.heap.get? a=some (zH vs j))(h0:0≤i)(hn:i<vs.length)(hz:vs.length≤sizeLine)
  (h:Q () {s with heap:=s.heap.update a (Obj.mapSeq (·.setIfInBounds i.toNat v))}):wpAny (model g.prog g.w) A (setItem (.ref a) (.int i t) v) Q E s:=by
 have hl:s.heap.IsList a vs.toArray:=⟨_,o,rfl,_,rfl⟩
 have hfit:i<2 ^ 63:=by rw [sizeLine_eq] at hz;lia
 have hx:vs.toArray[i.toNat]? = some (vs[i.toNat]'(by lia)):=by simp
 unfold setItem
 refine wpAny_holding ?_
 refine wpAny_bind (wpAny_sequenceKey hl.typeIs (by decide) ?_)
 refine wpAny_bind (wpAny_callSpecial?_slot (name:=Str.ofString "__setitem__") hl.typeIs slot_list_setitem
  (wpAny_call_entry slot_list_setitem hl.typeIs entry_list_setitem ?_ (args_list_setitem _ _ _)))
 show wpAny _ _ (Builtin.List.listSubscript? (.int i t) >>= _) _ _ s
 refine wpAny_bind (wpAny_listSubscript_int (fitsIndex_of h0 hfit) ?_)
 obtain⟨k,rfl⟩:=Int.eq_ofNat_of_zero_le h0
 show wpAny _ _ ((seqItemAt a k >>= fun r=>pure (r.map (k,·))) >>= _) _ _ s
 refine wpAny_bind (wpAny_bind (wpAny_seqItemAt o rfl (wpAny_pure ?_)))
 have hx':vs.toArray[k]? = some (vs[k]'(by lia)):=hx
 rw [hx']
 show wpAny _ _ (setSeqItemAt a k v >>= _) _ _ s
 refine wpAny_bind (wpAny_setSeqItemAt o rfl ?_)
 first
  |exact wpAny_bind (wpAny_pure (wpAny_pure ⟨.none,rfl,wpAny_pure h⟩))
  |exact wpAny_pure ⟨.none,rfl,wpAny_pure h⟩
theorem Wz{p k q:PV}{u kv v:Value}{Q:AH→Prop}(hg:v8 g)(R:K1 n A)(S:m9 g s H)(ru:Rep g.tab s.heap H p u)(rk:Rep g.tab s.heap H k kv)(rv:Rep g.tab s.heap H q v)(h:DR p k q H Q):
  wpAny (model g.prog g.w) A (setItem u kv v) (fun O s' => ∃H',m9 g s' H'∧Calm s.heap H s'.heap H'∧Q H') (fun O O=>False) s:=by
 cases h with
 |@list a l i e h1 h2 h3 q=>
  cases ru
  obtain⟨t,rfl⟩:=rk
  obtain⟨vs,j,o,rl⟩:=S.obj _ _ e
  have el:=rl.length
  refine DW o h1 (by lia) (by lia) ?_
  have hu:=Heap.get?_update_self (Obj.mapSeq (·.setIfInBounds i.toNat v)) o rfl
  obtain⟨S',c⟩:=jR (l':=l.set i.toNat _) (vs':=vs.set i.toNat v) S e (Heap.SameBut.update ..) (by
   rw [hu]
   simp only [Obj.mapSeq,List.setIfInBounds_toArray]
   rfl) (rl.set i.toNat rv) s.toks
  exact⟨_,S',c,q⟩
 |m6 e z h=>cases ru;exact wpAny_mono ((KD.int g).setItem hg S e rk rv z) (fun O s' ⟨x,y⟩=>⟨_,x,y,h⟩) fun O O x=>x
 |w5 e z h=>cases ru;exact wpAny_mono ((KD.str g).setItem hg S e rk rv z) (fun O s' ⟨x,y⟩=>⟨_,x,y,h⟩) fun O O x=>x
 |w7 e z h=>cases ru;exact wpAny_mono (aj0 hg R S e rk rv z) (fun O s' ⟨x,y⟩=>⟨_,x,y,h⟩) fun O O x=>x
inductive Zn{τ:T}(g:G τ)(env:Env)(s:Shared)(H:AH)(Q:Loc→AH→Prop)(s':Shared):Prop
 |mk (m':Loc) (H':AH) (S:m9 g s' H') (F:z9 g env m' s'.heap H') (c:Goes (Own env) s.heap H s'.heap H') (q:Q m' H')
noncomputable def As{τ:T}(g:G τ)(n:Nat)(env:Env)(m:Loc)(H:AH)(tg:PySem.Expr)(q:PV)(Q:Loc→AH→Prop):Prop:=
 ∀A s v,K1 n A→m9 g s H→z9 g env m s.heap H→Rep g.tab s.heap H q v→wpAny (model g.prog g.w) A (assign tg env v) (fun O s'=>Zn g env s H Q s') (fun O O=>False) s
theorem Zn.step{s₁ s':Shared}{H₁:AH}{Q:Loc→AH→Prop}(c:Goes (Own env) s.heap H s₁.heap H₁)(x:Zn g env s₁ H₁ Q s'):Zn g env s H Q s':=
 let⟨m',H',S,F,c',q⟩:=x;⟨m',H',S,F,c.trans c',q⟩
theorem As.name{x:Nat}{pos:Pos}{q:PV}{Q:Loc→AH→Prop}(hg:v8 g)(k:env.kindOf (g.tab x)=some .local∨env.kindOf (g.tab x)=some .cell)(h:Q (j8 x q m) H):As g n env m H (.Name (g.tab x) pos) q Q:=fun A s v R S F r=>
 assign_Name (wpAny_mono (zL hg S F k r) (fun O s' ⟨a,b,c⟩=>⟨_,H,a,b,c,h⟩) fun O O x=>x)
theorem As.attr{o:PySem.Expr}{x:Nat}{pos:Pos}{q:PV}{Q:Loc→AH→Prop}(hg:v8 g)(h:Ev g n env m H o fun p H₁ => ∃a C dx l,p = .obj a∧H₁ a=some (.inst C dx)∧H₁ dx=some (.attrs l)∧g.fld C x=true∧l.length<900∧Q m (upd H₁ dx (.attrs (j8 x q l)))):As g n env m H (.Attribute o (g.tab x) pos) q Q:=fun A s v R S F r=>by
 rw [assign_Attribute]
 refine wpAny_bind (wpAny_holding (h.then R S F fun u s₁ p H₁ ru S₁ c₁ F₁ k=>?_))
 obtain⟨a,C,dx,l,rfl,e1,e2,hf,hz,q⟩:=k
 cases ru
 refine wpAny_bind (wpAny_standAt (wpAny_bind (wpAny_holding (wpAny_mono (Dr hg S₁ e1 e2 hf hz (r.keeps c₁.q8)) (fun O s₂ ⟨S₂,c₂⟩=>?_) fun O O x=>x))))
 exact wpAny_release ⟨m,_,S₂,F₁.goes c₂,(c₁.trans c₂).own,q⟩
theorem As.sub{o i:PySem.Expr}{pos:Pos}{q:PV}{Q:Loc→AH→Prop}(hg:v8 g)(h:Ev g n env m H o fun p H₁=>Ev g n env m H₁ i fun k H₂=>DR p k q H₂ (Q m)):As g n env m H (.Subscript o i pos) q Q:=fun A s v R S F r=>by
 rw [arm_assign_Subscript]
 refine wpAny_bind (wpAny_holding (h.then R S F fun u s₁ p H₁ ru S₁ c₁ F₁ k=>?_))
 refine wpAny_bind (wpAny_holding (Ev.then k R S₁ F₁ fun w s₂ kk H₂ rk S₂ c₂ F₂ k=>?_))
 refine wpAny_bind (wpAny_standAt (wpAny_bind (wpAny_holding (wpAny_mono (Wz hg R S₂ (ru.keeps c₂.q8) rk ((r.keeps c₁.q8).keeps c₂.q8) k) (fun O s₃ ⟨H₃,S₃,c₃,q⟩=>?_) fun O O x=>x))))
 exact wpAny_release ⟨m,_,S₃,F₂.goes c₃,((c₁.trans c₂).trans c₃).own,q⟩
noncomputable def Zo{τ:T}(g:G τ)(n:Nat)(env:Env):Loc→AH→List PySem.Expr→List PV→(Loc→AH→Prop)→Prop
 |m,H,[],[],Q=>Q m H
 |m,H,t::ts,q::qs,Q=>As g n env m H t q fun m' H'=>Zo g n env m' H' ts qs Q
 |_,_,_,_,_=>False
noncomputable def jT(t:PySem.Expr):Prop := ∀rest env,assignEach (t::rest) env=(false,assign t env)::assignEach rest env
theorem KY:∀{ts:List PySem.Expr} {qs:List PV} {vs:List Value} {Q:Loc→AH→Prop} {m:Loc} {H:AH} {A:Around} {s:Shared},(∀t∈ts,jT t)→K1 n A→m9 g s H→z9 g env m s.heap H→j7 g.tab s.heap H qs vs→Zo g n env m H ts qs Q→
  wpAny (model g.prog g.w) A (assignInOrder ((assignEach ts env).map (·.2)) vs) (fun O s'=>Zn g env s H Q s') (fun O O=>False) s
 | [],[],_,Q,m,H,A,s,_,R,S,F,r,h=>by cases r;exact assignInOrder_nil ⟨m,H,S,F,.refl ..,h⟩
 |t::ts,q::qs,_,Q,m,H,A,s,hp,R,S,F,⟨v,vs,e,r,rl⟩,h=>by
  subst e
  rw [hp t (.head _)]
  refine assignInOrder_cons (wpAny_mono (h A s v R S F r) (fun O s₁ y=>?_) fun O O x=>x)
  obtain⟨m₁,H₁,S₁,F₁,c₁,k⟩:=y
  exact wpAny_mono (KY (fun x hx=>hp x (.tail _ hx)) R S₁ F₁ (rl.keeps c₁.q8) k) (fun O O x=>x.step c₁) fun O O x=>x
 | [],_::_,_,_,_,_,_,_,_,_,_,_,_,h=>h.elim
 |_::_,[],_,_,_,_,_,_,_,_,_,_,_,h=>h.elim
theorem bC:∀{ts:List PySem.Expr},(∀t∈ts,jT t)→(assignEach ts env).length=ts.length∧(assignEach ts env).findIdx? (·.1)=none
 | [],_=>⟨rfl,rfl⟩
 |t::ts,h=>by
  rw [h t (.head _)]
  obtain⟨a,b⟩:=bC fun x hx=>h x (.tail _ hx)
  exact⟨by rw [List.length_cons,a,List.length_cons],by rw [List.findIdx?_cons];simp [b]⟩
theorem Gw{p:PV}{l:List PV}{I:Addr}{P:List Value→Shared→Prop}{E:Value→Shared→Prop}(hI:H I=none)(hb:g.h₀.get? I=none)(e:itemsOf H p=some l):∀(j k:Nat) (s:Shared),m9 g s H→K5 g p I k s.heap H→k+j=l.length→
  (∀vs s',j7 g.tab s'.heap H (l.drop k) vs→m9 g s' H→Goes (fun b=>b=I) s.heap H s'.heap H→K5 g p I l.length s'.heap H→P vs s')→wpAny (model g.prog g.w) A (draw (.ref I) j) P E s
 |0,k,s,S,x,hk,K=>by
  show wpAny _ _ (pure []) _ _ _
  have:k=l.length:=by lia
  subst this
  exact wpAny_pure (K [] s (by rw [List.drop_length];exact rfl) S (.refl ..) x)
 |j+1,k,s,S,x,hk,K=>by
  have hlt:k<l.length:=by exact Mine.Internal.eqs ‹_›
  show wpAny _ _ (pyNext (.ref I) >>= _) _ _ _
  refine wpAny_bind (nu S x hI hb e (List.getElem?_eq_getElem hlt) fun v s₁ rv S₁ c₁ x₁=>?_)
  refine wpAny_bind (wpAny_holding (Gw hI hb e j (k+1) s₁ S₁ x₁ (by exact Mine.Internal.eqt ‹_›) fun vs s₂ rl S₂ c₂ x₂=>wpAny_pure ?_))
  refine K (v::vs) s₂ ?_ S₂ (c₁.trans c₂) x₂
  rw [List.drop_eq_getElem_cons hlt]
  exact⟨v,vs,rfl,rv.keeps c₂.q8,rl⟩
theorem z9.apart{env:Env}{m:Loc}{I:Addr}(F:z9 g env m s.heap H)(e:s.heap.get? I=none):∀b,(b=env.locals∨∃x,env.cells.lookup x=some b)→b≠I:=by
 intro b hb z
 subst z
 rcases hb with hb|⟨x,hb⟩
 ·obtain⟨mv,⟨o,es,ep,e1,_⟩,_⟩:=F.ns
  rw [← hb,e] at e1;cases e1
 ·obtain⟨_,_,v,⟨o,e1,_⟩⟩:=F.cells x b hb
  rw [e] at e1;cases e1
theorem aC{p:PV}{l:List PV}{v:Value}{P:List Value→Shared→Prop}{E:Value→Shared→Prop}(R:K1 n A)(S:m9 g s H)(F:z9 g env m s.heap H)(r:Rep g.tab s.heap H p v)(e:(∃l,p = .tup l)∨∃l,v7 H p=some l)(el:itemsOf H p=some l)
  (K:∀vs s',j7 g.tab s'.heap H l vs→m9 g s' H→Calm s.heap H s'.heap H→z9 g env m s'.heap H→P vs s'):wpAny (model g.prog g.w) A (unpackItems v l.length none) P E s:=by
 have aj7:wpAny (model g.prog g.w) A (notIterableAtAll v) (fun b s'=>b=false∧s'=s) E s:=by
  unfold notIterableAtAll
  rcases e with⟨l',rfl⟩|⟨l',e⟩
  ·obtain⟨t,vs,j,rfl,o,rl⟩:=r
   refine wpAny_bind (wpAny_specialOf (⟨_,o,rfl⟩:s.TypeIs (.ref t) "tuple") slot_tuple_iter.lookup ?_)
   exact wpAny_pure ⟨rfl,rfl⟩
  ·obtain⟨t,vs,j,rfl,o,rl⟩:=S9 (h:=s.heap) S r (u9 e)
   refine wpAny_bind (wpAny_specialOf (⟨_,o,rfl⟩:s.TypeIs (.ref t) "list") slot_list_iter.lookup ?_)
   exact wpAny_pure ⟨rfl,rfl⟩
 have ok:zX p:=by
  rcases e with⟨l',rfl⟩|⟨l',e⟩
  ·trivial
  ·cases p<;>first|trivial|cases e
 unfold unpackItems
 refine wpAny_bind (wpAny_mono aj7 (fun b s' ⟨hb,hs⟩=>?_) fun O O x=>x)
 subst hb;subst hs
 simp only [Bool.false_eq_true,if_false]
 refine wpAny_bind (wpAny_holding (jq S r el ok fun I s₁ S₁ c₁ x₁ f1 f2 f3=>?_))
 refine wpAny_bind (wpAny_holding (Gw f2 f3 el l.length 0 s₁ S₁ x₁ (by exact Nat.add_comm ..) fun vs s₂ rl S₂ c₂ x₂=>?_))
 rw [List.drop_zero] at rl
 rw [if_neg (by rw [rl.length];simp)]
 refine wpAny_bind (wpAny_holding (qR R.handled S₂ x₂ f2 f3 el fun h' S₃ B P₃=>?_))
 simp only [Option.isSome_none,Bool.false_eq_true,if_false]
 have C₂:Calm s'.heap H s₂.heap H:=((c₁.weak (F':=fun b=>b=I) fun O z=>z.elim).trans c₂).drop fun b z=>.inl (z▸f1)
 have C:Calm s'.heap H h' H:=C₂.ext B f1 P₃
 exact wpAny_pure (K vs _ (rl.keeps P₃) S₃ C (F.goes C))
set_option tactic.hygienic true in
theorem As.tup{ts:List PySem.Expr}{k:Nat}{pos:Pos}{p:PV}{Q:Loc→AH→Prop}(hp:∀t∈ts,jT t)(h:((∃l,p = .tup l)∨∃l,v7 H p=some l)∧match itemsOf H p with|some l=>l.length=ts.length∧Zo g n env m H ts l Q|none=>False):As g n env m H (.Tuple ts k pos) p Q:=fun A s v R S F r=>by
 rw [arm_assign_Tuple]
 obtain⟨h1,h2⟩:=h
 refine wpAny_bind (wpAny_standAt ?_)
 unfold unpack
 obtain⟨e1,e2⟩:=bC (env:=env) hp
 rw [e1,e2]
 split at h2
 ·next l el=>
  rw [← h2.1]
  refine wpAny_bind (wpAny_holding (aC R S F r h1 el fun vs s' rl S' c' F'=>?_))
  exact wpAny_mono (KY hp R S' F' rl h2.2) (fun O O x=>x.step c'.own) fun O O x=>x
 ·exact h2.elim
end
section
variable{τ:T}{g:G τ}{n:Nat}{env:Env}{m:Loc}{H:AH}{A:Around}{s:Shared}
theorem eU.asg{tg value:PySem.Expr}{pos:Pos}{Q:Out→Loc→AH→Prop}(hs:swapsWithSole [tg] value pos.line env=pure false)(hw:swappedStores [tg] value env=pure none)(he:assignEach [tg] env=[(false,PySem.assign tg env)])
  (h:Ev g n env m H value fun p H₁=>As g n env m H₁ tg p fun m' H'=>Q .next m' H'):eU g n env m H (.Assign [tg] value pos) Q:=fun A s R S F=>by
 rw [exec_Assign]
 refine wpAny_bind (wpAny_standAt ?_)
 rw [hs]
 refine wpAny_bind (wpAny_pure ?_)
 rw [if_neg (by decide)]
 refine wpAny_bind (h.then R S F fun v s₁ p H₁ rv S₁ c₁ F₁ k=>?_)
 rw [hw,he]
 refine wpAny_bind (wpAny_pure ?_)
 show wpAny _ _ (do assignAll v [PySem.assign tg env];pure Flow.next) _ _ s₁
 refine wpAny_bind (wpAny_mono (k A s₁ v R S₁ F₁ rv) (fun O s₂ ⟨m₂,H₂,S₂,F₂,c₂,q⟩=>?_) fun O O x=>x)
 exact wpAny_pure ⟨.next,m₂,H₂,rfl,S₂,F₂,c₁.own.trans c₂,q⟩
noncomputable def jU:List Nat→List PV→Loc→Loc
 |x::xs,q::qs,m=>jU xs qs (j8 x q m)
 |_,_,m=>m
theorem zY(hg:v8 g):∀{xs:List Nat} {qs:List PV} {vs:List Value} {m:Loc} {s:Shared},(∀x∈xs,env.kindOf (g.tab x)=some .local∨env.kindOf (g.tab x)=some .cell)→xs.length=qs.length→m9 g s H→z9 g env m s.heap H→j7 g.tab s.heap H qs vs→
  wpAny (model g.prog g.w) A (assignInOrder (xs.map fun x=>bindName env (g.tab x)) vs) (fun O s'=>m9 g s' H∧z9 g env (jU xs qs m) s'.heap H∧Goes (Own env) s.heap H s'.heap H) (fun O O=>False) s
 | [],[],_,m,s,_,_,S,F,r=>by cases r;exact assignInOrder_nil ⟨S,F,.refl ..⟩
 |x::xs,q::qs,_,m,s,k,e,S,F,⟨v,vs,ev,r,rl⟩=>by
  subst ev
  refine assignInOrder_cons (wpAny_bindName (wpAny_mono (zL hg S F (k x (.head _)) r) (fun O s₁ ⟨S₁,F₁,c₁⟩=>?_) fun O O x=>x))
  exact wpAny_mono (zY hg (fun y hy=>k y (.tail _ hy)) (by simpa using e) S₁ F₁ (rl.keeps c₁.q8)) (fun O s₂ ⟨S₂,F₂,c₂⟩=>⟨S₂,F₂,c₁.trans c₂⟩) fun O O x=>x
 | [],_::_,_,_,_,_,e,_,_,_=>by simp at e
 |_::_,[],_,_,_,_,e,_,_,_=>by simp at e
theorem eU.swap{ts:List PySem.Expr}{k:Nat}{tpos:Pos}{value:PySem.Expr}{pos:Pos}{xs:List Nat}{Q:Out→Loc→AH→Prop}(hg:v8 g)(hs:swapsWithSole [.Tuple ts k tpos] value pos.line env=pure false)(hw:swappedStores [.Tuple ts k tpos] value env=pure (some (xs.map g.tab)))
  (hk:∀x∈xs,env.kindOf (g.tab x)=some .local∨env.kindOf (g.tab x)=some .cell)
  (h:Ev g n env m H value fun p H₁ => ∃l,p = .tup l∧l.length=xs.length∧Q .next (jU xs.reverse l.reverse m) H₁):eU g n env m H (.Assign [.Tuple ts k tpos] value pos) Q:=fun A s R S F=>by
 refine Assign_Tuple_swapped (h.then R S F fun v s₁ p H₁ rv S₁ c₁ F₁ k=>?_) hs hw
 obtain⟨l,rfl,el,q⟩:=k
 rw [List.length_map,← el]
 refine aC R S₁ F₁ rv (.inl ⟨l,rfl⟩) rfl fun vs s₂ rl S₂ c₂ F₂=>?_
 have e:(xs.map g.tab).reverse.map (fun n=>bindName env n)=xs.reverse.map fun x=>bindName env (g.tab x):=by rw [← List.map_reverse,List.map_map];rfl
 rw [e]
 exact wpAny_mono (zY hg (fun x hx=>hk x (List.mem_reverse.mp hx)) (by rw [List.length_reverse,List.length_reverse,el]) S₂ F₂ rl.reverse) (fun O s₃ ⟨S₃,F₃,c₃⟩=>⟨.next,_,H₁,rfl,S₃,F₃,(c₁.trans c₂).own.trans c₃,q⟩) fun O O x=>x
theorem oO{tg:PySem.Expr}{I:Addr}{o:Obj}{v:Value}{P:Unit→Shared→Prop}{E:Value→Shared→Prop}(e:s.heap.get? I=some o)(c:o.cls = .type "list_iterator"∨o.cls = .type "tuple_iterator"∨o.cls = .type "range_iterator")(h:P () s):
  wpAny (model g.prog g.w) A (letOwnedTupleGo tg (.ref I) v) P E s:=by
 obtain⟨cl,d,dt,sl⟩:=o
 have key:wpAny (model g.prog g.w) A (letOwnedTupleGo (.Tuple [] 0 ⟨0,0,0,0⟩) (.ref I) v) P E s:=by
  cases v<;>first|exact wpAny_pure h|skip
  show wpAny _ _ (load I >>= _) _ _ _
  refine wpAny_bind (wpAny_load e ?_)
  dsimp only at c ⊢
  rcases c with rfl|rfl|rfl
  all_goals
   cases dt<;>exact wpAny_pure h
 cases tg<;>first|exact wpAny_pure h|exact key
set_option tactic.hygienic true in
theorem K5.kind{p:PV}{I:Addr}{k:Nat}{h:Heap}(x:K5 g p I k h H):∃o,h.get? I=some o∧(o.cls = .type "list_iterator"∨o.cls = .type "tuple_iterator"∨o.cls = .type "range_iterator"):=by
 cases p
 case tup l=>obtain⟨t,vs,j,⟨o,e1,e2,e3⟩,_⟩:=x;exact⟨o,e1,.inr (.inl e2)⟩
 case rng a b=>exact⟨_,x,.inr (.inr rfl)⟩
 case lst l=>obtain⟨t,vs,j,⟨o,e1,e2,e3⟩,_⟩:=x;exact⟨o,e1,.inl e2⟩
 case obj a=>obtain⟨⟨o,e1,e2,e3⟩,_⟩:=x;exact⟨o,e1,.inl e2⟩
 all_goals exact x.elim
noncomputable def Jc{τ:T}(g:G τ)(n:Nat)(env:Env)(tg:PySem.Expr)(body:List Stmt)(p:PV)(l:List PV)(Q:Out→Loc→AH→Prop):List PV→Loc→AH→Prop
 | [],m,H=>Q .next m H
 |q::r,m,H=>As g n env m H tg q fun m₁ H₁=>Ex g n env m₁ H₁ body fun o m₂ H₂=>@Out.rec (fun O=>Prop) (itemsOf H₂ p=some l∧Jc g n env tg body p l Q r m₂ H₂) (Q .next m₂ H₂) (itemsOf H₂ p=some l∧Jc g n env tg body p l Q r m₂ H₂) (fun x=>Q (.ret x) m₂ H₂) o
inductive Zq{τ:T}(g:G τ)(n:Nat)(env:Env)(tg:PySem.Expr)(body:List Stmt)(p:PV)(l:List PV)(Q:Out→Loc→AH→Prop)(I:Addr)(h:Heap)(H:AH)(s':Shared)(m':Loc)(H':AH)(i:Nat):Prop
 |mk (S:m9 g s' H') (F:z9 g env m' s'.heap H') (C:Goes (fun b=>Own env b∨b=I) h H s'.heap H') (x:K5 g p I i s'.heap H') (e:itemsOf H' p=some l) (z:H' I=none) (k:Jc g n env tg body p l Q (l.drop i) m' H')
theorem eU.for{tg iter:PySem.Expr}{body:List Stmt}{pos:Pos}{Q:Out→Loc→AH→Prop}(hf:∀x,foldedSetIterable iter env x=pure x)
  (h:Ev g n env m H iter fun p H₁=>zX p∧match itemsOf H₁ p with|some l=>Jc g n env tg body p l Q l m H₁|none=>False):eU g n env m H (.For tg iter body [] pos) Q:=fun A s R S F=>by
 refine wpAny_For (h.then R S F fun v s₁ p H₁ rv S₁ c₁ F₁ k=>?_) hf
 obtain⟨ok,k⟩:=k
 cases el:itemsOf H₁ p with
 |none=>rw [el] at k;exact k.elim
 |some l=>
  rw [el] at k
  refine jq S₁ rv el ok fun I s₂ S₂ c₂ x₂ f1 f2 f3=>?_
  have ap:=F₁.apart f1
  have sI:s.heap.get? I=none:=by
   cases e:s.heap.get? I with
   |none=>rfl
   |some o=>obtain⟨o',e'⟩:=c₁.ex I o e;rw [f1] at e';cases e'
  have nI:¬Own env I:=fun z=>by
   rcases z with z|⟨x,_,z⟩
   ·exact ap I (.inl z) rfl
   ·exact ap I (.inr ⟨x,z⟩) rfl
  refine codeAny_forLoop_any (fun j s' => ∃i m' H',j+i=l.length∧Zq g n env tg body p l Q I s.heap H s' m' H' i)
   (fun j s' hj=>?_) l.length ⟨0,m,H₁,rfl,S₂,F₁.goes c₂,(c₁.trans c₂).weak fun O z=>z.elim,x₂,el,f2,k⟩
  obtain⟨i,m',H',hi,S',F',C',x',YG,hI,fl⟩:=hj
  have drop:∀{h':Heap} {mU:AH},Goes (fun b=>Own env b∨b=I) s.heap H h' mU→Goes (Own env) s.heap H h' mU:=fun C=>C.drop fun b z=>z.elim .inr fun w=>.inl (w▸sI)
  cases j with
  |succ j=>
   have hlt:i<l.length:=by lia
   rw [List.drop_eq_getElem_cons hlt] at fl
   refine nu S' x' hI f3 YG (List.getElem?_eq_getElem hlt) fun v₃ s₃ rv₃ S₃ c₃ x₃=>?_
   obtain⟨o,eo,ck⟩:=x₃.kind
   refine oO eo ck ?_
   refine wpAny_mono (fl A s₃ v₃ R S₃ (F'.Kv c₃ ap) rv₃) (fun O s₄ y=>?_) fun O O x=>x.elim
   obtain⟨m₄,H₄,S₄,F₄,c₄,k₄⟩:=y
   refine wpAny_mono (k₄ A s₄ R S₄ F₄) (fun f s₅ hx=>?_) fun O O x=>x.elim
   obtain⟨o,m₅,H₅,ro,S₅,F₅,c₅,k₅⟩:=hx
   have c45:Goes (Own env) s₃.heap H' s₅.heap H₅:=c₄.trans c₅
   have C₅:Goes (fun b=>Own env b∨b=I) s.heap H s₅.heap H₅:=C'.trans ((c₃.weak fun b z=>.inr z).trans (c45.weak fun b z=>.inl z))
   have back:itemsOf H₅ p=some l∧Jc g n env tg body p l Q (l.drop (i+1)) m₅ H₅→∃k,k<j+1∧(∃i m' H',k+i=l.length∧Zq g n env tg body p l Q I s.heap H s₅ m' H' i):=fun k5=>
    ⟨j,Nat.lt_succ_self j,i+1,m₅,H₅,by lia,S₅,F₅,C₅,x₃.keeps (fun o' e'=>c45.keep I o' e' hI nI) c45.q8 (k5.1.trans YG.symm),k5.1,Classical.byContradiction (fun z=>nomatch eo.symm.trans (c45.new I hI z)),k5.2⟩
   cases o with
   |next=>cases ro;exact back k₅
   |cont=>cases ro;exact back k₅
   |brk=>cases ro;exact⟨.next,m₅,H₅,rfl,S₅,F₅,drop C₅,k₅⟩
   |ret x=>obtain⟨u,rfl,ru⟩:=ro;exact⟨.ret x,m₅,H₅,⟨u,rfl,ru⟩,S₅,F₅,drop C₅,k₅⟩
  |zero=>
   obtain rfl:i=l.length:=(Nat.zero_add i).symm.trans hi
   rw [List.drop_length] at fl
   refine qR R.handled S' x' hI f3 YG fun h' S₃ B P₃=>wpAny_execs_nil ?_
   exact⟨.next,m',H',rfl,S₃,F'.Gi (fun b o e O w=>B b o (ap b w) e) (fun x O z O=>z) P₃,(drop C').ext B sI P₃,fl⟩
theorem eU.while{test:PySem.Expr}{body:List Stmt}{pos:Pos}{Q:Out→Loc→AH→Prop}(I:Nat→Loc→AH→Prop)(k:Nat)(h0:I k m H)
  (h:∀j m' H',I j m' H'→Ts g n env m' H' test fun b H₁=>if b then Ex g n env m' H₁ body fun o m₂ H₂=>match o with
    |.next => ∃i,i<j∧I i m₂ H₂
    |.cont => ∃i,i<j∧I i m₂ H₂
    |.brk=>Q .next m₂ H₂
    |.ret x=>Q (.ret x) m₂ H₂
   else Q .next m' H₁):eU g n env m H (.While test body [] pos) Q:=fun A s R S F=>by
 refine wpAny_While (codeAny_whileLoop (fun j s' => ∃m' H',I j m' H'∧m9 g s' H'∧z9 g env m' s'.heap H'∧Goes (Own env) s.heap H s'.heap H') (fun j s' hj=>?_) k ⟨m,H,h0,S,F,.refl ..⟩)
 obtain⟨m',H',hI,S',F',C'⟩:=hj
 refine(h j m' H' hI).then R S' F' fun b s₁ H₁ S₁ c₁ F₁ q=>?_
 cases b with
 |true=>
  simp only [if_true]
  refine wpAny_mono (q A s₁ R S₁ F₁) (fun f s₂ hx=>?_) fun O O x=>x.elim
  obtain⟨o,m₂,H₂,ro,S₂,F₂,c₂,q₂⟩:=hx
  have C₂:=(C'.trans c₁.own).trans c₂
  cases o with
  |next=>cases ro;obtain⟨i,hi,hI'⟩:=q₂;exact⟨i,hi,m₂,H₂,hI',S₂,F₂,C₂⟩
  |cont=>cases ro;obtain⟨i,hi,hI'⟩:=q₂;exact⟨i,hi,m₂,H₂,hI',S₂,F₂,C₂⟩
  |brk=>cases ro;exact⟨.next,m₂,H₂,rfl,S₂,F₂,C₂,q₂⟩
  |ret x=>obtain⟨u,rfl,ru⟩:=ro;exact⟨.ret x,m₂,H₂,⟨u,rfl,ru⟩,S₂,F₂,C₂,q₂⟩
 |false=>
  simp only [Bool.false_eq_true,if_false]
  exact wpAny_execs_nil ⟨.next,m',H₁,rfl,S₁,F₁,C'.trans c₁.own,q⟩
end
noncomputable def del(H:AH)(a:Addr):AH:=fun b=>if b=a then none else H b
theorem KZ(H:AH)(a:Addr):del H a a=none:=if_pos rfl
theorem qT{H:AH}{a b:Addr}(h:b≠a):del H a b=H b:=if_neg h
theorem gF(H:AH)(a:Addr)(o o':q7):upd (upd H a o) a o'=upd H a o':=by
 funext b
 by_cases e:b=a
 ·exact(if_pos e).trans (if_pos e).symm
 ·exact(if_neg e).trans ((if_neg e).trans (if_neg e).symm)
theorem dj{H:AH}{a:Addr}{o:q7}(h:H a=none):del (upd H a o) a=H:=by
 funext b
 by_cases e:b=a
 ·exact(if_pos e).trans (e▸h.symm)
 ·exact(if_neg e).trans (if_neg e)
noncomputable def O4(env:Env):List (Str×NameKind)→List (Str×Addr)→List (Str×Addr)
 | [],cs=>cs
 | (n,k)::r,cs=>O4 env r (if k == .free then(n,(env.cells.lookup n).getD 0)::cs else cs)
theorem qU{env:Env}:∀(names:List (Str×NameKind)) (cs:List (Str×Addr)),(∀x∈names,x.2 = .free→∃c,env.cells.lookup x.1=some c)→
  (forIn names cs fun(x:Str×NameKind) r=>do
   let(name,kind):=x
   if kind == .free then do
    let c ← cellOf env name
    pure (ForInStep.yield ((name,c)::r))
   else pure (ForInStep.yield r):Sem (List (Str×Addr)))=pure (O4 env names cs)
 | [],cs,_=>rfl
 | (n,k)::r,cs,h=>by
  rw [List.forIn_cons]
  have ih:=fun cs'=>qU r cs' fun x hx=>h x (.tail _ hx)
  show _=pure (O4 env r (if(k == .free)=true then(n,(env.cells.lookup n).getD 0)::cs else cs))
  cases e:k == .free with
  |true=>
   have:k = .free:=by simpa using e
   obtain⟨c,hc⟩:=h (n,k) (.head _) this
   have hc':cellOf env n=pure c:=by unfold cellOf;rw [hc]
   simp only [e,if_true,hc',pure_bind,hc,Option.getD_some]
   exact ih _
  |false=>
   simp only [e,Bool.false_eq_true,if_false,pure_bind]
   exact ih _
theorem iU{scope:Scope}{env:Env}(h:∀x∈scope.names,x.2 = .free→∃c,env.cells.lookup x.1=some c):closureFor scope env=pure (O4 env scope.names []):=by
 unfold closureFor
 have e:=qU scope.names [] h
 first
  |exact e
  | (simp only [bind_pure] at e ⊢;exact e)
theorem aD{env:Env}{y:Str}{c:Addr}:∀(names:List (Str×NameKind)) (cs:List (Str×Addr)),(∀c,cs.lookup y=some c→c=(env.cells.lookup y).getD 0)→(O4 env names cs).lookup y=some c→c=(env.cells.lookup y).getD 0∧((∃c,cs.lookup y=some c)∨(y,.free)∈names)
 | [],cs,h,e=>⟨h c e,.inl ⟨c,e⟩⟩
 | (n,k)::r,cs,h,e=>by
  have e:(O4 env r (if(k == .free)=true then(n,(env.cells.lookup n).getD 0)::cs else cs)).lookup y=some c:=e
  cases hk:k == .free with
  |false=>
   rw [hk] at e
   obtain⟨a,b⟩:=aD r cs h e
   exact⟨a,b.imp id fun z=>.tail _ z⟩
  |true=>
   rw [hk] at e
   have hk':k = .free:=by simpa using hk
   subst hk'
   by_cases hy:y=n
   ·subst hy
    obtain⟨a,b⟩:=aD r ((y,(env.cells.lookup y).getD 0)::cs) (fun c' e'=>by rw [List.lookup_cons,beq_self_eq_true] at e';exact(Option.some.inj e').symm) e
    exact⟨a,.inr (.head _)⟩
   ·have hb:(y==n)=false:=beq_eq_false_iff_ne.mpr hy
    obtain⟨a,b⟩:=aD r ((n,(env.cells.lookup n).getD 0)::cs) (fun c' e'=>by rw [List.lookup_cons,hb] at e';exact h c' e') e
    exact⟨a,b.elim (fun⟨c',e'⟩=>.inl ⟨c',by rw [List.lookup_cons,hb] at e';exact e'⟩) fun z=>.inr (.tail _ z)⟩
theorem oR{env:Env}{y:Str}:∀(names:List (Str×NameKind)) (cs:List (Str×Addr)),((∃c,cs.lookup y=some c)∨(y,.free)∈names)→∃c,(O4 env names cs).lookup y=some c
 | [],cs,h=>by rcases h with h|h;exact h;cases h
 | (n,k)::r,cs,h=>by
  refine oR r (if(k == .free)=true then(n,(env.cells.lookup n).getD 0)::cs else cs) ?_
  rcases h with⟨c,h⟩|h
  ·left
   split
   ·by_cases hy:y=n
    ·exact⟨_,by rw [List.lookup_cons,hy,beq_self_eq_true]⟩
    ·exact⟨c,by rw [List.lookup_cons,beq_eq_false_iff_ne.mpr hy];exact h⟩
   ·exact⟨c,h⟩
  ·rcases List.mem_cons.mp h with h|h
   ·cases h
    left
    rw [if_pos (by rfl)]
    exact⟨_,by rw [List.lookup_cons,beq_self_eq_true]⟩
   ·exact .inr h
section
variable{τ:T}{g:G τ}{n:Nat}{env:Env}{m:Loc}{H:AH}{A:Around}{s:Shared}
noncomputable def W7(caps:List Nat)(m:Loc):Loc:=m.filter fun x=>caps.contains x.1
theorem T3{caps:List Nat}{x:Nat}:∀{m:Loc} {p:PV},(W7 caps m).lookup x=some p→m.lookup x=some p∧x∈caps
 | [],_,h=>by cases h
 |q::r,p,h=>by
  unfold W7 at h
  rw [List.filter_cons] at h
  obtain⟨q1,q2⟩:=q
  by_cases hx:x=q1
  ·subst hx
   by_cases hc:caps.contains x=true
   ·rw [if_pos hc,List.lookup_cons,beq_self_eq_true] at h
    cases h
    exact⟨by rw [List.lookup_cons,beq_self_eq_true],by simpa using hc⟩
   ·rw [if_neg hc] at h
    have:=(T3 (m:=r) h).2
    exact absurd (by simpa using this) hc
  ·have hb:(x==q1)=false:=beq_eq_false_iff_ne.mpr hx
   rw [List.lookup_cons,hb]
   refine T3 (m:=r) ?_
   split at h
   ·rw [List.lookup_cons,hb] at h;exact h
   ·exact h
structure nC{τ:T}(g:G τ)(scope:Scope)(caps:List Nat):Prop where
 kind:scope.kind = .function
 names:∀x∈scope.names,x.2 = .local→scope.names.lookup x.1=some .local
 La:∀y∈scope.names,y.2≠.cell
 Zr:∀x∈caps,scope.names.lookup (g.tab x)=some .free
 free:∀y∈scope.names,y.2 = .free→∃x∈caps,g.tab x=y.1
noncomputable def vY(c:Str→NameKind→Bool)(names:List (Str×NameKind)):List (Str×NameKind):=names.map fun x=>(x.1,if c x.1 x.2=true then NameKind.cell else x.2)
theorem qW(scope:Scope)(env:Env):(relabel scope env).names=vY (fun n k=>k==NameKind.free&&env.scope.kind == .function&&env.kindOf n==some .cell) scope.names:=by
 show scope.names.map _=_
 unfold vY
 refine List.map_congr_left fun x O=>?_
 obtain⟨n,k⟩:=x
 dsimp only
 split<;>rfl
theorem jV(c:Str→NameKind→Bool){x:Str}{k:NameKind}:∀{names:List (Str×NameKind)},names.lookup x=some k→(vY c names).lookup x=some (if c x k=true then .cell else k)
 | [],h=>by cases h
 | (n,j)::r,h=>by
  show List.lookup x ((n,if c n j=true then NameKind.cell else j)::vY c r)=_
  rw [List.lookup_cons] at h ⊢
  by_cases hx:x=n
  ·subst hx
   rw [beq_self_eq_true] at h ⊢
   cases h;rfl
  ·rw [beq_eq_false_iff_ne.mpr hx] at h ⊢
   exact jV c h
theorem T4{scope:Scope}{env:Env}{x:Str}{k:NameKind}(h:scope.names.lookup x=some k):(relabel scope env).names.lookup x=some (if(k==NameKind.free&&env.scope.kind == .function&&env.kindOf x==some .cell)=true then .cell else k):=by
 rw [qW];exact jV _ h
theorem qX(c:Str→NameKind→Bool){x:Str}:∀{names:List (Str×NameKind)},(∀y∈names,y.2≠.cell)→(vY c names).lookup x=some .cell→∃k,(x,k)∈names∧c x k=true
 | [],_,h=>by cases h
 | (n,j)::r,nc,h=>by
  have h':List.lookup x ((n,if c n j=true then NameKind.cell else j)::vY c r)=some .cell:=h
  rw [List.lookup_cons] at h'
  by_cases hx:x=n
  ·subst hx
   rw [beq_self_eq_true] at h'
   by_cases hc:c x j=true
   ·exact⟨j,.head _,hc⟩
   ·rw [if_neg hc] at h'
    cases h'
    exact absurd rfl (nc _ (.head _))
  ·rw [beq_eq_false_iff_ne.mpr hx] at h'
   obtain⟨k,a,b⟩:=qX c (fun y hy=>nc y (.tail _ hy)) h'
   exact⟨k,.tail _ a,b⟩
theorem xR{scope:Scope}{env:Env}{x:Str}(nc:∀y∈scope.names,y.2≠.cell)(h:(relabel scope env).names.lookup x=some .cell):(x,.free)∈scope.names∧env.kindOf x=some .cell:=by
 rw [qW] at h
 obtain⟨k,a,b⟩:=qX _ nc h
 simp only [Bool.and_eq_true,beq_iff_eq] at b
 exact⟨by rw [← b.1.1];exact a,b.2⟩
theorem DX{scope:Scope}{caps:List Nat}{C:Addr}{s':Shared}{H':AH}(hg:v8 g)(sc:nC g scope caps)(hcap:∀x∈caps,env.kindOf (g.tab x)=some .cell∨env.kindOf (g.tab x)=some .free)(hb:∀x∈caps,∃p,m.lookup x=some p)(F:z9 g env m s.heap H)
  (k:∀b o,s.heap.get? b=some o→H b=none→s'.heap.get? b=some o) (un:∀x,s.heap.get? x≠none→H x=none→H' x=none) (P:N7 s.heap H s'.heap H')
  (hC:∃mv,s'.heap.Ns C mv) (hC1:H' C=none) (hC2:g.h₀.get? C=none):z9 g (compEnvC scope (O4 env scope.names []) C env) (W7 caps m) s'.heap H':=by
 have bnd:∀x∈caps,∃p c v,m.lookup x=some p∧env.cells.lookup (g.tab x)=some c∧s.heap.IsCell c (some v)∧Rep g.tab s.heap H p v:=fun x hx=>by
  obtain⟨p,hp⟩:=hb x hx
  obtain⟨c,v,a,b,d⟩:=F.cell x p hp (hcap x hx)
  exact⟨p,c,v,hp,a,b,d⟩
 have lk:∀y c,(O4 env scope.names []).lookup y=some c→∃x∈caps,g.tab x=y∧env.cells.lookup y=some c:=fun y c e=>by
  obtain⟨a,b⟩:=aD scope.names [] (fun c h=>by cases h) e
  rcases b with⟨_,b⟩|b
  ·cases b
  ·obtain⟨x,hx,rfl⟩:=sc.free _ b rfl
   obtain⟨p,c',v,_,hc,_⟩:=bnd x hx
   rw [hc] at a
   exact⟨x,hx,rfl,by rw [hc,a];rfl⟩
 have lk':∀x∈caps,∀c,env.cells.lookup (g.tab x)=some c→(O4 env scope.names []).lookup (g.tab x)=some c:=fun x hx c hc=>by
  obtain⟨c',e⟩:=oR (env:=env) (y:=g.tab x) scope.names [] (.inr (mem_of_lookup (sc.Zr x hx)))
  obtain⟨_,_,_,hc'⟩:=lk _ _ e
  rw [hc] at hc';cases hc';exact e
 have knd:∀x∈caps,(compEnvC scope (O4 env scope.names []) C env).kindOf (g.tab x)=some .cell∨(compEnvC scope (O4 env scope.names []) C env).kindOf (g.tab x)=some .free:=fun x hx=>by
  show(relabel scope env).names.lookup _=_∨(relabel scope env).names.lookup _=_
  rw [T4 (sc.Zr x hx)]
  split
  ·exact .inl rfl
  ·exact .inr rfl
 have cl:∀y c v,env.cells.lookup y=some c→s.heap.IsCell c v→s'.heap.IsCell c v:=fun y c v z ⟨o,e,d⟩=>⟨o,k c o e (F.cells y c z).1,d⟩
 obtain⟨mv,hns⟩:=hC
 refine⟨sc.kind,F.globs,F.Ku,⟨mv,hns,fun x p e kk=>?_⟩,fun x p e kk=>?_,fun x p e=>.inr (knd x (T3 e).2),hC1,hC2,fun y c e=>?_,fun x y c e1 e2=>?_,fun y e=>?_⟩
 ·rcases knd x (T3 e).2 with z|z<;>rw [z] at kk<;>cases kk
 ·obtain⟨a,b⟩:=T3 e
  obtain⟨p',c,v,hp,hc,hcl,r⟩:=bnd x b
  rw [a] at hp;cases hp
  exact⟨c,v,lk' x b c hc,cl _ _ _ hc hcl,r.keeps P⟩
 ·obtain⟨x,hx,rfl,hc⟩:=lk y c e
  obtain⟨z1,z2,v,z3⟩:=F.cells _ _ hc
  obtain⟨o,eo,_⟩:=id z3
  exact⟨un c (by rw [eo];simp) z1,z2,v,cl _ _ _ hc z3⟩
 ·obtain⟨_,_,_,h1⟩:=lk x c e1
  obtain⟨_,_,_,h2⟩:=lk y c e2
  exact F.inj x y c h1 h2
 ·obtain⟨a,b⟩:=xR sc.La e
  obtain⟨x,hx,rfl⟩:=sc.free _ a rfl
  obtain⟨p,c,v,_,hc,_⟩:=bnd x hx
  exact⟨c,lk' x hx c hc⟩
end
inductive CT where
 |one (x:Nat)|many (xs:List Nat)
noncomputable def CT.xs:CT→List Nat
 |.one x=>[x]
 |.many xs=>xs
noncomputable def WD(H:AH):PV→Option (List PV)
 |.tup l=>some l
 |p=>v7 H p
noncomputable def bindC(H:AH):CT→PV→Loc→Option Loc
 |.one x,q,m=>some (j8 x q m)
 |.many xs,q,m=>match WD H q with
  |some l=>if l.length=xs.length then some (jU xs l m) else none
  |none=>none
noncomputable def dw(tab:Nat→Str)(zs:List (Nat×Pos)):List PySem.Expr:=zs.map fun z=>.Name (tab z.1) z.2
noncomputable def Jd(tab:Nat→Str)(ct:CT)(t:PySem.Expr):Prop:=match ct with
 |.one x => ∃p,t = .Name (tab x) p
 |.many xs => ∃zs k p,zs.map (·.1)=xs∧t = .Tuple (dw tab zs) k p
section
variable{τ:T}{g:G τ}{n:Nat}{env:Env}{m:Loc}{H:AH}{A:Around}{s:Shared}
theorem vZ(hg:v8 g):∀{zs:List (Nat×Pos)} {qs:List PV} {vs:List Value} {m:Loc} {s:Shared},(∀z∈zs,env.kindOf (g.tab z.1)=some .local)→zs.length=qs.length→m9 g s H→z9 g env m s.heap H→j7 g.tab s.heap H qs vs→
  wpAny (model g.prog g.w) A (assignInOrder ((assignEach (dw g.tab zs) env).map (·.2)) vs) (fun O s'=>m9 g s' H∧z9 g env (jU (zs.map (·.1)) qs m) s'.heap H∧Goes (fun b=>b=env.locals) s.heap H s'.heap H) (fun O O=>False) s
 | [],[],_,m,s,_,_,S,F,r=>by cases r;exact assignInOrder_nil ⟨S,F,.refl ..⟩
 |z::zs,q::qs,_,m,s,k,e,S,F,⟨v,vs,ev,r,rl⟩=>by
  subst ev
  refine assignInOrder_cons (assign_Name (wpAny_mono (gk hg S F (k z (.head _)) r) (fun O s₁ ⟨S₁,F₁,c₁⟩=>?_) fun O O x=>x))
  exact wpAny_mono (vZ hg (fun y hy=>k y (.tail _ hy)) (by simpa using e) S₁ F₁ (rl.keeps c₁.q8)) (fun O s₂ ⟨S₂,F₂,c₂⟩=>⟨S₂,F₂,c₁.trans c₂⟩) fun O O x=>x
 | [],_::_,_,_,_,_,e,_,_,_=>by simp at e
 |_::_,[],_,_,_,_,e,_,_,_=>by simp at e
theorem qY(env:Env):∀(zs:List (Nat×Pos)),(assignEach (dw g.tab zs) env).length=zs.length∧(assignEach (dw g.tab zs) env).findIdx? (·.1)=none
 | []=>⟨rfl,rfl⟩
 |z::zs=>by
  obtain⟨a,b⟩:=qY env zs
  have e:assignEach (dw g.tab (z::zs)) env=(false,assign (.Name (g.tab z.1) z.2) env)::assignEach (dw g.tab zs) env:=rfl
  rw [e]
  exact⟨by rw [List.length_cons,a,List.length_cons],by rw [List.findIdx?_cons];simp [b]⟩
set_option tactic.hygienic true in
theorem Lb{ct:CT}{tg:PySem.Expr}{q:PV}{v:Value}{m':Loc}(hg:v8 g)(ht:Jd g.tab ct tg)(hk:∀x∈ct.xs,env.kindOf (g.tab x)=some .local)(R:K1 n A)(S:m9 g s H)(F:z9 g env m s.heap H)(r:Rep g.tab s.heap H q v)(h:bindC H ct q m=some m'):
  wpAny (model g.prog g.w) A (assign tg env v) (fun O s'=>m9 g s' H∧z9 g env m' s'.heap H∧Goes (fun b=>b=env.locals) s.heap H s'.heap H) (fun O O=>False) s:=by
 cases ct with
 |one x=>
  obtain⟨p,rfl⟩:=ht
  cases h
  exact assign_Name (gk hg S F (hk x (.head _)) r)
 |many xs=>
  obtain⟨zs,k,p,rfl,rfl⟩:=ht
  simp only [bindC] at h
  split at h
  ·next l el=>
   split at h
   ·next hl=>
    cases h
    rw [arm_assign_Tuple]
    refine wpAny_bind (wpAny_standAt ?_)
    unfold unpack
    obtain⟨e1,e2⟩:=qY (g:=g) env zs
    rw [List.length_map] at hl
    rw [e1,e2,← hl]
    have h1:(∃l,q = .tup l)∨∃l,v7 H q=some l:=by
     cases q<;>first|exact .inl ⟨_,rfl⟩|exact .inr ⟨l,el⟩
    have h2:itemsOf H q=some l:=by
     cases q<;>first|exact el|cases el
    refine wpAny_bind (wpAny_holding (aC R S F r h1 h2 fun vs s' rl S' c' F'=>?_))
    exact wpAny_mono (vZ hg (fun z hz=>hk _ (List.mem_map.mpr ⟨z,hz,rfl⟩)) hl.symm S' F' rl) (fun O s₂ ⟨S₂,F₂,c₂⟩=>⟨S₂,F₂,(c'.weak fun O z=>z.elim).trans c₂⟩) fun O O x=>x
   ·cases h
  ·cases h
theorem xT{prog:Program}{w:World}{R:Result→Shared→Prop}{elt target iter:PySem.Expr}{ifs:List PySem.Expr}{scope:Scope}{pos:Pos}{it acc:Value}{env:Env}(I:Nat→Shared→Prop)
  (turn:∀n s,I n s→wpAny (model prog w) A (pyNext it) (fun r s₁=>match r with
   |none=>R (.ok .next) s₁
   |some v=>wpAny (model prog w) A (letOwnedTupleGo target it v) (fun O s₁'=>wpAny (model prog w) A (assign target env v) (fun O s₂=>
     wpAny (model prog w) A (forIn ifs true fun c r=>if r=true then do let ok ← isTrue c env (eval c env);pure (ForInStep.yield ok) else pure (ForInStep.yield r)) (fun ok s₃=>
      if ok=true then wpAny (model prog w) A (eval elt env) (fun x s₄=>
       wpAny (model prog w) A (call (.builtin "list.append") [acc,x]) (fun O s₅ => ∃m,m<n∧I m s₅) (fun O O=>False) s₄) (fun O O=>False) s₃
      else ∃m,m<n∧I m s₃) (fun O O=>False) s₂) (fun O O=>False) s₁') (fun O O=>False) s₁) (fun O O=>False) s)
  (n:Nat) (h:I n s):codeAny (model prog w) A (.compLoop (.ListComp elt [⟨target,iter,ifs,0⟩] scope pos) 0 it acc env) R s:=by
 refine codeAny_loop rfl I (fun n s hI=>?_) n h
 show wpAny _ A ((compTurn (.ListComp elt [⟨target,iter,ifs,0⟩] scope pos) 0 it acc env).onRaise (fun x=>do noteFrame x env;theTreesLotGoes x)) _ _ s
 refine wpAny_noted ?_
 rw [compTurn_list]
 refine wpAny_bind (wpAny_standAt (wpAny_bind (wpAny_mono (turn n s hI) (fun r s₁ h₁=>?_) fun O O h'=>h'.elim)))
 cases r with
 |none=>exact wpAny_pure h₁
 |some v=>
  refine wpAny_bind (wpAny_mono h₁ (fun O s₁' h₁'=>?_) fun O O h'=>h'.elim)
  refine wpAny_bind (wpAny_mono h₁' (fun O s₂ h₂=>wpAny_bind (wpAny_mono h₂ (fun ok s₃ h₃=>?_) fun O O h'=>h'.elim)) fun O O h'=>h'.elim)
  cases ok with
  |false=>exact wpAny_pure ⟨rfl,h₃⟩
  |true=>
   exact wpAny_bind (wpAny_bind (wpAny_mono h₃ (fun x s₄ h₄=>wpAny_bind (wpAny_mono h₄ (fun O s₅ h₅=>wpAny_pure (wpAny_pure ⟨rfl,h₅⟩)) fun O O h'=>h'.elim)) fun O O h'=>h'.elim))
noncomputable def WC(ct:CT)(wi:Loc→AH→(Bool→AH→Prop)→Prop)(we:Loc→AH→(PV→AH→Prop)→Prop)(p:PV)(l:List PV)(D:Addr)(fin:List PV→AH→Prop):List PV→List PV→Loc→AH→Prop
 | [],acc,_,H=>fin acc H
 |q::r,acc,m,H=>lk (bindC H ct q m) fun m₁=>wi m₁ H fun b H₁=>sel b (we m₁ H₁ fun x H₂=>(H₂ D=some (.list acc)∧acc.length<sizeLine∧itemsOf H₂ p=some l)∧WC ct wi we p l D fin r (acc++[x]) m₁ (upd H₂ D (.list (acc++[x]))))
   ((H₁ D=some (.list acc)∧itemsOf H₁ p=some l)∧WC ct wi we p l D fin r acc m₁ H₁)
noncomputable def dZ{τ:T}(g:G τ)(n:Nat)(env:Env)(ifs:List PySem.Expr)(wi:Loc→AH→(Bool→AH→Prop)→Prop):Prop := ∀m H Q,wi m H Q→∀A s,K1 n A→m9 g s H→z9 g env m s.heap H→
 wpAny (model g.prog g.w) A (forIn ifs true fun c r=>if r=true then do let ok ← isTrue c env (eval c env);pure (ForInStep.yield ok) else pure (ForInStep.yield r)) (Zc g s H Q) (fun O O=>False) s
theorem dZ.nil:dZ g n env [] fun O H K=>K true H:=fun O H O q O O O S O=>wpAny_tests_nil ⟨H,S,.refl ..,q⟩
theorem dZ.one{c:PySem.Expr}{wi:Loc→AH→(Bool→AH→Prop)→Prop}(h:∀m H Q,wi m H Q→Ts g n env m H c Q):dZ g n env [c] wi:=fun m H Q q A s R S F=>wpAny_tests_one (h m H Q q A s R S F)
set_option tactic.hygienic true in
theorem Je{p:PV}{I:Addr}{k:Nat}{P:Value→Shared→Prop}{E:Value→Shared→Prop}(hh:A.handled=none)(S:m9 g s H)(x:K5 g p I k s.heap H)(h:P (.ref I) s):wpAny (model g.prog g.w) A (pyIter (.ref I)) P E s:=by
 cases p
 case tup l=>
  obtain⟨t,vs,j,it,ot,rl⟩:=x
  have hne:t≠I:=fun z=>by obtain⟨o,e1,e2,e3⟩:=it;rw [z,e1] at ot;cases ot;cases e3
  exact(Walks.tuple (prog:=g.prog) (w:=g.w) hh I t hne vs.toArray).self k s P E ⟨it,⟨_,ot,rfl,_,rfl⟩⟩ h
 case rng a b=>exact(Walks.range (prog:=g.prog) (w:=g.w) hh I a 1 (b-a).toNat).self k s P E (by
  have x':IsRangeIter s.heap I (a+k) (((b-a).toNat:Int)-k) 1:=x
  rw [Int.mul_one];exact x') h
 case lst l=>
  obtain⟨t,vs,j,it,ot,q,rl⟩:=x
  exact wpAny_pyIter_listiter it h
 case obj a=>obtain⟨it,l,hl⟩:=x;exact wpAny_pyIter_listiter it h
 all_goals exact x.elim
structure CI{τ:T}(g:G τ)(env:Env)(p:PV)(l:List PV)(I D:Addr)(W:List PV→List PV→Loc→AH→Prop)(s₁:Shared)(H₁:AH)(i:Nat)(m:Loc)(acc:List PV)(H:AH)(s:Shared):Prop where
 S:m9 g s H
 F:z9 g env m s.heap H
 C:Calm s₁.heap H₁ s.heap H
 x:K5 g p I i s.heap H
 el:itemsOf H p=some l
 hI:H I=none
 hD:H D=some (.list acc)
 w:W (l.drop i) acc m H
theorem CI.go{p:PV}{l acc:List PV}{I D:Addr}{W:List PV→List PV→Loc→AH→Prop}{s₁ s₄:Shared}{H₁ H':AH}{i:Nat}(C₄:Calm s₁.heap H₁ s₄.heap H')(x:K5 g p I i s₄.heap H')(el:itemsOf H' p=some l)(hI:H' I=none)
  (c:Calm s₄.heap H' s.heap H) (S:m9 g s H) (F:z9 g env m s.heap H) (e:itemsOf H p=some l) (hD:H D=some (.list acc)) (w:W (l.drop i) acc m H):CI g env p l I D W s₁ H₁ i m acc H s:=
 ⟨S,F,C₄.trans c,x.keeps (fun o e=>c.keep I o e hI id) c.q8 (e.trans el.symm),e,Classical.byContradiction fun z=>x.kind.elim fun o k=>(nomatch (c.new I hI z).symm.trans k.1),hD,w⟩
set_option tactic.hygienic true in
theorem wg{p:PV}{l:List PV}{D:Addr}{o:q7}(ne:p≠.obj D)(e:itemsOf H p=some l):itemsOf (upd H D o) p=some l:=by
 cases p
 case obj a=>
  show(upd H D o a).bind q7.zP = some l
  rw [d9 fun z=>ne (congrArg PV.obj z)]
  exact e
 all_goals exact e
theorem DY{scope:Scope}{ct:CT}{tg elt iter:PySem.Expr}{ifs:List PySem.Expr}{pos:Pos}{p:PV}{l:List PV}{I D:Addr}{R':Result→Shared→Prop}{fin:List PV→AH→Prop}{s₁:Shared}{H₁:AH}{wi:Loc→AH→(Bool→AH→Prop)→Prop}{we:Loc→AH→(PV→AH→Prop)→Prop}(hg:v8 g)(R:K1 n A)
  (ht:Jd g.tab ct tg) (hk:∀x∈ct.xs,env.kindOf (g.tab x)=some .local) (he:∀m H Q,we m H Q→Ev g n env m H elt Q) (hi:dZ g n env ifs wi)
  (a1:s₁.heap.get? I=none) (a3:s₁.heap.get? env.locals=none) (bI:g.h₀.get? I=none) (ap:∀b,(b=env.locals∨∃x,env.cells.lookup x=some b)→b≠I) (np:p≠.obj D)
  (K:∀s' H' m' acc,m9 g s' H'→H' D=some (.list acc)→fin acc H'→Calm s₁.heap H₁ s'.heap H'→z9 g env m' s'.heap H'→R' (.ok .next) s')
  (h:CI g env p l I D (WC ct wi we p l D fin) s₁ H₁ 0 m [] H s):
  codeAny (model g.prog g.w) A (.compLoop (.ListComp elt [⟨tg,iter,ifs,0⟩] scope pos) 0 (.ref I) (.ref D) env) R' s:=by
 refine xT (fun j s' => ∃i m' H' acc,i+j=l.length∧CI g env p l I D (WC ct wi we p l D fin) s₁ H₁ i m' acc H' s') (fun j s' hj=>?_) l.length ⟨0,m,H,[],Nat.zero_add _,h⟩
 obtain⟨i,m',H',acc,hij,ci⟩:=hj
 cases j with
 |succ j=>
  have hlt:i<l.length:=by exact Mine.Internal.eqs ‹_›
  have hd:l.drop i=l[i]::l.drop (i+1):=List.drop_eq_getElem_cons hlt
  have w:=ci.w
  rw [hd] at w
  obtain⟨m₁,hm₁,w⟩:=K8 w
  refine nu ci.S ci.x ci.hI bI ci.el (List.getElem?_eq_getElem hlt) fun v₃ s₃ rv₃ S₃ c₃ x₃=>?_
  obtain⟨o,eo,ck⟩:=x₃.kind
  refine oO eo ck (wpAny_mono (Lb hg ht hk R S₃ (ci.F.Kv c₃ ap) rv₃ hm₁) (fun O s₄ z=>?_) fun O O x=>x.elim)
  obtain⟨S₄,F₄,c₄⟩:=z
  have x₄:K5 g p I (i+1) s₄.heap H':=x₃.keeps (fun o' e'=>c₄.keep I o' e' ci.hI fun z=>ap env.locals (.inl rfl) z.symm) c₄.q8 rfl
  have C₄:Calm s₁.heap H₁ s₄.heap H':=(((ci.C.weak (F':=fun b=>b=I∨b=env.locals) fun O z=>z.elim).trans (c₃.weak fun b z=>.inl z)).trans (c₄.weak fun b z=>.inr z)).drop fun b z=>.inl (z.elim (fun w=>w▸a1) fun w=>w▸a3)
  have nx:∀{s H m acc},CI g env p l I D (WC ct wi we p l D fin) s₁ H₁ (i+1) m acc H s→∃k,k<j+1∧∃i m' H' acc,i+k=l.length∧CI g env p l I D (WC ct wi we p l D fin) s₁ H₁ i m' acc H' s:=fun z=>⟨j,Nat.lt_succ_self j,i+1,_,_,_,by exact Mine.Internal.eqt ‹_›,z⟩
  refine wpAny_mono (hi _ _ _ w A s₄ R S₄ F₄) (fun b s₅ z=>?_) fun O O x=>x.elim
  obtain⟨H₅,S₅,c₅,k⟩:=z
  cases b with
  |false=>exact nx (CI.go C₄ x₄ ci.el ci.hI c₅ S₅ (F₄.goes c₅) k.1.2 k.1.1 k.2)
  |true=>
   refine(he _ _ _ k).then R S₅ (F₄.goes c₅) fun u s₆ q H₆ ru S₆ c₆ F₆ k=>?_
   refine wpAny_mono ((z6 (g:=g) (n:=n) (Q:=fun r mU=>mU=upd H₆ D (.list (acc++[q]))) (p:=q) k.1.1 (Nat.le_of_lt k.1.2.1) rfl) A s₆ _ [.ref D,u] R S₆ ⟨rfl,by decide⟩ ⟨.ref D,[u],rfl,rfl,u,[],rfl,ru,rfl⟩) (fun r s₇ z=>?_) fun O O x=>x.elim
   obtain⟨pr,H₇,_,S₇,c₇,rfl⟩:=z
   exact nx (CI.go C₄ x₄ ci.el ci.hI ((c₅.trans c₆).trans c₇) S₇ (F₆.goes c₇) (wg np k.1.2.2) (c7 ..) k.2)
 |zero=>
  obtain rfl:i=l.length:=by exact ‹_›
  have w:=ci.w
  rw [List.drop_length] at w
  refine qR R.handled ci.S ci.x ci.hI bI ci.el fun h' S₃ B P₃=>?_
  exact K _ H' m' acc S₃ ci.hD w (ci.C.ext B a1 P₃) (ci.F.Gi (fun b o e O w=>B b o (ap b w) e) (fun x O z O=>z) P₃)
end
section
variable{τ:T}{g:G τ}{n:Nat}{env:Env}{m:Loc}{H:AH}{A:Around}{s:Shared}
theorem zZ{P:Value→Shared→Prop}{E:Value→Shared→Prop}(S:m9 g s H)(K:∀D s',m9 g s' (upd H D (.list []))→Calm s.heap H s'.heap (upd H D (.list []))→s.heap.get? D=none→H D=none→g.h₀.get? D=none→P (.ref D) s'):
  wpAny (model g.prog g.w) A (newList []) P E s:=by
 obtain⟨d1,d2,d3⟩:=bB S
 obtain⟨S₃,c₃⟩:=S.track (o:=.list []) (x:={cls:=.type "list",data:=.seq ([]:List Value).toArray}) rfl ⟨[],0,Heap.get?_push_size _ rfl,rfl⟩
 exact wpAny_newObj_type (hd:=by size_fits) (K _ _ S₃ c₃ d1 d2 d3)
theorem Jf{scope:Scope}{cl:List (Str×Addr)}{P:Env→Shared→Prop}{E:Value→Shared→Prop}(S:m9 g s H)(nc:∀y∈scope.names,y.2≠.cell)(hk:scope.kind = .function)
  (K:∀C s',m9 g s' H→Calm s.heap H s'.heap H→s.heap.get? C=none→H C=none→g.h₀.get? C=none→(∃mv,s'.heap.Ns C mv)→P (newEnv scope C env.globals cl env.qual none .none (some env) 0) s'):
  wpAny (model g.prog g.w) A (newFunctionEnv scope env.globals cl [] env.qual none .none (some env)) P E s:=by
 obtain⟨g1,g2,g3⟩:=bB S
 refine wpAny_newFunctionEnv nc (by intro y hy;simp at hy) (fun h₄ hns B=>?_) hk
 have S₄:=S.push {cls:=.type (if(some env).isSome then "dict" else "frame"),data:=.dict #[]} s.toks
 obtain⟨o4,es4,ep4,e4,e4',_⟩:=id hns
 obtain⟨S₅,c₅⟩:=jN S₄ (Heap.get?_push_size _ rfl) ⟨fun xs k e=>(by cases e),fun xs e=>(by cases e)⟩ g2 g3 B ⟨_,e4⟩ (s.toks+([]:List (Str×Value)).length)
 have c0:Calm s.heap H (s.heap.push {cls:=.type (if(some env).isSome then "dict" else "frame"),data:=.dict #[]}) H:=Calm.push _ _ _
 have c35:Calm s.heap H h₄ H:=((c0.weak (F':=fun b=>b=s.heap.objs.size) fun O z=>z.elim).trans c₅).drop fun b z=>.inl (by rw [z];exact g1)
 exact K _ _ S₅ c35 g1 g2 g3 ⟨_,hns⟩
theorem Aa{scope:Scope}{caps:List Nat}{ct:CT}{tg elt iter:PySem.Expr}{ifs:List PySem.Expr}{pos:Pos}{p:PV}{v:Value}{l:List PV}{RR:Value→Addr→Result→Shared→Prop}{fin:Addr→List PV→AH→Prop}{E:Value→Shared→Prop}{wi:Loc→AH→(Bool→AH→Prop)→Prop}{we:Loc→AH→(PV→AH→Prop)→Prop}
  (hg:v8 g) (R:K1 n A) (sc:nC g scope caps) (hcap:∀x∈caps,env.kindOf (g.tab x)=some .cell∨env.kindOf (g.tab x)=some .free) (hb:∀x∈caps,∃p,m.lookup x=some p)
  (ht:Jd g.tab ct tg) (hk:∀x∈ct.xs,scope.names.lookup (g.tab x)=some .local)
  (S:m9 g s H) (F:z9 g env m s.heap H) (rv:Rep g.tab s.heap H p v) (el:itemsOf H p=some l) (ok:zX p)
  (he:∀env',env'.scope=relabel scope env→∀m H Q,we m H Q→Ev g n env' m H elt Q) (hi:∀env',env'.scope=relabel scope env→dZ g n env' ifs wi)
  (h:∀D,H D=none→WC ct wi we p l D (fin D) l [] (W7 caps m) (upd H D (.list [])))
  (K:∀D C s' H' acc,m9 g s' H'→H' D=some (.list acc)→fin D acc H'→Calm s.heap H s'.heap H'→s.heap.get? D=none→H D=none→s.heap.get? C=none→H' C=none→g.h₀.get? C=none→(∃mc o,s'.heap.Ns C mc∧s'.heap.get? C=some o∧(∀xs k,o.data≠.seq xs k)∧∀xs,o.data≠.fields xs)→RR (.ref D) C (.ok .next) s'):
  wpAny (model g.prog g.w) A (pyIter v) (fun it s₂=>wpAny (model g.prog g.w) A (newList []) (fun acc s₃=>wpAny (model g.prog g.w) A (newFunctionEnv scope env.globals (O4 env scope.names []) [] env.qual none .none (some env)) (fun cenv s₄=>
   codeAny (model g.prog g.w) A (.compStart (.ListComp elt [⟨tg,iter,ifs,0⟩] scope pos) 0 it acc {cenv with scope:=relabel scope env}) (RR acc cenv.locals) s₄) E s₃) E s₂) E s:=by
 refine jq S rv el ok fun I s₂ S₂ c₂ x₂ f1 f2 f3=>?_
 refine zZ S₂ fun D s₃ S₃ c₃ d1 d2 d3=>Jf S₃ sc.La sc.kind fun C s₄ S₄ c₄ g1 g2 g3 hns=>?_
 have C₅:Calm s.heap H s₄.heap (upd H D (.list [])):=(c₂.trans c₃).trans c₄
 have sN:∀b,s₂.heap.get? b=none→s.heap.get? b=none:=fun b z=>by
  cases e:s.heap.get? b with
  |none=>rfl
  |some o=>obtain⟨o',e'⟩:=c₂.ex b o e;rw [z] at e';cases e'
 have sN3:∀b,s₃.heap.get? b=none→s₂.heap.get? b=none:=fun b z=>by
  cases e:s₂.heap.get? b with
  |none=>rfl
  |some o=>obtain⟨o',e'⟩:=c₃.ex b o e;rw [z] at e';cases e'
 have sD:=sN _ d1
 have sC:=sN _ (sN3 _ g1)
 obtain⟨oI,eI,kI⟩:=x₂.kind
 have nID:I≠D:=fun z=>by rw [z,d1] at eI;cases eI
 have nIC:C≠I:=fun z=>by rw [← z] at eI;rw [sN3 _ g1] at eI;cases eI
 have uI:upd H D (.list []) I=none:=by rw [d9 nID];exact f2
 have np:p≠.obj D:=fun z=>by
  subst z
  rcases u9 (p:=.obj D) el with w|⟨b,w,e⟩
  ·cases w
  ·cases w;rw [d2] at e;cases e
 have YG:itemsOf (upd H D (.list [])) p=some l:=wg np el
 have eI':=YG.trans el.symm
 have xI:K5 g p I 0 s₄.heap (upd H D (.list [])):=x₂.keeps (fun o e=>(c₃.trans c₄).keep I o e f2 id) (c₃.trans c₄).q8 eI'
 have Fc:z9 g (compEnvC scope (O4 env scope.names []) C env) (W7 caps m) s₄.heap (upd H D (.list [])):=
  DX (s:=s) (s':=s₄) hg sc hcap hb F (fun b o e q=>C₅.keep b o e q id) (fun x q e=>Classical.byContradiction fun z=>q (C₅.new x e z)) C₅.q8 hns g2 g3
 have ap:∀b,(b=(compEnvC scope (O4 env scope.names []) C env).locals∨∃x,(compEnvC scope (O4 env scope.names []) C env).cells.lookup x=some b)→b≠I:=by
  intro b hb' z
  subst z
  rcases hb' with w|⟨x,w⟩
  ·exact nIC w.symm
  ·obtain⟨a,b'⟩:=aD (env:=env) scope.names [] (fun c h=>by cases h) w
   rcases b' with⟨_,b'⟩|b'
   ·cases b'
   ·obtain⟨y,hy,rfl⟩:=sc.free _ b' rfl
    obtain⟨p',hp'⟩:=hb y hy
    obtain⟨c,v',e1,⟨o',e2,_⟩,_⟩:=F.cell y p' hp' (hcap y hy)
    rw [e1] at a
    have a':b=c:=a
    rw [a'] at f1;rw [f1] at e2;cases e2
 have loop:codeAny (model g.prog g.w) A (.compLoop (.ListComp elt [⟨tg,iter,ifs,0⟩] scope pos) 0 (.ref I) (.ref D) (compEnvC scope (O4 env scope.names []) C env)) (RR (.ref D) C) s₄:=by
  refine DY (s₁:=s) (H₁:=H) (fin:=fin D) hg R ht (fun x hx=>?_) (he _ rfl) (hi _ rfl) f1 sC f3 ap np (fun s' H' m' acc S' hD' hf C' F'=>?_) ⟨S₄,Fc,C₅,xI,YG,uI,c7 ..,h _ d2⟩
  ·show(relabel scope env).names.lookup _=_
   rw [T4 (hk x hx)]
   rfl
  ·obtain⟨mc,⟨o,es,ep,e1,e2,e3⟩,_⟩:=F'.ns
   exact K _ _ s' H' acc S' hD' hf C' sD d2 sC F'.Iv g3 ⟨mc,o,⟨o,es,ep,e1,e2,e3⟩,e1,fun xs k e=>(by rw [e2] at e;cases e),fun xs e=>(by rw [e2] at e;cases e)⟩
 exact codeAny_compStart_list loop (Je R.handled S₄ xI loop)
theorem Gx{h':Heap}{c:Addr}{x:Obj}(S:m9 g s H)(e:s.heap.get? c=some x)(nd:(∀xs k,x.data≠.seq xs k)∧∀xs,x.data≠.fields xs)(hc:H c=none)(hb:g.h₀.get? c=none)(B:Heap.ExtBut c s.heap h')(t:Nat):
  m9 g {s with heap:=h',toks:=t} H∧N7 s.heap H h' H:=by
 have P:N7 s.heap H h' H:=by
  refine⟨fun b o ys k q d cc=>B b o (fun z=>?_) q,fun b o ys k q d cc z=>⟨B b o (fun z=>?_) q,z⟩,fun b o ys q d cc=>B b o (fun z=>?_) q⟩
  all_goals (subst z;rw [e] at q;cases q)
  ·exact nd.1 _ _ d
  ·exact nd.1 _ _ d
  ·exact nd.2 _ d
 refine⟨⟨fun b o q=>B b o (fun z=>?_) (S.keep b o q),S.fresh,fun a o q=>(S.obj a o q).keeps P fun y z=>B a y (fun w=>?_) z,S.gens,S.os⟩,P⟩
 ·subst z;rw [hb] at q;cases q
 ·subst w;rw [hc] at q;cases q
theorem Gy{D:Addr}{acc:List PV}{s':Shared}{H':AH}(S:m9 g s' H')(e:H' D=some (.list acc))(C:Calm s.heap H s'.heap H')(hD:s.heap.get? D=none):
  m9 g s' (del H' D)∧Calm s.heap H s'.heap (del H' D)∧Rep g.tab s'.heap (del H' D) (.lst acc) (.ref D):=by
 have P:N7 s'.heap H' s'.heap (del H' D):=⟨fun O O O O e O O=>e,fun b O O O e' O O q=>⟨e',by unfold del;split;rfl;exact q⟩,fun O O O e O O=>e⟩
 obtain⟨vs,k,o,r⟩:=S.obj _ _ e
 have un:∀b,del H' D b≠none→H' b≠none:=fun b z w=>z (by unfold del;split;rfl;exact w)
 refine⟨⟨S.keep,fun a z=>S.fresh a (un a z),fun a o z=>?_,S.gens,S.os⟩,⟨C.keep,fun b z w=>C.new b z (un b w),C.ex,C.q8.trans P⟩,⟨D,vs,k,rfl,o,KZ ..,r.keeps P⟩⟩
 unfold del at z
 split at z
 ·cases z
 ·exact(S.obj a o z).keeps P fun O y=>y
noncomputable def qZ(m:Loc)(caps:List Nat)(ct:CT)(wi:Loc→AH→(Bool→AH→Prop)→Prop)(we:Loc→AH→(PV→AH→Prop)→Prop)(fin:List PV→AH→Prop)(p:PV)(H:AH):Prop:=
 okW p (lk (itemsOf H p) fun l => ∀D,H D=none→WC ct wi we p l D (fun acc H'=>fin acc (del H' D)) l [] (W7 caps m) (upd H D (.list [])))
theorem Ev.comp{scope:Scope}{caps:List Nat}{ct:CT}{tg elt iter:PySem.Expr}{ifs:List PySem.Expr}{pos:Pos}{wi:Loc→AH→(Bool→AH→Prop)→Prop}{we:Loc→AH→(PV→AH→Prop)→Prop}{Q:PV→AH→Prop}(hg:v8 g)(sc:nC g scope caps)(hcap:∀x∈caps,env.kindOf (g.tab x)=some .cell∨env.kindOf (g.tab x)=some .free)(hb:∀x∈caps,∃q,m.lookup x=some q)
  (ht:Jd g.tab ct tg) (hk:∀x∈ct.xs,scope.names.lookup (g.tab x)=some .local) (hf:∀x,foldedSetIterable iter env x=pure x)
  (he:∀env',env'.scope=relabel scope env→∀m H Q,we m H Q→Ev g n env' m H elt Q) (hi:∀env',env'.scope=relabel scope env→dZ g n env' ifs wi) (h:Ev g n env m H iter (qZ m caps ct wi we fun acc H'=>Q (.lst acc) H')):Ev g n env m H (.ListComp elt [⟨tg,iter,ifs,0⟩] scope pos) Q:=fun A s R S F=>by
 have hcl:∀x∈scope.names,x.2 = .free→∃c,env.cells.lookup x.1=some c:=fun x hx hfree=>by
  obtain⟨y,hy,e⟩:=sc.free x hx hfree
  obtain⟨p,hp⟩:=hb y hy
  obtain⟨c,_,e1,_⟩:=F.cell y p hp (hcap y hy)
  exact⟨c,by rw [← e];exact e1⟩
 rw [eval_ListComp]
 refine wpAny_comprehension_free (use:=none) rfl hf (iU hcl) sc.kind sc.names (h.then R S F fun v s₁ p H₁ rv S₁ c₁ F₁ k=>?_)
 obtain⟨ok,k⟩:=k.src
 obtain⟨l,el,k⟩:=K8 k
 refine Aa (RR:=fun acc C=>compPost (model g.prog g.w) A (fun O O=>False) none (Y5 g s H Q) acc C) (fin:=fun D acc H'=>Q (.lst acc) (del H' D)) hg R sc hcap hb ht hk S₁ F₁ rv el ok he hi k fun D C s' H' acc S' hD' hf C' sD hD sC hC hC0 ⟨mc,o,hns,eo,nd⟩=>⟨mc,hns,fun h' B=>?_⟩
 obtain⟨S₂,P₂⟩:=Gx S' eo nd hC hC0 B.extBut s'.toks
 have C₂:Calm s.heap H h' H':=(c₁.trans C').ext B.extBut (by
  cases e:s.heap.get? C with
  |none=>rfl
  |some o=>obtain⟨o',e'⟩:=c₁.ex C o e;rw [sC] at e';cases e') P₂
 have sD':s.heap.get? D=none:=by
  cases e:s.heap.get? D with
  |none=>rfl
  |some o=>obtain⟨o',e'⟩:=c₁.ex D o e;rw [sD] at e';cases e'
 obtain⟨S₃,C₃,r⟩:=Gy S₂ hD' C₂ sD'
 exact⟨.lst acc,_,r,S₃,C₃,hf⟩
theorem eU.QV{scope:Scope}{caps:List Nat}{ct:CT}{tg elt iter:PySem.Expr}{ifs:List PySem.Expr}{pos pos' spos:Pos}{x:Nat}{wi:Loc→AH→(Bool→AH→Prop)→Prop}{we:Loc→AH→(PV→AH→Prop)→Prop}{Q:Out→Loc→AH→Prop}(hg:v8 g)(sc:nC g scope caps)(hcap:∀x∈caps,env.kindOf (g.tab x)=some .cell∨env.kindOf (g.tab x)=some .free)(hb:∀x∈caps,∃q,m.lookup x=some q)
  (ht:Jd g.tab ct tg) (hk:∀x∈ct.xs,scope.names.lookup (g.tab x)=some .local) (hf:∀x,foldedSetIterable iter env x=pure x) (hx:env.kindOf (g.tab x)=some .local)
  (hs:swapsWith (.ListComp elt [⟨tg,iter,ifs,0⟩] scope pos) (some (.Name (g.tab x) pos')) spos.line env=pure true)
  (he:∀env',env'.scope=relabel scope env→∀m H Q,we m H Q→Ev g n env' m H elt Q) (hi:∀env',env'.scope=relabel scope env→dZ g n env' ifs wi) (h:Ev g n env m H iter (qZ m caps ct wi we fun acc H'=>Q .next (j8 x (.lst acc) m) H')):eU g n env m H (.Assign [.Name (g.tab x) pos'] (.ListComp elt [⟨tg,iter,ifs,0⟩] scope pos) spos) Q:=fun A s R S F=>by
 have hcl:∀x∈scope.names,x.2 = .free→∃c,env.cells.lookup x.1=some c:=fun x hx hfree=>by
  obtain⟨y,hy,e⟩:=sc.free x hx hfree
  obtain⟨p,hp⟩:=hb y hy
  obtain⟨c,_,e1,_⟩:=F.cell y p hp (hcap y hy)
  exact⟨c,by rw [← e];exact e1⟩
 rw [exec_Assign_Name_used _ _ _ _ hs]
 refine wpAny_bind (wpAny_standAt (wpAny_bind ?_))
 show wpAny _ A (do let _ ← comprehension (.ListComp elt [⟨tg,iter,ifs,0⟩] scope pos) scope env _ (newList []) false (eval iter env) (some (PySem.assign (.Name (g.tab x) pos') env))) _ _ s
 refine wpAny_bind (wpAny_mono (wpAny_comprehension_free (use:=some (PySem.assign (.Name (g.tab x) pos') env)) (Q:=fun O s'=>Kh g env s H Q .next s') (E:=fun O O=>False) rfl hf (iU hcl) sc.kind sc.names (h.then R S F fun v s₁ p H₁ rv S₁ c₁ F₁ k=>?_)) (fun O s' hq=>wpAny_pure (wpAny_pure hq)) fun O O e=>e)
 obtain⟨ok,k⟩:=k.src
 obtain⟨l,el,k⟩:=K8 k
 refine Aa (RR:=fun acc C=>compPost (model g.prog g.w) A (fun O O=>False) (some (PySem.assign (.Name (g.tab x) pos') env)) (fun O s'=>Kh g env s H Q .next s') acc C) (fin:=fun D acc H'=>Q .next (j8 x (.lst acc) m) (del H' D)) hg R sc hcap hb ht hk S₁ F₁ rv el ok he hi k fun D C s' H' acc S' hD' hf C' sD hD sC hC hC0 ⟨mc,o,hns,eo,nd⟩=>?_
 have sC':s.heap.get? C=none:=by
  cases e:s.heap.get? C with
  |none=>rfl
  |some o=>obtain⟨o',e'⟩:=c₁.ex C o e;rw [sC] at e';cases e'
 have sD':s.heap.get? D=none:=by
  cases e:s.heap.get? D with
  |none=>rfl
  |some o=>obtain⟨o',e'⟩:=c₁.ex D o e;rw [sD] at e';cases e'
 have C₁:=c₁.trans C'
 have nCL:C≠env.locals:=fun z=>by
  obtain⟨mv,⟨oL,es,ep,eL,_⟩,_⟩:=F.ns
  rw [← z,sC'] at eL;cases eL
 -- the value,as it is called behind the store
 have fin:∀q H₃,m9 g s' H₃→Calm s.heap H s'.heap H₃→H₃ C=none→Rep g.tab s'.heap H₃ q (.ref D)→Q .next (j8 x q m) H₃→
   wpAny (model g.prog g.w) A (PySem.assign (.Name (g.tab x) pos') env (.ref D)) (fun O s'' => ∃m,s''.heap.Ns C m∧∀h',Heap.SameBut C s''.heap h'→Kh g env s H Q .next {s'' with heap:=h'}) (fun O O=>False) s':=by
  intro q H₃ S₃ C₃ hC3 r3 q3
  refine assign_Name (wpAny_mono (gk hg S₃ (F.goes C₃) hx r3) (fun O s₄ ⟨S₄,F₄,c₄⟩=>?_) fun O O x=>x)
  have eo4:=c₄.keep C o eo hC3 nCL
  obtain⟨o',es',ep',n1,n2⟩:=hns
  rw [eo] at n1;cases n1
  refine⟨mc,⟨o,es',ep',eo4,n2⟩,fun h' B=>?_⟩
  obtain⟨S₅,P₅⟩:=Gx S₄ eo4 nd hC3 hC0 B.extBut s₄.toks
  have F₅:z9 g env (j8 x q m) h' H₃:=F₄.Gi (fun b o e O w=>B.extBut b o (fun z=>by
   subst z
   rcases w with w|⟨y,w⟩
   ·exact nCL w
   ·obtain⟨_,_,v,⟨oc,ec,_⟩⟩:=F.cells y _ w
    rw [sC'] at ec;cases ec) e) (fun x O z O=>z) P₅
  exact⟨.next,_,H₃,rfl,S₅,F₅,(C₃.own.trans (c₄.weak fun b z=>.inl z)).ext B.extBut sC' P₅,q3⟩
 show wpAny _ A (PySem.assign (.Name (g.tab x) pos') env (.ref D)) _ _ _
 obtain⟨S₃,C₃,r⟩:=Gy S' hD' C₁ sD'
 exact fin (.lst acc) _ S₃ C₃ (by unfold del;split;rfl;exact hC) r hf
end
section
variable{τ:T}{g:G τ}{n:Nat}{env:Env}{m:Loc}{H:AH}{A:Around}{s:Shared}{Q:PV→AH→Prop}
theorem Ld{C:Addr}(S:m9 g s H):∃a dx,a=s.heap.objs.size+1∧dx=s.heap.objs.size∧H a=none∧H dx=none∧a≠dx∧
  m9 g {s with heap:=(s.heap.push emptyDict).push (instObj C s.heap.objs.size)} (upd (upd H dx (.attrs [])) a (.inst C dx))∧Calm s.heap H ((s.heap.push emptyDict).push (instObj C s.heap.objs.size)) (upd (upd H dx (.attrs [])) a (.inst C dx)):=by
 obtain⟨f1,f2,f3⟩:=bB S
 obtain⟨S₁,c₁⟩:=S.track (o:=.attrs []) (x:=emptyDict) rfl ⟨fun O=>none,Heap.Ns1.of_empty (Heap.Ns.new s.heap (.type "dict")),fun y h=>absurd rfl h,fun O=>rfl⟩
 obtain⟨g1,g2,g3⟩:=bB S₁
 have sz:(s.heap.push emptyDict).objs.size=s.heap.objs.size+1:=Heap.size_push ..
 obtain⟨S₂,c₂⟩:=S₁.track (o:=.inst C s.heap.objs.size) (x:=instObj C s.heap.objs.size) rfl (Heap.get?_push_size _ rfl)
 dsimp only at S₂ c₂ g2
 rw [sz] at S₂ c₂ g2
 have ne:s.heap.objs.size+1≠s.heap.objs.size:=by lia
 rw [d9 ne] at g2
 exact⟨_,_,rfl,rfl,g2,f2,ne,S₂,c₁.trans c₂⟩
theorem QW{C f:Addr}{l:List PV}(hg:v8 g)(hi:g.init C=some f)(h:∀a dx,H a=none→H dx=none→a≠dx→Dl g n (.obj f) (.obj a::l) (upd (upd H dx (.attrs [])) a (.inst C dx)) fun r H'=>r = .none∧Q (.obj a) H'):Cl g (n+1) (.obj C) l H Q:=fun A s v vs R S rv rl=>by
 cases rv
 obtain⟨i1,i2,i3,i4⟩:=hg.init C f hi
 have X:=hg.X.keeps S.keep
 obtain⟨a,dx,rfl,rfl,ha,hdx,ne,S',c'⟩:=Ld (C:=C) S
 refine wpAny_call (codeAny_mono (R:=Ux g s H Q) ?_ fun r s' ⟨u,e,x⟩=>by subst e;exact x)
 refine make_core (makes_of X i1) (looks_findIn X i2) (fun self=>bind_fn X self (beq_iff_eq.mp i3)) (.inl rfl) ?_
 have w:(Code.builtin "type.__call__" ⟨.ref C::vs,[]⟩).weight=1:=rfl
 have u:(Code.builtin "type.__call__" ⟨.ref C::vs,[]⟩).cUnits=1:=rfl
 have R':K1 n (A.under (.builtin "type.__call__" ⟨.ref C::vs,[]⟩)):=⟨R.handled,by
  show A.depth+(Code.builtin "type.__call__" ⟨.ref C::vs,[]⟩).weight+2*n<_
  rw [w];have:=R.depth;lia,by
  show A.units+(Code.builtin "type.__call__" ⟨.ref C::vs,[]⟩).cUnits+20*n+100<_
  rw [u];have:=R.units;lia⟩
 have rl':=rl.keeps c'.q8
 refine codeAny_mono (h _ _ ha hdx ne _ _ (.ref f) (.ref (s.heap.objs.size+1)::vs) R' S' rfl ⟨_,_,rfl,rfl,rl'⟩) fun r s' ⟨u,e,z⟩=>?_
 subst e
 obtain⟨p,H',r',S₂,c₂,rfl,q⟩:=z
 cases r'
 exact⟨rfl,_,rfl,.obj _,H',rfl,S₂,c'.trans c₂,q⟩
theorem Ev.Le{o:PySem.Expr}{x:Nat}{es:List PySem.Expr}{apos pos:Pos}(hg:v8 g)(hb:vR o)(hline:(apos.endLine==pos.line)=true)(hlen:es.length<30)(hs:∀e∈es,bQ e)
  (h:Ev g n env m H o fun p H₁ => ∃C f,p = .obj C∧g.qK C x=some f∧oJ g n env m H₁ pos es fun l H₂=>Cl g n (.obj f) l H₂ Q):Ev g n env m H (.Call (.Attribute o (g.tab x) apos) es [] pos) Q:=fun A s R S F=>by
 rw [arm_eval_Call,hb]
 refine wpAny_bind (h.then R S F fun v s' p H' r S' c F' q=>Y5.calm c (wpAny_bind (wpAny_standAt ?_)))
 obtain⟨C,f,rfl,hm,q⟩:=q
 cases r
 obtain⟨mc,f1,f2,f3,f4⟩:=hg.qK C x f hm
 have X:=hg.X.keeps S'.keep
 have few:methodCallForm (es.length+([]:List Keyword).length) (backTo pos (starEach es env)) (backToKw pos (keywordEach [] env))=true:=by
  have:(backTo pos (starEach es env)).all (fun y => !y.1)=true:=by
   have:=noStar (pos:=pos) (env:=env) hs
   rw [List.any_eq_false] at this
   rw [List.all_eq_true]
   intro y hy
   have:=this y hy
   simpa using this
  unfold methodCallForm
  rw [this]
  show(true&&true&&decide (es.length+0+0<30))=true
  simp [hlen]
 unfold methodCall
 rw [few]
 refine wpAny_bind (wpAny_holding ?_)
 show wpAny _ _ (getMethod (.ref C) (g.tab x) _) _ _ _
 refine method_cls X f1 (cls_value X f2 f3 rfl ?_)
 refine wpAny_bind ?_
 unfold methodCallPos
 rw [hline]
 refine wpAny_pure ?_
 have S₂:=S'.tok (s'.toks+1)
 exact Y5.calm (s:=s') (s₁:={s' with toks:=s'.toks+1}) (.refl ..) (bA (s:={s' with toks:=s'.toks+1}) hg R S₂ F' hs (qe hg f4) (rfl:Rep g.tab s'.heap H' (.obj f) (.ref f)) (fl:=[]) rfl q)
end
section
variable{τ:T}{g:G τ}{n:Nat}{env:Env}{m:Loc}{H:AH}{A:Around}{s:Shared}{Q:PV→AH→Prop}
theorem Ev.cF{pos:Pos}(k:q7)(hk:k = .m6 []∨k = .w5 []∨k = .w7 [])(h:∀a,H a=none→Q (.obj a) (upd H a k)):Ev g n env m H (.Dict [] [] pos) Q:=fun A s R S F=>by
 refine wpAny_Dict_empty ?_
 obtain⟨f1,f2,f3⟩:=bB S
 have r:iC g (s.heap.push {cls:=.type "dict",data:=.dict #[]}) (upd H s.heap.objs.size k) s.heap.objs.size k:=by
  rcases hk with rfl|rfl|rfl
  ·exact⟨[],Heap.DictOf.new ..,.nil⟩
  ·exact⟨[],Heap.DictOf.new ..,.nil⟩
  ·exact⟨[],Heap.DictOfH.new ..,.nil⟩
 obtain⟨S',c⟩:=S.track (x:={cls:=.type "dict",data:=.dict #[]}) rfl r
 exact⟨.obj _,_,rfl,S',c,h _ f2⟩
theorem Lf{s₁:Shared}{H₁:AH}{h':Heap}{d:Addr}{o:Obj}{k:q7}(S₁:m9 g s₁ H₁)(c:Calm s.heap H s₁.heap H₁)(f1:s.heap.get? d=none)(f2:H₁ d=none)(f3:g.h₀.get? d=none)(eo:s₁.heap.get? d=some o)(nd:(∀xs k,o.data≠.seq xs k)∧∀xs,o.data≠.fields xs)
  (B:Heap.SameBut d s₁.heap h') (ex:∃y,h'.get? d=some y) (r:N7 s₁.heap H₁ h' (upd H₁ d k)→iC g h' (upd H₁ d k) d k) (t:Nat):m9 g {s₁ with heap:=h',toks:=t} (upd H₁ d k)∧Calm s.heap H h' (upd H₁ d k):=by
 have ne:∀b x,s₁.heap.get? b=some x→(∃xs k,x.data = .seq xs k)∨(∃xs,x.data = .fields xs)→b≠d:=fun b x e q z=>by
  subst z;rw [eo] at e;cases e
  rcases q with⟨_,_,q⟩|⟨_,q⟩
  ·exact nd.1 _ _ q
  ·exact nd.2 _ q
 have P:N7 s₁.heap H₁ h' (upd H₁ d k):=⟨fun b x xs j e q O=>(B.2 b (ne b x e (.inl ⟨_,_,q⟩))).trans e,fun b x xs j e q O z=>⟨(B.2 b (ne b x e (.inl ⟨_,_,q⟩))).trans e,by rw [d9 (ne b x e (.inl ⟨_,_,q⟩))];exact z⟩,fun b x xs e q O=>(B.2 b (ne b x e (.inr ⟨_,q⟩))).trans e⟩
 refine⟨⟨fun b x e=>(B.2 b fun z=>?_).trans (S₁.keep b x e),fun a z=>?_,fun a x e=>?_,S₁.gens,S₁.os⟩,fun b x e q z=>?_,fun b q z=>?_,fun b x e=>?_,c.q8.trans P⟩
 ·subst z;rw [f3] at e;cases e
 ·by_cases w:a=d
  ·rw [w];exact f3
  ·rw [d9 w] at z;exact S₁.fresh a z
 ·by_cases w:a=d
  ·subst w;rw [c7] at e;cases e;exact r P
  ·rw [d9 w] at e;exact(S₁.obj a x e).keeps P fun O y=>(B.2 a w).trans y
 ·exact(B.2 b fun w=>by subst w;rw [f1] at e;cases e).trans (c.keep b x e q z)
 ·by_cases w:b=d
  ·rw [w];exact f1
  ·rw [d9 w] at z;exact c.new b q z
 ·have w:b≠d:=fun w=>by subst w;rw [f1] at e;cases e
  obtain⟨x',e'⟩:=c.ex b x e
  exact⟨x',(B.2 b w).trans e'⟩
section
variable{K J:Type} [DecidableEq K] [DecidableEq J](D:KD g K J)
noncomputable def EvD(g:G τ)(n:Nat)(env:Env)(m:Loc)(key:K→PV):AH→List (PySem.Expr×K×PySem.Expr)→(List (K×PV)→AH→Prop)→Prop
 |H,[],fin=>fin [] H
 |H,(ke,k,ve)::r,fin=>Ev g n env m H ke fun p H₁=>p=key k∧Ev g n env m H₁ ve fun q H₂=>EvD g n env m key H₂ r fun l H₃=>fin ((k,q)::l) H₃
inductive Ea(D:KD g K J)(h:Heap)(H:AH):List (K×PV)→List (Value×Value)→Prop
 |nil:Ea D h H [] []
 |cons {k:K} {p:PV} {kv v:Value} {l:List (K×PV)} {r:List (Value×Value)} (a:Rep g.tab h H (D.key k) kv) (b:Rep g.tab h H p v) (z:Ea D h H l r):Ea D h H ((k,p)::l) ((kv,v)::r)
inductive ak1(D:KD g K J)(h:Heap)(H:AH)(l:List (K×PV))(vs:List (Value×Value)):Prop
 |mk (kvs:List (J×Value)) (c:Carries D.knd vs kvs) (r:bO D.f g.tab h H l kvs) (e:kvs.map (·.1)=(l.map (·.1)).map D.f)
theorem Ea.kvs{h:Heap}{l:List (K×PV)}{vs:List (Value×Value)}(r:Ea D h H l vs):ak1 D h H l vs:=by
 induction r with
 |nil=>exact⟨[],trivial,.nil,rfl⟩
 |@cons k _ _ v _ _ a b _ ih=>
  cases ih with
  |mk kvs c r e=>exact⟨(D.f k,v)::kvs,⟨D.is _ _ _ _ a,rfl,c⟩,.cons b r,congrArg (_ :: ·) e⟩
theorem Ab{pos:Pos}:∀{ps:List (PySem.Expr×K×PySem.Expr)} {fin:List (K×PV)→AH→Prop} {H:AH} {s:Shared},K1 n A→m9 g s H→z9 g env m s.heap H→EvD g n env m D.key H ps fin→
  wpAny (model g.prog g.w) A (evalPairs (pairTrees (ps.map fun x=>some x.1) (ps.map fun x=>x.2.2) env pos)) (fun vs s' => ∃l H',l.map (·.1)=ps.map (fun x=>x.2.1)∧Ea D s'.heap H' l vs∧m9 g s' H'∧Calm s.heap H s'.heap H'∧fin l H') (fun O O=>False) s
 | [],fin,H,s,R,S,F,h=>pairTrees_nil_walk ⟨[],H,rfl,.nil,S,.refl ..,h⟩
 | (ke,k,ve)::ps,fin,H,s,R,S,F,h=>by
  refine pairTrees_cons_walk (h.then R S F fun kv s₁ p H₁ rk S₁ c₁ F₁ q=>?_)
  obtain⟨rfl,q⟩:=q
  refine q.then R S₁ F₁ fun v s₂ p H₂ rv S₂ c₂ F₂ q=>?_
  refine wpAny_mono (Ab (pos:=pos) R S₂ F₂ q) (fun vs s₃ y=>?_) fun O O x=>x
  obtain⟨l,H₃,el,cl,S₃,c₃,z⟩:=y
  exact⟨(k,p)::l,H₃,by rw [List.map_cons,el];rfl,.cons ((rk.keeps c₂.q8).keeps c₃.q8) (rv.keeps c₃.q8) cl,S₃,(c₁.trans c₂).trans c₃,z⟩
theorem Ev.dic{ps:List (PySem.Expr×K×PySem.Expr)}{pos:Pos}(hg:v8 g)(h0:ps≠[])(hl:ps.length≤15)(nd:(ps.map fun x=>x.2.1).Nodup)(h:EvD g n env m D.key H ps fun l H' => ∀a,H' a=none→Q (.obj a) (upd H' a (D.ob l))):
  Ev g n env m H (.Dict (ps.map fun x=>some x.1) (ps.map fun x=>x.2.2) pos) Q:=fun A s R S F=>by
 obtain⟨f1,f2,f3⟩:=bB S
 have S₀:=S.push {cls:=.type "dict",data:=.dict #[]} s.toks
 have c₀:Calm s.heap H (s.heap.push {cls:=.type "dict",data:=.dict #[]}) H:=Calm.push _ _ _
 refine wpAny_Dict_walk (knd:=D.knd) (by simp) (by simp) (by simpa using h0) (by simpa using hl) (wpAny_mono (Ab D R S₀ (F.goes c₀) h) (fun vs s₁ y=>?_) fun O O x=>x)
 obtain⟨l,H₁,el,cl,S₁,c₁,q⟩:=y
 have ed:(s.heap.push {cls:=.type "dict",data:=.dict #[]}).get? s.heap.objs.size=some {cls:=.type "dict",data:=.dict #[]}:=Heap.get?_push_size _ rfl
 have ed1:=c₁.keep _ _ ed f2 id
 have hd1:H₁ s.heap.objs.size=none:=Classical.byContradiction fun z=>by have:=c₁.new _ f2 z;rw [ed] at this;cases this
 obtain⟨kvs,k1,k2,k3⟩:=Ea.kvs D cl
 have nd':(kvs.map (·.1)).Nodup:=by
  rw [k3]
  rw [el]
  exact List.Pairwise.map D.f (fun a b ne e=>ne (D.inj hg _ _ e)) nd
 refine⟨kvs,k1,⟨_,#[],0,ed1,⟨rfl,rfl,rfl⟩,rfl,fun O he=>by simp at he,.nil,List.nodup_nil⟩,fun h' hm B=>?_⟩
 rw [merged_nil_of_nodup _ nd'] at hm
 obtain⟨o,es,ep,e1,e2⟩:=id hm
 obtain⟨S',c'⟩:=Lf (s:=s) (H:=H) (k:=D.ob l) S₁ (c₀.trans c₁) f1 hd1 f3 ed1 ⟨fun xs k e=>(by cases e),fun xs e=>(by cases e)⟩ B ⟨o,e1⟩ (fun P=>(D.Wo _ _ _ _).mpr ⟨kvs,hm,k2.keeps P⟩) (s₁.toks+vs.length)
 exact⟨.obj _,_,rfl,S',c',q _ hd1⟩
end
end
theorem rA{α:Type}:∀{ks:List Str} {vs:List α},ks.length=vs.length→ks.Nodup→ks.filterMap (fun n=>((ks.zip vs).lookup n).map fun v=>(n,v))=ks.zip vs
 | [],[],_,_=>rfl
 |k::ks,v::vs,e,nd=>by
  obtain⟨n1,n2⟩:=List.nodup_cons.mp nd
  rw [List.zip_cons_cons,List.filterMap_cons,List.lookup_cons,beq_self_eq_true]
  simp only [Option.map_some]
  have ih:=rA (ks:=ks) (vs:=vs) (by simpa using e) n2
  refine congrArg _ (Eq.trans (V4 fun x hx=>?_) ih)
  have:(x==k)=false:=beq_eq_false_iff_ne.mpr fun z=>n1 (z▸hx)
  rw [List.lookup_cons,this]
 | [],_::_,e,_=>by simp at e
 |_::_,[],e,_=>by simp at e
theorem eE{α:Type}{x:Str}:∀{ks:List Str} {vs:List α},ks.length=vs.length→x∈ks→((ks.zip vs).lookup x).isNone=false
 |k::ks,v::vs,e,h=>by
  rw [List.zip_cons_cons,List.lookup_cons]
  by_cases z:x=k
  ·rw [z,beq_self_eq_true];rfl
  ·rw [beq_eq_false_iff_ne.mpr z]
   exact eE (by simpa using e) ((List.mem_cons.mp h).resolve_left z)
 | [],_,_,h=>by cases h
 |_::_,[],e,_=>by simp at e
theorem QX{α:Type}{ks:List Str}{vs:List α}(e:ks.length=vs.length)(nd:ks.Nodup):(ks++[]).filterMap (fun n=>((ks.zip vs).lookup n).map fun v=>(n,v))=ks.zip vs:=by rw [List.append_nil];exact rA e nd
theorem rB{fd:FuncData}{args:List Arg}{kd:List (Option PySem.Expr)}{df:List PySem.Expr}{vs:List Value}(hp:fd.params=⟨[],args,none,[],kd,none,df⟩)(hd:fd.defaults = .none)(nd:(args.map (·.arg)).Nodup) (hl:vs.length=args.length):
  bindArgs fd ⟨vs,[]⟩=pure ((args.map (·.arg)).zip vs):=by
 have el:(args.map (·.arg)).length=vs.length:=by rw [List.length_map,hl]
 have hz:¬(decide (vs.length > (args.map (·.arg)).length)&&true)=true:=fun z=>absurd (of_decide_eq_true (Bool.and_eq_true_iff.mp z).1) (el▸Nat.lt_irrefl _)
 have hm:¬(!(((args.map (·.arg)).take ((args.map (·.arg)).length-0)).filter fun n=>(((args.map (·.arg)).zip vs).lookup n).isNone).isEmpty)=true:=by
  rw [Nat.sub_zero,List.take_length,List.filter_eq_nil_iff.mpr fun x hx=>Bool.eq_false_iff.mp (eE el hx)]
  exact nofun
 obtain⟨_,_,_,_,_,_,_,_,_,_,_,_,_,_,_⟩:=fd
 cases hp
 cases hd
 refine(if_neg hz).trans ?_
 rw [show(Option.getD none #[]:Array Value).toList=[] from rfl,List.drop_nil,List.zip_nil_right]
 have fin:=congrArg (pure:List (Str×Value)→Sem (List (Str×Value))) (QX el nd)
 exact(if_neg hm).trans fin
end Mine.Internal
namespace Mine.Internal
open PySem PySem.W PySem.Calls PyProof.Rows
noncomputable abbrev PE:=PySem.Expr
theorem d7{a b:Bool}(h:(a&&b)=true):a=true∧b=true:=Bool.and_eq_true_iff.mp h
noncomputable def PV.int? : PV→Option Int
 |.int i=>some i
 |_=>.none
noncomputable def PV.Ac : PV→Option (List PV)
 |.tup l=>some l
 |.lst l=>some l
 |_=>.none
noncomputable def PV.Lg : PV→Option (List PV)
 |.tup l=>some l
 |_=>.none
noncomputable def PV.truth? : PV→Option Bool
 |.none=>some false
 |.bool b=>some b
 |.int i=>some (i != 0)
 |_=>.none
noncomputable def PV.isO:PV→Bool
 |.obj _=>true
 |_=>false
theorem aB.of{p:PV}{B:Bool→Prop}(h:lk p.truth? B):aB p B:=by cases p<;>exact h
noncomputable abbrev Ns:=List (Str×NameKind)
noncomputable def Dm(k:NameKind)(ns:Ns)(s:Str):Bool:=(ns.lookup s==some k)
noncomputable def Jg(ns:Ns)(s:Str):Bool:=Dm .local ns s||Dm .cell ns s
theorem T5{k:NameKind}{ns:Ns}{s:Str}(h:Dm k ns s=true):ns.lookup s=some k:=eq_of_beq h
theorem Gz{ns:Ns}{s:Str}(h:Jg ns s=true):ns.lookup s=some .local∨ns.lookup s=some .cell:=(Bool.or_eq_true_iff.mp h).imp T5 T5
structure Q8(ns:Ns)(env:Env):Prop where
 kind:env.scope.kind = .function
 look:∀s k,ns.lookup s=some k→k≠.free→env.kindOf s=some k
 free:∀s,ns.lookup s=some .free→env.kindOf s=some .cell∨env.kindOf s=some .free
theorem Q8.comp{env env':Env}{sc:Scope}(he:env'.scope=relabel sc env)(hk:sc.kind = .function):Q8 sc.names env':=by
 have k:∀s,env'.kindOf s=(relabel sc env).names.lookup s:=fun s=>by unfold Env.kindOf;rw [he]
 refine⟨by rw [he];exact hk,fun s k' e ne=>?_,fun s e=>?_⟩
 ·rw [k,T4 e,show(k'==NameKind.free)=false from beq_eq_false_iff_ne.mpr ne]
  rfl
 ·rw [k,T4 e]
  cases(NameKind.free==NameKind.free&&env.scope.kind == .function&&env.kindOf s==some .cell) with
  |true=>exact .inl rfl
  |false=>exact .inr rfl
theorem Ts.mono{τ:T}{g:G τ}{n:Nat}{env:Env}{m:Loc}{H:AH}{e:PySem.Expr}{Q Q':Bool→AH→Prop}(h:Ts g n env m H e Q)(k:∀p H',Q p H'→Q' p H'):Ts g n env m H e Q':=
 fun A s R S F=>h.then R S F fun b s' H' S' c F' q=>⟨H',S',c,k b H' q⟩
theorem Q8.lc{ns:Ns}{env:Env}{s:Str}(he:Q8 ns env)(h:Jg ns s=true):env.kindOf s=some .local∨env.kindOf s=some .cell:=(Gz h).imp (fun k=>he.look _ _ k nofun) fun k=>he.look _ _ k nofun
noncomputable def kids:PE→List PE
 |.BoolOp _ es _=>es
 |.BinOp a _ b _=>[a,b]
 |.UnaryOp _ a _=>[a]
 |.IfExp t a b _=>[t,a,b]
 |.Dict ks vs _=>ks.map (·.getD default)++vs
 |.ListComp e gs _ _=>match gs with
  | ⟨t,i,ifs,_⟩::_=>e::t::i::ifs
  | []=>[e]
 |.Compare a _ bs _=>a::bs
 |.Call f es _ _=>f::es
 |.Attribute e _ _=>[e]
 |.Subscript a i _=>[a,i]
 |.List es _=>es
 |.Tuple es _ _=>es
 |.Slice lo hi st _=>[lo.getD default,hi.getD default,st.getD default]
 |_=>[]
noncomputable def kid(e:PE)(i:Nat):PE:=(kids e).getD i default
noncomputable def kc:PE→Nat
 |.Constant _ k _=>k
 |.Tuple _ k _=>k
 |_=>0
structure Sh(e:PE):Prop where
 plain:bQ e
 fold:∀env v,foldedSetIterable e env v=pure v
 marks:∀op,behindInMarks op e=false
noncomputable abbrev WE := ∀{τ:T},G τ→Nat→Loc→AH→(PV→AH→Prop)→Prop
noncomputable abbrev WT := ∀{τ:T},G τ→Nat→Loc→AH→(Bool→AH→Prop)→Prop
noncomputable abbrev WK(to:(Nat→Str)→PE→PE)(ok:T→Ns→PE→Bool)(w:WE):Prop := ∀{τ:T} {g:G τ},v8 g→∀{ns:Ns} {env:Env} {n:Nat} {m:Loc} {H:AH} {Q:PV→AH→Prop} (x:PE),ok τ ns x=true→Q8 ns env→w g n m H Q→Ev g n env m H (to τ.tab x) Q
noncomputable abbrev Zt(to:(Nat→Str)→PE→PE)(ok:T→Ns→PE→Bool)(w:WT):Prop := ∀{τ:T} {g:G τ},v8 g→∀{ns:Ns} {env:Env} {n:Nat} {m:Loc} {H:AH} {Q:Bool→AH→Prop} (x:PE),ok τ ns x=true→Q8 ns env→w g n m H Q→Ts g n env m H (to τ.tab x) Q
structure X where
 to:(Nat→Str)→PE→PE
 ok:T→Ns→PE→Bool
 wE:WE
 wT:WT
 sE:WK to ok wE
 sT:Zt to ok wT
 sh:∀tab x,Sh (to tab x)
 bs:Bool
 sb:bs=true→∀tab x,vR (to tab x)
 nc:Bool
 sn:nc=true→∀tab x t line env,swapsWith (to tab x) t line env=pure false
 nt:Bool
 st:nt=true→∀tab x ts j p env,swappedStores [.Tuple ts j p] (to tab x) env=pure none
noncomputable def rv{α:Type}(Q:α→AH→Prop)(H:AH)(b:α):Prop:=Q b H
noncomputable def kT(Q:Bool→AH→Prop)(p:PV)(H:AH):Prop:=lk p.truth? (rv Q H)
noncomputable abbrev asT(w:WE):WT:=fun g n m H Q=>w g n m H (kT Q)
structure Sf(b:Bool)(e:PE):Prop where
 sh:Sh e
 pt:plainT e
 sb:b=true→vR e
 sn:∀t line env,swapsWith e t line env=pure false
 st:∀ts j p env,swappedStores [.Tuple ts j p] e env=pure none
theorem Zu{to:(Nat→Str)→PE→PE}{ok:T→Ns→PE→Bool}{w:WE}(s:WK to ok w)(pt:∀tab x,plainT (to tab x)):Zt to ok (asT w):=
 fun hg O O O O O O x h he w=>Ts.plain (pt _ x) ((s hg x h he w).mono fun O O z=>aB.of z)
noncomputable def X.of(b:Bool)(to:(Nat→Str)→PE→PE)(ok:T→Ns→PE→Bool)(w:WE)(s:WK to ok w)(f:∀tab x,Sf b (to tab x)):X:=
 ⟨to,ok,w,asT w,s,Zu s fun tab x=>(f tab x).pt,fun tab x=>(f tab x).sh,b,fun h tab x=>(f tab x).sb h,true,fun O tab x=>(f tab x).sn,true,fun O tab x=>(f tab x).st⟩
section
variable{α:Type}(w:AH→(PV→AH→Prop)→Prop)(v:AH→(Bool→AH→Prop)→Prop)(Q:PV→AH→Prop)(B:Bool→AH→Prop)(L:List PV→AH→Prop)(p:PV)(H:AH)(b:Bool)
noncomputable def kC(l:List PV)(H:AH):Prop:=L (p::l) H
noncomputable def kL(w:AH→(List PV→AH→Prop)→Prop)(p:PV)(H:AH):Prop:=w H (kC L p)
noncomputable def kV:Prop:=sel b (w H Q) (Q p H)
noncomputable def kAV:Prop:=lk p.truth? (kV w Q p H)
noncomputable def kU:Prop:=sel b (Q p H) (w H Q)
noncomputable def kOV:Prop:=lk p.truth? (kU w Q p H)
noncomputable def kAT(b:Bool)(H:AH):Prop:=sel b (v H B) (B false H)
noncomputable def kOT(b:Bool)(H:AH):Prop:=sel b (B true H) (v H B)
end
section
variable{τ:T}(g:G τ)(n:Nat)
noncomputable def zB:List X→Loc→AH→(List PV→AH→Prop)→Prop
 | [],_,H,Q=>Q [] H
 |e::es,m,H,Q=>e.wE g n m H (kL Q (zB es m))
noncomputable def WL:List X→Loc→AH→(PV→AH→Prop)→Prop
 | [],_,_,_=>False
 | [e],m,H,Q=>e.wE g n m H Q
 |e::es,m,H,Q=>e.wE g n m H (kAV (WL es m) Q)
noncomputable def WQ:List X→Loc→AH→(PV→AH→Prop)→Prop
 | [],_,_,_=>False
 | [e],m,H,Q=>e.wE g n m H Q
 |e::es,m,H,Q=>e.wE g n m H (kOV (WQ es m) Q)
noncomputable def WR:List X→Loc→AH→(Bool→AH→Prop)→Prop
 | [],_,H,Q=>Q true H
 |e::es,m,H,Q=>e.wT g n m H (kAT (WR es m) Q)
noncomputable def WW:List X→Loc→AH→(Bool→AH→Prop)→Prop
 | [],_,H,Q=>Q false H
 |e::es,m,H,Q=>e.wT g n m H (kOT (WW es m) Q)
end
noncomputable abbrev hd(es:List PE):PE:=es.headD default
noncomputable def toL(tab:Nat→Str):List X→List PE→List PE
 | [],_=>[]
 |x::xs,es=>x.to tab (hd es)::toL tab xs es.tail
noncomputable def zE(τ:T)(ns:Ns):List X→List PE→Bool
 | [],_=>true
 |x::xs,es=>x.ok τ ns (hd es)&&zE τ ns xs es.tail
theorem xU(tab:Nat→Str)(xs:List X):∀es,(toL tab xs es).length=xs.length:=by
 induction xs with
 |nil=>exact fun O=>rfl
 |cons x xs ih=>exact fun es=>congrArg (·+ 1) (ih _)
theorem cG(tab:Nat→Str)(xs:List X):∀es,∀e∈toL tab xs es,bQ e:=by
 induction xs with
 |nil=>exact fun O O h=>nomatch h
 |cons x xs ih=>exact fun es e h=>(List.mem_cons.mp h).elim (fun z=>z▸(x.sh _ _).plain) (ih _ e)
section
variable{τ:T}{g:G τ}(hg:v8 g){ns:Ns}{env:Env}{n:Nat}{pos:Pos}
include hg
theorem Ad(xs:List X):∀(es:List PE) {m:Loc} {H:AH} {Q:List PV→AH→Prop},zE τ ns xs es=true→Q8 ns env→zB g n xs m H Q→oJ g n env m H pos (toL τ.tab xs es) Q:=by
 induction xs with
 |nil=>exact fun O O O O O O w=>oJ.nil w
 |cons x xs ih=>exact fun es m H Q h he w=>oJ.cons (x.sh _ _).plain ((x.sE hg _ (d7 h).1 he w).mono fun p H₁ w=>ih _ (d7 h).2 he w)
theorem Zv(xs:List X):∀(es:List PE) {m:Loc} {H:AH} {Q:PV→AH→Prop},zE τ ns xs es=true→Q8 ns env→WL g n xs m H Q→Ev g n env m H (.BoolOp .And (toL τ.tab xs es) pos) Q:=by
 induction xs with
 |nil=>exact fun O O O O O O w=>w.elim
 |cons x xs ih=>cases xs with
  |nil=>exact fun es m H Q h he w=>Ev.aj2 (x.sE hg _ (d7 h).1 he w)
  |cons y ys=>exact fun es m H Q h he w=>Ev.aj3 ((x.sE hg _ (d7 h).1 he w).mono fun p H₁ w=>aB.of (by
    obtain⟨b,e,w⟩:=K8 w
    refine d8 e ?_
    cases b with
    |true=>exact ih _ (d7 h).2 he w
    |false=>exact w))
theorem Zw(xs:List X):∀(es:List PE) {m:Loc} {H:AH} {Q:PV→AH→Prop},zE τ ns xs es=true→Q8 ns env→WQ g n xs m H Q→Ev g n env m H (.BoolOp .Or (toL τ.tab xs es) pos) Q:=by
 induction xs with
 |nil=>exact fun O O O O O O w=>w.elim
 |cons x xs ih=>cases xs with
  |nil=>exact fun es m H Q h he w=>Ev.or1 (x.sE hg _ (d7 h).1 he w)
  |cons y ys=>exact fun es m H Q h he w=>Ev.orS ((x.sE hg _ (d7 h).1 he w).mono fun p H₁ w=>aB.of (by
    obtain⟨b,e,w⟩:=K8 w
    refine d8 e ?_
    cases b with
    |true=>exact w
    |false=>exact ih _ (d7 h).2 he w))
theorem Zx(xs:List X):∀(es:List PE) {m:Loc} {H:AH} {Q:Bool→AH→Prop},zE τ ns xs es=true→Q8 ns env→WR g n xs m H Q→Ts g n env m H (.BoolOp .And (toL τ.tab xs es) pos) Q:=by
 induction xs with
 |nil=>exact fun O O O O O O w=>Ts.Wb w
 |cons x xs ih=>exact fun es m H Q h he w=>Ts.and ((x.sT hg _ (d7 h).1 he w).mono fun b H₁ w=>by
   cases b with
   |true=>exact ih _ (d7 h).2 he w
   |false=>exact w)
theorem Zy(xs:List X):∀(es:List PE) {m:Loc} {H:AH} {Q:Bool→AH→Prop},zE τ ns xs es=true→Q8 ns env→WW g n xs m H Q→Ts g n env m H (.BoolOp .Or (toL τ.tab xs es) pos) Q:=by
 induction xs with
 |nil=>exact fun O O O O O O w=>Ts.Zd w
 |cons x xs ih=>exact fun es m H Q h he w=>Ts.or ((x.sT hg _ (d7 h).1 he w).mono fun b H₁ w=>by
   cases b with
   |true=>exact w
   |false=>exact ih _ (d7 h).2 he w)
end
end Mine.Internal
namespace Mine.Internal
open PySem PySem.W PySem.Calls PyProof.Rows
theorem ql(H:AH)(p:PV):p.isD=true→res H p=p:=
 PV.rec (motive_1:=fun p=>p.isD=true→res H p=p) (motive_2:=fun l=>PV.eV l=true→uV H l=l) (fun O=>rfl) (fun O O=>rfl) (fun O O=>rfl) (fun O O=>rfl)
  (fun O ih h=>congrArg PV.tup (ih h)) (fun O O O=>rfl) (fun O h=>nomatch (show false=true from h)) (fun O O=>rfl) (fun O O=>rfl) (fun O O O=>rfl)
  (fun O=>rfl) (fun x l ih il h=>(congr (congrArg List.cons (ih (d7 h).1)) (il (d7 h).2):res H x::uV H l=x::l)) p
set_option tactic.hygienic true in
theorem Lh(H:AH)(l:List PV)(h:PV.eV l=true):uV H l=l:=PV.tup.inj (ql H (.tup l) h)
noncomputable def okIn(p:PV)(l:List PV):Bool:=p.isD&&(PV.eV l&&Nat.ble (PV.depths l) 60)
noncomputable def Ae(p q:PV):Bool:=p.isD&&(q.isD&&Nat.ble q.depth 60)
noncomputable abbrev rC(op:PySem.CmpOp)(p q:PV)(H:AH)(Q:Bool→Prop):Prop:=xM H Q op p q
noncomputable def Zz(p:PV)(l:List PV):Bool:=l.any fun y=>y.eqv p
noncomputable def InK(p:PV)(Q:Bool→Prop)(R:Prop)(l:List PV):Prop:=sel (okIn p l) (Q (Zz p l)) R
noncomputable def UG(p q:PV)(Q:Bool→Prop)(R:Prop):Prop:=@Option.rec (List PV) (fun O=>Prop) R (InK p Q R) q.Ac
noncomputable def kNb(Q:Bool→Prop)(b:Bool):Prop:=Q (!b)
noncomputable def kOb(op:PySem.CmpOp)(Q:Bool→Prop)(a b:Int):Prop:=lk (Wr op a b) Q
noncomputable def kOa(op:PySem.CmpOp)(q:PV)(Q:Bool→Prop)(a:Int):Prop:=lk q.int? (kOb op Q a)
noncomputable def rE(op:PySem.CmpOp)(p q:PV)(H:AH)(Q:Bool→Prop):Prop:=match op with
 |.Eq=>sel (Ae p q) (Q (p.eqv q)) (rC .Eq p q H Q)
 |.NotEq=>sel (Ae p q) (Q (!p.eqv q)) (rC .NotEq p q H Q)
 |.Is=>sel (isNone q) (Q (isNone p)) False
 |.IsNot=>sel (isNone q) (Q (!isNone p)) False
 |.In=>UG p q Q (rC .In p q H Q)
 |.NotIn=>UG p q (kNb Q) (rC .NotIn p q H Q)
 |op=>lk p.int? (kOa op q Q)
theorem ZC{p q:PV}{H:AH}(e:Ae p q=true):zO H p q∧(res H p).eqv (res H q)=p.eqv q:=by
 obtain⟨a,b⟩:=d7 e
 obtain⟨b,c⟩:=d7 b
 rw [zO,ql H p a,ql H q b]
 exact⟨⟨a,b,.inl (Nat.le_of_ble_eq_true c)⟩,rfl⟩
theorem UJ{p:PV}{l:List PV}(e:okIn p l=true):Kw p l:=⟨(d7 e).1,(d7 (d7 e).2).1,.inl (Nat.le_of_ble_eq_true (d7 (d7 e).2).2)⟩
theorem Jh{q:PV}(h:isNone q=true):q = .none:=by cases q<;>first|rfl|exact nomatch (show false=true from h)
theorem Li{q:PV}{l:List PV}(h:q.Ac = some l):q = .tup l∨q = .lst l:=by cases q<;>first|exact nomatch (show none=some l from h)|(cases(show some _=some l from h);first|exact .inl rfl|exact .inr rfl)
theorem nG{p:PV}{a:Int}(h:p.int? = some a):p = .int a:=by cases p<;>first|exact nomatch (show none=some a from h)|(cases(show some _=some a from h);rfl)
theorem Eb{q:PV}{l:List PV}(h:q.Lg = some l):q = .tup l:=by cases q<;>first|exact nomatch (show none=some l from h)|(cases(show some _=some l from h);rfl)
theorem UG.of{p q:PV}{H:AH}{Q:Bool→Prop}{R:Prop}(h:UG p q Q R):InP p q H Q∧NoT q H∨R:=by
 unfold UG at h
 cases e:q.Ac with
 |none=>rw [e] at h;exact .inr h
 |some l=>
  rw [e] at h
  have h:sel (okIn p l) (Q (Zz p l)) R:=h
  cases e2:okIn p l with
  |false=>rw [e2] at h;exact .inr h
  |true=>
   rw [e2] at h
   rcases Li e with rfl|rfl
   ·have z:=Lh H l (d7 (d7 e2).2).1
    exact .inl ⟨.tup (z.symm▸UJ e2) (z.symm▸h),fun O O z O=>(nomatch z)⟩
   ·exact .inl ⟨.lst (UJ e2) h,fun O O z O=>(nomatch z)⟩
theorem Lj{p q:PV}{H:AH}{Q:Bool→Prop}{f:Bool→Bool}{R:Prop}(k:zO H p q→Q (f ((res H p).eqv (res H q)))→R) (h:sel (Ae p q) (Q (f (p.eqv q))) R):R:=by
 cases e:Ae p q with
 |true=>rw [e] at h;obtain⟨a,b⟩:=ZC (H:=H) e;exact k a (b.symm▸h)
 |false=>rw [e] at h;exact h
theorem Lk{q:PV}{P R:Prop}(k:q = .none→P→R)(h:sel (isNone q) P False):R:=(mV h).elim fun e h=>k (Jh e) h
theorem QZ{op:PySem.CmpOp}{p q:PV}{H:AH}{Q:Bool→Prop}(h:lk p.int? fun a=>lk q.int? fun b=>lk (Wr op a b) Q):zV op p q H Q:=by
 obtain⟨a,e1,h⟩:=K8 h
 obtain⟨b,e2,h⟩:=K8 h
 obtain⟨c,e3,h⟩:=K8 h
 rw [nG e1,nG e2]
 exact .ord e3 h
theorem rE.of{op:PySem.CmpOp}{p q:PV}{H:AH}{Q:Bool→Prop}(h:rE op p q H Q):zV op p q H Q:=by
 cases op
 case Eq=>exact Lj (f:=id) .eq h
 case NotEq=>exact Lj (f:=not) .ne h
 case Is=>exact Lk (fun e h=>by subst e;exact .is h) h
 case IsNot=>exact Lk (fun e h=>by subst e;exact .isn h) h
 case In=>exact(UG.of h).elim (fun z=>.mem z.1) id
 case NotIn=>exact(UG.of (show UG p q (fun b=>Q (!b)) (rC .NotIn p q H Q) from h)).elim (fun z=>.nmem z.2 z.1) id
 all_goals exact QZ h
section
variable{τ:T}{g:G τ}{n:Nat}{m:Loc}{H:AH}
noncomputable abbrev Ec(g:G τ)(op:PySem.Operator)(p q:PV)(H:AH)(Q:PV→AH→Prop):Prop:=Dv g H Q op p q
noncomputable def kIn(Q:PV→AH→Prop)(H:AH)(c:Int):Prop:=Q (.int c) H
noncomputable def ZD(op:PySem.Operator)(Q:PV→AH→Prop)(H:AH)(a b:Int):Prop:=lk (mY op a b) (kIn Q H)
noncomputable def ak2(g:G τ)(op:PySem.Operator)(p q:PV)(H:AH)(Q:PV→AH→Prop)(a:Int):Prop:=@Option.rec Int (fun O=>Prop) (Ec g op p q H Q) (ZD op Q H a) q.int?
noncomputable def Ln(g:G τ)(op:PySem.Operator)(p q:PV)(H:AH)(Q:PV→AH→Prop):Prop:=
 @Option.rec Int (fun O=>Prop) (Ec g op p q H Q) (ak2 g op p q H Q) p.int?
theorem Ln.of{op:PySem.Operator}{p q:PV}{Q:PV→AH→Prop}(h:Ln g op p q H Q):Wi g op p q H Q:=by
 unfold Ln at h
 cases e1:p.int? with
 |none=>rw [e1] at h;exact h
 |some a=>
  rw [e1] at h
  have h:@Option.rec Int (fun O=>Prop) (Ec g op p q H Q) (ZD op Q H a) q.int? := h
  cases e2:q.int? with
  |none=>rw [e2] at h;exact h
  |some b=>
   rw [e2] at h
   obtain⟨c,e3,h⟩:=K8 h
   rw [nG e1,nG e2]
   exact .int e3 h
noncomputable abbrev SubL(g:G τ)(p q:PV)(H:AH)(Q:PV→AH→Prop):Prop:=xK g H Q p q
theorem GC{p:PV}{l:List PV}{i:Int}{r:PV}{Q:PV→AH→Prop}(e1:p.Ac = some l)(e:DK l i=some r)(h:Q r H):QJ g p (.int i) H Q:=by
 rcases Li e1 with rfl|rfl
 ·exact .tup e h
 ·exact .lst e h
noncomputable def nth:List PV→Nat→Option PV
 | [],_=>none
 |x::l,k=>match k with
  |0=>some x
  |k+1=>nth l k
theorem Lp:∀(l:List PV) (k:Nat),nth l k=l[k]?
 | [],_=>rfl
 |_::_,0=>rfl
 |_::l,k+1=>(Lp l k).trans (List.getElem?_cons_succ).symm
theorem gG{l:List PV}{i:Nat}(h:i<2 ^ 62):DK l (i:Int)=l[i]? := by
 unfold DK
 rw [if_pos (Int.natCast_nonneg i),if_pos (by exact Int.ofNat_lt.mpr ‹_›)]
 rfl
noncomputable def AtK(k:Nat)(Q:PV→AH→Prop)(H:AH)(l:List PV):Prop:=lk (nth l k) (rv Q H)
noncomputable def UL(g:G τ)(p:PV)(k:Nat)(H:AH)(Q:PV→AH→Prop):Prop:=
 @Option.rec (List PV) (fun O=>Prop) (SubL g p (.int k) H Q) (AtK k Q H) p.Ac
theorem UL.of{p:PV}{k:Nat}{Q:PV→AH→Prop}(hk:k<2 ^ 62)(h:UL g p k H Q):QJ g p (.int k) H Q:=by
 have z:∀l,DK l (k:Int)=nth l k:=fun l=>(gG hk).trans (Lp l k).symm
 clear hk
 unfold UL at h
 cases e1:p.Ac with
 |none=>rw [e1] at h;exact h
 |some l=>
  rw [e1] at h
  exact(K8 (show lk (nth l k) (fun r=>Q r H) from h)).elim fun r k=>GC e1 ((z l).trans k.1) k.2
end
end Mine.Internal
namespace Mine.Internal
open PySem PySem.W PySem.Calls PyProof.Rows
noncomputable def X.none:X:=.of true (fun O e=>.Constant .none (kc e) e.pos) (fun O O O=>true) (fun g n m H Q=>Q .none H) (fun O O O O O O O O O O w=>Ev.YX w) fun O O=>⟨⟨fun O O=>rfl,fun O O=>rfl,fun O=>rfl⟩,fun O O=>rfl,fun O O O=>rfl,fun O O O=>rfl,fun O O O O=>rfl⟩
noncomputable def X.O2(b:Bool):X:=.of true (fun O e=>.Constant (.bool b) (kc e) e.pos) (fun O O O=>true) (fun g n m H Q=>Q (.bool b) H) (fun O O O O O O O O O O w=>Ev.YZ w) fun O O=>⟨⟨fun O O=>rfl,fun O O=>rfl,fun O=>rfl⟩,fun O O=>rfl,fun O O O=>rfl,fun O O O=>rfl,fun O O O O=>rfl⟩
noncomputable def X.int(i:Int):X:=.of true (fun O e=>.Constant (.int i) (kc e) e.pos) (fun O O O=>true) (fun g n m H Q=>Q (.int i) H) (fun O O O O O O O O O O w=>Ev.Qz w) fun O O=>⟨⟨fun O O=>rfl,fun O O=>rfl,fun O=>rfl⟩,fun O O=>rfl,fun O O O=>rfl,fun O O O=>rfl,fun O O O O=>rfl⟩
noncomputable def X.str(x:Nat):X:=.of true (fun tab e=>.Constant (.str (tab x)) (kc e) e.pos) (fun O O O=>true) (fun g n m H Q=>Q (.str x) H) (fun O O O O O O O O O O w=>Ev.Za w) fun O O=>⟨⟨fun O O=>rfl,fun O O=>rfl,fun O=>rfl⟩,fun O O=>rfl,fun O O O=>rfl,fun O O O=>rfl,fun O O O O=>rfl⟩
noncomputable def X.loc(x:Nat):X:=.of true (fun tab e=>.Name (tab x) e.pos) (fun O O O=>true) (fun g n m H Q=>lk (m.lookup x) (rv Q H))
 (fun hg O O O O O O O O O w=>(K8 w).elim fun O z=>Ev.loc hg z.1 z.2) fun O O=>⟨⟨fun O O=>rfl,fun O O=>rfl,fun O=>rfl⟩,fun O O=>rfl,fun O O O=>rfl,fun O O O=>rfl,fun O O O O=>rfl⟩
noncomputable def X.glob(x:Nat):X:=.of true (fun tab e=>.Name (tab x) e.pos) (fun τ ns O=>Dm .globalImplicit ns (τ.tab x)) (fun{τ} g n m H Q=>lk (τ.glob x) (rv Q H))
 (fun hg O O O O O O O h he w=>(K8 w).elim fun O z=>Ev.glob hg z.1 (he.look _ _ (T5 h) nofun) z.2) fun O O=>⟨⟨fun O O=>rfl,fun O O=>rfl,fun O=>rfl⟩,fun O O=>rfl,fun O O O=>rfl,fun O O O=>rfl,fun O O O O=>rfl⟩
noncomputable def X.attr(o:X)(x:Nat):X:=.of true (fun tab e=>.Attribute (o.to tab (kid e 0)) (tab x) e.pos) (fun τ ns e=>o.bs&&o.ok τ ns (kid e 0)) (fun g n m H Q=>o.wE g n m H (j6 g x Q))
 (fun hg O O O O O O O h he w=>Ev.attr hg (o.sb (d7 h).1 _ _) (o.sE hg _ (d7 h).2 he w)) fun O O=>⟨⟨fun O O=>rfl,fun O O=>rfl,fun O=>rfl⟩,fun O O=>rfl,fun O O O=>rfl,fun O O O=>rfl,fun O O O O=>rfl⟩
theorem WX{k:Nat}(h:Nat.ble k 1000=true):k≤sizeLine:=Nat.le_trans (Nat.le_of_ble_eq_true h) (by rw [sizeLine_eq];exact Nat.le_add_left ..)
theorem xV{tab:Nat→Str}{es:List X}{xs:List PE}(h:Nat.ble es.length 1000=true):(toL tab es xs).length≤sizeLine:=(xU tab es xs).symm▸WX h
noncomputable abbrev WY(τ:T)(ns:Ns)(es:List X)(xs:List PE):Bool:=Nat.ble es.length 1000&&zE τ ns es xs
noncomputable def kTu(Q:PV→AH→Prop)(l:List PV)(H:AH):Prop:=Q (.tup l) H
noncomputable def kLi(Q:PV→AH→Prop)(l:List PV)(H:AH):Prop:=Q (.lst l) H
noncomputable def kLT(Q:PV→AH→Prop)(l:List PV)(H:AH):Prop := ∀a,H a = .none→Q (.obj a) (upd H a (.list l))
noncomputable def kDI(ks:List Int)(Q:PV→AH→Prop)(l:List PV)(H:AH):Prop := ∀a,H a = .none→Q (.obj a) (upd H a (.m6 (ks.zip l)))
noncomputable def kDS(ks:List Nat)(Q:PV→AH→Prop)(l:List PV)(H:AH):Prop := ∀a,H a = .none→Q (.obj a) (upd H a (.w5 (ks.zip l)))
noncomputable def X.tup(es:List X):X where
 to tab e:=.Tuple (toL tab es (kids e)) (kc e) e.pos
 ok τ ns e:=WY τ ns es (kids e)
 wE g n m H Q:=zB g n es m H (kTu Q)
 wT O O O O O:=False
 sE hg O O O O O O O h he w:=Ev.tuple (xV (d7 h).1) (Ad hg es _ (d7 h).2 he w)
 sT O O O O O O O O O O w:=w.elim
 sh O O:=⟨fun O O=>rfl,fun O O=>rfl,fun O=>rfl⟩
 bs:=true
 sb O O O O O:=rfl
 nc:=true
 sn O O O O O O:=rfl
 nt:=false
 st h:=nomatch h
noncomputable def X.lst(es:List X):X:=.of true (fun tab e=>.List (toL tab es (kids e)) e.pos) (fun τ ns e=>WY τ ns es (kids e)) (fun g n m H Q=>zB g n es m H (kLi Q))
 (fun hg O O O O O O O h he w=>Ev.list (xV (d7 h).1) (Ad hg es _ (d7 h).2 he w)) fun O O=>⟨⟨fun O O=>rfl,fun O O=>rfl,fun O=>rfl⟩,fun O O=>rfl,fun O O O=>rfl,fun O O O=>rfl,fun O O O O=>rfl⟩
noncomputable def X.bR(es:List X):X:=.of true (fun tab e=>.List (toL tab es (kids e)) e.pos) (fun τ ns e=>WY τ ns es (kids e)) (fun g n m H Q=>zB g n es m H (kLT Q))
 (fun hg O O O O O O O h he w=>Ev.Zb (xV (d7 h).1) (Ad hg es _ (d7 h).2 he w)) fun O O=>⟨⟨fun O O=>rfl,fun O O=>rfl,fun O=>rfl⟩,fun O O=>rfl,fun O O O=>rfl,fun O O O=>rfl,fun O O O O=>rfl⟩
noncomputable def cF:Nat→q7
 |0=>.m6 []
 |1=>.w5 []
 |_=>.w7 []
theorem Ra(k:Nat):cF k = .m6 []∨cF k = .w5 []∨cF k = .w7 []:=match k with
 |0=>.inl rfl
 |1=>.inr (.inl rfl)
 |_+2=>.inr (.inr rfl)
noncomputable def X.cF(k:Nat):X:=.of true (fun tab e=>.Dict [] [] e.pos) (fun O O O=>true) (fun g n m H Q => ∀a,H a = .none→Q (.obj a) (upd H a (Mine.Internal.cF k)))
 (fun O O O O O O O O O O w=>Ev.cF _ (Ra k) w) fun O O=>⟨⟨fun O O=>rfl,fun O O=>rfl,fun O=>rfl⟩,fun O O=>rfl,fun O O O=>rfl,fun O O O=>rfl,fun O O O O=>rfl⟩
noncomputable def uX{K:Type}(f:K→Const):List K→List PE→List PE→List (PE×K×PE)
 |k::ks,e::es,x=>(.Constant (f k) (kc (hd x)) (hd x).pos,k,e)::uX f ks es x.tail
 |_,_,_=>[]
theorem Ji{K:Type}(f:K→Const)(ks:List K):∀(es x:List PE),ks.length=es.length→(uX f ks es x).map (fun x=>x.2.1)=ks:=by
 induction ks with
 |nil=>exact fun O O O=>rfl
 |cons k ks ih=>
  intro es x h
  cases es with
  |nil=>exact nomatch h
  |cons e es=>exact congrArg (k :: ·) (ih es _ (Nat.succ.inj h))
noncomputable abbrev okD{K:Type} [DecidableEq K](ks:List K)(es:List X)(b:Bool):Bool:=(decide ks.Nodup&&(Nat.ble es.length 15&&(Nat.beq ks.length es.length && !es.isEmpty)))&&b
section
variable{τ:T}{g:G τ}(hg:v8 g){ns:Ns}{env:Env}{n:Nat}{m:Loc}{H:AH}{Q:PV→AH→Prop}
include hg
theorem ak4{K J:Type} [DecidableEq K] [DecidableEq J](D:KD g K J)(f:K→Const)(hk:∀{k:K} {i:Nat} {p:Pos} {H:AH} {Q:PV→AH→Prop},Q (D.key k) H→Ev g n env m H (.Constant (f k) i p) Q) (he:Q8 ns env) (es:List X):∀(ks:List K) (xs ys:List PE) {H:AH} {Q:List (K×PV)→AH→Prop},ks.length=es.length→zE τ ns es xs=true→zB g n es m H (fun l H'=>Q (ks.zip l) H')→
  EvD g n env m D.key H (uX f ks (toL τ.tab es xs) ys) Q:=by
 induction es with
 |nil=>
  intro ks xs ys H Q e h w
  cases ks with
  |nil=>exact w
  |cons _ _=>exact nomatch e
 |cons x es ih=>
  intro ks xs ys H Q e h w
  cases ks with
  |nil=>exact nomatch e
  |cons k ks=>exact hk ⟨rfl,(x.sE hg _ (d7 h).1 he w).mono fun q H₂ w=>ih ks _ _ (Nat.succ.inj e) (d7 h).2 w⟩
theorem Lq{K J:Type} [DecidableEq K] [DecidableEq J](D:KD g K J)(f:K→Const){ks:List K}{es:List X}{xs ys:List PE}{pos:Pos}(hk:∀{k:K} {i:Nat} {p:Pos} {H:AH} {Q:PV→AH→Prop},Q (D.key k) H→Ev g n env m H (.Constant (f k) i p) Q) (h:okD ks es (zE τ ns es xs)=true) (he:Q8 ns env)
  (w:zB g n es m H fun l H' => ∀a,H' a = .none→Q (.obj a) (upd H' a (D.ob (ks.zip l)))):Ev g n env m H (.Dict ((uX f ks (toL τ.tab es xs) ys).map fun x=>some x.1) ((uX f ks (toL τ.tab es xs) ys).map fun x=>x.2.2) pos) Q:=by
 obtain⟨h,h5⟩:=d7 h
 obtain⟨h1,h⟩:=d7 h
 obtain⟨h2,h⟩:=d7 h
 obtain⟨h3,h4⟩:=d7 h
 have e3:=Nat.eq_of_beq_eq_true h3
 have z:=Ji f ks (toL τ.tab es xs) ys (e3.trans (xU _ _ _).symm)
 have zl:(uX f ks (toL τ.tab es xs) ys).length=es.length:=by rw [← e3,← congrArg List.length z,List.length_map]
 exact Ev.dic D hg (fun e=>by rw [e] at zl;cases es with|nil=>cases h4|cons _ _=>cases zl) (by rw [zl];exact Nat.le_of_ble_eq_true h2) (by rw [z];exact of_decide_eq_true h1) (ak4 hg D f hk he es ks xs ys e3 h5 w)
end
noncomputable def X.ak5(ks:List Int)(es:List X):X:=.of true (fun tab e=>.Dict ((uX Const.int ks (toL tab es ((kids e).drop ks.length)) (kids e)).map fun x=>some x.1) ((uX Const.int ks (toL tab es ((kids e).drop ks.length)) (kids e)).map fun x=>x.2.2) e.pos)
 (fun τ ns e=>okD ks es (zE τ ns es ((kids e).drop ks.length))) (fun g n m H Q=>zB g n es m H (kDI ks Q))
 (fun{O g} hg O O O O O O O h he w=>Lq hg (KD.int g) Const.int (fun w=>Ev.Qz w) h he w) fun O O=>⟨⟨fun O O=>rfl,fun O O=>rfl,fun O=>rfl⟩,fun O O=>rfl,fun O O O=>rfl,fun O O O=>rfl,fun O O O O=>rfl⟩
noncomputable def X.ZF(ks:List Nat)(es:List X):X:=.of true (fun tab e=>.Dict ((uX (fun x=>Const.str (tab x)) ks (toL tab es ((kids e).drop ks.length)) (kids e)).map fun x=>some x.1) ((uX (fun x=>Const.str (tab x)) ks (toL tab es ((kids e).drop ks.length)) (kids e)).map fun x=>x.2.2) e.pos)
 (fun τ ns e=>okD ks es (zE τ ns es ((kids e).drop ks.length))) (fun g n m H Q=>zB g n es m H (kDS ks Q))
 (fun{τ g} hg O O O O O O O h he w=>Lq hg (KD.str g) (fun x=>Const.str (τ.tab x)) (fun w=>Ev.Za w) h he w) fun O O=>⟨⟨fun O O=>rfl,fun O O=>rfl,fun O=>rfl⟩,fun O O=>rfl,fun O O O=>rfl,fun O O O=>rfl,fun O O O O=>rfl⟩
noncomputable def ZG(τ:T)(x:Nat):Bool:=match τ.glob x with
 |some (.blt _)=>true
 |some (.typ _)=>true
 |some (.obj a)=>(τ.fn a).isSome||(τ.init a).isSome
 |_=>false
set_option tactic.hygienic true in
theorem UW{τ:T}{g:G τ}(hg:v8 g){x:Nat}{p:PV}(e:τ.glob x=some p)(h:ZG τ x=true):Plain g p:=by
 unfold ZG at h
 rw [e] at h
 cases p<;>first|exact nomatch (show false=true from h)|skip
 case blt=>exact vU
 case typ=>exact Iz
 case obj a=>
  rcases Bool.or_eq_true_iff.mp h with h|h
  ·obtain⟨d,e⟩:=Option.isSome_iff_exists.mp h
   obtain⟨_,_,_,_,k,_⟩:=hg.fn a d e
   exact qe hg k
  ·obtain⟨f,e⟩:=Option.isSome_iff_exists.mp h
   exact qe hg (hg.init a f e).2.2.2
noncomputable def kCl{τ:T}(g:G τ)(n:Nat)(p:PV)(Q:PV→AH→Prop)(l:List PV)(H:AH):Prop:=Cl g n p l H Q
noncomputable def kCa{τ:T}(g:G τ)(n:Nat)(es:List X)(m:Loc)(H:AH)(Q:PV→AH→Prop)(p:PV):Prop:=zB g n es m H (kCl g n p Q)
noncomputable def X.call(f:Nat)(es:List X):X:=.of (!es.isEmpty) (fun tab e=>.Call (.Name (tab f) (kid e 0).pos) (toL tab es (kids e).tail) [] e.pos)
 (fun τ ns e=>(Dm .globalImplicit ns (τ.tab f)&&ZG τ f)&&zE τ ns es (kids e).tail) (fun{τ} g n m H Q=>lk (τ.glob f) (kCa g n es m H Q))
 (fun hg O O O O O O O h he w=>(K8 w).elim fun O z=>Ev.call hg rfl (cG _ _ _) (Ev.glob hg z.1 (he.look _ _ (T5 (d7 (d7 h).1).1) nofun) ⟨UW hg z.1 (d7 (d7 h).1).2,Ad hg es _ (d7 h).2 he z.2⟩))
 fun O O=>⟨⟨fun O O=>rfl,fun O O=>rfl,fun O=>rfl⟩,fun O O=>rfl,fun h=>by cases es with|nil=>cases h|cons _ _=>exact fun O O=>rfl,fun O O O=>rfl,fun O O O O=>rfl⟩
end Mine.Internal
namespace Mine.Internal
open PySem PySem.W PySem.Calls PyProof.Rows
section
variable{τ:T}(g:G τ)(n:Nat)(op:PySem.Operator)(co:PySem.CmpOp)(ty id:String)(es:List X)(m:Loc)(H:AH)(Q:PV→AH→Prop)(C:Bool→AH→Prop)(p q:PV)(a f:Addr)(b i:X)(l:List PV)(k:Nat)(tf:Bool)(c:Bool)
noncomputable def ak7:Prop:=Plain g p∧zB g n es m H (kCl g n p Q)
noncomputable def kM2(l:List PV)(H:AH):Prop:=Cl g n (.obj f) (.obj a::l) H Q
noncomputable def kM(a f:Addr)(H:AH):Prop:=zB g n es m H (kM2 g n Q a f)
noncomputable def ak8(l:List PV)(H:AH):Prop:=Cl g n (.blt id) (p::l) H Q
noncomputable def kLm(p:PV)(H:AH):Prop:=pJ H ty p∧zB g n es m H (ak8 g n id Q p)
noncomputable def kB2(p q:PV)(H:AH):Prop:=Ln g op p q H Q
noncomputable def kB(p:PV)(H:AH):Prop:=b.wE g n m H (kB2 g op Q p)
noncomputable def ZJ(H:AH)(i:Int):Prop:=Q (.int (-i)) H
noncomputable def ak9(p:PV)(H:AH):Prop:=lk p.int? (ZJ Q H)
noncomputable def al0(p q:PV)(H:AH):Prop:=SubL g p q H Q
noncomputable def kSb(p:PV)(H:AH):Prop:=i.wE g n m H (al0 g Q p)
noncomputable def kAt(p:PV)(H:AH):Prop:=UL g p k H Q
noncomputable def ZK(H:AH)(l:List PV):Prop:=sel (Nat.ble l.length sizeLine) (Q (.lst l.reverse) H) False
noncomputable def al1(p:PV)(H:AH):Prop:=lk (v7 H p) (ZK Q H)
noncomputable def al2(H:AH)(c:Bool):Prop:=Q (.bool (!c)) H
noncomputable def kNt(p:PV)(H:AH):Prop:=lk p.truth? (al2 Q H)
noncomputable def kNT(c:Bool)(H:AH):Prop:=C (!c) H
noncomputable def kBl(H:AH)(c:Bool):Prop:=Q (.bool c) H
noncomputable def al3(p q:PV)(H:AH):Prop:=rE co p q H (kBl Q H)
noncomputable def kCm(p:PV)(H:AH):Prop:=b.wE g n m H (al3 co Q p)
noncomputable def al4(p q:PV)(H:AH):Prop:=rE co p q H (rv C H)
noncomputable def kCt(p:PV)(H:AH):Prop:=b.wE g n m H (al4 co C p)
noncomputable def kI(i:X)(c:Bool)(H:AH):Prop:=sel c (b.wE g n m H Q) (i.wE g n m H Q)
end
noncomputable def X.GD(f:Nat)(es:List X):X:=.of (!es.isEmpty) (fun tab e=>.Call (.Name (tab f) (kid e 0).pos) (toL tab es (kids e).tail) [] e.pos)
 (fun τ ns e=>zE τ ns es (kids e).tail) (fun g n m H Q=>lk (m.lookup f) (ak7 g n es m H Q))
 (fun hg O O O O O O O h he w=>(K8 w).elim fun O z=>Ev.call hg rfl (cG _ _ _) (Ev.loc hg z.1 ⟨z.2.1,Ad hg es _ h he z.2.2⟩))
 fun O O=>⟨⟨fun O O=>rfl,fun O O=>rfl,fun O=>rfl⟩,fun O O=>rfl,fun h=>by cases es with|nil=>cases h|cons _ _=>exact fun O O=>rfl,fun O O O=>rfl,fun O O O O=>rfl⟩
noncomputable abbrev toM(o:X)(x:Nat)(es:List X)(tab:Nat→Str)(e:PE):PE:=.Call (.Attribute (o.to tab (kid (kid e 0) 0)) (tab x) (kid e 0).pos) (toL tab es (kids e).tail) [] e.pos
noncomputable abbrev okM(o:X)(es:List X)(τ:T)(ns:Ns)(e:PE):Bool:=(o.bs&&(((kid e 0).pos.endLine==e.pos.line)&&Nat.blt es.length 30))&&(o.ok τ ns (kid (kid e 0) 0)&&zE τ ns es (kids e).tail)
theorem Lr{tab:Nat→Str}{es:List X}{xs:List PE}(h:Nat.blt es.length 30=true):(toL tab es xs).length<30:=(xU tab es xs).symm▸Nat.le_of_ble_eq_true h
noncomputable def X.meth(o:X)(x:Nat)(es:List X):X:=.of true (toM o x es) (okM o es) (fun g n m H Q=>o.wE g n m H (MethP g x (kM g n es m Q)))
 (fun hg O O O O O O O h he w=>Ev.meth hg (o.sb (d7 (d7 h).1).1 _ _) (d7 (d7 (d7 h).1).2).1 (Lr (d7 (d7 (d7 h).1).2).2) (cG _ _ _) ((o.sE hg _ (d7 (d7 h).2).1 he w).mono fun O O w=>w.mono fun O O O w=>Ad hg es _ (d7 (d7 h).2).2 he w))
 fun O O=>⟨⟨fun O O=>rfl,fun O O=>rfl,fun O=>rfl⟩,fun O O=>rfl,fun O O O=>rfl,fun O O O=>rfl,fun O O O O=>rfl⟩
noncomputable def X.Le(c x:Nat)(es:List X):X:=.of true (toM (.glob c) x es) (okM (.glob c) es) (fun{τ} g n m H Q=>lk (τ.glob c) fun p => ∃C f,p = .obj C∧τ.qK C x = .some f∧zB g n es m H (kCl g n (.obj f) Q))
 (fun hg O O O O O O O h he w=>(K8 w).elim fun O z=>Ev.Le hg (fun O O=>rfl) (d7 (d7 (d7 h).1).2).1 (Lr (d7 (d7 (d7 h).1).2).2) (cG _ _ _) (Ev.glob hg z.1 (he.look _ _ (T5 (d7 (d7 h).2).1) nofun) (z.2.elim fun C z=>z.elim fun f z=>⟨C,f,z.1,z.2.1,Ad hg es _ (d7 (d7 h).2).2 he z.2.2⟩)))
 fun O O=>⟨⟨fun O O=>rfl,fun O O=>rfl,fun O=>rfl⟩,fun O O=>rfl,fun O O O=>rfl,fun O O O=>rfl,fun O O O O=>rfl⟩
noncomputable def X.Q0(o:X)(ty:String)(x:Nat)(id:String)(es:List X):X:=.of true (toM o x es) (fun τ ns e=>QT ty (τ.tab x) id&&okM o es τ ns e) (fun g n m H Q=>o.wE g n m H (kLm g n ty id es m Q))
 (fun hg O O O O O O O h he w=>Ev.Q0 hg (o.sb (d7 (d7 (d7 h).2).1).1 _ _) (Uz (d7 h).1) (d7 (d7 (d7 (d7 h).2).1).2).1 (Lr (d7 (d7 (d7 (d7 h).2).1).2).2) (cG _ _ _) ((o.sE hg _ (d7 (d7 (d7 h).2).2).1 he w).mono fun O O w=>⟨w.1,Ad hg es _ (d7 (d7 (d7 h).2).2).2 he w.2⟩))
 fun O O=>⟨⟨fun O O=>rfl,fun O O=>rfl,fun O=>rfl⟩,fun O O=>rfl,fun O O O=>rfl,fun O O O=>rfl,fun O O O O=>rfl⟩
noncomputable abbrev Ls(a b:X)(τ:T)(ns:Ns)(e:PE):Bool:=a.ok τ ns (kid e 0)&&b.ok τ ns (kid e 1)
noncomputable def X.bin(op:PySem.Operator)(a b:X):X:=.of true (fun tab e=>.BinOp (a.to tab (kid e 0)) op (b.to tab (kid e 1)) e.pos) (Ls a b) (fun g n m H Q=>a.wE g n m H (kB g n op m Q b))
 (fun hg O O O O O O O h he w=>Ev.bin ((a.sE hg _ (d7 h).1 he w).mono fun O O w=>(b.sE hg _ (d7 h).2 he w).mono fun O O w=>Ln.of w)) fun O O=>⟨⟨fun O O=>rfl,fun O O=>rfl,fun O=>rfl⟩,fun O O=>rfl,fun O O O=>rfl,fun O O O=>rfl,fun O O O O=>rfl⟩
inductive Af(p q:PV)(H:AH)(Q:PV→AH→Prop):Prop
 |mk {l k:List PV} (e1:v7 H p=some l) (e2:v7 H q=some k) (hz:l.length+k.length≤sizeLine) (h:∀a,H a=none→Q (.obj a) (upd H a (.list (l++k)))):Af p q H Q
theorem Af.ex{p q:PV}{H:AH}{Q:PV→AH→Prop}(h:Af p q H Q):∃l k,v7 H p=some l∧v7 H q=some k∧l.length+k.length≤sizeLine∧∀a,H a=none→Q (.obj a) (upd H a (.list (l++k))):=by
 cases h with
 |mk e1 e2 hz h=>exact⟨_,_,e1,e2,hz,h⟩
noncomputable def al7(Q:PV→AH→Prop)(p q:PV)(H:AH):Prop:=Af p q H Q
noncomputable def kAd{τ:T}(g:G τ)(n:Nat)(m:Loc)(Q:PV→AH→Prop)(b:X)(p:PV)(H:AH):Prop:=b.wE g n m H (al7 Q p)
noncomputable def X.Wm(a b:X):X:=.of true (fun tab e=>.BinOp (a.to tab (kid e 0)) .Add (b.to tab (kid e 1)) e.pos) (Ls a b) (fun g n m H Q=>a.wE g n m H (kAd g n m Q b))
 (fun hg O O O O O O O h he w=>Ev.Wm ((a.sE hg _ (d7 h).1 he w).mono fun O O w=>(b.sE hg _ (d7 h).2 he w).mono fun O O w=>w.ex)) fun O O=>⟨⟨fun O O=>rfl,fun O O=>rfl,fun O=>rfl⟩,fun O O=>rfl,fun O O O=>rfl,fun O O O=>rfl,fun O O O O=>rfl⟩
theorem Xa{p:PV}{P:Int→Prop}(h:lk p.int? P):match(generalizing:=false) p with | .int i=>P i|_=>False:=by cases p<;>exact h
noncomputable def X.neg(a:X):X:=.of true (fun tab e=>.UnaryOp .USub (a.to tab (kid e 0)) e.pos) (fun τ ns e=>a.ok τ ns (kid e 0)) (fun g n m H Q=>a.wE g n m H (ak9 Q))
 (fun hg O O O O O O O h he w=>Ev.neg ((a.sE hg _ h he w).mono fun O O w=>Xa w)) fun O O=>⟨⟨fun O O=>rfl,fun O O=>rfl,fun O=>rfl⟩,fun O O=>rfl,fun O O O=>rfl,fun O O O=>rfl,fun O O O O=>rfl⟩
noncomputable def X.sub(a i:X):X:=.of true (fun tab e=>.Subscript (a.to tab (kid e 0)) (i.to tab (kid e 1)) e.pos) (Ls a i) (fun g n m H Q=>a.wE g n m H (kSb g n m Q i))
 (fun hg O O O O O O O h he w=>Ev.sub hg ((a.sE hg _ (d7 h).1 he w).mono fun O O w=>(i.sE hg _ (d7 h).2 he w).mono fun O O w=>w)) fun O O=>⟨⟨fun O O=>rfl,fun O O=>rfl,fun O=>rfl⟩,fun O O=>rfl,fun O O O=>rfl,fun O O O=>rfl,fun O O O O=>rfl⟩
theorem Lx{k:Nat}(h:Nat.ble k 1000=true):k<2 ^ 62:=Nat.lt_of_le_of_lt (Nat.le_of_ble_eq_true h) (by decide)
noncomputable def X.at(a:X)(k:Nat):X:=.of true (fun tab e=>.Subscript (a.to tab (kid e 0)) (.Constant (.int k) (kc (kid e 1)) (kid e 1).pos) e.pos) (fun τ ns e=>Nat.ble k 1000&&a.ok τ ns (kid e 0)) (fun g n m H Q=>a.wE g n m H (kAt g Q k))
 (fun hg O O O O O O O h he w=>Ev.sub hg ((a.sE hg _ (d7 h).2 he w).mono fun O O w=>Ev.Qz (UL.of (Lx (d7 h).1) w))) fun O O=>⟨⟨fun O O=>rfl,fun O O=>rfl,fun O=>rfl⟩,fun O O=>rfl,fun O O O=>rfl,fun O O O=>rfl,fun O O O O=>rfl⟩
inductive Rb(b:Bool)(p:PV)(i:Int)(H:AH)(Q:PV→AH→Prop):Prop
 |mk:YF b p i H Q→Rb b p i H Q
theorem Rb.of{q p:PV}{b:Bool}{H:AH}{Q:PV→AH→Prop}(h:lk q.int? fun i=>Rb b p i H Q):match(generalizing:=false) q with | .int i=>YF b p i H Q|_=>False:=by cases q<;>first|exact h.1|exact h
noncomputable def al8(Q:PV→AH→Prop)(tf:Bool)(p:PV)(H:AH)(i:Int):Prop:=Rb tf p i H Q
noncomputable def al9(Q:PV→AH→Prop)(tf:Bool)(p q:PV)(H:AH):Prop:=lk q.int? (al8 Q tf p H)
noncomputable def kSl{τ:T}(g:G τ)(n:Nat)(m:Loc)(Q:PV→AH→Prop)(tf:Bool)(i:X)(p:PV)(H:AH):Prop:=i.wE g n m H (al9 Q tf p)
noncomputable def X.slF(a i:X):X:=.of true (fun tab e=>.Subscript (a.to tab (kid e 0)) (.Slice (some (i.to tab (kid (kid e 1) 0))) Option.none Option.none (kid e 1).pos) e.pos) (fun τ ns e=>a.ok τ ns (kid e 0)&&i.ok τ ns (kid (kid e 1) 0)) (fun g n m H Q=>a.wE g n m H (kSl g n m Q true i))
 (fun hg O O O O O O O h he w=>Ev.Wt hg ((a.sE hg _ (d7 h).1 he w).mono fun O O w=>(i.sE hg _ (d7 h).2 he w).mono fun O O w=>Rb.of w)) fun O O=>⟨⟨fun O O=>rfl,fun O O=>rfl,fun O=>rfl⟩,fun O O=>rfl,fun O O O=>rfl,fun O O O=>rfl,fun O O O O=>rfl⟩
noncomputable def X.slT(a i:X):X:=.of true (fun tab e=>.Subscript (a.to tab (kid e 0)) (.Slice Option.none (some (i.to tab (kid (kid e 1) 1))) Option.none (kid e 1).pos) e.pos) (fun τ ns e=>a.ok τ ns (kid e 0)&&i.ok τ ns (kid (kid e 1) 1)) (fun g n m H Q=>a.wE g n m H (kSl g n m Q false i))
 (fun hg O O O O O O O h he w=>Ev.aj4 hg ((a.sE hg _ (d7 h).1 he w).mono fun O O w=>(i.sE hg _ (d7 h).2 he w).mono fun O O w=>Rb.of w)) fun O O=>⟨⟨fun O O=>rfl,fun O O=>rfl,fun O=>rfl⟩,fun O O=>rfl,fun O O O=>rfl,fun O O O=>rfl,fun O O O O=>rfl⟩
theorem Xb{p:PV}{H:AH}{Q:PV→AH→Prop}(h:lk (v7 H p) fun l=>sel (Nat.ble l.length sizeLine) (Q (.lst l.reverse) H) False):match v7 H p with|some l=>l.length≤sizeLine∧Q (.lst l.reverse) H|none=>False:=by
 obtain⟨l,e,h⟩:=K8 h
 rw [e]
 exact(mV h).imp Nat.le_of_ble_eq_true id
noncomputable def X.slR(a:X):X:=.of true (fun tab e=>.Subscript (a.to tab (kid e 0)) (.Slice Option.none Option.none (some (.UnaryOp .USub (.Constant (.int 1) (kc (kid (kid (kid e 1) 2) 0)) (kid (kid (kid e 1) 2) 0).pos) (kid (kid e 1) 2).pos)) (kid e 1).pos) e.pos) (fun τ ns e=>a.ok τ ns (kid e 0))
 (fun g n m H Q=>a.wE g n m H (al1 Q))
 (fun hg O O O O O O O h he w=>Ev.Zk hg ((a.sE hg _ h he w).mono fun O O w=>Ev.neg (Ev.Qz ⟨rfl,Xb w⟩))) fun O O=>⟨⟨fun O O=>rfl,fun O O=>rfl,fun O=>rfl⟩,fun O O=>rfl,fun O O O=>rfl,fun O O O=>rfl,fun O O O O=>rfl⟩
noncomputable def X.not(a:X):X where
 to tab e:=.UnaryOp .Not (a.to tab (kid e 0)) e.pos
 ok τ ns e:=a.ok τ ns (kid e 0)
 wE g n m H Q:=a.wE g n m H (kNt Q)
 wT g n m H Q:=a.wT g n m H (kNT Q)
 sE hg O O O O O O O h he w:=Ev.not ((a.sE hg _ h he w).mono fun O O w=>aB.of w)
 sT hg O O O O O O O h he w:=Ts.not (a.sT hg _ h he w)
 sh O O:=⟨fun O O=>rfl,fun O O=>rfl,fun O=>rfl⟩
 bs:=true
 sb O O O O O:=rfl
 nc:=true
 sn O O O O O O:=rfl
 nt:=true
 st O O O O O O O:=rfl
noncomputable def X.cmp(op:PySem.CmpOp)(a b:X):X where
 to tab e:=.Compare (a.to tab (kid e 0)) [op] [b.to tab (kid e 1)] e.pos
 ok:=Ls a b
 wE g n m H Q:=a.wE g n m H (kCm g n op m Q b)
 wT g n m H Q:=a.wE g n m H (kCt g n op m Q b)
 sE hg O O O O O O O h he w:=Ev.cmp hg ((b.sh _ _).marks op) ((a.sE hg _ (d7 h).1 he w).mono fun O O w=>(b.sE hg _ (d7 h).2 he w).mono fun O O w=>rE.of w)
 sT hg O O O O O O O h he w:=Ts.cmp hg ((b.sh _ _).marks op) ((a.sE hg _ (d7 h).1 he w).mono fun O O w=>(b.sE hg _ (d7 h).2 he w).mono fun O O w=>rE.of w)
 sh O O:=⟨fun O O=>rfl,fun O O=>rfl,fun O=>rfl⟩
 bs:=true
 sb O O O O O:=rfl
 nc:=true
 sn O O O O O O:=rfl
 nt:=true
 st O O O O O O O:=rfl
theorem Rf{p q:PV}{H:AH}{P:Bool→Prop}(h:lk p.int? fun a=>lk q.int? fun b=>P (decide (a≤b))):zV .LtE p q H P:=
 (K8 h).elim fun a z=>(K8 z.2).elim fun b y=>(nG z.1).symm▸(nG y.1).symm▸.ord rfl y.2
noncomputable def X.QK(o2:PySem.CmpOp)(a b c:X):X where
 to tab e:=.Compare (a.to tab (kid e 0)) [.LtE,o2] [b.to tab (kid e 1),c.to tab (kid e 2)] e.pos
 ok τ ns e:=Ls a b τ ns e&&c.ok τ ns (kid e 2)
 wE g n m H Q:=a.wE g n m H fun p H₁=>b.wE g n m H₁ fun q H₂=>lk p.int? fun i=>lk q.int? fun j=>sel (decide (i≤j)) (c.wE g n m H₂ fun r H₃=>rE o2 q r H₃ fun y=>Q (.bool y) H₃) (Q (.bool false) H₂)
 wT O O O O O:=False
 sE hg O O O O O O O h he w:=Ev.QK (o1:=.LtE) (o2:=o2) hg ((c.sh _ _).marks o2) ((a.sE hg _ (d7 (d7 h).1).1 he w).mono fun O O w=>(b.sE hg _ (d7 (d7 h).1).2 he w).mono fun O O w=>Rf ((K8 w).elim fun i z=>d8 z.1 ((K8 z.2).elim fun j z=>d8 z.1 (xr z.2 (fun z=>(c.sE hg _ (d7 h).2 he z).mono fun O O w=>rE.of w) id))))
 sT O O O O O O O O O O w:=w.elim
 sh O O:=⟨fun O O=>rfl,fun O O=>rfl,fun O=>rfl⟩
 bs:=true
 sb O O O O O:=rfl
 nc:=true
 sn O O O O O O:=rfl
 nt:=true
 st O O O O O O O:=rfl
noncomputable def X.and(es:List X):X where
 to tab e:=.BoolOp .And (toL tab es (kids e)) e.pos
 ok τ ns e:=zE τ ns es (kids e)
 wE g n m H Q:=WL g n es m H Q
 wT g n m H Q:=WR g n es m H Q
 sE hg O O O O O O O h he w:=Zv hg es _ h he w
 sT hg O O O O O O O h he w:=Zx hg es _ h he w
 sh O O:=⟨fun O O=>rfl,fun O O=>rfl,fun O=>rfl⟩
 bs:=true
 sb O O O O O:=rfl
 nc:=true
 sn O O O O O O:=rfl
 nt:=true
 st O O O O O O O:=rfl
noncomputable def X.or(es:List X):X where
 to tab e:=.BoolOp .Or (toL tab es (kids e)) e.pos
 ok τ ns e:=zE τ ns es (kids e)
 wE g n m H Q:=WQ g n es m H Q
 wT g n m H Q:=WW g n es m H Q
 sE hg O O O O O O O h he w:=Zw hg es _ h he w
 sT hg O O O O O O O h he w:=Zy hg es _ h he w
 sh O O:=⟨fun O O=>rfl,fun O O=>rfl,fun O=>rfl⟩
 bs:=true
 sb O O O O O:=rfl
 nc:=true
 sn O O O O O O:=rfl
 nt:=true
 st O O O O O O O:=rfl
noncomputable def X.O1(t a b:X):X where
 to tab e:=.IfExp (t.to tab (kid e 0)) (a.to tab (kid e 1)) (b.to tab (kid e 2)) e.pos
 ok τ ns e:=t.ok τ ns (kid e 0)&&(a.ok τ ns (kid e 1)&&b.ok τ ns (kid e 2))
 wE g n m H Q:=t.wT g n m H (kI g n m Q a b)
 wT O O O O O:=False
 sE hg O O O O O O O h he w:=Ev.ifx ((t.sT hg _ (d7 h).1 he w).mono fun c O w=>xr w (a.sE hg _ (d7 (d7 h).2).1 he) (b.sE hg _ (d7 (d7 h).2).2 he))
 sT O O O O O O O O O O w:=w.elim
 sh O O:=⟨fun O O=>rfl,fun O O=>rfl,fun O=>rfl⟩
 bs:=true
 sb O O O O O:=rfl
 nc:=true
 sn O O O O O O:=rfl
 nt:=true
 st O O O O O O O:=rfl
end Mine.Internal
namespace Mine.Internal
open PySem PySem.W PySem.Calls PyProof.Rows
noncomputable def Ly:List Nat→List PE→List (Nat×Pos)
 | [],_=>[]
 |x::xs,es=>(x,(hd es).pos)::Ly xs es.tail
theorem Lz(xs:List Nat):∀es,(Ly xs es).map (·.1)=xs:=by
 induction xs with
 |nil=>exact fun O=>rfl
 |cons x xs ih=>exact fun es=>congrArg (x :: ·) (ih _)
noncomputable def ZL(tab:Nat→Str)(e:PE):CT→PE
 |.one x=>.Name (tab x) e.pos
 |.many xs=>.Tuple (dw tab (Ly xs (kids e))) (kc e) e.pos
theorem Va(tab:Nat→Str)(e:PE)(ct:CT):Jd tab ct (ZL tab e ct):=by
 cases ct with
 |one x=>exact⟨_,rfl⟩
 |many xs=>exact⟨_,_,_,Lz xs _,rfl⟩
noncomputable def rF(tab:Nat→Str)(sc:List (Nat×NameKind)):Scope:=⟨.function,sc.map fun y=>(tab y.1,y.2),false,false,[]⟩
noncomputable def am0(ns:Ns)(s:Str):Bool:=Dm .free ns s||Dm .cell ns s
noncomputable def LC(tab:Nat→Str)(caps:List Nat)(ns:Ns)(sc:Scope):Bool:=
 sc.names.all (fun x=>(!decide (x.2 = .local)||Dm .local sc.names x.1)&&(!decide (x.2 = .cell)&&(!decide (x.2 = .free)||caps.any fun y=>decide (x.1=tab y)))) &&
  caps.all fun x=>Dm .free sc.names (tab x)&&am0 ns (tab x)
theorem LK{P:Prop} [Decidable P]{b:Bool}(h:(!decide P||b)=true)(p:P):b=true:=by
 rw [decide_eq_true p] at h
 exact h
theorem LQ{τ:T}{g:G τ}{ns:Ns}{env:Env}{caps:List Nat}{sc:Scope}(hk:sc.kind = .function)(he:Q8 ns env)(h:LC τ.tab caps ns sc=true):nC g sc caps∧∀x∈caps,env.kindOf (τ.tab x)=some .cell∨env.kindOf (τ.tab x)=some .free:=by
 have h2:=fun x hx=>d7 (List.all_eq_true.mp (d7 h).1 x hx)
 have h3:=fun x hx=>d7 (List.all_eq_true.mp (d7 h).2 x hx)
 exact⟨⟨hk,fun x hx e=>T5 (LK (h2 x hx).1 e),fun y hy e=>(nomatch (decide_eq_true e).symm.trans ((Bool.not_eq_true' _).mp (d7 (h2 y hy).2).1)),fun x hx=>T5 (h3 x hx).1,fun y hy e=>(List.any_eq_true.mp (LK (d7 (h2 y hy).2).2 e)).elim fun x z=>⟨x,z.1,(of_decide_eq_true z.2).symm⟩⟩,fun x hx=>(Bool.or_eq_true_iff.mp (h3 x hx).2).elim (fun z=>he.free _ (T5 z)) fun z=>.inl (he.look _ _ (T5 z) nofun)⟩
noncomputable def nH(m:Loc)(caps:List Nat):Bool:=caps.all fun x=>(m.lookup x).isSome
noncomputable def Xc{τ:T}(g:G τ)(n:Nat)(ifs:List X):Loc→AH→(Bool→AH→Prop)→Prop:=fun m H K=>match ifs with
 | []=>K true H
 |c::_=>c.wT g n m H K
noncomputable abbrev wpK{τ:T}(g:G τ)(n:Nat)(caps:List Nat)(ct:CT)(elt iter:X)(ifs:List X)(m:Loc)(H:AH)(Q:PV→AH→Prop):Prop:=
 sel (nH m caps) (iter.wE g n m H (qZ m caps ct (Xc g n ifs) (elt.wE g n) (kLi Q))) False
noncomputable abbrev toK(ct:CT)(elt iter:X)(ifs:List X)(sc:List (Nat×NameKind))(tab:Nat→Str)(e:PE):PE:=.ListComp (elt.to tab (kid e 0)) [⟨ZL tab (kid e 1) ct,iter.to tab (kid e 2),toL tab ifs ((kids e).drop 3),0⟩] (rF tab sc) e.pos
noncomputable def okK(caps:List Nat)(ct:CT)(elt iter:X)(ifs:List X)(sc:List (Nat×NameKind))(τ:T)(ns:Ns)(e:PE):Bool:=
 (LC τ.tab caps ns (rF τ.tab sc)&&(ct.xs.all (fun x=>Dm .local (rF τ.tab sc).names (τ.tab x))&&Nat.ble ifs.length 1))&&((elt.ok τ (rF τ.tab sc).names (kid e 0)&&iter.ok τ ns (kid e 2))&&zE τ (rF τ.tab sc).names ifs ((kids e).drop 3))
section
variable{τ:T}{g:G τ}(hg:v8 g){ns:Ns}{env:Env}{n:Nat}{m:Loc}{H:AH}
include hg
theorem am2{ifs:List X}{es:List PE}(h:zE τ ns ifs es=true)(hl:Nat.ble ifs.length 1=true)(he:Q8 ns env):dZ g n env (toL τ.tab ifs es) (Xc g n ifs):=by
 cases ifs with
 |nil=>exact dZ.nil
 |cons c cs=>cases cs with
  |nil=>exact dZ.one fun m H Q w=>c.sT hg _ (d7 h).1 he w
  |cons _ _=>exact nomatch (show false=true from hl)
theorem GF{caps:List Nat}{ct:CT}{elt iter:X}{ifs:List X}{sc:List (Nat×NameKind)}{e:PE}(h:okK caps ct elt iter ifs sc τ ns e=true)(he:Q8 ns env):
  (nC g (rF τ.tab sc) caps∧∀x∈caps,env.kindOf (τ.tab x)=some .cell∨env.kindOf (τ.tab x)=some .free)∧(∀x∈ct.xs,(rF τ.tab sc).names.lookup (τ.tab x)=some .local)∧
   (∀env',env'.scope=relabel (rF τ.tab sc) env→∀m H Q,elt.wE g n m H Q→Ev g n env' m H (elt.to τ.tab (kid e 0)) Q)∧(∀env',env'.scope=relabel (rF τ.tab sc) env→dZ g n env' (toL τ.tab ifs ((kids e).drop 3)) (Xc g n ifs))∧iter.ok τ ns (kid e 2)=true:=by
 obtain⟨h1,h4⟩:=d7 h
 obtain⟨h1,h2⟩:=d7 h1
 obtain⟨h2,h3⟩:=d7 h2
 obtain⟨h4,h6⟩:=d7 h4
 obtain⟨h4,h5⟩:=d7 h4
 exact⟨LQ rfl he h1,fun x hx=>T5 (List.all_eq_true.mp h2 x hx),fun env' hs m H Q w=>elt.sE hg _ h4 (Q8.comp hs rfl) w,fun env' hs=>am2 hg h6 h3 (Q8.comp hs rfl),h5⟩
omit hg in
theorem jW{caps:List Nat}{P:Prop}(h:sel (nH m caps) P False):(∀x∈caps,∃p,m.lookup x=some p)∧P:=(mV h).imp (fun e x hx=>Option.isSome_iff_exists.mp (List.all_eq_true.mp e x hx)) id
end
noncomputable def X.comp(caps:List Nat)(ct:CT)(elt iter:X)(ifs:List X)(sc:List (Nat×NameKind)):X where
 to:=toK ct elt iter ifs sc
 ok:=okK caps ct elt iter ifs sc
 wE g n m H Q:=wpK g n caps ct elt iter ifs m H Q
 wT O O O O O:=False
 sE hg O O O O O O O h he w:=by
  obtain⟨⟨s1,s2⟩,h2,h3,h4,h5⟩:=GF hg h he
  exact Ev.comp hg s1 s2 (jW w).1 (Va _ _ ct) h2 ((iter.sh _ _).fold _) h3 h4 (iter.sE hg _ h5 he (jW w).2)
 sT O O O O O O O O O O w:=w.elim
 sh O O:=⟨fun O O=>rfl,fun O O=>rfl,fun O=>rfl⟩
 bs:=true
 sb O O O O O:=rfl
 nc:=false
 sn h:=nomatch h
 nt:=true
 st O O O O O O O:=rfl
noncomputable abbrev WA := ∀{τ:T},G τ→Nat→PV→Loc→AH→(Loc→AH→Prop)→Prop
structure Tg where
 to:(Nat→Str)→PE→PE
 ok:T→Ns→PE→Bool
 w:WA
 s:∀{τ:T} {g:G τ},v8 g→∀{ns:Ns} {env:Env} {n:Nat} {p:PV} {m:Loc} {H:AH} {Q:Loc→AH→Prop} (x:PE),ok τ ns x=true→Q8 ns env→w g n p m H Q→As g n env m H (to τ.tab x) p Q
 pl:∀tab x,jT (to tab x)
 nt:Bool
 st:∀tab x v env,(nt=false→∀ts j p,swappedStores [.Tuple ts j p] v env=pure none)→swappedStores [to tab x] v env=pure none
noncomputable def Tg.name(x:Nat):Tg where
 to tab e:=.Name (tab x) e.pos
 ok τ ns O:=Jg ns (τ.tab x)
 w O O p m H Q:=Q (j8 x p m) H
 s hg O O O O O O O O h he w:=As.name hg (he.lc h) w
 pl O O O O:=rfl
 nt:=true
 st O O O O O:=rfl
inductive jX{τ:T}(g:G τ)(x:Nat)(q:PV)(Q:AH→Prop):PV→AH→Prop
 |mk {a C dx:Addr} {l:List (Nat×PV)} {H:AH} (e1:H a=some (.inst C dx)) (e2:H dx=some (.attrs l)) (hf:τ.fld C x=true) (hl:l.length<900) (h:Q (upd H dx (.attrs (j8 x q l)))):jX g x q Q (.obj a) H
theorem jX.ex{τ:T}{g:G τ}{x:Nat}{q:PV}{Q:AH→Prop}{p:PV}{H:AH}(h:jX g x q Q p H):∃a C dx l,p = .obj a∧H a=some (.inst C dx)∧H dx=some (.attrs l)∧τ.fld C x=true∧l.length<900∧Q (upd H dx (.attrs (j8 x q l))):=by
 cases h with
 |mk e1 e2 hf hl h=>exact⟨_,_,_,_,rfl,e1,e2,hf,hl,h⟩
noncomputable def Tg.attr(o:X)(x:Nat):Tg where
 to tab e:=.Attribute (o.to tab (kid e 0)) (tab x) e.pos
 ok τ ns e:=o.ok τ ns (kid e 0)
 w g n q m H Q:=o.wE g n m H (jX g x q (Q m))
 s hg O O O O O O O O h he w:=As.attr hg ((o.sE hg _ h he w).mono fun O O z=>z.ex)
 pl O O O O:=rfl
 nt:=true
 st O O O O O:=rfl
noncomputable def am3(q:PV)(K:AH→Prop)(p k:PV)(H:AH):Prop:=DR p k q H K
noncomputable def kTs{τ:T}(g:G τ)(n:Nat)(i:X)(q:PV)(m:Loc)(K:AH→Prop)(p:PV)(H:AH):Prop:=i.wE g n m H (am3 q K p)
noncomputable def Tg.sub(o i:X):Tg where
 to tab e:=.Subscript (o.to tab (kid e 0)) (i.to tab (kid e 1)) e.pos
 ok τ ns e:=o.ok τ ns (kid e 0)&&i.ok τ ns (kid e 1)
 w g n q m H Q:=o.wE g n m H (kTs g n i q m (Q m))
 s hg O O O O O O O O h he w:=As.sub hg ((o.sE hg _ (d7 h).1 he w).mono fun O O w=>i.sE hg _ (d7 h).2 he w)
 pl O O O O:=rfl
 nt:=true
 st O O O O O:=rfl
noncomputable def kTa(w:Loc→AH→(Loc→AH→Prop)→Prop)(Q:Loc→AH→Prop)(m:Loc)(H:AH):Prop:=w m H Q
noncomputable def Rg{τ:T}(g:G τ)(n:Nat):List Tg→List PV→Loc→AH→(Loc→AH→Prop)→Prop
 | [],l,m,H,Q=>match l with
  | []=>Q m H
  |_=>False
 |t::ts,l,m,H,Q=>match l with
  |q::qs=>t.w g n q m H (kTa (Rg g n ts qs) Q)
  | []=>False
noncomputable def Ed(tab:Nat→Str):List Tg→List PE→List PE
 | [],_=>[]
 |t::ts,es=>t.to tab (hd es)::Ed tab ts es.tail
noncomputable def Xd(τ:T)(ns:Ns):List Tg→List PE→Bool
 | [],_=>true
 |t::ts,es=>t.ok τ ns (hd es)&&Xd τ ns ts es.tail
theorem Rh(tab:Nat→Str)(ts:List Tg):∀es,∀t∈Ed tab ts es,jT t:=by
 induction ts with
 |nil=>exact fun O O h=>nomatch h
 |cons x xs ih=>exact fun es e h=>(List.mem_cons.mp h).elim (fun z=>z▸x.pl _ _) (ih _ e)
theorem As.mono{τ:T}{g:G τ}{n:Nat}{env:Env}{m:Loc}{H:AH}{tg:PySem.Expr}{q:PV}{Q Q':Loc→AH→Prop}(h:As g n env m H tg q Q)(k:∀m H,Q m H→Q' m H):As g n env m H tg q Q':=
 fun A s v R S F r=>wpAny_mono (h A s v R S F r) (fun O s' ⟨m',H',a,b,c,q⟩=>⟨m',H',a,b,c,k _ _ q⟩) fun O O x=>x
theorem sole{tg v:PE}{line:Nat}{env:Env}(h:swapsWith v (some tg) line env=pure false):swapsWithSole [tg] v line env=pure false:=h
theorem ZM{τ:T}{g:G τ}(hg:v8 g){ns:Ns}{env:Env}{n:Nat}(he:Q8 ns env){Q:Loc→AH→Prop}(ts:List Tg):∀(es:List PE) (l:List PV) {m:Loc} {H:AH},Xd τ ns ts es=true→Rg g n ts l m H Q→Zo g n env m H (Ed τ.tab ts es) l Q:=by
 induction ts with
 |nil=>
  intro es l m H h w
  cases l with
  |nil=>exact w
  |cons _ _=>exact w.elim
 |cons t ts ih=>
  intro es l m H h w
  cases l with
  |nil=>exact w.elim
  |cons q qs=>exact(t.s hg _ (d7 h).1 he w).mono fun O O w=>ih _ _ (d7 h).2 w
theorem LR(tab:Nat→Str)(ts:List Tg):∀es,(Ed tab ts es).length=ts.length:=by
 induction ts with
 |nil=>exact fun O=>rfl
 |cons x xs ih=>exact fun es=>congrArg (·+ 1) (ih _)
noncomputable abbrev YH{τ:T}(g:G τ)(n:Nat)(ts:List Tg)(m:Loc)(H:AH)(Q:Loc→AH→Prop)(l:List PV):Prop:=sel (Nat.beq l.length ts.length) (Rg g n ts l m H Q) False
theorem YH.of{τ:T}{g:G τ}{n:Nat}{ts:List Tg}{m:Loc}{H:AH}{Q:Loc→AH→Prop}{l:List PV}(h:YH g n ts m H Q l):l.length=ts.length∧Rg g n ts l m H Q:=(mV h).imp Nat.eq_of_beq_eq_true id
noncomputable def Tg.tup(ts:List Tg):Tg where
 to tab e:=.Tuple (Ed tab ts (kids e)) (kc e) e.pos
 ok τ ns e:=Xd τ ns ts (kids e)
 w g n q m H Q:=@Option.rec (List PV) (fun O=>Prop) (lk (v7 H q) (YH g n ts m H Q)) (YH g n ts m H Q) q.Lg
 s {τ g} hg ns env n p m H Q x h he w:=by
  have key:∀l,YH g n ts m H Q l→l.length=(Ed τ.tab ts (kids x)).length∧Zo g n env m H (Ed τ.tab ts (kids x)) l Q:=fun l z=>⟨z.of.1.trans (LR _ _ _).symm,ZM hg he ts _ _ h z.of.2⟩
  refine As.tup (Rh _ _ _) ?_
  cases e:p.Lg with
  |some l=>
   rw [e] at w
   rw [Eb e]
   exact⟨.inl ⟨l,rfl⟩,key l w⟩
  |none=>
   rw [e] at w
   obtain⟨l,e2,w⟩:=K8 w
   refine⟨.inr ⟨l,e2⟩,?_⟩
   rw [show itemsOf H p=some l by cases p<;>first|exact e2|exact nomatch e2]
   exact key l w
 pl O O O O:=rfl
 nt:=false
 st O O O O h:=h rfl _ _ _
end Mine.Internal
namespace Mine.Internal
open PySem PySem.W PySem.Calls PyProof.Rows
structure jY(τ:T)(ns:Ns)(env:Env):Prop where
 kind:env.scope.kind = .function
 names:env.scope.names=ns
 code:∀c,τ.lam ns=some c→env.code = .ref c.1∧env.qual ++ "<lambda>" = c.2.2
theorem jY.ok{τ:T}{ns:Ns}{env:Env}(h:jY τ ns env):Q8 ns env:=by
 have k:∀s,env.kindOf s=ns.lookup s:=fun s=>by unfold Env.kindOf;rw [h.names]
 exact⟨h.kind,fun s O e O=>(k s).trans e,fun s e=>.inr ((k s).trans e)⟩
theorem jY.bk{τ:T}{ns:Ns}{env:Env}(h:jY τ ns env):env.blockKind = .function:=by unfold Env.blockKind;rw [h.kind];rfl
noncomputable def env0(ns:Ns):Env:={scope:=⟨.function,ns,false,false,[]⟩,locals:=0,globals:=0,cells:=[]}
theorem Xe{τ:T}{ns:Ns}{env:Env}(h:jY τ ns env)(ts:List PE)(v:PE):swappedStores ts v env=swappedStores ts v (env0 ns):=by
 obtain⟨⟨k,n,a,b,c⟩,_,_,_,_,_,_,_,_⟩:=env
 obtain⟨h1,h2,_⟩:=h
 cases h1
 cases h2
 rfl
noncomputable def Xf(r:Sem (Option (List Str))) (l:Option (List Str)):Bool:=match r with
 |.pure x=>decide (x=l)
 |_=>false
theorem GJ{τ:T}{ns:Ns}{env:Env}{ts:List PE}{v:PE}{l:Option (List Str)}(he:jY τ ns env)(h:Xf (swappedStores ts v (env0 ns)) l=true):swappedStores ts v env=pure l:=by
 rw [Xe he]
 generalize swappedStores ts v (env0 ns)=r at h ⊢
 cases r<;>first|exact congrArg Sem.pure (of_decide_eq_true h)|exact nomatch (show false=true from h)
noncomputable def ZP:Stmt→List PE
 |.Expr e _=>[e]
 |.Return e _=>[e.getD default]
 |.Assign ts v _=>ts++[v]
 |.For t i _ _ _=>[t,i]
 |.While t _ _ _=>[t]
 |.If t _ _ _=>[t]
 |_=>[]
noncomputable def G8(s:Stmt)(i:Nat):PE:=(ZP s).getD i default
noncomputable def blk:Stmt→List Stmt
 |.For _ _ a _ _=>a
 |.While _ a _ _=>a
 |.If _ a _ _=>a
 |_=>[]
noncomputable def ZQ:Stmt→List Stmt
 |.If _ _ b _=>b
 |_=>[]
noncomputable abbrev WS := ∀{τ:T},G τ→Nat→Loc→AH→(Out→Loc→AH→Prop)→Prop
structure S where
 to:(Nat→Str)→Stmt→Stmt
 ok:T→Ns→Stmt→Bool
 w:WS
 s:∀{τ:T} {g:G τ},v8 g→∀{ns:Ns} {env:Env} {n:Nat} {m:Loc} {H:AH} {Q:Out→Loc→AH→Prop} (x:Stmt),ok τ ns x=true→jY τ ns env→w g n m H Q→eU g n env m H (to τ.tab x) Q
noncomputable abbrev onw(Q:Out→Loc→AH→Prop)(k:Loc→AH→Prop)(o:Out)(m:Loc)(H:AH):Prop:=@Out.rec (fun O=>Prop) (k m H) (Q .brk m H) (Q .cont m H) (fun p=>Q (.ret p) m H) o
noncomputable def kSs(w:Loc→AH→(Out→Loc→AH→Prop)→Prop)(Q:Out→Loc→AH→Prop)(m:Loc)(H:AH):Prop:=w m H Q
noncomputable def K4{τ:T}(g:G τ)(n:Nat):List S→Loc→AH→(Out→Loc→AH→Prop)→Prop
 | [],m,H,Q=>Q .next m H
 |s::ss,m,H,Q=>s.w g n m H (onw Q (kSs (K4 g n ss) Q))
noncomputable abbrev hdS(es:List Stmt):Stmt:=es.headD default
noncomputable def rG(tab:Nat→Str):List S→List Stmt→List Stmt
 | [],_=>[]
 |s::ss,xs=>s.to tab (hdS xs)::rG tab ss xs.tail
noncomputable def Ag(τ:T)(ns:Ns):List S→List Stmt→Bool
 | [],_=>true
 |s::ss,xs=>s.ok τ ns (hdS xs)&&Ag τ ns ss xs.tail
theorem Kh.mono{τ:T}{g:G τ}{env:Env}{s s':Shared}{H:AH}{f:Flow}{Q Q':Out→Loc→AH→Prop}(h:Kh g env s H Q f s')(k:∀o m H,Q o m H→Q' o m H):Kh g env s H Q' f s':=
 let⟨o,m',H',r,S,F,c,q⟩:=h;⟨o,m',H',r,S,F,c,k _ _ _ q⟩
theorem eU.mono{τ:T}{g:G τ}{n:Nat}{env:Env}{m:Loc}{H:AH}{st:Stmt}{Q Q':Out→Loc→AH→Prop}(h:eU g n env m H st Q)(k:∀o m H,Q o m H→Q' o m H):eU g n env m H st Q':=
 fun A s R S F=>wpAny_mono (h A s R S F) (fun O O x=>x.mono k) fun O O x=>x
theorem Ex.mono{τ:T}{g:G τ}{n:Nat}{env:Env}{m:Loc}{H:AH}{ss:List Stmt}{Q Q':Out→Loc→AH→Prop}(h:Ex g n env m H ss Q)(k:∀o m H,Q o m H→Q' o m H):Ex g n env m H ss Q':=
 fun A s R S F=>wpAny_mono (h A s R S F) (fun O O x=>x.mono k) fun O O x=>x
theorem Ah{τ:T}{g:G τ}(hg:v8 g){ns:Ns}{env:Env}{n:Nat}(he:jY τ ns env){Q:Out→Loc→AH→Prop}(ss:List S):∀(xs:List Stmt) {m:Loc} {H:AH},Ag τ ns ss xs=true→K4 g n ss m H Q→Ex g n env m H (rG τ.tab ss xs) Q:=by
 induction ss with
 |nil=>exact fun O O O O w=>Ex.nil w
 |cons s ss ih=>exact fun xs m H h w=>Ex.cons ((s.s hg _ (d7 h).1 he w).mono fun o m' H' w=>by
   cases o with
   |next=>exact ih _ (d7 h).2 w
   |brk=>exact w
   |cont=>exact w
   |ret p=>exact w)
section
variable{τ:T}(g:G τ)(n:Nat)(m:Loc)(Q:Out→Loc→AH→Prop)(p:PV)(H:AH)
noncomputable def kN(_p:PV)(H:AH):Prop:=Q .next m H
noncomputable def nx(m:Loc)(H:AH):Prop:=Q .next m H
noncomputable def kA(t:Tg)(p:PV)(H:AH):Prop:=t.w g n p m H (nx Q)
noncomputable def am4(ts:List Tg)(l:List PV)(H:AH):Prop:=YH g n ts m H (nx Q) l
noncomputable def am5(xs:List Nat)(l:List PV):Prop:=sel (Nat.beq l.length xs.length) (Q .next (jU xs.reverse l.reverse m) H) False
noncomputable def kSw(xs:List Nat)(p:PV)(H:AH):Prop:=lk p.Lg (am5 m Q H xs)
noncomputable def kAc(x:Nat)(p:PV)(H:AH):Prop:=Q .next (j8 x p m) H
noncomputable def kR(p:PV)(H:AH):Prop:=Q (.ret p) m H
noncomputable def kIf(a b:List S)(c:Bool)(H:AH):Prop:=sel c (K4 g n a m H Q) (K4 g n b m H Q)
end
noncomputable def S.bad:S:=⟨fun O x=>x,fun O O O=>true,fun O O O O O=>False,fun O O O O O O O O O O w=>w.elim⟩
noncomputable def S.expr(e:X):S:=⟨fun tab x=>.Expr (e.to tab (G8 x 0)) x.pos,fun τ ns x=>e.nc&&e.ok τ ns (G8 x 0),fun g n m H Q=>e.wE g n m H (kN m Q),fun hg O O O O O O O h he w=>eU.expr (by unfold interactive;rw [he.kind];rfl) (e.sn (d7 h).1 _ _ _ _ _) (e.sE hg _ (d7 h).2 he.ok w)⟩
noncomputable def S.asg(t:Tg)(e:X):S:=⟨fun tab x=>.Assign [t.to tab (G8 x 0)] (e.to tab (G8 x 1)) x.pos,fun τ ns x=>(e.nc&&(t.nt||e.nt))&&(t.ok τ ns (G8 x 0)&&e.ok τ ns (G8 x 1)),fun g n m H Q=>e.wE g n m H (kA g n m Q t),fun hg O O O O O O O h he w=>eU.asg (sole (e.sn (d7 (d7 h).1).1 _ _ _ _ _)) (t.st _ _ _ _ fun z ts j p=>e.st (by have:=(d7 (d7 h).1).2;rw [z] at this;exact this) _ _ ts j p _) (t.pl _ _ _ _) ((e.sE hg _ (d7 (d7 h).2).2 he.ok w).mono fun O O w=>t.s hg _ (d7 (d7 h).2).1 he.ok w)⟩
noncomputable def S.Xg(ts:List Tg)(es:List X):S:=⟨fun tab x=>.Assign [(Tg.tup ts).to tab (G8 x 0)] ((X.tup es).to tab (G8 x 1)) x.pos,fun τ ns x=>Xf (swappedStores [(Tg.tup ts).to τ.tab (G8 x 0)] ((X.tup es).to τ.tab (G8 x 1)) (env0 ns)) none&&((Tg.tup ts).ok τ ns (G8 x 0)&&(X.tup es).ok τ ns (G8 x 1)),fun g n m H Q=>zB g n es m H (am4 g n m Q ts),fun hg O O O O O O O h he w=>eU.asg (sole rfl) (GJ he (d7 h).1) rfl (((X.tup es).sE (Q:=fun p H₁=>(Tg.tup ts).w _ _ p _ H₁ _) hg _ (d7 (d7 h).2).2 he.ok w).mono fun O O w=>(Tg.tup ts).s hg _ (d7 (d7 h).2).1 he.ok w)⟩
noncomputable def S.swap(xs:List Nat)(es:List X):S:=⟨fun tab x=>.Assign [.Tuple (dw tab (Ly xs (kids (G8 x 0)))) (kc (G8 x 0)) (G8 x 0).pos] ((X.tup es).to tab (G8 x 1)) x.pos,fun τ ns x=>Xf (swappedStores [.Tuple (dw τ.tab (Ly xs (kids (G8 x 0)))) (kc (G8 x 0)) (G8 x 0).pos] ((X.tup es).to τ.tab (G8 x 1)) (env0 ns)) (some (xs.map τ.tab))&&(xs.all (fun y=>Jg ns (τ.tab y))&&(X.tup es).ok τ ns (G8 x 1)),fun g n m H Q=>(X.tup es).wE g n m H (kSw m Q xs),fun hg O O O O O O O h he w=>eU.swap hg rfl (GJ he (d7 h).1) (fun y hy=>he.ok.lc (List.all_eq_true.mp (d7 (d7 h).2).1 y hy)) (((X.tup es).sE hg _ (d7 (d7 h).2).2 he.ok w).mono fun p H₁ w=>(K8 w).elim fun l z=>⟨l,Eb z.1,(mV z.2).imp Nat.eq_of_beq_eq_true id⟩)⟩
noncomputable def Vb(s:Str)(sc:Scope):Bool := !(sc.names.any fun x=>x.1==s&&(x.2 == .local||x.2 == .cell))
noncomputable def S.ZR(x:Nat)(caps:List Nat)(ct:CT)(elt iter:X)(ifs:List X)(sc:List (Nat×NameKind)):S:=⟨fun tab s=>.Assign [.Name (tab x) (G8 s 0).pos] (toK ct elt iter ifs sc tab (G8 s 1)) s.pos,fun τ ns s=>(Dm .local ns (τ.tab x)&&(((G8 s 0).pos.line==(G8 s 1).pos.line)&&Vb (τ.tab x) (rF τ.tab sc)))&&okK caps ct elt iter ifs sc τ ns (G8 s 1),fun g n m H Q=>wpK g n caps ct elt iter ifs m H (kAc m Q x),fun{τ O} hg O env O O O O s h he w=>by
  obtain⟨⟨s1,s2⟩,h2,h3,h4,h5⟩:=GF hg (d7 h).2 he.ok
  have loc:=he.ok.look _ _ (T5 (d7 (d7 h).1).1) nofun
  refine eU.QV hg s1 s2 (jW w).1 (Va _ _ ct) h2 ((iter.sh _ _).fold _) loc ?_ h3 h4 (iter.sE hg _ h5 he.ok (jW w).2)
  show(pure (env.blockKind == .function&&env.kindOf (τ.tab x)==some .local&&(G8 s 0).pos.line==(G8 s 1).pos.line&&Vb (τ.tab x) (rF τ.tab sc)):Sem Bool)=pure true
  rw [he.bk,loc,(d7 (d7 (d7 h).1).2).1,(d7 (d7 (d7 h).1).2).2]
  rfl⟩
noncomputable def S.ret(e:X):S:=⟨fun tab x=>.Return (some (e.to tab (G8 x 0))) x.pos,fun τ ns x=>e.ok τ ns (G8 x 0),fun g n m H Q=>e.wE g n m H (kR m Q),fun hg O O O O O O O h he w=>eU.ret (e.sE hg _ h he.ok w)⟩
noncomputable def S.Ri:S:=⟨fun O x=>.Return none x.pos,fun O O O=>true,fun O O m H Q=>Q (.ret .none) m H,fun O O O O O O O O O O w=>eU.QB w⟩
noncomputable def S.iff(t:X)(a b:List S):S:=⟨fun tab x=>.If (t.to tab (G8 x 0)) (rG tab a (blk x)) (rG tab b (ZQ x)) x.pos,fun τ ns x=>t.ok τ ns (G8 x 0)&&(Ag τ ns a (blk x)&&Ag τ ns b (ZQ x)),fun g n m H Q=>t.wT g n m H (kIf g n m Q a b),fun hg O O O O O O O h he w=>eU.iff ((t.sT hg _ (d7 h).1 he.ok w).mono fun O O w=>xr w (Ah hg he a _ (d7 (d7 h).2).1) (Ah hg he b _ (d7 (d7 h).2).2))⟩
noncomputable def kGo(p:PV)(l:List PV)(w:Loc→AH→Prop)(m:Loc)(H:AH):Prop:=sel p.isO (itemsOf H p=some l∧w m H) (w m H)
noncomputable def kTn(p:PV)(l:List PV)(Q:Out→Loc→AH→Prop)(w:Loc→AH→Prop)(o:Out)(m:Loc)(H:AH):Prop:=@Out.rec (fun O=>Prop) (kGo p l w m H) (Q .next m H) (kGo p l w m H) (fun x=>Q (.ret x) m H) o
noncomputable def Ef(asg:PV→Loc→AH→(Loc→AH→Prop)→Prop)(body:Loc→AH→(Out→Loc→AH→Prop)→Prop)(p:PV)(l:List PV)(Q:Out→Loc→AH→Prop):List PV→Loc→AH→Prop
 | [],m,H=>Q .next m H
 |q::r,m,H=>asg q m H (kSs body (kTn p l Q (Ef asg body p l Q r)))
noncomputable def kF2{τ:T}(g:G τ)(n:Nat)(m:Loc)(Q:Out→Loc→AH→Prop)(t:Tg)(body:List S)(p:PV)(H:AH)(l:List PV):Prop:=Ef (t.w g n) (K4 g n body) p l Q l m H
noncomputable def kF{τ:T}(g:G τ)(n:Nat)(m:Loc)(Q:Out→Loc→AH→Prop)(t:Tg)(body:List S)(p:PV)(H:AH):Prop:=okW p (lk (itemsOf H p) (kF2 g n m Q t body p H))
noncomputable def S.for(t:Tg)(it:X)(body:List S):S:=⟨fun tab x=>.For (t.to tab (G8 x 0)) (it.to tab (G8 x 1)) (rG tab body (blk x)) [] x.pos,fun τ ns x=>t.ok τ ns (G8 x 0)&&(it.ok τ ns (G8 x 1)&&Ag τ ns body (blk x)),fun g n m H Q=>it.wE g n m H (kF g n m Q t body),fun{τ g} hg ns env n m O Q x h he w=>eU.for ((it.sh _ _).fold _) ((it.sE hg _ (d7 (d7 h).2).1 he.ok w).mono fun p H₁ w=>⟨w.src.1,by
  obtain⟨l,e,w⟩:=K8 w.src.2
  rw [e]
  have same:∀{H₂:AH} {P:Prop},sel p.isO (itemsOf H₂ p=some l∧P) P→itemsOf H₂ p=some l∧P:=fun z=>by
   cases p<;>first|exact z|exact⟨e,z⟩
  have key:∀(r:List PV) (m:Loc) (H:AH),Ef (fun q m H Q=>t.w g n q m H Q) (fun m H Q=>K4 g n body m H Q) p l Q r m H→Jc g n env (t.to τ.tab (G8 x 0)) (rG τ.tab body (blk x)) p l Q r m H:=by
   intro r
   induction r with
   |nil=>exact fun O O w=>w
   |cons q r ih=>exact fun m H w=>(t.s hg _ (d7 h).1 he.ok w).mono fun m₁ H₁ w=>(Ah hg he body _ (d7 (d7 h).2).2 w).mono (fun o m₂ H₂ w=>by
     cases o with
     |next=>exact(same w).imp id (ih _ _)
     |cont=>exact(same w).imp id (ih _ _)
     |brk=>exact w
     |ret x=>exact w)
  exact key l m H₁ w⟩)⟩
noncomputable abbrev onL(I:Nat→Loc→AH→Prop)(j:Nat)(Q:Out→Loc→AH→Prop)(o:Out)(m:Loc)(H:AH):Prop:=@Out.rec (fun O=>Prop) (∃i,i<j∧I i m H) (Q .next m H) (∃i,i<j∧I i m H) (fun p=>Q (.ret p) m H) o
noncomputable def kWh{τ:T}(g:G τ)(n:Nat)(m:Loc)(Q:Out→Loc→AH→Prop)(body:List S)(R:Out→Loc→AH→Prop)(b:Bool)(H:AH):Prop:=sel b (K4 g n body m H R) (Q .next m H)
inductive xW{τ:T}(g:G τ)(n:Nat)(t:X)(body:List S)(m:Loc)(H:AH)(Q:Out→Loc→AH→Prop):Prop
 |mk (I:Nat→Loc→AH→Prop) (k:Nat) (h0:I k m H) (h:∀j m' H',I j m' H'→t.wT g n m' H' (kWh g n m' Q body (onL I j Q))):xW g n t body m H Q
noncomputable def S.while(t:X)(body:List S):S:=⟨fun tab x=>.While (t.to tab (G8 x 0)) (rG tab body (blk x)) [] x.pos,fun τ ns x=>t.ok τ ns (G8 x 0)&&Ag τ ns body (blk x),fun g n m H Q=>xW g n t body m H Q,fun hg O O O O O O O h he w=>by
  cases w with
  |mk I k h0 w=>exact eU.while I k h0 fun j m' H' hI=>(t.sT hg _ (d7 h).1 he.ok (w j m' H' hI)).mono fun b H₁ w=>xr w (fun w=>(Ah hg he body _ (d7 h).2 w).mono (fun o m₂ H₂ w=>by
    cases o with
    |next=>exact w
    |cont=>exact w
    |brk=>exact w
    |ret x=>exact w)) id⟩
end Mine.Internal
namespace Mine.Internal
open PySem PySem.W PySem.Calls PyProof.Rows
section
variable{prog:Program}{w:World}{A:Around}{E:Value→Shared→Prop}{s:Shared}
theorem rH{it t:Addr}{items:Array Value}{i:Nat}{Q:Value→Shared→Prop}(hh:A.handled=none)(hit:s.heap.IsTupleIter it t i)(ht:s.heap.IsTuple t items)(hx:items[i]? = none)
  (hE:∀h' e,Heap.ExtBut it s.heap h'→(∃o,h'.get? e=some o∧o.cls = .type "StopIteration")→E (.ref e) {s with heap:=h'}):wpAny (model prog w) A (Builtin.SmallTypes.nextOf (.ref it)) Q E s:=by
 obtain⟨o,ho,hc,hd⟩:=id hit
 obtain⟨ol,hol,_,nl,hdl⟩:=ht
 unfold Builtin.SmallTypes.nextOf
 refine wpAny_bind (wpAny_callSpecial?_slot (name:=Str.ofString "__next__") hit.typeIs PySem.F.slot_tuple_iterator_next (wpAny_call_entry PySem.F.slot_tuple_iterator_next hit.typeIs PySem.F.entry_tuple_iterator_next ?_ (PySem.F.args_tuple_iterator_next_1 _)))
 show wpAny _ _ (field (.ref it) 0 >>= _) _ _ s
 refine wpAny_bind (wpAny_field ho hd (x:=.ref t) rfl ?_)
 show wpAny _ _ (if(Value.ref t==Value.none)=true then _ else _) _ _ s
 rw [if_neg (show ¬((Value.ref t==Value.none)=true) from Bool.false_ne_true)]
 show wpAny _ _ (field (.ref it) 1 >>= _) _ _ s
 refine wpAny_bind (wpAny_field ho hd (x:=.int i 0) rfl ?_)
 show wpAny _ _ (seqItems? (.ref t) >>= _) _ _ s
 refine wpAny_bind (wpAny_seqItems hol hdl ?_)
 simp only [Int.toNat_natCast,hx]
 refine wpAny_bind (wpAny_rule (wpAny_bind (wpAny_setField ho hd (by simp) ?_)))
 show wpAny _ _ (newExc (.type "StopIteration") [] >>= _) _ _ _
 refine wpAny_bind ?_
 simp only [newExc,newTuple]
 refine wpAny_bind (wpAny_newObj_type ?_ (by size_fits))
 refine wpAny_bind (m:=firstArgMember _ _) (wpAny_of_eq (a:=Value.none) (by first|rfl|(simp only [firstArgMember];rfl)) (wpAny_newObj_type ?_ (by size_fits)))
 delta raiseNew
 refine wpAny_bind (wpAny_handled ?_)
 first|rw [show A.in1.handled=none from hh]|rw [hh]
 exact wpAny_bind (wpAny_pure (wpAny_throw (hE _ _ (((Heap.SameBut.update ..).extBut.push _).push _) ⟨_,Heap.get?_push_size _ rfl,rfl⟩)))
theorem Ai{M:Model}{Q:Bool→Shared→Prop}{b:Bool}(h:∀b,Q b s):wpAny M A (pure b) Q E s:=wpAny_pure (h b)
theorem rI(l:Addr)(items:Array Value)(n:Nat):Meets (Builtin.«enumerate.__new__» ⟨[.type "enumerate",.ref l],[]⟩) (fun O R s=>s.heap.get? l=some ⟨.type "tuple",none,.seq items n,#[]⟩∧
   R (.ok (.ret (.ref (s.heap.push {cls:=.type "tuple_iterator",data:=.fields #[.ref l,.int 0 0]}).objs.size)))
    {s with heap:=(s.heap.push {cls:=.type "tuple_iterator",data:=.fields #[.ref l,.int 0 0]}).push {cls:=.type "enumerate",data:=.fields #[.none,.bool false,.ref s.heap.objs.size,rawInt 0,.none,.none]}}):=
 .of_wp fun prog w A R s h=>by
  obtain⟨hp,g,d,tk,os⟩:=s;obtain⟨hl,h⟩:=h
  have hsub:=sub_enumerate
  have hL:Heap.IsTuple (Shared.heap ⟨hp,g,d,tk,os⟩) l items:=⟨_,hl,rfl,n,rfl⟩
  wp_walk using AutoSeq1.wpAny_loadPart' hl
  refine wpAny_stack_any fun st=>Ai fun b=>?_
  cases b
  ·wp_walk using AutoSeq1.wpAny_loadPart' hl,wpAny_pyIter_tuple hL
   exact⟨_,rfl,h⟩
  ·wp_walk using AutoSeq1.wpAny_loadPart' hl,wpAny_pyIter_tuple hL
   exact⟨_,rfl,h⟩
end
theorem uY{prog:Program}{w:World}{A:Around}{E:Value→Shared→Prop}{s:Shared}{l:Addr}{items:Array Value}{n:Nat}{Q:Value→Shared→Prop}(hl:s.heap.get? l=some ⟨.type "tuple",none,.seq items n,#[]⟩)
  (h:∀h',IsEnum h' (s.heap.objs.size+1) s.heap.objs.size 0 .none→h'.IsTupleIter s.heap.objs.size l 0→(∀b o,s.heap.get? b=some o→h'.get? b=some o)→Q (.ref (s.heap.objs.size+1)) {s with heap:=h'}):wpAny (model prog w) A (call (.type "enumerate") [.ref l]) Q E s:=by
 refine callType_new PySem.F.called_enumerate (by decide) (PySem.F.typeCall_enumerate_1 _) (PySem.F.newCall_enumerate_1 _) (fun obj=>PySem.F.args_object_init_2 obj _) PySem.F.entry_enumerate_new (rI l items n) ⟨hl,?_⟩
 have hz:(s.heap.push {cls:=.type "tuple_iterator",data:=.fields #[.ref l,.int 0 0]}).objs.size=s.heap.objs.size+1:=Heap.size_push ..
 show _∧_
 rw [hz]
 have he:IsEnum ((s.heap.push {cls:=.type "tuple_iterator",data:=.fields #[.ref l,.int 0 0]}).push
   {cls:=.type "enumerate",data:=.fields #[.none,.bool false,.ref s.heap.objs.size,rawInt 0,.none,.none]}) (s.heap.objs.size+1) s.heap.objs.size 0 .none:=by
  have:=Heap.get?_push_size (s.heap.push {cls:=.type "tuple_iterator",data:=.fields #[.ref l,.int 0 0]})
   (o:={cls:=.type "enumerate",data:=.fields #[.none,.bool false,.ref s.heap.objs.size,rawInt 0,.none,.none]}) rfl
  rw [hz] at this;exact this
 exact⟨⟨_,he,rfl⟩,h _ he ⟨_,Heap.get?_push_of_some _ (Heap.get?_push_size _ rfl),rfl,rfl⟩ fun b o x=>Heap.get?_push_of_some _ (Heap.get?_push_of_some _ x)⟩
theorem eU.ZS{τ:T}{g:G τ}(hg:v8 g){n:Nat}{env:Env}{m:Loc}{H:AH}{tg e:PE}{x:Nat}{body:List Stmt}{fp cp pos:Pos}{Q:Out→Loc→AH→Prop}(hx:τ.glob x=some (.typ "enumerate"))(hk:env.kindOf (τ.tab x)=some .globalImplicit)(hp:bQ e)
  (h:Ev g n env m H e fun p H'=>p = .tup []∧Q .next m H'):eU g n env m H (.For tg (.Call (.Name (τ.tab x) fp) [e] [] cp) body [] pos) Q:=by
 intro A s R S F
 refine wpAny_For ?_ (fun O=>rfl)
 rw [show eval (.Call (.Name (τ.tab x) fp) [e] [] cp) env=(eval (.Name (τ.tab x) fp) env >>= fun v=>callWith cp v [] (backTo cp (starEach [e] env)) []) from rfl]
 refine wpAny_bind ((Ev.glob (Q:=fun p H₁=>p = .typ "enumerate"∧H₁=H) hg hx hk ⟨rfl,rfl⟩).then R S F fun v s' p H' r S' c F' q=>?_)
 obtain⟨rfl,rfl⟩:=q
 have r':=r
 cases r'
 have noS:((backTo cp (starEach [e] env)).any (·.1))=false:=noStar fun y hy=>List.mem_singleton.mp hy▸hp
 refine callWith_of (P:=fun O=>True) (by rw [noS];rfl) (fun hh O=>⟨.machine,.inr (.inl rfl),.now⟩) ?_
 have ev:oJ g n env m H' cp [e] fun l H₂=>l=[.tup []]∧Q .next m H₂:=oJ.cons hp (h.mono fun p H₁ w=>oJ.nil ⟨by rw [w.1],w.2⟩)
 have key:wpAny (model g.prog g.w) A (spliced (backTo cp (starEach [e] env))) (fun vs s₁=>True∧wpAny (model g.prog g.w) A (call (.type "enumerate") ([]++vs) []) (fun y s₂=>wpAny (model g.prog g.w) A (pyIter y) (fun it s₃=>
   codeAny (model g.prog g.w) A (.forLoop tg it body [] env) (fun r s'=>match r with | .ok f=>Kh g env s H' Q f s' | .error e=>cameBackBy (model g.prog g.w) A env (fun O O=>False) e s') s₃) (fun O O=>False) s₂) (fun O O=>False) s₁) (fun O O=>False) s':=
  by
  refine ev.then R S' F' fun vs s₁ l H₁ r₁ S₁ c₁ F₁ z q=>⟨trivial,?_⟩
  obtain⟨rfl,q⟩:=q
  obtain⟨v1,r2,rfl,⟨t,vs0,k,rfl,ot,rl⟩,rfl⟩:=r₁
  cases rl
  refine uY ot fun h' he hit hk=>?_
  have c2:m9 g {s₁ with heap:=h'} H₁∧Calm s₁.heap H₁ h' H₁:=S₁.kept hk s₁.toks
  have F2:=F₁.goes c2.2
  obtain⟨f1,f2,f3⟩:=bB S₁
  refine wpAny_pyIter_enum he (codeAny_forLoop_any (fun j s'=>j=0∧s'={s₁ with heap:=h'}) (fun j s' hj=>?_) 0 ⟨rfl,rfl⟩)
  obtain⟨rfl,rfl⟩:=hj
  unfold pyNext
  have hT:Shared.TypeIs {s₁ with heap:=h'} (.ref (s₁.heap.objs.size+1)) "enumerate" := ⟨_,he,rfl⟩
  refine wpAny_bind (wpAny_attempt (wpAny_callSpecial?_slot (name:=Str.ofString "__next__") hT PySem.F.slot_enumerate_next (wpAny_call_entry PySem.F.slot_enumerate_next hT PySem.F.entry_enumerate_next ?_ (PySem.F.args_enumerate_next_1 _))))
  show wpAny _ _ (field (.ref (s₁.heap.objs.size+1)) 2 >>= _) _ _ _
  refine wpAny_bind (wpAny_field he rfl (x:=.ref s₁.heap.objs.size) rfl ?_)
  refine wpAny_bind (rH R.handled hit ⟨_,hk _ _ ot,rfl,_,rfl⟩ rfl fun h2 e2 B he2=>?_)
  obtain⟨o,ho,hc⟩:=he2
  refine wpAny_bind (wpAny_isInstance (T := "StopIteration") (b:=true) ⟨o,ho,hc⟩ isSubtype_stop ?_)
  refine wpAny_pure (wpAny_execs_nil ?_)
  have k2:∀b o,s₁.heap.get? b=some o→h2.get? b=some o:=fun b o w=>B b o (Nat.ne_of_lt (Heap.lt_size w)) (hk b o w)
  obtain⟨S2,C2⟩:=S₁.kept k2 s₁.toks
  exact⟨.next,m,H₁,rfl,S2,F₁.goes C2,((c.trans c₁).trans C2).own,q⟩
 have hx':backTo cp (starEach [e] env)=(false,eval e env)::backTo cp (starEach [] env):=by rw [hp [] env];rfl
 rw [hx'] at key ⊢
 exact evalArgs_plain key
noncomputable def am6(m:Loc)(Q:Out→Loc→AH→Prop)(H:AH)(l:List PV):Prop:=sel l.isEmpty (Q .next m H) False
noncomputable def kFe(m:Loc)(Q:Out→Loc→AH→Prop)(p:PV)(H:AH):Prop:=lk p.Lg (am6 m Q H)
noncomputable def S.am7(t:Tg)(x:Nat)(e:X)(body:List S):S:=⟨fun tab s=>.For (t.to tab (G8 s 0)) (.Call (.Name (tab x) (kid (G8 s 1) 0).pos) [e.to tab (kid (G8 s 1) 1)] [] (G8 s 1).pos) (rG tab body (blk s)) [] s.pos,fun τ ns s=>(Dm .globalImplicit ns (τ.tab x)&&(match τ.glob x with|some (.typ t)=>t == "enumerate" | _=>false))&&e.ok τ ns (kid (G8 s 1) 1),fun g n m H Q=>e.wE g n m H (kFe m Q),fun{τ O} hg O O O O O O s h he w=>eU.ZS hg (by
  have z:=(d7 (d7 h).1).2
  cases e1:τ.glob x with
  |none=>rw [e1] at z;cases z
  |some p=>
   rw [e1] at z
   cases p<;>first|(cases z;done)|exact congrArg (fun t=>some (PV.typ t)) (eq_of_beq z)) (he.ok.look _ _ (T5 (d7 (d7 h).1).1) nofun) (e.sh _ _).plain ((e.sE hg _ (d7 h).2 he.ok w).mono fun p H' w=>(K8 w).elim fun l z=>(mV z.2).imp (fun k=>by rw [Eb z.1,List.isEmpty_iff.mp k]) id)⟩
end Mine.Internal
namespace Mine.Internal
open PySem PySem.W PySem.Calls PyProof.Rows
section
variable{τ:T}{g:G τ}{s:Shared}{H:AH}
theorem m9.tab{h':Heap}{P:Addr}{q:Str}(S:m9 g s H)(hP:H P=some (.code q))(B:Heap.ExtBut P s.heap h')(r:iC g h' H P (.code q))(t:Nat):m9 g {s with heap:=h',toks:=t} H∧Calm s.heap H h' H:=by
 obtain⟨ps,e,_⟩:=S.obj _ _ hP
 have ne:∀b,H b=none→b≠P:=fun b z w=>by rw [w,hP] at z;cases z
 have nt:∀b o n,s.heap.get? b=some o→o.cls = .type n→b≠P:=fun b o n eb k w=>by rw [w,e] at eb;cases eb;cases k
 have pr:N7 s.heap H h' H:=⟨fun b o xs k eb O c=>B b o (nt b o _ eb c) eb,fun b o xs k eb O c z=>⟨B b o (ne b z) eb,z⟩,fun b o xs eb O c=>B b o (c.elim (nt b o _ eb) (nt b o _ eb)) eb⟩
 refine⟨⟨fun b o eb=>B b o (fun w=>?_) (S.keep b o eb),S.fresh,fun a o ea=>?_,S.gens,S.os⟩,fun b o eb z O=>B b o (ne b z) eb,fun b z w=>absurd z w,fun b o eb=>?_,pr⟩
 ·have:=S.fresh P (by rw [hP];exact nofun)
  rw [w,this] at eb;cases eb
 ·by_cases w:a=P
  ·subst w;rw [hP] at ea;cases ea;exact r
  ·exact(S.obj a o ea).keeps pr fun x ex=>B a x w ex
 ·by_cases w:b=P
  ·subst w;exact r.has
  ·exact⟨o,B b o w eb⟩
theorem v8.grow(hg:v8 g){h':Heap}(k:∀b o,g.h₀.get? b=some o→h'.get? b=some o):v8 (⟨g.w,h',g.os⟩:G τ):=by
 have pr:N7 g.h₀ (fun O=>none) h' (fun O=>none):=⟨fun b o O O e O O=>k b o e,fun b o O O e O O q=>⟨k b o e,q⟩,fun b o O e O O=>k b o e⟩
 obtain⟨mg,mb,n1,n2,n3⟩:=hg.names
 obtain⟨mg',b1,b2⟩:=hg.bm
 refine{inj:=hg.inj,YW:=hg.YW,X:=hg.X.keeps k,nolimit:=hg.nolimit.keeps k,aq:=hg.aq,Gh:=hg.Gh,fld:=hg.fld,meth:=hg.meth,fn:=hg.fn,qK:=hg.qK,init:=hg.init,names:=⟨mg,mb,n1.keeps k,n2.keeps k,fun x p e=>(n3 x p e).elim fun v z=>⟨v,z.1,z.2.keeps pr⟩⟩,mods:=fun e=>?_,bm:=⟨mg',b1.keeps k,fun P hP=>?_⟩,lam:=fun ns c P q e=>⟨(hg.lam ns c P q e).1.keeps k,(hg.lam ns c P q e).2⟩,sd:=fun a x p e=>?_}
 ·cases q:g.h₀.get? sysModules with
  |none=>exact hg.mods q
  |some o=>exact nomatch (k _ _ q).symm.trans e
 ·obtain⟨bm,o,c1,c2,c3,c4,c5,c6⟩:=b2 P fun o e=>hP o (k _ _ e)
  exact⟨bm,o,c1,c2,c3,c4,k _ _ c5,c6⟩
 ·obtain⟨m,v,⟨o,es,ep,e1,e2⟩,a2,r⟩:=hg.sd a x p e
  exact⟨m,v,⟨o,es,ep,k _ _ e1,e2⟩,a2,r.keeps pr⟩
noncomputable def iV(h:Heap)(H:AH):Heap:=hideAll h ((List.range h.objs.size).filter fun b=>(H b).isSome)
theorem Aj{h:Heap}{b:Addr}{o:Obj}(e:(iV h H).get? b=some o):h.get? b=some o∧H b=none:=by
 have e':=of_hideAll _ e
 refine⟨e',?_⟩
 cases q:H b with
 |none=>rfl
 |some x=>
  have:(iV h H).get? b=none:=hideAll_none _ (List.mem_filter.mpr ⟨List.mem_range.mpr (Heap.lt_size e'),by rw [q];rfl⟩)
  rw [this] at e;cases e
theorem gH{h:Heap}{b:Addr}{o:Obj}(e:h.get? b=some o)(z:H b=none):(iV h H).get? b=some o:=
 hideAll_get _ e fun w=>by have:=(List.mem_filter.mp w).2;rw [z] at this;cases this
theorem m9.base(S:m9 g s H){b:Addr}{o:Obj}(e:g.h₀.get? b=some o):(iV s.heap H).get? b=some o:=gH (S.keep b o e) (by
 cases q:H b with
 |none=>rfl
 |some x=>have:=S.fresh b (by rw [q];exact nofun);rw [this] at e;cases e)
theorem m9.wide(S:m9 g s H):m9 (⟨g.w,iV s.heap H,g.os⟩:G τ) s H:=
 ⟨fun b o e=>(Aj e).1,fun a z=>by
  cases q:(iV s.heap H).get? a with
  |none=>rfl
  |some o=>exact absurd (Aj q).2 z,S.obj,S.gens,S.os⟩
theorem m9.narrow{h':Heap}(k:∀b o,g.h₀.get? b=some o→h'.get? b=some o)(S:m9 (⟨g.w,h',g.os⟩:G τ) s H):m9 g s H:=
 ⟨fun b o e=>S.keep b o (k b o e),fun a z=>(by
  cases q:g.h₀.get? a with
  |none=>rfl
  |some o=>exact nomatch (k a o q).symm.trans (S.fresh a z)),S.obj,S.gens,S.os⟩
theorem m9.again{h':Heap}{s':Shared}{H':AH}(S:m9 (⟨g.w,h',g.os⟩:G τ) s H)(S':m9 g s' H')(c:Calm s.heap H s'.heap H'):m9 (⟨g.w,h',g.os⟩:G τ) s' H':=by
 have un:∀b o,h'.get? b=some o→H b=none:=fun b o e=>by
  cases q:H b with
  |none=>rfl
  |some x=>exact nomatch e.symm.trans (S.fresh b (by rw [q];exact nofun))
 refine⟨fun b o e=>c.keep b o (S.keep b o e) (un b o e) id,fun a z=>?_,S'.obj,S'.gens,S'.os⟩
 cases q:h'.get? a with
 |none=>rfl
 |some o=>have:=c.new a (un a o q) z;rw [S.keep a o q] at this;cases this
end
structure Ma(τ:T)(pl go:Nat)(ps:Arguments)(body:PE)(sc:Scope):Prop where
 args:∃a:Arg,a.arg=τ.tab go∧ps=⟨[],[a],none,[],[],none,[]⟩
 kind:sc.kind = .function
 co:sc.isCoroutine=false
 gen:sc.isGenerator=false
 names:sc.names=[(τ.tab go,.local),(τ.tab pl,.free)]
 body:∃p1 p2 p3,body = .Subscript (.Name (τ.tab pl) p1) (.Name (τ.tab go) p2) p3
noncomputable def rJ{τ:T}(g:G τ)(pl:Nat)(q:Str)(ps:Arguments)(body:PE)(sc:Scope)(h:Heap)(f cc:Addr):Prop:=
 ∃pm c' ctv o vs t,h.get? f=some {cls:=.type "function",data:=.func (kla_fn "<lambda>" q ps body sc [(g.tab pl,cc)] pm (.ref c') ctv)}∧h.get? c'=some o∧o.cls = .type "code"∧o.data = .fields vs∧vs[1]? = some (.str q t)
section
variable{τ:T}{g:G τ}{s:Shared}{H:AH}{A:Around}
set_option tactic.hygienic true in
omit g s H A in
theorem Eh{pos:Pos}{v c:Value}{i j:Nat}(n:Nat):∀{l:List Value},l.length≤n→TriplesOk l→codeAmong pos (l++[rawInt i,rawInt j,c])=some v→codeAmong pos l=some v∨v=c:=by
 have nil:codeAmong pos ([]++[rawInt i,rawInt j,c])=some v→codeAmong pos []=some v∨v=c:=fun z=>.inr (aA (show(if _ then some c else none)=some v from z)).2.symm
 induction n with
 |zero=>
  intro l h _ z
  cases List.eq_nil_of_length_eq_zero (Nat.le_zero.mp h)
  exact nil z
 |succ n ih=>
  intro l h w z
  cases l with
  |nil=>exact nil z
  |cons x l=>
   cases x<;>first|exact(show False from w).elim|skip
   case int a t=>
    cases l with
    |nil=>exact(show False from w).elim
    |cons y l=>
     cases y<;>first|exact(show False from w).elim|skip
     case int b u=>
      cases l with
      |nil=>exact(show False from w).elim
      |cons d r=>
       have z:(if(a==pos.line&&b==pos.col)=true then some d else codeAmong pos (r++[rawInt i,rawInt j,c]))=some v:=z
       show(if(a==pos.line&&b==pos.col)=true then some d else codeAmong pos r)=some v∨v=c
       by_cases q:(a==pos.line&&b==pos.col)=true
       ·rw [if_pos q] at z;rw [if_pos q];exact .inl z
       ·rw [if_neg q] at z;rw [if_neg q];exact ih (Nat.le_of_succ_le (Nat.le_of_succ_le (Nat.le_of_succ_le_succ h))) w z
theorem fcode{env:Env}{c P:Addr}{q:Str}{pos:Pos}{fl:Nat}{nm:Str}{ps:Arguments}{sc:Scope}{b:FuncBody}{M:Model}{Q:Value→Shared→Prop}{E:Value→Shared→Prop}(S:m9 g s H)(hP:H P=some (.code q))(hc:env.code = .ref c)(C:CodeHd g.h₀ c P)
  (h:∀c' h' tk,Heap.ExtBut P s.heap h'→(∃o vs t,h'.get? c'=some o∧o.cls = .type "code"∧o.data = .fields vs∧vs[1]? = some (.str q t))→iC g h' H P (.code q)→Q (.ref c') {s with heap:=h',toks:=tk}):
  wpAny M A (functionCode env pos fl nm q ps sc b) Q E s:=by
 obtain⟨qs,e,tr,cs⟩:=S.obj _ _ hP
 have C':=C.keeps S.keep
 cases k:codeAmong pos qs.toList with
 |some v=>
  obtain⟨c',o,vs,t,rfl,a2,a3,a4,a5⟩:=cs pos v k
  exact wpAny_functionCode_hit hc (C'.code e tr) k (h c' s.heap s.toks (fun O O O e=>e) ⟨o,vs,t,a2,a3,a4,a5⟩ ⟨qs,e,tr,cs⟩)
 |none=>
  refine wpAny_functionCodeX hc (C'.code e tr) (C'.tab e) k fun c' h' tk hx hge hlt hcode hrec htab hnew=>?_
  obtain⟨P',_,_,⟨⟨o',vs',e1,e2,e3,_⟩,_⟩⟩:=hnew
  obtain⟨c2,o,vs,t,r1,r2,r3,r4⟩:=hrec
  cases r1
  rw [e1] at r2;cases r2
  rw [e3] at r3;cases r3
  refine h c' h' tk hx ⟨o',vs',t,e1,e2,e3,r4⟩ ⟨_,htab.2,?_,fun pos' v kv=>?_⟩
  ·obtain⟨_,_,_,_,_,_,_,_,_,op,f1,f2,_,_,_,_,_,f8,f9,f10,_⟩:=hcode
   rw [htab.2] at f8;cases f8;cases f9;exact f10
  ·rw [Array.toList_append] at kv
   rcases Eh _ (Nat.le_refl _) tr kv with kv|rfl
   ·obtain⟨c1,o1,vs1,t1,rfl,b2,b3,b4,b5⟩:=cs pos' v kv
    refine⟨c1,o1,vs1,t1,rfl,hx c1 o1 (fun w=>?_) b2,b3,b4,b5⟩
    rw [w,e] at b2;cases b2;cases b3
   ·exact⟨c',o',vs',t,rfl,e1,e2,e3,r4⟩
theorem Mf{env:Env}{m:Loc}{c P cc:Addr}{q:Str}{pl go:Nat}{ps:Arguments}{body:PE}{sc:Scope}{pos:Pos}{vc:Value}{E:Value→Shared→Prop}{k:Value→Shared→Prop}(hg:v8 g)(S:m9 g s H)(F:z9 g env m s.heap H)
  (hl:Ma τ pl go ps body sc) (hc:env.code = .ref c) (hq:env.qual ++ "<lambda>" = q) (C:CodeHd g.h₀ c P) (nP:P≠mainGlobals) (hP:H P=some (.code q)) (hcc:env.cells.lookup (τ.tab pl)=some cc) (ic:s.heap.IsCell cc (some vc))
  (h:∀s' f,m9 g s' H→Calm s.heap H s'.heap H→s.heap.get? f=none→rJ g pl q ps body sc s'.heap f cc→s'.heap.IsCell cc (some vc)→k (.ref f) s'):wpAny (model g.prog g.w) A (eval (.Lambda ps body sc pos) env) k E s:=by
 have hd:defaultsOf ps env=([],[]):=by
  obtain⟨a,_,rfl⟩:=hl.args
  rfl
 refine kla_eval hd ?_
 rw [hq,makeFunction_eq]
 simp only [List.zip_nil_right,List.filterMap_nil,List.isEmpty_nil,if_true,pure_bind]
 have hcl:closureFor sc env=pure [(τ.tab pl,cc)]:=by
  unfold closureFor
  rw [hl.names]
  simp only [List.forIn_cons,List.forIn_nil,cellOf,hcc]
  rfl
 obtain⟨mg,b1,b2⟩:=hg.bm
 have hPn:∀o,g.h₀.get? P≠some o:=fun o e=>nomatch e.symm.trans (S.fresh P (by rw [hP];exact nofun))
 obtain⟨bm,ob,b2,b3,b4,b5,b6,b7,b8,b9⟩:=b2 P hPn
 unfold makeTail
 rw [hcl,F.globs]
 refine wpAny_bind (wpAny_pure ?_)
 refine wpAny_bind (wpAny_newTextTuple ?_)
 have S1:=S.push {cls:=.type "tuple",data:=.seq ([(τ.tab pl,cc)].map fun x=>Value.str x.1 0).toArray} s.toks
 refine wpAny_bind (fcode (s:={s with heap:=s.heap.push _}) (S.push _ s.toks) hP hc C fun c' h' tk hx hr ho=>?_)
 obtain⟨S2,C2⟩:=(S.push _ s.toks).tab hP hx ho tk
 refine wpAny_bind (wpAny_builtinsFor (b1.keeps S2.keep) b2 b3 (S2.keep _ _ b6) b7 b8 b9 ?_)
 refine wpAny_bind (wpAny_nsGet (b1.keeps S2.keep) ?_)
 refine wpAny_bind (wpAny_pure (wpAny_newObj_type ?_ (by size_fits)))
 obtain⟨oc,e1,e2⟩:=ic
 have hcH:H cc=none:=(F.cells _ _ hcc).1
 obtain⟨o,vs,t,r1,r2,r3,r4⟩:=hr
 have ZV:∀b o,s.heap.get? b=some o→H b=none→h'.get? b=some o:=fun b o e z=>hx b o (fun w=>by rw [w,hP] at z;cases z) (Heap.get?_push_of_some _ e)
 refine h _ _ (S2.push _ tk) ((Calm.push ..).trans (C2.trans (Calm.push ..))) ?_ ⟨_,c',_,o,vs,t,Heap.get?_push_size _ rfl,Heap.get?_push_of_some _ r1,r2,r3,r4⟩ ⟨oc,Heap.get?_push_of_some _ (ZV _ _ e1 hcH),e2⟩
 cases e:s.heap.get? h'.objs.size with
 |none=>rfl
 |some x=>
  obtain⟨y,hy⟩:=C2.ex _ _ (Heap.get?_push_of_some _ e)
  exact absurd (Heap.lt_size hy) (Nat.lt_irrefl _)
omit g s H A in
theorem rK{K V:Type} [BEq K] [LawfulBEq K]{k y:K}{v w:V}(e:[(k,v)].lookup y=some w):y=k∧w=v:=by
 rw [List.lookup_cons] at e
 cases z:y==k with
 |true=>rw [z] at e;cases e;exact⟨eq_of_beq z,rfl⟩
 |false=>rw [z] at e;cases e
omit g s H A in
theorem dz{K V:Type} [BEq K] [LawfulBEq K]{k j y:K}{v u w:V}(e:[(k,v),(j,u)].lookup y=some w):(y=k∧w=v)∨(y=j∧w=u):=by
 rw [List.lookup_cons] at e
 cases z:y==k with
 |true=>rw [z] at e;cases e;exact .inl ⟨eq_of_beq z,rfl⟩
 |false=>rw [z] at e;exact .inr (rK e)
omit g s H A in
theorem gJ{K V:Type} [BEq K] [LawfulBEq K]{k:K}{v:V}{r:List (K×V)}:((k,v)::r).lookup k=some v:=by rw [List.lookup_cons,beq_self_eq_true]
omit g s H A in
theorem GK{K V:Type} [BEq K] [LawfulBEq K]{k j:K}{v u:V}(ne:j≠k):[(k,v),(j,u)].lookup j=some u:=by rw [List.lookup_cons,beq_eq_false_iff_ne.mpr ne];exact gJ
theorem Mg{env:Env}{h₁:Heap}{go pl:Nat}{i:Int}{t:Tok}{D cc:Addr}{mv:Str→Option Value}(hk:env.scope.kind = .function)(e1:env.globals=mainGlobals)(e2:env.builtins=builtinsNs)
  (kd:∀y,env.kindOf y=[(g.tab go,NameKind.local),(g.tab pl,.free)].lookup y) (ne:g.tab pl≠g.tab go) (ec:env.cells=[(g.tab pl,cc)]) (hns:h₁.Ns env.locals mv) (mg:mv (g.tab go)=some (.int i t))
  (c:h₁.IsCell cc (some (.ref D))) (lH:H env.locals=none) (lB:g.h₀.get? env.locals=none) (cH:H cc=none) (c0:g.h₀.get? cc=none):z9 g env [(go,.int i),(pl,.obj D)] h₁ H:=by
 have one:∀{y c},env.cells.lookup y=some c→y=g.tab pl∧c=cc:=fun e=>rK (ec▸e)
 have kl:env.kindOf (g.tab go)=some .local:=(kd _).trans gJ
 have kf:env.kindOf (g.tab pl)=some .free:=(kd _).trans (GK ne)
 refine⟨hk,e1,e2,⟨mv,hns,fun x p e k=>?_⟩,fun x p e k=>?_,fun x p e=>?_,lH,lB,fun y c' e=>?_,fun y z c e1 e2=>(one e1).1.trans (one e2).1.symm,fun y k=>?_⟩
 ·rcases dz e with⟨rfl,rfl⟩|⟨rfl,rfl⟩
  ·exact⟨.int i t,mg,t,rfl⟩
  ·exact nomatch kf.symm.trans k
 ·rcases dz e with⟨rfl,rfl⟩|⟨rfl,rfl⟩
  ·rcases k with k|k<;>exact nomatch kl.symm.trans k
  ·exact⟨cc,.ref D,ec▸gJ,c,rfl⟩
 ·rcases dz e with⟨rfl,rfl⟩|⟨rfl,rfl⟩
  ·exact .inl kl
  ·exact .inr (.inr kf)
 ·obtain⟨rfl,rfl⟩:=one e
  exact⟨cH,c0,_,c⟩
 ·rcases dz ((kd y).symm.trans k) with⟨_,z⟩|⟨_,z⟩<;>exact nomatch z
theorem Mh{h':Heap}{f cc D:Addr}{q:Str}{pl go n:Nat}{ps:Arguments}{body:PE}{sc:Scope}{i:Int}{Q:PV→AH→Prop}(hg:v8 g)(kk:∀b o,g.h₀.get? b=some o→h'.get? b=some o)(hl:Ma τ pl go ps body sc)(ne:pl≠go)
  (hL:rJ g pl q ps body sc h' f cc) (ic:h'.IsCell cc (some (.ref D))) (c0:g.h₀.get? cc=none) (w:SubL g (.obj D) (.int i) H Q):Cl (⟨g.w,h',g.os⟩:G τ) (n+1) (.obj f) [.int i] H Q:=Dl.cl fun A s v vs R S rv rl=>by
 cases rv
 obtain⟨v1,r1,rfl,⟨t,rfl⟩,rfl⟩:=rl
 obtain⟨pm,c',ctv,o,fs,t',k1,k2,k3,k4,k5⟩:=hL
 have k1':=S.keep _ _ k1
 obtain⟨oc,c1,c2⟩:=ic
 have un:∀b o,h'.get? b=some o→H b=none:=fun b o e=>by
  cases z:H b with
  |none=>rfl
  |some x=>exact nomatch e.symm.trans (S.fresh b (by rw [z];exact nofun))
 obtain⟨a,ea,rfl⟩:=hl.args
 have hb:=rB (fd:=kla_fn "<lambda>" q ⟨[],[a],none,[],[],none,[]⟩ body sc [(g.tab pl,cc)] pm (.ref c') ctv) (vs:=[.int i t]) rfl rfl (List.nodup_cons.mpr ⟨List.not_mem_nil,List.nodup_nil⟩) rfl
 refine kla_callFunE (by have:=R.depth;exact Mine.Internal.rm3 ‹_›) k1' rfl hl.co hl.gen rfl ⟨c',o,fs,t',rfl,S.keep _ _ k2,k4,k5⟩ ?_
 rw [hb]
 have S0:m9 g s H:=S.narrow kk
 refine wpAny_pure (wpAny_newFunctionEnv (fun x hx=>?_) (fun x hx=>?_) (fun h₁ hns hsb=>⟨?_,?_⟩) hl.kind)
 ·have hx:x∈sc.names:=hx
  rw [hl.names] at hx
  rcases List.mem_cons.mp hx with rfl|hx
  ·exact nofun
  ·rw [List.mem_singleton.mp hx];exact nofun
 ·obtain rfl:x=(a.arg,.int i t):=List.mem_singleton.mp hx
  show sc.names.lookup a.arg=_
  rw [hl.names,ea];exact gJ
 ·exact(hg.nolimit.keeps S0.keep).fresh _ hsb
 show codeAny _ _ (.expr body (envX q sc s.heap.objs.size f (.ref c') [(g.tab pl,cc)])) _ _
 have hk₁:∀b o,s.heap.get? b=some o→h₁.get? b=some o:=fun b o e=>hsb.extBut b o (Nat.ne_of_lt (Heap.lt_size e)) (Heap.get?_push_of_some _ e)
 have C0:Calm s.heap H h₁ H:=⟨fun b o e O O=>hk₁ b o e,fun O a b=>absurd a b,fun b o e=>⟨o,hk₁ b o e⟩,⟨fun b o O O e O O=>hk₁ b o e,fun b o O O e O O q=>⟨hk₁ b o e,q⟩,fun b o O e O O=>hk₁ b o e⟩⟩
 have S1:m9 g ({s with heap:=h₁,toks:=s.toks+1}:Shared) H:=⟨fun b o e=>hk₁ b o (S0.keep b o e),S0.fresh,fun a o e=>(S0.obj a o e).keeps C0.q8 fun x e=>hk₁ _ x e,S0.gens,S0.os⟩
 have kd:∀y,(envX q sc s.heap.objs.size f (.ref c') [(g.tab pl,cc)]).kindOf y=[(τ.tab go,NameKind.local),(τ.tab pl,.free)].lookup y:=fun y=>by
  show sc.names.lookup y=_
  rw [hl.names]
 have F:z9 g (envX q sc s.heap.objs.size f (.ref c') [(g.tab pl,cc)]) [(go,.int i),(pl,.obj D)] h₁ H:=
  Mg hl.kind rfl rfl kd (fun z=>ne (hg.inj _ _ z)) rfl hns (by show [(a.arg,Value.int i t)].lookup (g.tab go)=_;rw [ea];exact gJ) ⟨oc,hk₁ _ _ (S.keep _ _ c1),c2⟩ (S.off (Nat.le_refl _))
   (by
    cases z:g.h₀.get? s.heap.objs.size with
    |none=>rfl
    |some o=>exact absurd (Heap.lt_size (S0.keep _ o z)) (Nat.lt_irrefl _)) (un _ _ c1) c0
 obtain⟨p1,p2,p3,rfl⟩:=hl.body
 have R1:K1 n (A.deeper (envX q sc s.heap.objs.size f (.ref c') [(g.tab pl,cc)])):=⟨R.handled,by have:=R.depth;show A.depth+1+2*n<_;lia,by have:=R.units;show A.units+3+20*n+100<_;exact Mine.Internal.rm2 ‹_›⟩
 have ev:Ev g n (envX q sc s.heap.objs.size f (.ref c') [(g.tab pl,cc)]) [(go,.int i),(pl,.obj D)] H (.Subscript (.Name (τ.tab pl) p1) (.Name (τ.tab go) p2) p3) Q:=
  Ev.sub hg (Ev.loc (x:=pl) (p:=.obj D) hg (GK ne) (Ev.loc (x:=go) (p:=.int i) hg gJ w))
 refine kla_codeExpr (wpAny_mono (ev _ _ R1 S1 F) (fun u s' z=>?_) fun O O z=>z.elim)
 obtain⟨p,H',r,S',c,z⟩:=z
 have cc:=C0.trans c
 exact⟨u,rfl,p,H',r,S.again S' cc,cc,z⟩
theorem at3{α β:Type}{h:Heap}{a:Addr}{x:Obj}{P:Obj→α→β→Prop}(z:∃o b c,h.get? a=some o∧P o b c)(e:h.get? a=some x)(k:∀b c,P x b c→False):False:=
 z.elim fun O z=>z.elim fun b z=>z.elim fun c z=>k b c (Option.some.inj (z.1.symm.trans e)▸z.2)
theorem iC.Rj{h:Heap}{a:Addr}{o:q7}{x:Obj}{vs:Array Value}(r:iC g h H a o)(e:h.get? a=some x)(c:x.cls = .type "code")(d:x.data = .fields vs):False:=by
 cases o with
 |list l=>cases r with|mk _ _ e1 _=>cases e.symm.trans e1;exact nomatch d
 |m6 l=>exact r.elim fun O z=>at3 z.1 e fun O O w=>nomatch d.symm.trans w.2.1
 |w5 l=>exact r.elim fun O z=>at3 z.1 e fun O O w=>nomatch d.symm.trans w.2.1
 |w7 l=>exact r.elim fun O z=>at3 z.1 e fun O O w=>nomatch d.symm.trans w.2.1
 |inst C dx=>cases e.symm.trans (show h.get? a=_ from r);exact nomatch d
 |code nm=>exact r.elim fun O z=>by cases e.symm.trans z.1;cases c
 |attrs l=>exact r.elim fun O z=>at3 z.1 e fun O O w=>nomatch d.symm.trans w.1
theorem rJ.wide{pl:Nat}{q:Str}{ps:Arguments}{body:PE}{sc:Scope}{f cc:Addr}(S:m9 g s H)(h:rJ g pl q ps body sc s.heap f cc)(nf:H f=none):rJ (⟨g.w,iV s.heap H,g.os⟩:G τ) pl q ps body sc (iV s.heap H) f cc:=by
 obtain⟨pm,c',ctv,o,fs,t',k1,k2,k3,k4,k5⟩:=h
 refine⟨pm,c',ctv,o,fs,t',gH k1 nf,gH k2 ?_,k3,k4,k5⟩
 cases z:H c' with
 |none=>rfl
 |some o=>exact((S.obj _ _ z).Rj k2 k3 k4).elim
theorem ZW(f:Addr)(c:Value)(d:Option Addr)(fd:FuncData)(sl:Array (Option Value)):keepIn [(f,⟨c,d,.func fd,sl⟩)] (.ref f)=true:=by
 unfold keepIn;simp
theorem rJ.plain{h':Heap}{w:World}{os:OsState}{pl:Nat}{q:Str}{ps:Arguments}{body:PE}{sc:Scope}{f cc:Addr}(h:rJ (⟨w,h',os⟩:G τ) pl q ps body sc h' f cc):Plain (⟨w,h',os⟩:G τ) (.obj f):=fun M hp H v k r=>by
 cases r
 obtain⟨pm,c',ctv,o,fs,t',k1,_⟩:=h
 exact keeps_K (ZW f _ _ _ _) hp fun a o e=>by
  rw [List.lookup_cons] at e
  cases z:a==f with
  |true=>rw [z] at e;cases e;rw [eq_of_beq z];exact k _ _ k1
  |false=>rw [z] at e;cases e
inductive Jj(g:G τ)(n:Nat)(tm pl ret:Nat)(P:Addr)(m:Loc)(H:AH)(Q:PV→AH→Prop):Prop
 |mk {t:PV} {D fr:Addr} (e1:m.lookup tm=some t) (e2:m.lookup pl=some (.obj D)) (e3:τ.glob ret=some (.obj fr)) (hP:∀ns c q,τ.lam ns=some (c,P,q)→H P=some (.code q))
   (h:∀g':G τ,v8 g'→∀f,Plain g' (.obj f)→(∀(k:Nat) (i:Int) (v:PV) (l:List (Int×PV)) (H':AH) (Q':PV→AH→Prop),1≤k→H' D=some (.m6 l)→m8 i l=some v→Q' v H'→Cl g' k (.obj f) [.int i] H' Q')→Cl g' n (.obj fr) [t,.obj f] H Q):Jj g n tm pl ret P m H Q
noncomputable def Xh:PE→Arg
 |.Lambda ps _ _ _=>ps.args.headD default
 |_=>default
noncomputable def Rk:PE→List (Str×Const)
 |.Lambda _ _ sc _=>sc.more
 |_=>[]
noncomputable def xX:PE→PE
 |.Lambda _ b _ _=>b
 |e=>e
noncomputable abbrev ZX(tab:Nat→Str)(go:Nat)(e:PE):Arguments:=⟨[],[{Xh e with arg:=tab go}],none,[],[],none,[]⟩
noncomputable abbrev am8(tab:Nat→Str)(pl go:Nat)(e:PE):PE:=.Subscript (.Name (tab pl) (kid (xX e) 0).pos) (.Name (tab go) (kid (xX e) 1).pos) (xX e).pos
noncomputable abbrev aa0(tab:Nat→Str)(pl go:Nat)(e:PE):Scope:=⟨.function,[(tab go,.local),(tab pl,.free)],false,false,Rk e⟩
noncomputable abbrev am9(tab:Nat→Str)(tm pl go ret:Nat)(e:PE):PE:=.Call (.Name (tab ret) (kid e 0).pos) [.Name (tab tm) (kid e 1).pos,.Lambda (ZX tab go (kid e 2)) (am8 tab pl go (kid e 2)) (aa0 tab pl go (kid e 2)) (kid e 2).pos] [] e.pos
theorem Jj.ev{ns:Ns}{env:Env}{n:Nat}{m:Loc}{tm pl go ret:Nat}{P c:Addr}{q:Str}{ps:Arguments}{body:PE}{sc:Scope}{pos Xi p0 p1:Pos}{Q:PV→AH→Prop}(hg:v8 g)(he:jY τ ns env)(hk:Dm .globalImplicit ns (τ.tab ret)=true)(hc:Dm .cell ns (τ.tab pl)=true)(el:τ.lam ns=some (c,P,q))(hl:Ma τ pl go ps body sc)(ne:pl≠go)(hpl:ZG τ ret=true)
  (w:Jj g n tm pl ret P m H Q):Ev g n env m H (.Call (.Name (τ.tab ret) p0) [.Name (τ.tab tm) p1,.Lambda ps body sc pos] [] Xi) Q:=fun A s R S F=>by
 cases w with | @mk t D fr e1 e2 e3 hP h=>?_
 obtain⟨hcode,aa1⟩:=he.code _ el
 obtain⟨C,nP⟩:=hg.lam _ _ _ _ el
 have hP:=hP _ _ _ el
 show wpAny _ _ (eval (.Name (τ.tab ret) p0) env >>= fun v=>callWith Xi v [] (backTo Xi (starEach [.Name (τ.tab tm) p1,.Lambda ps body sc pos] env)) []) _ _ _
 refine wpAny_bind ((Ev.glob (Q:=fun p H'=>p = .obj fr∧H'=H) hg e3 (he.ok.look _ _ (T5 hk) nofun) ⟨rfl,rfl⟩).then R S F fun fv s0 p H0 r S0 c0 F0 z=>Y5.calm c0 ?_)
 obtain⟨rfl,rfl⟩:=z
 refine callWith_of (P:=fun hh => ∃H':AH,(∀b o,g.h₀.get? b=some o→hh.get? b=some o)∧Rep g.tab hh H' (.obj fr) fv) rfl (fun hh ⟨H',k,r⟩=>UW hg e3 hpl _ hh H' fv k r) ?_
 refine evalArgs_plain ?_
 refine spliced_cons ((Ev.loc (Q:=fun p H'=>p=t∧H'=H0) hg e1 ⟨rfl,rfl⟩).then R S0 F0 fun v s1 p H1 r1 S1 c1 F1 z=>?_)
 obtain⟨rfl,rfl⟩:=z
 obtain⟨cc,vc,k1,k2,k3⟩:=F1.cell pl _ e2 (.inl (he.ok.look _ _ (T5 hc) nofun))
 cases k3
 refine spliced_cons (Mf hg S1 F1 hl hcode aa1 C nP hP k1 k2 fun s2 f S2 c2 nf hL ic=>?_)
 refine spliced_nil ⟨⟨_,S2.keep,r.keeps (c1.trans c2).q8⟩,Y5.calm (c1.trans c2) ?_⟩
 have un:H1 f=none:=by
  cases z:H1 f with
  |none=>rfl
  |some o=>obtain⟨x,hx⟩:=(S1.obj _ _ z).has;exact nomatch hx.symm.trans nf
 obtain⟨q1,q2,_⟩:=F1.cells _ _ k1
 have hw:=hL.wide S2 un
 obtain⟨oc,ic1,ic2⟩:=ic
 have kk:∀b o,g.h₀.get? b=some o→(iV s2.heap H1).get? b=some o:=fun b o e=>S2.base e
 refine wpAny_mono (h ⟨g.w,iV s2.heap H1,g.os⟩ (hg.grow kk) f hw.plain (fun k i v l H' Q' k1 k2 k3 k4=>?_) A s2 fv [v,.ref f] R S2.wide (r.keeps (c1.trans c2).q8) ⟨v,_,rfl,r1.keeps c2.q8,.ref f,[],rfl,rfl,rfl⟩) (fun u s' ⟨p,H',a,b,c,d⟩=>⟨p,H',a,b.narrow kk,c,d⟩) fun O O x=>x
 obtain⟨j,rfl⟩:∃j,k=j+1:=⟨k-1,by lia⟩
 refine Mh hg kk hl ne hw ⟨oc,gH ic1 q1,ic2⟩ q2 (.od k2 k3 k4)
end
noncomputable def Vc(o:Option (Addr×Addr×Str))(P:Addr):Bool:=match o with
 |some x=>Nat.beq x.2.1 P
 |none=>false
theorem Mi{o:Option (Addr×Addr×Str)}{P:Addr}(h:Vc o P=true):∃c q,o=some (c,P,q):=by
 cases o with
 |none=>cases h
 |some x=>obtain⟨c,P',q⟩:=x;cases Nat.eq_of_beq_eq_true h;exact⟨c,q,rfl⟩
noncomputable def Rm(τ:T)(ns:Ns)(tm pl go ret:Nat)(P:Addr):Bool:=
 (Dm .globalImplicit ns (τ.tab ret)&&(Dm .cell ns (τ.tab pl)&&(!Nat.beq pl go&&ZG τ ret)))&&Vc (τ.lam ns) P
noncomputable def S.Mj(bl ap:Nat)(c:X)(tm pl go ret:Nat)(P:Addr):S:=
 ⟨fun tab s=>.Expr (.Call (.Attribute (.Name (tab bl) (kid (kid (G8 s 0) 0) 0).pos) (tab ap) (kid (G8 s 0) 0).pos) [.List [c.to tab (kid (kid (G8 s 0) 1) 0),am9 tab tm pl go ret (kid (kid (G8 s 0) 1) 1)] (kid (G8 s 0) 1).pos] [] (G8 s 0).pos) s.pos,fun τ ns s=>(QT "list" (τ.tab ap) "list.append" && ((kid (G8 s 0) 0).pos.endLine==(G8 s 0).pos.line))&&(c.ok τ ns (kid (kid (G8 s 0) 1) 0)&&Rm τ ns tm pl go ret P),fun g n m H Q=>lk (m.lookup bl) fun b=>pJ H "list" b∧c.wE g n m H fun p H₁=>Jj g n tm pl ret P m H₁ fun r H₂=>Cl g n (.blt "list.append") [b,.lst [p,r]] H₂ fun O H₃=>Q .next m H₃,fun{τ g} hg O O O O O O s h he w=>(K8 w).elim fun b z=>by
  obtain⟨h1,h2⟩:=d7 h
  obtain⟨h1,h3⟩:=d7 h1
  obtain⟨h2,h4⟩:=d7 h2
  obtain⟨h4,h5⟩:=d7 h4
  obtain⟨a1,a2⟩:=d7 h4
  obtain⟨a2,a3⟩:=d7 a2
  obtain⟨a3,a4⟩:=d7 a3
  obtain⟨cc,q,el⟩:=Mi h5
  refine eU.expr (by unfold interactive;rw [he.kind];rfl) rfl ?_
  refine Ev.Q0 hg (fun O O=>rfl) (Uz h1) h3 (by show(1:Nat)<30;decide) (fun e he=>List.mem_singleton.mp he▸fun O O=>rfl) (Ev.loc hg z.1 ⟨z.2.1,oJ.cons (fun O O=>rfl) (Ev.list (by show(2:Nat)≤_;rw [sizeLine_eq];decide) (oJ.cons (c.sh _ _).plain ((c.sE hg _ h2 he.ok z.2.2).mono fun p H₁ w=>oJ.cons (fun O O=>rfl) ?_)))⟩)
  exact(Jj.ev hg he a1 a2 el ⟨⟨_,rfl,rfl⟩,rfl,rfl,rfl,rfl,_,_,_,rfl⟩ (fun z=>by rw [z,Nat.beq_refl] at a3;cases a3) a4 w).mono fun r H₂ w=>oJ.nil (oJ.nil w)⟩
noncomputable def defOf(p:Program):List Nat→Option (Arguments×List Stmt×Scope)
 | [i]=>match p.main.body[i]? with
  |some (.FunctionDef _ a b _ _ _ sc _ _ _)=>some (a,b,sc)
  |_=>none
 | [i,j]=>match p.main.body[i]? with
  |some (.ClassDef _ _ _ cb _ _ _ _ _ _ _)=>match cb[j]? with
   |some (.FunctionDef _ a b _ _ _ sc _ _ _)=>some (a,b,sc)
   |_=>none
  |_=>none
 |_=>none
noncomputable def fnD(p:Program)(path:List Nat)(name qual:Str)(gl:Addr)(dflt doc pm code:Value)(bl:Addr):FuncData:=match defOf p path with
 |some (a,b,sc)=>⟨name,qual,a,.stmts b,sc,gl,[],dflt,.none,doc,pm,none,code,.none,bl⟩
 |none=>⟨name,qual,⟨[],[],none,[],[],none,[]⟩,.stmts [],⟨.function,[],false,false,[]⟩,gl,[],dflt,.none,doc,pm,none,code,.none,bl⟩
structure TD where
 prog:Program
 texts:List Str
 K:Frag
 wj:List (Nat×PV)
 Vd:List (Addr×List (Nat×PV))
 wk:List (Addr×List (Nat×Addr))
 wu:List (Addr×List (Nat×Addr))
 wz:List (Addr×Addr)
 Jk:List (Addr×List Nat)
 Xj:List (Addr×(List Nat×List Nat))
 Xk:List ((Nat×Nat)×Nat)
 Ml:Option (List Nat×Addr×Addr×Str)
noncomputable def tabOf(l:List Str)(i:Nat):Str:=(l[i]?).getD ⟨Array.replicate (i+1000) 1⟩
noncomputable def lk2{α:Type}(l:List (Addr×List (Nat×α))) (a:Addr) (x:Nat):Option α:=(l.lookup a).bind fun r=>r.lookup x
noncomputable def Xl:Data→Option FuncData
 |.func fd=>some fd
 |_=>none
noncomputable def nJ(K:Frag)(a:Addr):Option FuncData:=(K.lookup a).bind fun o=>Xl o.data
noncomputable def TD.T(d:TD):T where
 prog:=d.prog
 tab:=tabOf d.texts
 K:=d.K
 glob:=fun x=>d.wj.lookup x
 w5:=lk2 d.Vd
 fld:=fun C x=>(d.Jk.lookup C).any fun r=>r.elem x
 meth:=lk2 d.wk
 qK:=lk2 d.wu
 init:=fun x=>d.wz.lookup x
 fn:=fun a=>(d.Xj.lookup a).bind fun q=>(nJ d.K a).map fun fd=>⟨fd,q.2⟩
 cat:=fun a b=>d.Xk.lookup (a,b)
 lam:=fun ns=>d.Ml.bind fun r=>(defOf d.prog r.1).bind fun x=>if x.2.2.names=ns then some r.2 else none
noncomputable def Mp(i:Int):Value→Bool
 |.int j _=>decide (i=j)
 |_=>false
noncomputable def Mq(x:Str):Value→Bool
 |.str y _=>decide (y=x)
 |_=>false
noncomputable def Ve(f:List Value→Bool):Data→Bool
 |.seq vs _=>f vs.toList
 |_=>false
noncomputable def Mr(K:Frag)(f:List Value→Bool):Value→Bool
 |.ref a=>@Option.rec Obj (fun O=>Bool) false (fun o=>decide (o.cls = .type "tuple")&&o.dict.isNone&&(o.slots.size==0)&&Ve f o.data) (K.lookup a)
 |_=>false
theorem Mt{i:Int}:∀{v:Value},Mp i v=true→∃t,v = .int i t:=fun{v} e=>by
 cases v with
 |int j t=>exact⟨t,by rw [of_decide_eq_true e]⟩
 |_=>exact nomatch (show false=true from e)
theorem Mu{i:Str}:∀{v:Value},Mq i v=true→∃t,v = .str i t:=fun{v} e=>by
 cases v with
 |str j t=>exact⟨t,by rw [← of_decide_eq_true e]⟩
 |_=>exact nomatch (show false=true from e)
theorem Mv{K:Frag}{f:List Value→Bool}{h:Heap}{R:List Value→Prop}(X:K.In h)(z:∀vs,f vs=true→R vs){v:Value}(e:Mr K f v=true):YT h v R:=by
 cases v with
 |ref a=>
  have e:@Option.rec Obj (fun O=>Bool) false (fun o=>decide (o.cls = .type "tuple")&&o.dict.isNone&&(o.slots.size==0)&&Ve f o.data) (K.lookup a)=true:=e
  cases q:K.lookup a with
  |none=>rw [q] at e;cases e
  |some o=>
   rw [q] at e
   obtain⟨c,d,t,s⟩:=o
   have e:=Bool.and_eq_true_iff.mp e
   have e':=Bool.and_eq_true_iff.mp e.1
   have e'':=Bool.and_eq_true_iff.mp e'.1
   cases t with
   |seq vs n=>
    refine⟨a,vs.toList,n,rfl,?_,z _ e.2⟩
    have e1:c = .type "tuple" := of_decide_eq_true e''.1
    have e2:d=none:=Option.isNone_iff_eq_none.mp e''.2
    have e3:s = #[]:=Array.eq_empty_of_size_eq_zero (of_decide_eq_true e'.2)
    rw [X _ _ q,e1,e2,e3]
   |_=>exact nomatch (show false=true from e.2)
 |_=>exact nomatch (show false=true from e)
noncomputable def Ak(tab:Nat→Str)(K:Frag):PV→Value→Bool:=PV.rec (motive_1:=fun O=>Value→Bool) (motive_2:=fun O=>List Value→Bool)
 (fun v=>decide (v = .none)) (fun b v=>decide (v = .bool b)) Mp (fun n=>Mq (tab n)) (fun O f=>Mr K f) (fun O O O=>false) (fun a v=>decide (v = .ref a)) (fun n v=>decide (v = .builtin n)&&handedIn (.builtin n)) (fun n v=>decide (v = .type n)) (fun O O O=>false)
 List.isEmpty fun O O=>Kq
noncomputable def Mw(tab:Nat→Str)(K:Frag):List PV→List Value→Bool:=PV.rec_1 (motive_1:=fun O=>Value→Bool) (motive_2:=fun O=>List Value→Bool)
 (fun v=>decide (v = .none)) (fun b v=>decide (v = .bool b)) Mp (fun n=>Mq (tab n)) (fun O f=>Mr K f) (fun O O O=>false) (fun a v=>decide (v = .ref a)) (fun n v=>decide (v = .builtin n)&&handedIn (.builtin n)) (fun n v=>decide (v = .type n)) (fun O O O=>false)
 List.isEmpty fun O O=>Kq
section
variable{tab:Nat→Str}{K:Frag}{h:Heap}{H:AH}
theorem GP(vs:List Value)(e:vs.isEmpty=true):j7 tab h H [] vs:=List.isEmpty_iff.mp e
theorem Al{p:PV}{l:List PV}{f:Value→Bool}{g:List Value→Bool}(x:∀v,f v=true→Rep tab h H p v)(y:∀vs,g vs=true→j7 tab h H l vs)(vs:List Value)(e:Kq f g vs=true):j7 tab h H (p::l) vs:=by
 cases vs with
 |nil=>cases e
 |cons v vs=>exact⟨v,vs,rfl,x v (Bool.and_eq_true_iff.mp e).1,y vs (Bool.and_eq_true_iff.mp e).2⟩
noncomputable abbrev aa2(tab:Nat→Str)(K:Frag)(h:Heap)(H:AH)(p:PV):Prop := ∀v,Ak tab K p v=true→Rep tab h H p v
noncomputable abbrev aa3(tab:Nat→Str)(K:Frag)(h:Heap)(H:AH)(l:List PV):Prop := ∀vs,Mw tab K l vs=true→j7 tab h H l vs
theorem GQ(X:K.In h):∀p,aa2 tab K h H p:=
 PV.rec (motive_1:=aa2 tab K h H) (motive_2:=aa3 tab K h H)
  (fun v e=>of_decide_eq_true (p:=v = .none) e) (fun b v e=>of_decide_eq_true (p:=v = .bool b) e) (fun O O e=>Mt e) (fun O O e=>Mu e) (fun O z O e=>Mv X z e) (fun O O O e=>nomatch (show false=true from e)) (fun a v e=>of_decide_eq_true (p:=v = .ref a) e)
  (fun n v e=>⟨of_decide_eq_true (p:=v = .builtin n) (Bool.and_eq_true_iff.mp e).1,(Bool.and_eq_true_iff.mp e).2⟩) (fun n v e=>of_decide_eq_true (p:=v = .type n) e) (fun O O O e=>nomatch (show false=true from e)) GP fun O O x y=>Al x y
theorem Ei(X:K.In h){p:PV}{v:Value}(e:Ak tab K p v=true):Rep tab h H p v:=GQ X p v e
theorem Rn(X:K.In h){l:List PV}:aa3 tab K h H l:=by
 induction l with
 |nil=>exact GP
 |cons p l ih=>exact Al (GQ X p) ih
end
theorem mem_lookup{α:Type}{x:Nat}{p:α}:∀{l:List (Nat×α)},l.lookup x=some p→(x,p)∈l
 | [],e=>nomatch e
 | (y,q)::l,e=>by
  rw [List.lookup_cons] at e
  cases h:x==y with
  |true=>
   rw [h] at e
   cases e
   rw [beq_iff_eq.mp h]
   exact .head _
  |false=>
   rw [h] at e
   exact .tail _ (mem_lookup e)
theorem xY{α:Type}{a:Addr}{x:Nat}{p:α}{l:List (Addr×List (Nat×α))} (e:lk2 l a x=some p):∃r,(a,r)∈l∧(x,p)∈r:=by
 obtain⟨r,h,e⟩:=Option.bind_eq_some_iff.mp e
 exact⟨r,mem_lookup h,mem_lookup e⟩
noncomputable def qm(l:List Str):Bool:=l.all (fun x=>PySem.PyData.strOk x && !(x==("__debug__" : Str)) && !(x==("__classdict__" : Str))&&decide (x.cps.size<1000))
noncomputable def nameB(tab:Nat→Str)(K:Frag)(q:Nat×PV)(v:Value):Bool:=Ak tab K q.2 v && !(tab q.1==("__name__" : Str))
noncomputable def nameV(tab:Nat→Str)(K:Frag)(q:Nat×PV)(o:Option Value):Bool:=@Option.rec Value (fun O=>Bool) ((bootBuiltins (tab q.1)).any (nameB tab K q)) (Ak tab K q.2) o
noncomputable def Ej(tab:Nat→Str)(K:Frag)(q:Nat×PV):Bool:=(nsIn K mainGlobals (tab q.1)).any (nameV tab K q)
noncomputable def Mx(tab:Nat→Str)(K:Frag)(q:Addr×List Nat):Bool:=hasDictIn K q.1&&plainOver K q.1&&findIn K (.ref q.1) "__setattr__" == some (some (.builtin "object.__setattr__"))&&plainGet K q.1 "" && q.2.all fun x=>findIn K (.ref q.1) (tab x)==some none
noncomputable def Ek(tab:Nat→Str)(K:Frag)(q:Addr×List (Nat×Addr)):Bool:=plainGet K q.1 "" && q.2.all fun x=>findIn K (.ref q.1) (tab x.1)==some (some (.ref x.2))&&isFn K (.ref x.2)&&keepIn K (.ref x.2)
noncomputable def Mz(K:Frag)(a:Addr):Bool:=(nJ K a).any fun fd=>keepIn K (.ref a)&&codeIn K fd.code fd.qualname
noncomputable def aa4(f:Addr):Option CFound→Bool
 |some (.val v)=>decide (v = .ref f)
 |_=>false
theorem Ro{f:Addr}{o:Option CFound}(h:aa4 f o=true):o=some (.val (.ref f)):=by
 cases o with
 |none=>exact nomatch (show false=true from h)
 |some c=>cases c<;>first|exact nomatch (show false=true from h)|exact congrArg (fun v=>some (CFound.val v)) (of_decide_eq_true h)
noncomputable def El(tab:Nat→Str)(K:Frag)(q:Addr×List (Nat×Addr)):Bool:=specialIn K (.ref q.1) "__getattribute__" == some (some (.builtin "type.__getattribute__"))&&readsIn K q.1 (.type "type")&&q.2.all fun x=>aa4 x.2 (findCls K (.ref q.1) (.type "type") (tab x.1))&&keepIn K (.ref x.2)
noncomputable def Em(K:Frag)(q:Addr×Addr):Bool:=makesIn K q.1&&findIn K (.ref q.1) "__init__" == some (some (.ref q.2))&&isFn K (.ref q.2)&&keepIn K (.ref q.1)
noncomputable def Xm(tab:Nat→Str)(K:Frag)(q:Addr×List (Nat×PV)):Bool:=q.2.all fun x=>(nsIn K q.1 (tab x.1)).any fun o=>o.any (Ak tab K x.2)
noncomputable def Xn(K:Frag)(a:Addr):Bool:=(K.lookup a).isSome
noncomputable def GR(d:TD):Bool:=match d.Ml with
 |some (_,c,P,_)=>codeHdIn d.K c P && !Nat.beq P mainGlobals
 |none=>true
theorem MF{d:TD}{ns:List (Str×NameKind)}{c P:Addr}{q:Str}(e:d.T.lam ns=some (c,P,q)):∃path,d.Ml=some (path,c,P,q):=by
 obtain⟨⟨path,r⟩,h,e⟩:=Option.bind_eq_some_iff.mp e
 obtain⟨x,h2,e⟩:=Option.bind_eq_some_iff.mp e
 exact⟨path,(aA e).2▸h⟩
noncomputable def TD.ok(d:TD):Bool:=let tab:=tabOf d.texts
 d.wj.all (Ej tab d.K)&&d.Jk.all (Mx tab d.K)&&d.wk.all (Ek tab d.K)&&d.Xj.all (fun q=>Mz d.K q.1)&&d.wu.all (El tab d.K)&&d.wz.all (Em d.K)&&d.Vd.all (Xm tab d.K)&&Xn d.K sysModules&&GR d
theorem jZ{l:List Str}{i:Nat}(h:i<l.length):tabOf l i=l[i]:=by unfold tabOf;rw [List.getElem?_eq_getElem h];rfl
theorem fH{l:List Str}{i:Nat}(h:¬i<l.length):tabOf l i=⟨Array.replicate (i+1000) 1⟩:=by unfold tabOf;rw [List.getElem?_eq_none (by exact Nat.le_of_not_lt ‹_›)];rfl
theorem jr{l:List Str}(h:qm l=true)(i:Nat):PySem.PyData.strOk (tabOf l i)=true∧(tabOf l i==("__debug__" : Str))=false∧(tabOf l i==("__classdict__" : Str))=false:=by
 by_cases q:i<l.length
 ·rw [jZ q]
  have:=List.all_eq_true.mp h _ (List.getElem_mem q)
  simp only [Bool.and_eq_true,Bool.not_eq_true',decide_eq_true_eq] at this
  exact⟨this.1.1.1,this.1.1.2,this.1.2⟩
 ·rw [fH q]
  refine⟨?_,?_,?_⟩
  ·unfold PySem.PyData.strOk
   rw [Array.all_eq_true]
   intro j hj
   simp
  ·rw [beq_eq_false_iff_ne]
   intro e
   have:=congrArg (fun x:Str=>x.cps.size) e
   simp only [Array.size_replicate] at this
   have k:("__debug__" : Str).cps.size=9:=by decide +kernel
   lia
  ·rw [beq_eq_false_iff_ne]
   intro e
   have:=congrArg (fun x:Str=>x.cps.size) e
   simp only [Array.size_replicate] at this
   have k:("__classdict__" : Str).cps.size=13:=by decide +kernel
   lia
theorem Jl{l:List Str}(h:qm l=true)(nd:l.Nodup)(i j:Nat)(e:tabOf l i=tabOf l j):i=j:=by
 have sz:∀k,k<l.length→(tabOf l k).cps.size<1000:=fun k q=>by
  rw [jZ q]
  have:=List.all_eq_true.mp h _ (List.getElem_mem q)
  simp only [Bool.and_eq_true,decide_eq_true_eq] at this
  exact this.2
 by_cases q:i<l.length<;>by_cases q':j<l.length
 ·rw [jZ q,jZ q'] at e
  exact(List.getElem_inj nd).mp e
 ·have:=sz i q
  rw [e,fH q',Array.size_replicate] at this
  lia
 ·have:=sz j q'
  rw [← e,fH q,Array.size_replicate] at this
  lia
 ·rw [fH q,fH q'] at e
  have:=congrArg (fun x:Str=>x.cps.size) e
  simp only [Array.size_replicate] at this
  lia
theorem any_some{α:Type}{o:Option α}{f:α→Bool}(h:o.any f=true):∃x,o=some x∧f x=true:=by
 cases o with
 |none=>cases h
 |some x=>exact⟨x,rfl,h⟩
theorem Vf{d:TD}{f:Addr}{x:Fn}(e:d.T.fn f=some x):∃path,(f,path,x.ps)∈d.Xj∧nJ d.K f=some x.fd:=by
 obtain⟨⟨path,ps⟩,h1,e⟩:=Option.bind_eq_some_iff.mp e
 obtain⟨fd,h2,rfl⟩:=Option.map_eq_some_iff.mp e
 exact⟨path,mem_lookup h1,h2⟩
theorem Am{K:Frag}{a:Addr}{fd:FuncData}(e:nJ K a=some fd):∃oc od osl,K.lookup a=some ⟨oc,od,.func fd,osl⟩:=by
 obtain⟨⟨oc,od,dt,osl⟩,h,e⟩:=Option.bind_eq_some_iff.mp e
 cases dt<;>first|exact nomatch (show none=some fd from e)|(cases e;exact⟨_,_,_,h⟩)
structure Base(mg mb:Str→Option Value)(h:Heap):Prop where
 g:h.Ns mainGlobals mg
 b:h.Ns builtinsNs mb
 nolimit:h.NoLimit
 builtins:∀x:Str,x≠"__name__"→mb x=bootBuiltins x
 bmain:∃bm ob,mg "__builtins__" = some (.ref bm)∧bm≠builtinsNs∧h.get? bm=some ob∧ob.cls = .type "module"∧ob.dict=some builtinsNs∧ob.data = .plain
theorem v8.of{d:TD}{g:G d.T}{mg mb:Str→Option Value}(h:d.ok=true)(ht:qm d.texts=true)(nd:d.texts.Nodup)
  (X:d.K.In g.h₀) (T:Base mg mb g.h₀) (hsd:∀q∈d.Vd,∃es n,d.K.lookup q.1=some ⟨.type "dict",none,.dict es n,#[]⟩∧KeysLit g.w.params es.toList):v8 g:=by
 have h':=h
 simp only [TD.ok,Bool.and_eq_true] at h'
 obtain⟨⟨⟨⟨⟨⟨⟨⟨h1,h2⟩,h3⟩,h4⟩,h5⟩,h6⟩,h7⟩,h8⟩,h9⟩:=h'
 refine{
  inj:=Jl ht nd
  YW:=fun i=>(jr ht i).2.1
  X:=X
  nolimit:=T.nolimit
  names:=⟨mg,mb,T.g,T.b,fun x p e=>?_⟩
  mods:=?_
  bm:=⟨mg,T.g,fun P hP=>?_⟩
  lam:=fun ns c P q e=>?_
  aq:=fun i=>(jr ht i).1
  Gh:=fun i=>(jr ht i).2.2
  fld:=fun C x e=>?_
  meth:=fun C x f e=>?_
  fn:=fun f x e=>?_
  qK:=fun C x f e=>?_
  sd:=fun a x p e=>?_
  init:=fun C f e=>?_}
 ·have k:=List.all_eq_true.mp h1 _ (mem_lookup e)
  obtain⟨o,hv,k⟩:=any_some k
  cases o with
  |some v=>exact⟨v,.inl (mg_of X T.g hv),Ei X k⟩
  |none=>
   obtain⟨v,hb,k⟩:=any_some k
   exact⟨v,.inr ⟨mg_none_of X T.g hv,(T.builtins _ (beq_eq_false_iff_ne.mp ((Bool.not_eq_true' _).mp (d7 k).2))).trans hb⟩,Ei X (d7 k).1⟩
 ·obtain⟨o,e⟩:=Option.isSome_iff_exists.mp h8
  rw [X _ _ e];simp
 ·obtain⟨bm,ob,b1,b2,b3,b4,b5,b6⟩:=T.bmain
  refine⟨bm,ob,b1,b2,fun q=>?_,fun q=>hP ob (q▸b3),b3,b4,b5,b6⟩
  obtain⟨o,es,ep,e,hd,_⟩:=T.g
  rw [q,e] at b3;cases b3;rw [hd] at b6;cases b6
 ·obtain⟨path,e⟩:=MF e
  unfold GR at h9
  rw [e] at h9
  obtain⟨k1,k2⟩:=d7 h9
  exact⟨codeHd_of_K X k1,fun z=>by subst z;rw [Nat.beq_refl] at k2;cases k2⟩
 ·obtain⟨r,hr,e'⟩:=any_some e
  obtain⟨k,k5⟩:=d7 (List.all_eq_true.mp h2 _ (mem_lookup hr))
  obtain⟨k,k4⟩:=d7 k
  obtain⟨k,k3⟩:=d7 k
  exact⟨k4,(d7 k).1,beq_iff_eq.mp (List.all_eq_true.mp k5 x (List.elem_iff.mp e')),(d7 k).2,beq_iff_eq.mp k3⟩
 ·obtain⟨r,m1,m2⟩:=xY e
  have k:=d7 (List.all_eq_true.mp h3 _ m1)
  have k6:=d7 (List.all_eq_true.mp k.2 _ m2)
  exact⟨k.1,beq_iff_eq.mp (d7 k6.1).1,(d7 k6.1).2,k6.2⟩
 ·obtain⟨path,m1,m2⟩:=Vf e
  obtain⟨fd,k0,k⟩:=any_some (List.all_eq_true.mp h4 _ m1)
  cases Option.some.inj (k0.symm.trans m2)
  obtain⟨oc,od,osl,e1⟩:=Am m2
  exact⟨oc,od,osl,e1,(d7 k).1,(d7 k).2⟩
 ·obtain⟨r,m1,m2⟩:=xY e
  obtain⟨k,k3⟩:=d7 (List.all_eq_true.mp h5 _ m1)
  obtain⟨k7,k8⟩:=d7 (List.all_eq_true.mp k3 _ m2)
  exact⟨_,beq_iff_eq.mp (d7 k).1,(d7 k).2,Ro k7,k8⟩
 ·obtain⟨r,m1,m2⟩:=xY e
  obtain⟨o,hv,k⟩:=any_some (List.all_eq_true.mp (List.all_eq_true.mp h7 _ m1) _ m2)
  obtain⟨v,rfl,k⟩:=any_some k
  obtain⟨es,n,q1,q2⟩:=hsd _ m1
  exact⟨_,v,mapOf_K (prog:=g.prog) X q1 q2,find_K q1 hv,Ei X k⟩
 ·have k:=List.all_eq_true.mp h6 _ (mem_lookup e)
  have k:=d7 k
  have k1:=d7 k.1
  exact⟨(d7 k1.1).1,beq_iff_eq.mp (d7 k1.1).2,k1.2,k.2⟩
inductive aF(τ:T)(f:Addr)(ps:List Nat)(body:List S):Prop
 |mk (fd:FuncData) (x:List Stmt) (e:τ.fn f=some ⟨fd,ps⟩) (hb:fd.body = .stmts (rG τ.tab body x)) (hc:fd.closure=[]) (h1:fd.scope.isCoroutine=false) (h2:fd.scope.isGenerator=false) (h3:fd.scope.kind = .function) (h4:fd.globals=mainGlobals) (h5:fd.builtins=builtinsNs) (nd:ps.Nodup)
   (hk:∀x∈ps,Jg fd.scope.names (τ.tab x)=true) (ok:Ag τ fd.scope.names body x=true) (p1:fd.params.posonlyargs=[]) (p2:fd.params.vararg=none) (p3:fd.params.kwonlyargs=[]) (p4:fd.params.kwarg=none) (p5:fd.params.args.map (·.arg)=ps.map τ.tab) (lm:∀c,τ.lam fd.scope.names=some c→fd.code = .ref c.1∧fd.qualname ++ ".<locals>." ++ "<lambda>" = c.2.2):aF τ f ps body
noncomputable def xZ(fd:FuncData):List Stmt:=match fd.body with
 |.stmts ss=>ss
 |_=>[]
noncomputable def En(d:TD)(f:Addr):Option FuncBody:=(d.T.fn f).map fun x=>x.fd.body
noncomputable def readAt(d:TD)(f:Addr)(body:List S):Option FuncBody:=(d.T.fn f).map fun x=>.stmts (rG d.T.tab body (xZ x.fd))
noncomputable def Vg(o:Option (Addr×Addr×Str))(v:Value)(q:Str):Bool:=match o with
 |some c=>match v with
  |.ref a=>Nat.beq a c.1&&decide (q ++ ".<locals>." ++ "<lambda>" = c.2.2)
  |_=>false
 |none=>true
theorem MJ{o:Option (Addr×Addr×Str)}{v:Value}{q:Str}(h:Vg o v q=true):∀c,o=some c→v = .ref c.1∧q ++ ".<locals>." ++ "<lambda>" = c.2.2:=by
 rintro c rfl
 cases v<;>first|exact⟨congrArg Value.ref (Nat.eq_of_beq_eq_true (d7 h).1),of_decide_eq_true (d7 h).2⟩|exact nomatch (show false=true from h)
noncomputable def MK(d:TD)(f:Addr)(ps:List Nat)(body:List S):Bool:=match d.T.fn f with
 |some ⟨fd,qs⟩=>Vg (d.T.lam fd.scope.names) fd.code fd.qualname&&(decide (qs=ps)&&(fd.closure.isEmpty&&(!fd.scope.isCoroutine&&(!fd.scope.isGenerator&&(decide (fd.scope.kind = .function)&&(decide (fd.globals=mainGlobals)&&(decide (fd.builtins=builtinsNs)&&(decide ps.Nodup &&
   (ps.all (fun x=>Jg fd.scope.names (d.T.tab x))&&(Ag d.T fd.scope.names body (xZ fd)&&(fd.params.posonlyargs.isEmpty&&(fd.params.vararg.isNone&&(fd.params.kwonlyargs.isEmpty&&(fd.params.kwarg.isNone&&decide (fd.params.args.map (·.arg)=ps.map d.T.tab)))))))))))))))
 |none=>false
theorem aF.of{d:TD}{f:Addr}{ps:List Nat}{body:List S}(h:MK d f ps body=true)(hb:En d f=readAt d f body):aF d.T f ps body:=by
 unfold MK at h
 cases e:d.T.fn f with
 |none=>rw [e] at h;cases h
 |some x=>
  obtain⟨fd,qs⟩:=x
  rw [e] at h
  have hb:some fd.body=some (.stmts (rG d.T.tab body (xZ fd))):=by rw [En,readAt,e] at hb;exact hb
  obtain⟨a0,h⟩:=d7 h
  obtain⟨a1,h⟩:=d7 h
  obtain⟨a2,h⟩:=d7 h
  obtain⟨a3,h⟩:=d7 h
  obtain⟨a4,h⟩:=d7 h
  obtain⟨a5,h⟩:=d7 h
  obtain⟨a6,h⟩:=d7 h
  obtain⟨a7,h⟩:=d7 h
  obtain⟨a8,h⟩:=d7 h
  obtain⟨a9,h⟩:=d7 h
  obtain⟨b1,h⟩:=d7 h
  obtain⟨b2,h⟩:=d7 h
  obtain⟨b3,h⟩:=d7 h
  obtain⟨b4,h⟩:=d7 h
  obtain⟨b5,b6⟩:=d7 h
  cases of_decide_eq_true a1
  exact⟨fd,_,e,Option.some.inj hb,List.isEmpty_iff.mp a2,(Bool.not_eq_true' _).mp a3,(Bool.not_eq_true' _).mp a4,of_decide_eq_true a5,of_decide_eq_true a6,of_decide_eq_true a7,of_decide_eq_true a8,List.all_eq_true.mp a9,b1,List.isEmpty_iff.mp b2,Option.isNone_iff_eq_none.mp b3,List.isEmpty_iff.mp b4,Option.isNone_iff_eq_none.mp b5,of_decide_eq_true b6,MJ a0⟩
noncomputable def codeS(s:Str):Nat:=s.cps.toList.foldl (fun a c=>a*1114112+c) 1
noncomputable def yc:List Nat→Bool
 | []=>true
 |x::l=>l.all (fun y => !Nat.beq x y)&&yc l
theorem wA:∀{l:List Nat},yc l=true→l.Nodup
 | [],_=>.nil
 |x::l,h=>by
  obtain⟨h1,h2⟩:=d7 (show(l.all (fun y => !Nat.beq x y)&&yc l)=true from h)
  exact List.nodup_cons.mpr ⟨fun m=>Nat.ne_of_beq_eq_false ((Bool.not_eq_true' _).mp (List.all_eq_true.mp h1 x m)) rfl,wA h2⟩
theorem Eo{l:List Str}(h:yc (l.map codeS)=true):l.Nodup:=
 (List.pairwise_map.mp (wA h)).imp fun ne e=>ne (congrArg codeS e)
theorem Jm{α β:Type}{f:α→β}(inj:∀a b,f a=f b→a=b){l:List α}(h:l.Nodup):(l.map f).Nodup:=List.Pairwise.map f (fun a b ne e=>ne (inj _ _ e)) h
noncomputable def jt(τ:T)(f:Addr)(k:Nat)(ds:List PV):Prop := ∀(g:G τ),v8 g→∀fd ps,τ.fn f=some ⟨fd,ps⟩→∀(s:Shared) (H:AH) (vs:List Value),m9 g s H→vs.length=k→∃ws,j7 τ.tab s.heap H ds ws∧BindsTo s fd ⟨vs,[]⟩ ((ps.map τ.tab).zip (vs++ws))
section
variable{τ:T}{g:G τ}{n:Nat}{f:Addr}{ps:List Nat}{body:List S}{H:AH}{Q:PV→AH→Prop}
theorem aa5{q:Arguments}(p1:q.posonlyargs=[])(p2:q.vararg=none)(p3:q.kwonlyargs=[])(p4:q.kwarg=none):q=⟨[],q.args,none,[],q.kw_defaults,none,q.defaults⟩:=by
 cases q
 cases p1
 cases p2
 cases p3
 cases p4
 rfl
theorem aF.Vh{l l':List PV}(o:aF τ f ps body)(hg:v8 g)(hl:l'.length≤ps.length)(hd:∀fd,τ.fn f=some ⟨fd,ps⟩→fd.params=⟨[],fd.params.args,none,[],fd.params.kw_defaults,none,fd.params.defaults⟩→fd.params.args.map (·.arg)=ps.map τ.tab→ps.Nodup→∀s vs,m9 g s H→j7 τ.tab s.heap H l vs→∃vs',j7 τ.tab s.heap H l' vs'∧BindsTo s fd ⟨vs,[]⟩ ((ps.map τ.tab).zip vs'))
  (h:K4 g n body (ps.zip l') H (IV Q)):Dl g (n+1) (.obj f) l H Q:=by
 cases o with
 |mk fd x e hb hc h1 h2 h3 h4 h5 nd hk ok p1 p2 p3 p4 p5 lm=>
  have z:fd.params=⟨[],fd.params.args,none,[],fd.params.kw_defaults,none,fd.params.defaults⟩:=aa5 p1 p2 p3 p4
  exact Dl.body (ps:=ps) (l':=l') hg e hb hc h1 h2 h3 h4 h5 nd (fun x hx=>Gz (hk x hx)) hl (hd fd e z p5 nd) fun env he hc hq=>Ah hg ⟨by rw [he];exact h3,by rw [he],fun c e=>⟨hc.trans (lm c e).1,by rw [hq];exact(lm c e).2⟩⟩ body x ok h
theorem aF.call{l:List PV}(o:aF τ f ps body)(hg:v8 g)(hd:∀fd ps,τ.fn f=some ⟨fd,ps⟩→fd.defaults = .none)(hl:l.length=ps.length)(h:K4 g n body (ps.zip l) H (IV Q)):Dl g (n+1) (.obj f) l H Q:=
 o.Vh hg (Nat.le_of_eq hl) (fun fd e z p5 nd s vs S r=>⟨vs,r,by
  have k:=rB (vs:=vs) z (hd fd ps e) (by rw [p5];exact Jm hg.inj nd) (by have:=congrArg List.length p5;rw [List.length_map,List.length_map] at this;rw [r.length,hl,this])
  rw [p5] at k
  exact BindsTo.of_eq k⟩) h
theorem aF.Vi{l ds:List PV}(o:aF τ f ps body)(hg:v8 g)(hd:jt τ f l.length ds)(hl:l.length+ds.length=ps.length)(h:K4 g n body (ps.zip (l++ds)) H (IV Q)):Dl g (n+1) (.obj f) l H Q:=
 o.Vh hg (by rw [List.length_append];exact Nat.le_of_eq hl) (fun fd e O O O s vs S r=>(hd g hg fd ps e s H vs S r.length).elim fun ws k=>⟨vs++ws,r.append k.1,k.2⟩) h
structure n7(τ:T)(f:Addr)(ps:List Nat)(body:List S):Prop where
 ok:aF τ f ps body
 nd:∀fd ps,τ.fn f=some ⟨fd,ps⟩→fd.defaults = .none
theorem n7.call{l:List PV}(o:n7 τ f ps body)(hg:v8 g)(hl:l.length=ps.length)(h:K4 g n body (ps.zip l) H (IV Q)):Dl g (n+1) (.obj f) l H Q:=o.ok.call hg o.nd hl h
end
noncomputable def Vj(d:TD)(f:Addr):Bool:=match nJ d.K f with
 |some fd=>match fd.defaults with
  |.none=>true
  |_=>false
 |none=>false
theorem n7.of{d:TD}{f:Addr}{ps:List Nat}{body:List S}(h:MK d f ps body=true)(hb:En d f=readAt d f body)(hn:Vj d f=true):n7 d.T f ps body:=
 ⟨aF.of h hb,fun fd ps e=>by
  obtain⟨_,_,q⟩:=Vf e
  unfold Vj at hn
  rw [show nJ d.K f=some fd from q] at hn
  dsimp only at hn
  generalize fd.defaults=v at hn ⊢
  cases v<;>first|rfl|exact nomatch (show false=true from hn)⟩
theorem jt.of{d:TD}{f:Addr}{ps:List Nat}{fd:FuncData}{k:Nat}{ds:List PV}(hf:d.T.fn f=some ⟨fd,ps⟩)(ws:List Value)(hr:Mw (tabOf d.texts) d.K ds ws=true)
  (hb:∀vs:List Value,vs.length=k→∀S,peek d.K S (bindArgs fd ⟨vs,[]⟩)=some ((ps.map (tabOf d.texts)).zip (vs++ws))):jt d.T f k ds:=fun g hg fd' ps' e s H vs S hl=>by
 rw [hf] at e
 cases e
 have X:d.K.In s.heap:=hg.X.keeps S.keep
 exact⟨ws,Rn X _ hr,kp_binds X (hb vs hl)⟩
section
variable{τ:T}{g:G τ}{n k:Nat}{m:Loc}{H:AH}{Q:PV→AH→Prop}{C:Bool→Prop}
theorem leB{j k n:Nat}(h:k≤n)(e:Nat.ble j k=true):j≤n:=Nat.le_trans (Nat.le_of_ble_eq_true e) h
theorem Y6{k:Nat}(h:Nat.ble k 16777216=true):k≤sizeLine:=by rw [sizeLine_eq];exact Nat.le_of_ble_eq_true h
theorem n7.clC{f:Addr}{ps:List Nat}{body:List S}{l:List PV}(o:n7 τ f ps body)(hg:v8 g)(hl:l.length=ps.length)(hn:k+1≤n)(h:∀n,k≤n→K4 g n body (ps.zip l) H (IV Q)):Dl g n (.obj f) l H Q:=by
 cases n with
 |zero=>exact absurd hn (Nat.not_succ_le_zero k)
 |succ n=>exact o.call hg hl (h n (Nat.le_of_succ_le_succ hn))
theorem n7.cl{f:Addr}{ps:List Nat}{body:List S}{l:List PV}(o:n7 τ f ps body)(hg:v8 g)(hl:l.length=ps.length)(hn:k+1≤n)(h:∀n,k≤n→K4 g n body (ps.zip l) H (IV Q)):Cl g n (.obj f) l H Q:=(o.clC hg hl hn h).cl
theorem aF.clD{f:Addr}{ps:List Nat}{body:List S}{l ds:List PV}(o:aF τ f ps body)(hg:v8 g)(hd:jt τ f l.length ds)(hl:l.length+ds.length=ps.length)(hn:k+1≤n)(h:∀n,k≤n→K4 g n body (ps.zip (l++ds)) H (IV Q)):Cl g n (.obj f) l H Q:=by
 cases n with
 |zero=>exact absurd hn (Nat.not_succ_le_zero k)
 |succ n=>exact(o.Vi hg hd hl (h n (Nat.le_of_succ_le_succ hn))).cl
theorem Z4{p:PV}{l:List PV}{i:Int}{r:PV}(e1:p.Ac = some l)(e:DK l i=some r)(h:Q r H):SubL g p (.int i) H Q:=GC e1 e h
theorem kh{a:Addr}{l:List PV}{i:Int}{r:PV}(o:H a=some (.list l))(e:DK l i=some r)(h:Q r H):SubL g (.obj a) (.int i) H Q:=.ol o e h
theorem V6{a:Addr}{l:List PV}{i:Nat}{r:PV}(o:H a=some (.list l))(hi:i<2 ^ 62)(e:l[i]? = some r)(h:Q r H):SubL g (.obj a) (.int (i:Int)) H Q:=kh o ((gG hi).trans e) h
theorem Xo{a:Addr}{k:Nat}{r:PV}(e:τ.w5 a k=some r)(h:Q r H):SubL g (.obj a) (.str k) H Q:=.sd e h
theorem M5{a:Addr}{l:List (Nat×PV)}{k:Nat}{r:PV}(o:H a=some (.w5 l))(e:m8 k l=some r)(h:Q r H):SubL g (.obj a) (.str k) H Q:=.os o e h
theorem gK{a:Addr}{l:List (Int×PV)}{k:Int}{r:PV}(o:H a=some (.m6 l))(e:m8 k l=some r)(h:Q r H):SubL g (.obj a) (.int k) H Q:=.od o e h
theorem len_list{a:Addr}{l:List PV}(o:H a=some (.list l)):Wu (.obj a) H=some l.length:=congrArg (Option.map List.length) (I3 o)
theorem G4{a:Addr}{l:List PV}{P:Prop}(o:H a=some (.list l))(h:P):pJ H "list" (.obj a)∧P:=⟨.list o,h⟩
theorem rM{a:Addr}{l:List (Int×PV)}{P:Prop}(o:H a=some (.m6 l))(h:P):pJ H "dict" (.obj a)∧P:=⟨.m6 o,h⟩
theorem wB{a:Addr}{l:List ((Int×Int)×PV)} {k q:PV} {ij:Int×Int} {Q:AH→Prop} (o:H a=some (.w7 l)) (e:pairOf k=some ij) (hl:l.length≤sizeLine) (h:Q (upd H a (.w7 (N8 ij q l)))):DR (.obj a) k q H Q:=by
 rw [zR e];exact .w7 o hl h
theorem set_list{a:Addr}{l:List PV}{i:Nat}{q:PV}{Q:AH→Prop}(o:H a=some (.list l))(hi:i<l.length)(hl:l.length≤sizeLine)(h:Q (upd H a (.list (l.set i q)))):DR (.obj a) (.int i) q H Q:=.list o (Int.natCast_nonneg i) (Int.ofNat_lt.mpr hi) hl h
theorem gO{a:Addr}{l:List (Int×PV)}{i:Int}{q:PV}{Q:AH→Prop}(o:H a=some (.m6 l))(hl:l.length≤sizeLine)(h:Q (upd H a (.m6 (N8 i q l)))):DR (.obj a) (.int i) q H Q:=.m6 o hl h
theorem Jo{a:Addr}{l:List (Nat×PV)}{i:Nat}{q:PV}{Q:AH→Prop}(o:H a=some (.w5 l))(hl:l.length≤sizeLine)(h:Q (upd H a (.w5 (N8 i q l)))):DR (.obj a) (.str i) q H Q:=.w5 o hl h
theorem aa7{a:Addr}{l:List (Int×PV)}{k:Int}(e:H a=some (.m6 l))(h:C (m8 k l).isSome):rC .In (.int k) (.obj a) H C:=.mem (.od e h)
theorem Vl{a:Addr}{l:List PV}(e:H a=some (.list l))(d:PV.eV l=true)(h:C (!l.isEmpty)):rC .NotEq (.obj a) (.lst []) H C:=by
 have z:res H (.obj a) = .lst l:=by rw [qg,e]
 refine .ne ⟨by rw [z];exact d,rfl,.inl (show 1≤60 by decide)⟩ ?_
 rw [z]
 cases l<;>exact h
theorem Vm{l k:List PV}(e:l.length+k.length≤sizeLine)(h:Q (.tup (l++k)) H):Ec g .Add (.tup l) (.tup k) H Q:=.tup e h
theorem GX{a b c:Nat}(e:τ.cat a b=some c)(e2:g.tab c=g.tab a++g.tab b∧(g.tab a).length+(g.tab b).length≤sizeLine)(h:Q (.str c) H):Ec g .Add (.str a) (.str b) H Q:=.str e2 h
theorem MN{l:List PV}{i:Int}(h1:1≤i)(h2:i≤l.length)(h3:l.length≤sizeLine)(h:Q (.tup (l.drop i.toNat)) H):Rb true (.tup l) i H Q:=⟨⟨h1,h2,h3⟩,h⟩
end
theorem Kl{a j k n:Nat}(h:a+k≤n)(e:Nat.ble j k=true):a+j≤n:=Nat.le_trans (Nat.add_le_add_left (Nat.le_of_ble_eq_true e) a) h
theorem Xp{a w j k n:Nat}(h:w+k≤n)(ha:a≤w)(e:Nat.ble j k=true):a+j≤n:=Nat.le_trans (Nat.add_le_add ha (Nat.le_of_ble_eq_true e)) h
theorem at_of{τ:T}{g:G τ}{p:PV}{l:List PV}{k:Nat}{r:PV}{H:AH}{Q:PV→AH→Prop}(e:p.Ac = some l)(e2:nth l k=some r)(h:Q r H):UL g p k H Q:=by
 unfold UL
 rw [e]
 exact d8 e2 h
theorem MP{m n:Nat}(h:m+8≤n):m+1≤n:=Nat.le_trans (Nat.add_le_add_left (Nat.le_of_ble_eq_true rfl) m) h
theorem aa8{m n:Nat}(h:m+8+8≤n):m+1≤n:=MP (Nat.le_of_add_right_le h)
theorem YJ{a b k N:Nat}(h:a+k≤N)(q:b+k≤N):max a b+k≤N:=(Nat.add_max_add_right ..)▸Nat.max_le.mpr ⟨h,q⟩
theorem Jp{a j k n:Nat}(h:j+k≤n)(e:a≤j):a≤n:=Nat.le_trans (Nat.le_trans e (Nat.le_add_right ..)) h
theorem wC(m:Loc):W7 [] m=[]:=List.filter_eq_nil_iff.mpr fun O O=>nofun
theorem yd{x:Nat}{p:PV}{y:Nat×PV}{r:Loc}(e:Nat.beq y.1 x=true):j8 x p (y::r)=(x,p)::r:=qd e
theorem Ep{x:Nat}{p:PV}{y:Nat×PV}{r:Loc}(e:Nat.beq y.1 x=false):j8 x p (y::r)=y::j8 x p r:=qd e
theorem ak(x:Nat)(p q:PV)(m:Loc):j8 x q (j8 x p m)=j8 x q m:=by
 induction m with
 |nil=>exact yd (Nat.beq_refl x)
 |cons y r ih=>
  cases e:Nat.beq y.1 x with
  |true=>rw [yd e,yd e];exact yd (Nat.beq_refl x)
  |false=>rw [Ep e,Ep e,Ep e,ih]
theorem kj{α:Type}{f w:α→PV}{ct:CT}{we:Loc→AH→(PV→AH→Prop)→Prop}{p:PV}{l:List PV}{D:Addr}{H:AH}{fin:List PV→AH→Prop}(I:Loc→Prop)(mm:α→Loc)(xs:List α)
  (hb:∀a∈xs,∀o m,I m→bindC (upd H D o) ct (f a) m=some (mm a)∧I (mm a)) (he:∀a∈xs,∀o K,K (w a) (upd H D o)→we (mm a) (upd H D o) K) (hp:∀o,itemsOf (upd H D o) p=some l):
  ∀(acc:List PV) (m:Loc),I m→acc.length+xs.length≤sizeLine→fin (acc++xs.map w) (upd H D (.list (acc++xs.map w)))→WC ct (fun m H K=>K true H) we p l D fin (xs.map f) acc m (upd H D (.list acc)):=by
 induction xs with
 |nil=>
  intro acc m _ _ h
  rw [List.map_nil,List.append_nil] at h
  exact h
 |cons a xs ih=>
  intro acc m hm hl h
  have b:=hb a (.head _) (.list acc) m hm
  refine d8 b.1 (he a (.head _) _ _ ⟨⟨c7 ..,Nat.lt_of_lt_of_le (Nat.lt_add_of_pos_right (Nat.succ_pos _)) hl,hp _⟩,?_⟩)
  rw [gF]
  refine ih (fun a ha=>hb a (.tail _ ha)) (fun a ha=>he a (.tail _ ha)) (acc++[w a]) _ b.2 ?_ ?_
  ·rw [List.length_append,Nat.add_assoc,Nat.add_comm [w a].length];exact hl
  ·rw [List.append_assoc];exact h
theorem cI{α:Type}{f w:α→PV}{x:Nat}{caps:List Nat}{we:Loc→AH→(PV→AH→Prop)→Prop}{m:Loc}{H:AH}{fin:List PV→AH→Prop}(xs:List α)(hl:xs.length≤sizeLine)
  (he:∀a∈xs,∀D o K,H D=none→K (w a) (upd H D o)→we (j8 x (f a) (W7 caps m)) (upd H D o) K) (h:fin (xs.map w) H):qZ m caps (.one x) (fun m H K=>K true H) we fin (.tup (xs.map f)) H:=fun D hD=>
 kj (ct:=.one x) (f:=f) (w:=w) (fun m' => ∀q,j8 x q m'=j8 x q (W7 caps m)) (fun a=>j8 x (f a) (W7 caps m)) xs (fun a O o m' hm=>⟨congrArg some (hm _),fun q=>ak ..⟩) (fun a ha o K k=>he a ha D o K hD k) (fun O=>rfl) [] _ (fun O=>rfl) (by rw [List.length_nil,Nat.zero_add];exact hl) (by
  rw [List.nil_append,dj hD];exact h)
end Mine.Internal
set_option autoImplicit false
namespace Ms.Internal
open PySem PyProof PyProof.Rows
noncomputable def bD:Bool→Keyed→Array Keyed→Nat→Nat→Nat→StateT SortSt Sem (Option Nat):=sortPriv% PySem.Builtin.gallop
noncomputable def kJ(left:Bool)(key:Keyed)(arr:Array Keyed)(i:Nat):StateT SortSt Sem (Option Bool):=do
 let x ← elem' arr i
 if left then lt' x key else return (← lt' key x).map (!·)
noncomputable abbrev G3:=Option (Option Nat)×Nat×Nat
section
variable(left:Bool)(key:Keyed)(arr:Array Keyed)(base n hint:Nat)
noncomputable def gM(c:G3):StateT SortSt Sem (ForInStep G3):=
 if c.2.1≥c.2.2 then pure (.done (none,c.2.1,c.2.2)) else do
  let r ← kJ left key arr (base+(c.2.1+(c.2.2-c.2.1) / 2))
  match r with
  |some more=>if more then pure (.yield (none,c.2.1+(c.2.2-c.2.1) / 2+1,c.2.2)) else pure (.yield (none,c.2.1,c.2.1+(c.2.2-c.2.1) / 2))
  |_=>pure (.done (some none,c.2.1,c.2.2))
noncomputable def Nb(lo hi:Nat):StateT SortSt Sem (Option Nat):=do
 let c ← forIn [0:n] ((none,lo,hi):G3) fun O c=>gM left key arr base c
 match c.1 with
 |some r=>pure r
 |none=>pure (some c.2.2)
noncomputable def gU(c:G3):StateT SortSt Sem (ForInStep G3):=
 if c.2.2≥n-hint then pure (.done (none,c.2.1,c.2.2)) else do
  let r ← kJ left key arr (base+(hint+c.2.2))
  match r with
  |some more=>if(!more)=true then pure (.done (none,c.2.1,c.2.2)) else pure (.yield (none,c.2.2,2*c.2.2+1))
  |_=>pure (.done (some none,c.2.1,c.2.2))
noncomputable def gD(c:G3):StateT SortSt Sem (ForInStep G3):=
 if c.2.2≥hint+1 then pure (.done (none,c.2.1,c.2.2)) else do
  let r ← kJ left key arr (base+(hint-c.2.2))
  match r with
  |some found=>if found then pure (.done (none,c.2.1,c.2.2)) else pure (.yield (none,c.2.2,2*c.2.2+1))
  |_=>pure (.done (some none,c.2.1,c.2.2))
noncomputable def gR:StateT SortSt Sem (Option Nat):=do
 let c ← forIn [0:n] ((none,0,1):G3) fun O c=>gU left key arr base n hint c
 match c.1 with
 |some r=>pure r
 |none=>Nb left key arr base n (hint+c.2.1+1) (hint+min c.2.2 (n-hint))
noncomputable def gL:StateT SortSt Sem (Option Nat):=do
 let c ← forIn [0:n] ((none,0,1):G3) fun O c=>gD left key arr base hint c
 match c.1 with
 |some r=>pure r
 |none=>Nb left key arr base n (hint+1-min c.2.2 (hint+1)) (hint-c.2.1)
theorem Er:bD left key arr base n hint=(do
 let r ← kJ left key arr (base+hint)
 match r with
 |some right=>if right then gR left key arr base n hint else gL left key arr base n hint
 |_=>pure none):=by kernel_rfl
end
noncomputable def IK(p:Keyed):Prop := ∃n t,p.1 = .int n t
section
variable{prog:Program}{w:World}{A:Around}{E:Value→Shared→Prop}{s:Shared}
theorem rN{st:SortSt}{x y:Keyed}{Q:Option Bool→SortSt→Prop}(hk:kindOf st=oneType')(hx:IK x)(hy:IK y)(h:Q (some (decide (numOf x.1<numOf y.1))) st):wpS (model prog w) A E s (lt' x y) Q st:=by
 obtain⟨a,t,hx⟩:=hx
 obtain⟨b,u,hy⟩:=hy
 rw [hx,hy] at h
 rw [lt'_eq]
 refine wpS_bind (wpS_get ?_)
 rw [hk,keyLt'_oneType,hx,hy]
 refine wpS_bind (wpS_lift (wpAny_attempt (oneLt_int ⟨rfl,?_⟩)))
 exact wpS_pure h
theorem u5{st:SortSt}{arr:Array Keyed}{i:Nat}{Q:Keyed→SortSt→Prop}(hi:i<arr.size)(h:Q arr[i] st):wpS (model prog w) A E s (elem' arr i) Q st:=by
 rw [elem'_eq,getElem?_pos arr i hi];exact wpS_pure h
noncomputable def uT(arr:Array Keyed):Prop := ∀i (h:i<arr.size),IK arr[i]
theorem dD{st:SortSt}{left:Bool}{key:Keyed}{arr:Array Keyed}{i:Nat}{Q:Option Bool→SortSt→Prop}(hk:kindOf st=oneType')(hx:IK key)(ha:uT arr)(hi:i<arr.size)
  (h:∀b,(left=false→numOf arr[i].1≤numOf key.1→b=true)→Q (some b) st):wpS (model prog w) A E s (kJ left key arr i) Q st:=by
 refine wpS_bind (u5 hi ?_)
 cases left with
 |true=>exact rN hk (ha i hi) hx (h _ fun h=>nomatch h)
 |false=>
  refine wpS_bind (rN hk hx (ha i hi) (wpS_pure (h _ fun O q=>?_)))
  rw [decide_eq_false (Int.not_lt.mpr q)];rfl
theorem j4{st:SortSt}{α:Type}{c:Prop} [Decidable c]{x y:StateT SortSt Sem α}{Q:α→SortSt→Prop}(h:c)(k:wpS (model prog w) A E s x Q st):wpS (model prog w) A E s (if c then x else y) Q st:=(if_pos h).symm▸k
theorem j5{st:SortSt}{α:Type}{c:Prop} [Decidable c]{x y:StateT SortSt Sem α}{Q:α→SortSt→Prop}(h:¬c)(k:wpS (model prog w) A E s y Q st):wpS (model prog w) A E s (if c then x else y) Q st:=(if_neg h).symm▸k
theorem Xq{l h:Nat}(q:¬l≥h):l+(h-l) / 2<h:=by lia
section
variable{st:SortSt}{left:Bool}{key:Keyed}{arr:Array Keyed}{base n hint:Nat}{Q:Option Nat→SortSt→Prop}
noncomputable def gZ(n:Nat)(P:Nat→Nat→Prop)(c:G3):Prop:=c.1=none∧c.2.2≤n∧P c.2.1 c.2.2
theorem wF(hk:kindOf st=oneType')(hx:IK key)(ha:uT arr)(hn:base+n≤arr.size){P:Prop}{lo hi:Nat}(hin:hi≤n)(hl:P→1≤lo∧lo≤hi)(h:∀k,k≤n→(P→1≤k)→Q (some k) st):wpS (model prog w) A E s (Nb left key arr base n lo hi) Q st:=by
 refine wpS_bind (wpS_mono (wpS_forRange (I:=fun O c st'=>st'=st∧gZ n (fun l o=>P→1≤l∧l≤o) c) (Q:=fun c st'=>st'=st∧gZ n (fun l o=>P→1≤l∧l≤o) c) ?_ (fun O O h=>h) ⟨rfl,rfl,hin,hl⟩) ?_)
 ·rintro _ ⟨_,l,o⟩ _ _ _ ⟨rfl,rfl,g1,g2⟩
  by_cases q:l≥o
  ·exact j4 q (wpS_pure ⟨rfl,rfl,g1,g2⟩)
  ·have m:=Xq q
   refine j5 q (wpS_bind (dD hk hx ha (Nat.lt_of_lt_of_le (Nat.add_lt_add_left (Nat.lt_of_lt_of_le m g1) base) hn) fun b O=>?_))
   cases b with
   |true=>exact wpS_pure ⟨rfl,rfl,g1,fun O=>⟨Nat.succ_pos _,m⟩⟩
   |false=>exact wpS_pure ⟨rfl,rfl,Nat.le_trans (Nat.le_of_lt m) g1,fun p=>⟨(g2 p).1,Nat.le_add_right ..⟩⟩
 ·rintro⟨_,l,o⟩ _ ⟨rfl,rfl,g1,g2⟩
  exact wpS_pure (h o g1 fun p=>Nat.le_trans (g2 p).1 (g2 p).2)
theorem V7(hk:kindOf st=oneType')(hx:IK key)(ha:uT arr)(hn:base+n≤arr.size)(hh:hint<n)
  (h:∀k,k≤n→(∀h0:base<arr.size,left=false→hint=0→numOf arr[base].1≤numOf key.1→1≤k)→Q (some k) st):wpS (model prog w) A E s (bD left key arr base n hint) Q st:=by
 rw [Er]
 refine wpS_bind (dD hk hx ha (Nat.lt_of_lt_of_le (Nat.add_lt_add_left hh base) hn) fun b hb=>?_)
 have h':∀k,k≤n→((∃h0:base<arr.size,left=false∧hint=0∧numOf arr[base].1≤numOf key.1)→1≤k)→Q (some k) st:=fun k a z=>h k a fun b c d e=>z ⟨b,c,d,e⟩
 cases b with
 |true=>
  refine wpS_bind (wpS_mono (wpS_forRange (I:=fun O c st'=>st'=st∧c.1=none∧c.2.1<c.2.2∧c.2.1+hint<n) (Q:=fun c st'=>st'=st∧c.1=none∧c.2.1<c.2.2∧c.2.1+hint<n) ?_ (fun O O h=>h) ⟨rfl,rfl,Nat.succ_pos _,(Nat.zero_add hint).symm▸hh⟩) ?_)
  ·rintro _ ⟨_,l,o⟩ _ _ _ ⟨rfl,rfl,g1,g2⟩
   by_cases q:o≥n-hint
   ·exact j4 q (wpS_pure ⟨rfl,rfl,g1,g2⟩)
   ·have q':o+hint<n:=Nat.add_lt_of_lt_sub (Nat.lt_of_not_le q)
    refine j5 q (wpS_bind (dD hk hx ha (Nat.lt_of_lt_of_le (Nat.add_lt_add_left (Nat.add_comm ..▸q') base) hn) fun b O=>?_))
    cases b with
    |true=>exact wpS_pure ⟨rfl,rfl,by dsimp only;lia,q'⟩
    |false=>exact wpS_pure ⟨rfl,rfl,g1,g2⟩
  ·rintro⟨_,l,o⟩ _ ⟨rfl,rfl,g1,g2⟩
   dsimp only at g1 g2
   exact wF hk hx ha hn (by dsimp only;lia) (fun O=>by dsimp only;lia) h'
 |false=>
  refine wpS_bind (wpS_mono (wpS_forRange (I:=fun O c st'=>st'=st∧c.1=none) (Q:=fun c st'=>st'=st∧c.1=none) ?_ (fun O O h=>h) ⟨rfl,rfl⟩) ?_)
  ·rintro _ ⟨_,l,o⟩ _ _ _ ⟨rfl,rfl⟩
   by_cases q:o≥hint+1
   ·exact j4 q (wpS_pure ⟨rfl,rfl⟩)
   ·refine j5 q (wpS_bind (dD hk hx ha (Nat.lt_of_lt_of_le (Nat.add_lt_add_left (Nat.lt_of_le_of_lt (Nat.sub_le ..) hh) base) hn) fun b O=>?_))
    cases b with
    |true=>exact wpS_pure ⟨rfl,rfl⟩
    |false=>exact wpS_pure ⟨rfl,rfl⟩
  ·rintro⟨_,l,o⟩ _ ⟨rfl,rfl⟩
   exact wF hk hx ha hn (Nat.le_trans (Nat.sub_le ..) (Nat.le_of_lt hh)) (fun⟨h0,h1,h2,h3⟩=>by subst h2;cases hb h1 h3) h'
end
end
end Ms.Internal
set_option autoImplicit false
namespace Ms.Internal
open PySem PyProof PyProof.Rows
noncomputable abbrev m5(st:SortSt)(g:Nat):SortSt:=SortSt.mk' (kindOf st) (arrOf st) (pendingOf st) g (failedOf st)
noncomputable def W3:Nat→StateT SortSt Sem Unit:=sortPriv% PySem.Builtin.setMinGallop
theorem V8(g:Nat):W3 g=modify fun s=>m5 s g:=rfl
noncomputable def rO:Array Keyed→Array Keyed→StateT SortSt Sem (Array Keyed):=sortPriv% PySem.Builtin.mergeLo
noncomputable abbrev dF(a b out:Array Keyed)(ia ib:Nat):Array Keyed:=out++a.extract ia a.size++b.extract ib b.size
noncomputable abbrev rP(a b out:Array Keyed)(ia ib:Nat):Array Keyed:=out++b.extract ib b.size++a.extract ia a.size
noncomputable abbrev C6:=Option (Array Keyed)×Array Keyed×Nat×Nat×Nat×Nat
noncomputable abbrev C7:=Option (Array Keyed)×Array Keyed×Nat×Nat×Nat×Nat×Nat
noncomputable def lo0(a b:Array Keyed)(mg:Nat)(c:C6):StateT SortSt Sem (ForInStep C6):=do
 let x ← elem' b c.2.2.2.1
 let y ← elem' a c.2.2.1
 let r ← lt' x y
 match r with
 |some bWins=>
  if bWins then do
   let x ← elem' b c.2.2.2.1
   if c.2.2.2.1+1==b.size then pure (.done (some (dF a b (c.2.1.push x) c.2.2.1 (c.2.2.2.1+1)),c.2.1.push x,c.2.2.1,c.2.2.2.1+1,0,c.2.2.2.2.2+1))
   else if c.2.2.2.2.2+1≥mg then pure (.done (none,c.2.1.push x,c.2.2.1,c.2.2.2.1+1,0,c.2.2.2.2.2+1))
   else pure (.yield (none,c.2.1.push x,c.2.2.1,c.2.2.2.1+1,0,c.2.2.2.2.2+1))
  else do
   let x ← elem' a c.2.2.1
   if c.2.2.1+1+1==a.size then pure (.done (some (rP a b (c.2.1.push x) (c.2.2.1+1) c.2.2.2.1),c.2.1.push x,c.2.2.1+1,c.2.2.2.1,c.2.2.2.2.1+1,0))
   else if c.2.2.2.2.1+1≥mg then pure (.done (none,c.2.1.push x,c.2.2.1+1,c.2.2.2.1,c.2.2.2.2.1+1,0))
   else pure (.yield (none,c.2.1.push x,c.2.2.1+1,c.2.2.2.1,c.2.2.2.2.1+1,0))
 |_=>pure (.done (some (dF a b c.2.1 c.2.2.1 c.2.2.2.1),c.2))
noncomputable def YK(a b:Array Keyed)(mg k k2:Nat)(out:Array Keyed)(ia ib:Nat):StateT SortSt Sem (ForInStep C7):=do
 let x ← elem' a ia
 if ia+1+1==a.size then pure (.done (some (rP a b (out.push x) (ia+1) ib),out.push x,ia+1,ib,mg,k,k2))
 else if k<7&&k2<7 then pure (.done (none,out.push x,ia+1,ib,mg,k,k2))
 else pure (.yield (none,out.push x,ia+1,ib,mg,k,k2))
noncomputable def lo2(a b:Array Keyed)(mg k bc:Nat)(out:Array Keyed)(ia ib:Nat):StateT SortSt Sem (ForInStep C7):=do
 let x ← elem' b ib
 if ib+1==b.size then pure (.done (some (dF a b (out.push x) ia (ib+1)),out.push x,ia,ib+1,mg,k,bc))
 else do
  let y ← elem' a ia
  let r ← bD true y b (ib+1) (b.size-(ib+1)) 0
  match r with
  |some k2=>
   if k2 > 0 then
    if ib+1+k2==b.size then pure (.done (some (dF a b (out.push x++b.extract (ib+1) (ib+1+k2)) ia (ib+1+k2)),out.push x++b.extract (ib+1) (ib+1+k2),ia,ib+1+k2,mg,k,k2))
    else YK a b mg k k2 (out.push x++b.extract (ib+1) (ib+1+k2)) ia (ib+1+k2)
   else YK a b mg k k2 (out.push x) ia (ib+1)
  |_=>pure (.done (some (dF a b (out.push x) ia (ib+1)),out.push x,ia,ib+1,mg,k,bc))
noncomputable def lo1(a b:Array Keyed)(mg:Nat)(c:C7):StateT SortSt Sem (ForInStep C7):=do
 W3 mg
 let x ← elem' b c.2.2.2.1
 let r ← bD false x a c.2.2.1 (a.size-c.2.2.1) 0
 match r with
 |some k=>
  if k > 0 then
   if c.2.2.1+k+1==a.size then pure (.done (some (rP a b (c.2.1++a.extract c.2.2.1 (c.2.2.1+k)) (c.2.2.1+k) c.2.2.2.1),c.2.1++a.extract c.2.2.1 (c.2.2.1+k),c.2.2.1+k,c.2.2.2.1,mg,k,c.2.2.2.2.2.2))
   else if c.2.2.1+k==a.size then pure (.done (some (dF a b (c.2.1++a.extract c.2.2.1 (c.2.2.1+k)) (c.2.2.1+k) c.2.2.2.1),c.2.1++a.extract c.2.2.1 (c.2.2.1+k),c.2.2.1+k,c.2.2.2.1,mg,k,c.2.2.2.2.2.2))
   else lo2 a b mg k c.2.2.2.2.2.2 (c.2.1++a.extract c.2.2.1 (c.2.2.1+k)) (c.2.2.1+k) c.2.2.2.1
  else lo2 a b mg k c.2.2.2.2.2.2 c.2.1 c.2.2.1 c.2.2.2.1
 |_=>pure (.done (some (dF a b c.2.1 c.2.2.1 c.2.2.2.1),c.2.1,c.2.2.1,c.2.2.2.1,mg,c.2.2.2.2.2.1,c.2.2.2.2.2.2))
section
variable{X Y Z:Type}
noncomputable abbrev S5(X Y Z:Type):=Option (Array Keyed)×X×Y×Z×Nat
noncomputable abbrev S6(X Y Z:Type):=Option (Array Keyed)×X×Y×Z×Nat×Nat
noncomputable abbrev S7(X Y Z:Type):=Option (Array Keyed)×X×Y×Z×Nat×Nat×Nat
noncomputable def kE(e:S7 X Y Z):StateT SortSt Sem (ForInStep (S5 X Y Z)):=match e.1 with
 |some r=>pure (.done (some r,e.2.1,e.2.2.1,e.2.2.2.1,e.2.2.2.2.1))
 |none=>do
  W3 (e.2.2.2.2.1+1)
  pure (.yield (none,e.2.1,e.2.2.1,e.2.2.2.1,e.2.2.2.2.1+1))
variable(t:Nat)(f0:Nat→S6 X Y Z→StateT SortSt Sem (ForInStep (S6 X Y Z))) (f1:Nat→S7 X Y Z→StateT SortSt Sem (ForInStep (S7 X Y Z)))
noncomputable def kG(e:S7 X Y Z):StateT SortSt Sem (ForInStep (S7 X Y Z)):=if e.2.2.2.2.1 > 1 then f1 (e.2.2.2.2.1-1) e else f1 e.2.2.2.2.1 e
noncomputable def kD(mg:Nat)(d:S6 X Y Z):StateT SortSt Sem (ForInStep (S5 X Y Z)):=match d.1 with
 |some r=>pure (.done (some r,d.2.1,d.2.2.1,d.2.2.2.1,mg))
 |none=>do
  liftM (rule "list.sort.gallop")
  let e ← forIn [0:t] ((none,d.2.1,d.2.2.1,d.2.2.2.1,mg+1,d.2.2.2.2.1,d.2.2.2.2.2):S7 X Y Z) fun O e=>kG f1 e
  kE e
noncomputable def kC(c:S5 X Y Z):StateT SortSt Sem (ForInStep (S5 X Y Z)):=do
 let d ← forIn [0:t] ((none,c.2.1,c.2.2.1,c.2.2.2.1,0,0):S6 X Y Z) fun O d=>f0 c.2.2.2.2 d
 kD t f1 c.2.2.2.2 d
noncomputable def kA(x:X)(y:Y)(z:Z):StateT SortSt Sem (Array Keyed):=do
 let g ← get
 let r ← forIn [0:t] ((none,x,y,z,gallopOf g):S5 X Y Z) fun O c=>kC t f0 f1 c
 match r.1 with
 |some r=>pure r
 |none=>unsupported "internal:list.sort.merge-bound"
noncomputable def Tok{T:Type}(OK:Nat→Option (Array Keyed)→X→Y→Z→Prop)(lo:Nat)(Q:ForInStep (Option (Array Keyed)×X×Y×Z×T)→SortSt→Prop) (st:SortSt):Prop := ∀c',OK lo c'.1 c'.2.1 c'.2.2.1 c'.2.2.2.1→Q (.done c') st∧(c'.1=none→Q (.yield c') st)
noncomputable def ToS(OK:Nat→Option (Array Keyed)→X→Y→Z→Prop)(lo:Nat)(Q:ForInStep (S5 X Y Z)→SortSt→Prop)(st:SortSt):Prop := ∀c',OK lo c'.1 c'.2.1 c'.2.2.1 c'.2.2.2.1→(∀o,c'.1=some o→Q (.done c') st)∧(c'.1=none→Q (.yield c') st)
noncomputable def Rp{T:Type}(OK:Nat→Option (Array Keyed)→X→Y→Z→Prop)(lo:Nat)(st:SortSt)(c:Option (Array Keyed)×X×Y×Z×T)(st':SortSt):Prop:=OK lo c.1 c.2.1 c.2.2.1 c.2.2.2.1∧∃g,st'=m5 st g
structure Sk(prog:Program)(w:World)(A:Around)(E:Value→Shared→Prop)(s:Shared)(OK:Nat→Option (Array Keyed)→X→Y→Z→Prop)(st:SortSt):Prop where
 mono:∀{lo x y z},OK (lo+1) none x y z→OK lo none x y z
 top:∀{lo x y z},OK lo none x y z→lo≤t
 h0:∀{g lo mg c Q},OK lo none c.2.1 c.2.2.1 c.2.2.2.1→Tok OK (lo+1) Q (m5 st g)→wpS (model prog w) A E s (f0 mg c) Q (m5 st g)
 h1:∀{g lo mg c Q},OK lo none c.2.1 c.2.2.1 c.2.2.2.1→(∀g,Tok OK lo Q (m5 st g))→wpS (model prog w) A E s (f1 mg c) Q (m5 st g)
variable{t f0 f1}{prog:Program}{w:World}{A:Around}{E:Value→Shared→Prop}{s:Shared}{st:SortSt}{OK:Nat→Option (Array Keyed)→X→Y→Z→Prop}{lo g mg:Nat}{Q:ForInStep (S5 X Y Z)→SortSt→Prop}
theorem Xr{e:S7 X Y Z}(he:OK lo e.1 e.2.1 e.2.2.1 e.2.2.2.1)(h:∀g,ToS OK lo Q (m5 st g)):wpS (model prog w) A E s (kE e) Q (m5 st g):=by
 obtain⟨r,e⟩:=e
 cases r with
 |some r=>exact wpS_pure ((h _ (some r,_) he).1 r rfl)
 |none=>exact wpS_bind ((V8 _).symm▸wpS_modify (wpS_pure ((h _ (none,_) he).2 rfl)))
theorem Xu(K:Sk t f0 f1 prog w A E s OK st){d:S6 X Y Z}(hd:OK lo d.1 d.2.1 d.2.2.1 d.2.2.2.1)(h:∀g,ToS OK lo Q (m5 st g)):wpS (model prog w) A E s (kD t f1 mg d) Q (m5 st g):=by
 obtain⟨r,d⟩:=d
 cases r with
 |some r=>exact wpS_pure ((h _ (some r,_) hd).1 r rfl)
 |none=>
  refine wpS_bind (wpS_lift (wpAny_rule ⟨rfl,wpS_bind (wpS_mono (wpS_forRange (I:=fun O c st'=>c.1=none∧Rp OK lo st c st') (Q:=Rp OK lo st) ?_ (fun O O h=>h.2) ⟨rfl,hd,_,rfl⟩) ?_)⟩))
  ·rintro _ c _ _ _ ⟨e,hc,g,rfl⟩
   rw [e] at hc
   have z:∀g,Tok (T:=Nat×Nat×Nat) OK lo (fun r st'=>match r with | .done c'=>Rp OK lo st c' st' | .yield c'=>c'.1=none∧Rp OK lo st c' st') (m5 st g):=fun g c' h'=>⟨⟨h',g,rfl⟩,fun e=>⟨e,h',g,rfl⟩⟩
   by_cases f:c.2.2.2.2.1 > 1
   ·exact j4 f (K.h1 hc z)
   ·exact j5 f (K.h1 hc z)
  ·rintro e _ ⟨he,g,rfl⟩
   exact Xr he h
theorem Xv(K:Sk t f0 f1 prog w A E s OK st)(ht:t≠0){c:S5 X Y Z}(hc:OK lo none c.2.1 c.2.2.1 c.2.2.2.1)(h:∀g,ToS OK (lo+1) Q (m5 st g)):wpS (model prog w) A E s (kC t f0 f1 c) Q (m5 st g):=by
 refine wpS_bind (wpS_mono (wpS_forRange (I:=fun x c st'=>c.1=none∧Rp OK lo st c st'∧(x≠0→Rp OK (lo+1) st c st')) (Q:=Rp OK (lo+1) st) ?_ (fun O O h=>h.2.2 (by rw [Nat.zero_max];exact ht)) ⟨rfl,⟨hc,_,rfl⟩,fun z=>absurd rfl z⟩) ?_)
 ·rintro _ d _ _ _ ⟨e,⟨hd,g,rfl⟩,_⟩
  rw [e] at hd
  refine K.h0 hd fun c' h'=>⟨⟨h',g,rfl⟩,fun e=>⟨e,⟨?_,g,rfl⟩,fun O=>⟨h',g,rfl⟩⟩⟩
  rw [e] at h' ⊢
  exact K.mono h'
 ·rintro d _ ⟨hd,g,rfl⟩
  exact Xu K hd h
theorem Nf(K:Sk t f0 f1 prog w A E s OK st){x:X}{y:Y}{z:Z}{Q:Array Keyed→SortSt→Prop}(h:OK 1 none x y z)(k:∀{lo o x y z g},OK lo (some o) x y z→Q o (m5 st g)):wpS (model prog w) A E s (kA t f0 f1 x y z) Q st:=by
 refine wpS_bind (wpS_get (wpS_bind (wpS_mono (wpS_forRange (I:=fun i c st'=>c.1=none∧Rp OK (i+1) st c st') (Q:=fun c st' => ∃o,c.1=some o∧∃lo,Rp OK lo st c st') ?_ ?_ ⟨rfl,h,gallopOf st,rfl⟩) ?_)))
 ·rintro i c _ _ _ ⟨e,hc,g,rfl⟩
  rw [e] at hc
  refine Xv K (Nat.ne_of_gt (Nat.lt_of_lt_of_le (Nat.succ_pos _) (K.top h))) hc fun g c' h'=>⟨fun o e=>⟨o,e,_,h',g,rfl⟩,fun e=>⟨e,h',g,rfl⟩⟩
 ·rintro c _ ⟨e,hc,_⟩
  rw [e] at hc
  exact absurd (K.top hc) (by rw [Nat.zero_max];exact Nat.not_succ_le_self _)
 ·rintro c _ ⟨o,e,lo,hc,g,rfl⟩
  obtain⟨r,c⟩:=c
  cases e
  exact wpS_pure (k hc)
end
theorem aa9(a b:Array Keyed):rO a b=(do
 rule "list.sort.merge-lo"
 let x ← elem' b 0
 if 1==b.size then return dF a b #[x] 0 1
 if 0+1==a.size then return rP a b #[x] 0 1
 kA (a.size+b.size) (lo0 a b) (lo1 a b) #[x] 0 1):=by kernel_rfl
section
variable{α:Type}{A B o:List α}{i j:Nat}
noncomputable def Per(A B o:List α)(i j:Nat):Prop:=o.Perm (A.take i++B.take j)
theorem Per.a(h:Per A B o i j)(k:Nat):Per A B (o++(A.drop i).take k) (i+k) j:=by
 unfold Per;rw [List.take_add]
 refine(List.Perm.append_right _ h).trans ?_
 rw [List.append_assoc,List.append_assoc]
 exact List.perm_append_comm.append_left _
theorem Per.b(h:Per A B o i j)(k:Nat):Per A B (o++(B.drop j).take k) i (j+k):=by
 unfold Per;rw [List.take_add,← List.append_assoc]
 exact List.Perm.append_right _ h
theorem Per.all(h:Per A B o i j)(hi:i=A.length)(hj:j=B.length):o.Perm (A++B):=by
 subst hi;subst hj;unfold Per at h;rwa [List.take_length,List.take_length] at h
theorem Ao{a:Array α}{i k:Nat}:(a.extract i (i+k)).toList=(a.toList.drop i).take k:=by
 rw [Array.toList_extract,List.extract_eq_take_drop,Nat.add_sub_cancel_left]
theorem rQ{a:Array α}{i:Nat}(h:i<a.size):(a.toList.drop i).take 1=[a[i]]:=by
 rw [List.drop_eq_getElem_cons (by exact h)];rfl
end
section
variable{a b out:Array Keyed}{ia ib:Nat}
noncomputable abbrev Z5(a b out:Array Keyed)(ia ib:Nat):Prop:=Per a.toList b.toList out.toList ia ib
theorem Z5.nM(h:Z5 a b out ia ib)(q:ia<a.size):Z5 a b (out.push a[ia]) (ia+1) ib:=by
 unfold Z5;rw [Array.toList_push,← rQ q];exact h.a 1
theorem Z5.nO(h:Z5 a b out ia ib)(q:ib<b.size):Z5 a b (out.push b[ib]) ia (ib+1):=by
 unfold Z5;rw [Array.toList_push,← rQ q];exact h.b 1
theorem Z5.rR(h:Z5 a b out ia ib)(k:Nat):Z5 a b (out++a.extract ia (ia+k)) (ia+k) ib:=by
 unfold Z5;rw [Array.toList_append,Ao];exact h.a k
theorem Z5.rT(h:Z5 a b out ia ib)(k:Nat):Z5 a b (out++b.extract ib (ib+k)) ia (ib+k):=by
 unfold Z5;rw [Array.toList_append,Ao];exact h.b k
theorem Z5.done(h:Z5 a b out ia ib)(p:ia≤a.size)(q:ib≤b.size):(dF a b out ia ib).toList.Perm (a.toList++b.toList):=by
 have:=(h.rR (a.size-ia)).rT (b.size-ib)
 rw [Nat.add_sub_of_le p,Nat.add_sub_of_le q] at this
 exact this.all rfl rfl
theorem Z5.last(h:Z5 a b out ia ib)(p:ia≤a.size)(q:ib≤b.size):(rP a b out ia ib).toList.Perm (a.toList++b.toList):=by
 have:=(h.rT (b.size-ib)).rR (a.size-ia)
 rw [Nat.add_sub_of_le p,Nat.add_sub_of_le q] at this
 exact this.all rfl rfl
noncomputable def Jq(a b:Array Keyed)(lo:Nat)(r:Option (Array Keyed))(out:Array Keyed)(ia ib:Nat):Prop:=match r with
 |some o=>o.toList.Perm (a.toList++b.toList)
 |none=>Z5 a b out ia ib∧ia+1<a.size∧ib<b.size∧lo≤ia+ib
variable{prog:Program}{w:World}{A:Around}{E:Value→Shared→Prop}{s:Shared}{st:SortSt}{mg k k2 bc lo:Nat}{T:Type}
noncomputable abbrev CT(T:Type):=Option (Array Keyed)×Array Keyed×Nat×Nat×T
noncomputable abbrev CTok(a b:Array Keyed)(lo:Nat)(Q:ForInStep (CT T)→SortSt→Prop)(st:SortSt):Prop:=Tok (Jq a b) lo Q st
theorem CTok.some{Q:ForInStep (CT T)→SortSt→Prop}(h:CTok a b lo Q st){o:Array Keyed}{t:T}(p:o.toList.Perm (a.toList++b.toList)):Q (.done (some o,out,ia,ib,t)) st:=(h (Option.some o,out,ia,ib,t) p).1
theorem CTok.none{Q:ForInStep (CT T)→SortSt→Prop}(h:CTok a b lo Q st){t:T}(p:Z5 a b out ia ib)(q1:ia+1<a.size)(q2:ib<b.size)(q3:lo≤ia+ib):Q (.done (none,out,ia,ib,t)) st∧Q (.yield (none,out,ia,ib,t)) st:=
 ⟨(h (Option.none,out,ia,ib,t) ⟨p,q1,q2,q3⟩).1,(h (Option.none,out,ia,ib,t) ⟨p,q1,q2,q3⟩).2 rfl⟩
theorem Rq{c:C6}{Q:ForInStep C6→SortSt→Prop}(hk:kindOf st=oneType')(ha:uT a)(hb:uT b)(hc:Jq a b lo none c.2.1 c.2.2.1 c.2.2.2.1)
  (h:CTok a b (lo+1) Q st):wpS (model prog w) A E s (lo0 a b mg c) Q st:=by
 obtain⟨c0,out,ia,ib,ac,bc⟩:=c
 obtain⟨p,q1,q2,q3⟩:=hc
 dsimp only at p q1 q2 q3
 unfold lo0
 refine wpS_bind (u5 q2 (wpS_bind (u5 (Nat.lt_of_succ_lt q1) (wpS_bind (rN hk (hb _ _) (ha _ _) ?_)))))
 dsimp only
 cases decide (numOf b[ib].1<numOf a[ia].1) with
 |true=>
  refine wpS_bind (u5 q2 ?_)
  have p':=p.nO q2
  by_cases e:ib+1=b.size
  ·exact j4 (beq_iff_eq.mpr e) (wpS_pure (h.some (p'.done (Nat.le_of_lt (Nat.lt_of_succ_lt q1)) q2)))
  ·refine j5 (mt beq_iff_eq.mp e) ?_
   have z:=fun t=>h.none (t:=t) p' q1 (by exact Nat.lt_of_le_of_ne ‹_› ‹_›) (by exact Nat.succ_le_succ ‹_›)
   by_cases f:bc+1≥mg
   ·exact j4 f (wpS_pure (z _).1)
   ·exact j5 f (wpS_pure (z _).2)
 |false=>
  refine wpS_bind (u5 (Nat.lt_of_succ_lt q1) ?_)
  have p':=p.nM (Nat.lt_of_succ_lt q1)
  by_cases e:ia+1+1=a.size
  ·exact j4 (beq_iff_eq.mpr e) (wpS_pure (h.some (p'.last (Nat.le_of_lt q1) (Nat.le_of_lt q2))))
  ·refine j5 (mt beq_iff_eq.mp e) ?_
   have z:=fun t=>h.none (t:=t) p' (by exact Nat.lt_of_le_of_ne ‹_› ‹_›) q2 (by exact Mine.Internal.ad1 ‹_›)
   by_cases f:ac+1≥mg
   ·exact j4 f (wpS_pure (z _).1)
   ·exact j5 f (wpS_pure (z _).2)
theorem GZ{Q:ForInStep C7→SortSt→Prop}(hc:Jq a b lo none out ia ib)(h:CTok a b lo Q st):wpS (model prog w) A E s (YK a b mg k k2 out ia ib) Q st:=by
 obtain⟨p,q1,q2,q3⟩:=hc
 unfold YK
 refine wpS_bind (u5 (Nat.lt_of_succ_lt q1) ?_)
 have p':=p.nM (Nat.lt_of_succ_lt q1)
 by_cases e:ia+1+1=a.size
 ·exact j4 (beq_iff_eq.mpr e) (wpS_pure (h.some (p'.last (Nat.le_of_lt q1) (Nat.le_of_lt q2))))
 ·refine j5 (mt beq_iff_eq.mp e) ?_
  have z:=h.none (t:=(mg,k,k2)) p' (by exact Nat.lt_of_le_of_ne ‹_› ‹_›) q2 (by exact Mine.Internal.ad2 ‹_›)
  by_cases f:(decide (k<7)&&decide (k2<7))=true
  ·exact j4 f (wpS_pure z.1)
  ·exact j5 f (wpS_pure z.2)
theorem Hf{Q:ForInStep C7→SortSt→Prop}(hk:kindOf st=oneType')(ha:uT a)(hb:uT b)(hc:Jq a b lo none out ia ib)(h:CTok a b lo Q st):wpS (model prog w) A E s (lo2 a b mg k bc out ia ib) Q st:=by
 obtain⟨p,q1,q2,q3⟩:=hc
 unfold lo2
 refine wpS_bind (u5 q2 ?_)
 have p':=p.nO q2
 by_cases e:ib+1=b.size
 ·exact j4 (beq_iff_eq.mpr e) (wpS_pure (h.some (p'.done (Nat.le_of_lt (Nat.lt_of_succ_lt q1)) q2)))
 ·refine j5 (mt beq_iff_eq.mp e) ?_
  refine wpS_bind (u5 (Nat.lt_of_succ_lt q1) (wpS_bind (V7 hk (ha _ _) hb (by exact Mine.Internal.gap ‹_›) (by exact Mine.Internal.gp1 ‹_› ‹_›) fun k2 l2 O=>?_)))
  by_cases f:k2 > 0
  ·refine j4 f ?_
   have p2:=p'.rT k2
   by_cases e:ib+1+k2=b.size
   ·exact j4 (beq_iff_eq.mpr e) (wpS_pure (h.some (p2.done (Nat.le_of_lt (Nat.lt_of_succ_lt q1)) (by exact Nat.le_of_eq ‹_›))))
   ·refine j5 (mt beq_iff_eq.mp e) ?_
    exact GZ ⟨p2,q1,by exact Mine.Internal.kk1 ‹_› ‹_› ‹_›,by exact Mine.Internal.ad3 ‹_›⟩ h
  ·refine j5 f ?_
   exact GZ ⟨p',q1,by exact Nat.lt_of_le_of_ne ‹_› ‹_›,by exact Nat.le_succ_of_le ‹_›⟩ h
theorem Rr{c:C7}{Q:ForInStep C7→SortSt→Prop}(hk:kindOf st=oneType')(ha:uT a)(hb:uT b)(hc:Jq a b lo none c.2.1 c.2.2.1 c.2.2.2.1)(h:CTok a b lo Q (m5 st mg)):wpS (model prog w) A E s (lo1 a b mg c) Q st:=by
 obtain⟨c0,out,ia,ib,mg,ac,bc⟩:=c
 obtain⟨p,q1,q2,q3⟩:=hc
 dsimp only at p q1 q2 q3
 unfold lo1
 rw [V8]
 refine wpS_bind (wpS_modify (wpS_bind (u5 q2 (wpS_bind (V7 (st:=m5 st _) hk (hb _ _) ha (by dsimp only;lia) (by dsimp only;lia) fun k l O=>?_)))))
 dsimp only at l
 by_cases f:k > 0
 ·refine j4 f ?_
  have p2:=p.rR k
  by_cases e:ia+k+1=a.size
  ·exact j4 (beq_iff_eq.mpr e) (wpS_pure (h.some (p2.last (by exact Mine.Internal.el1 ‹_›) (Nat.le_of_lt q2))))
  ·refine j5 (mt beq_iff_eq.mp e) ?_
   by_cases e:ia+k=a.size
   ·exact j4 (beq_iff_eq.mpr e) (wpS_pure (h.some (p2.done (by exact Nat.le_of_eq ‹_›) (Nat.le_of_lt q2))))
   ·refine j5 (mt beq_iff_eq.mp e) ?_
    exact Hf hk ha hb ⟨p2,by lia,q2,by exact Mine.Internal.ad4 ‹_›⟩ h
 ·refine j5 f ?_
  exact Hf hk ha hb ⟨p,q1,q2,q3⟩ h
theorem Aq{Q:Array Keyed→SortSt→Prop}(hk:kindOf st=oneType')(ha:uT a)(hb:uT b)(na:1≤a.size)(nb:1≤b.size)
  (h:∀g out,out.toList.Perm (a.toList++b.toList)→Q out (m5 st g)):wpS (model prog w) A E s (rO a b) Q st:=by
 rw [aa9]
 refine wpS_bind (wpS_lift (wpAny_rule ⟨rfl,wpS_bind (u5 nb ?_)⟩))
 have p:Z5 a b #[b[0]] 0 1:=Z5.nO (a:=a) (b:=b) (out := #[]) (ia:=0) (ib:=0) (List.Perm.refl []) nb
 by_cases e:1=b.size
 ·exact j4 (beq_iff_eq.mpr e) (wpS_pure (h (gallopOf st) _ (p.done (Nat.zero_le _) nb)))
 refine j5 (mt beq_iff_eq.mp e) ?_
 by_cases f:0+1=a.size
 ·exact j4 (beq_iff_eq.mpr f) (wpS_pure (h (gallopOf st) _ (p.last (Nat.zero_le _) nb)))
 refine j5 (mt beq_iff_eq.mp f) (Nf (OK:=Jq a b) ⟨fun h=>⟨h.1,h.2.1,h.2.2.1,Nat.le_of_succ_le h.2.2.2⟩,fun h=>?_,fun hc h=>Rq (st:=m5 st _) hk ha hb hc h,fun hc h=>Rr (st:=m5 st _) hk ha hb hc (h _)⟩ ⟨p,by exact Nat.lt_of_le_of_ne ‹_› ‹_›,by exact Nat.lt_of_le_of_ne ‹_› ‹_›,Nat.le_refl _⟩ fun h'=>h _ _ h')
 have:=h.2
 lia
end
end Ms.Internal
set_option autoImplicit false
namespace Ms.Internal
open PySem PyProof PyProof.Rows
noncomputable def rU:Array Keyed→Array Keyed→StateT SortSt Sem (Array Keyed):=sortPriv% PySem.Builtin.mergeHi
noncomputable abbrev dG(a b out:Array Keyed)(na nb:Nat):Array Keyed:=a.extract 0 na++b.extract 0 nb++out.reverse
noncomputable abbrev rW(a b out:Array Keyed)(na nb:Nat):Array Keyed:=b.extract 0 nb++a.extract 0 na++out.reverse
noncomputable abbrev D6:=Option (Array Keyed)×Nat×Nat×Array Keyed×Nat×Nat
noncomputable abbrev D7:=Option (Array Keyed)×Nat×Nat×Array Keyed×Nat×Nat×Nat
noncomputable def hi0(a b:Array Keyed)(mg:Nat)(c:D6):StateT SortSt Sem (ForInStep D6):=do
 let x ← elem' b (c.2.2.1-1)
 let y ← elem' a (c.2.1-1)
 let r ← lt' x y
 match r with
 |some aWins=>
  if aWins then do
   let x ← elem' a (c.2.1-1)
   if c.2.1-1==0 then pure (.done (some (dG a b (c.2.2.2.1.push x) (c.2.1-1) c.2.2.1),c.2.1-1,c.2.2.1,c.2.2.2.1.push x,c.2.2.2.2.1+1,0))
   else if c.2.2.2.2.1+1≥mg then pure (.done (none,c.2.1-1,c.2.2.1,c.2.2.2.1.push x,c.2.2.2.2.1+1,0))
   else pure (.yield (none,c.2.1-1,c.2.2.1,c.2.2.2.1.push x,c.2.2.2.2.1+1,0))
  else do
   let x ← elem' b (c.2.2.1-1)
   if c.2.2.1-1==1 then pure (.done (some (rW a b (c.2.2.2.1.push x) c.2.1 (c.2.2.1-1)),c.2.1,c.2.2.1-1,c.2.2.2.1.push x,0,c.2.2.2.2.2+1))
   else if c.2.2.2.2.2+1≥mg then pure (.done (none,c.2.1,c.2.2.1-1,c.2.2.2.1.push x,0,c.2.2.2.2.2+1))
   else pure (.yield (none,c.2.1,c.2.2.1-1,c.2.2.2.1.push x,0,c.2.2.2.2.2+1))
 |_=>pure (.done (some (dG a b c.2.2.2.1 c.2.1 c.2.2.1),c.2))
noncomputable def hi3(a b:Array Keyed)(mg k k2:Nat)(out:Array Keyed)(na nb:Nat):StateT SortSt Sem (ForInStep D7):=do
 let x ← elem' a (na-1)
 if na-1==0 then pure (.done (some (dG a b (out.push x) (na-1) nb),na-1,nb,out.push x,mg,k,k2))
 else if k<7&&k2<7 then pure (.done (none,na-1,nb,out.push x,mg,k,k2))
 else pure (.yield (none,na-1,nb,out.push x,mg,k,k2))
noncomputable def hi2(a b:Array Keyed)(mg k bc:Nat)(out:Array Keyed)(na nb:Nat):StateT SortSt Sem (ForInStep D7):=do
 let x ← elem' b (nb-1)
 if nb-1==1 then pure (.done (some (rW a b (out.push x) na (nb-1)),na,nb-1,out.push x,mg,k,bc))
 else do
  let y ← elem' a (na-1)
  let r ← bD true y b 0 (nb-1) (nb-1-1)
  match r with
  |some k2=>
   if nb-1-k2 > 0 then
    if k2==1 then pure (.done (some (rW a b (out.push x++(b.extract k2 (nb-1)).reverse) na k2),na,k2,out.push x++(b.extract k2 (nb-1)).reverse,mg,k,nb-1-k2))
    else if k2==0 then pure (.done (some (dG a b (out.push x++(b.extract k2 (nb-1)).reverse) na k2),na,k2,out.push x++(b.extract k2 (nb-1)).reverse,mg,k,nb-1-k2))
    else hi3 a b mg k (nb-1-k2) (out.push x++(b.extract k2 (nb-1)).reverse) na k2
   else hi3 a b mg k (nb-1-k2) (out.push x) na (nb-1)
  |_=>pure (.done (some (dG a b (out.push x) na (nb-1)),na,nb-1,out.push x,mg,k,bc))
noncomputable def hi1(a b:Array Keyed)(mg:Nat)(c:D7):StateT SortSt Sem (ForInStep D7):=do
 W3 mg
 let x ← elem' b (c.2.2.1-1)
 let r ← bD false x a 0 c.2.1 (c.2.1-1)
 match r with
 |some k=>
  if c.2.1-k > 0 then
   if k==0 then pure (.done (some (dG a b (c.2.2.2.1++(a.extract k c.2.1).reverse) k c.2.2.1),k,c.2.2.1,c.2.2.2.1++(a.extract k c.2.1).reverse,mg,c.2.1-k,c.2.2.2.2.2.2))
   else hi2 a b mg (c.2.1-k) c.2.2.2.2.2.2 (c.2.2.2.1++(a.extract k c.2.1).reverse) k c.2.2.1
  else hi2 a b mg (c.2.1-k) c.2.2.2.2.2.2 c.2.2.2.1 c.2.1 c.2.2.1
 |_=>pure (.done (some (dG a b c.2.2.2.1 c.2.1 c.2.2.1),c.2.1,c.2.2.1,c.2.2.2.1,mg,c.2.2.2.2.2.1,c.2.2.2.2.2.2))
theorem ab0(a b:Array Keyed):rU a b=(do
 rule "list.sort.merge-hi"
 let x ← elem' a (a.size-1)
 if a.size-1==0 then return dG a b #[x] (a.size-1) b.size
 if b.size==1 then return rW a b #[x] (a.size-1) b.size
 kA (a.size+b.size) (hi0 a b) (hi1 a b) (a.size-1) b.size #[x]):=by kernel_rfl
section
variable{α:Type}{A B o:List α}{i j:Nat}
noncomputable def j7(A B o:List α)(i j:Nat):Prop:=o.Perm (A.drop i++B.drop j)
theorem wG{A:List α}{k i:Nat}(hk:k≤i):A.drop k=(A.drop k).take (i-k)++A.drop i:=by
 have:=(List.take_append_drop (i-k) (A.drop k)).symm
 rwa [List.drop_drop,Nat.add_sub_of_le hk] at this
theorem j7.a(h:j7 A B o i j){k:Nat}(hk:k≤i):j7 A B (o++((A.drop k).take (i-k)).reverse) k j:=by
 unfold j7
 refine(List.Perm.append h (List.reverse_perm _)).trans (List.perm_append_comm.trans ?_)
 rw [← List.append_assoc,← wG hk]
theorem j7.b(h:j7 A B o i j){k:Nat}(hk:k≤j):j7 A B (o++((B.drop k).take (j-k)).reverse) i k:=by
 unfold j7
 refine(List.Perm.append h (List.reverse_perm _)).trans ?_
 rw [List.append_assoc]
 refine List.Perm.append_left _ (List.perm_append_comm.trans ?_)
 rw [← wG hk]
theorem Hg{a:Array α}{i k:Nat}:((a.extract k i).reverse).toList=((a.toList.drop k).take (i-k)).reverse:=by
 rw [Array.toList_reverse,Array.toList_extract,List.extract_eq_take_drop]
end
section
variable{a b out:Array Keyed}{ia ib:Nat}
noncomputable abbrev X8(a b out:Array Keyed)(ia ib:Nat):Prop:=j7 a.toList b.toList out.toList ia ib
theorem wH{α:Type}{a:Array α}{i:Nat}(h:i-1<a.size)(z:1≤i):((a.toList.drop (i-1)).take (i-(i-1))).reverse=[a[i-1]]:=by
 rw [Nat.sub_sub_self z,rQ h];rfl
theorem X8.nM(h:X8 a b out ia ib)(q:ia-1<a.size)(z:1≤ia):X8 a b (out.push a[ia-1]) (ia-1) ib:=by
 unfold X8;rw [Array.toList_push,← wH q z];exact h.a (Nat.sub_le ..)
theorem X8.nO(h:X8 a b out ia ib)(q:ib-1<b.size)(z:1≤ib):X8 a b (out.push b[ib-1]) ia (ib-1):=by
 unfold X8;rw [Array.toList_push,← wH q z];exact h.b (Nat.sub_le ..)
theorem X8.rR(h:X8 a b out ia ib){k:Nat}(hk:k≤ia):X8 a b (out++(a.extract k ia).reverse) k ib:=by
 unfold X8;rw [Array.toList_append,Hg];exact h.a hk
theorem X8.rT(h:X8 a b out ia ib){k:Nat}(hk:k≤ib):X8 a b (out++(b.extract k ib).reverse) ia k:=by
 unfold X8;rw [Array.toList_append,Hg];exact h.b hk
theorem X8.done(h:X8 a b out ia ib):(dG a b out ia ib).toList.Perm (a.toList++b.toList):=by
 have:=(h.rT (Nat.zero_le _)).rR (Nat.zero_le _)
 refine List.Perm.trans (List.Perm.trans (List.reverse_perm _).symm ?_) this
 rw [← Array.toList_reverse,Array.reverse_append,Array.reverse_append,Array.reverse_reverse]
 simp only [Array.toList_append,List.append_assoc]
 exact .refl _
theorem X8.last(h:X8 a b out ia ib):(rW a b out ia ib).toList.Perm (a.toList++b.toList):=by
 have:=(h.rR (Nat.zero_le _)).rT (Nat.zero_le _)
 refine List.Perm.trans (List.Perm.trans (List.reverse_perm _).symm ?_) this
 rw [← Array.toList_reverse,Array.reverse_append,Array.reverse_append,Array.reverse_reverse]
 simp only [Array.toList_append,List.append_assoc]
 exact .refl _
noncomputable def Ng(a b:Array Keyed)(lo:Nat)(r:Option (Array Keyed))(out:Array Keyed)(ia ib:Nat):Prop:=match r with
 |some o=>o.toList.Perm (a.toList++b.toList)
 |none=>X8 a b out ia ib∧(1≤ia∧ia≤a.size)∧(2≤ib∧ib≤b.size)∧lo+ia+ib≤a.size+b.size
variable{prog:Program}{w:World}{A:Around}{E:Value→Shared→Prop}{s:Shared}{st:SortSt}{mg k k2 bc lo:Nat}{T:Type}
noncomputable abbrev DT(T:Type):=Option (Array Keyed)×Nat×Nat×Array Keyed×T
noncomputable abbrev HiK(a b:Array Keyed)(lo:Nat)(r:Option (Array Keyed))(ia ib:Nat)(out:Array Keyed):Prop:=Ng a b lo r out ia ib
noncomputable abbrev Ar(a b:Array Keyed)(lo:Nat)(Q:ForInStep (DT T)→SortSt→Prop)(st:SortSt):Prop:=Tok (HiK a b) lo Q st
theorem Ar.some{Q:ForInStep (DT T)→SortSt→Prop}(h:Ar a b lo Q st){o:Array Keyed}{t:T}(p:o.toList.Perm (a.toList++b.toList)):Q (.done (some o,ia,ib,out,t)) st:=(h (Option.some o,ia,ib,out,t) p).1
theorem Ar.none{Q:ForInStep (DT T)→SortSt→Prop}(h:Ar a b lo Q st){t:T}(p:X8 a b out ia ib)(q1:1≤ia∧ia≤a.size)(q2:2≤ib∧ib≤b.size)(q3:lo+ia+ib≤a.size+b.size):Q (.done (none,ia,ib,out,t)) st∧Q (.yield (none,ia,ib,out,t)) st:=
 ⟨(h (Option.none,ia,ib,out,t) ⟨p,q1,q2,q3⟩).1,(h (Option.none,ia,ib,out,t) ⟨p,q1,q2,q3⟩).2 rfl⟩
theorem Rt{c:D6}{Q:ForInStep D6→SortSt→Prop}(hk:kindOf st=oneType')(ha:uT a)(hb:uT b)(hc:Ng a b lo none c.2.2.2.1 c.2.1 c.2.2.1)
  (h:Ar a b (lo+1) Q st):wpS (model prog w) A E s (hi0 a b mg c) Q st:=by
 obtain⟨c0,ia,ib,out,ac,bc⟩:=c
 obtain⟨p,q1,q2,q3⟩:=hc
 dsimp only at p q1 q2 q3
 unfold hi0
 have l1:ia-1<a.size:=by exact Mine.Internal.sb1 ‹_›
 have l2:ib-1<b.size:=by exact Mine.Internal.sb2 ‹_›
 refine wpS_bind (u5 l2 (wpS_bind (u5 l1 (wpS_bind (rN hk (hb _ _) (ha _ _) ?_)))))
 dsimp only
 cases decide (numOf b[ib-1].1<numOf a[ia-1].1) with
 |true=>
  refine wpS_bind (u5 l1 ?_)
  have p':=p.nM l1 q1.1
  by_cases e:ia-1=0
  ·exact j4 (beq_iff_eq.mpr e) (wpS_pure (h.some p'.done))
  ·refine j5 (mt beq_iff_eq.mp e) ?_
   have z:=fun t=>h.none (t:=t) p' (by exact Mine.Internal.pr1 ‹_› ‹_›) q2 (by exact Mine.Internal.pr3 ‹_› ‹_›)
   by_cases f:ac+1≥mg
   ·exact j4 f (wpS_pure (z _).1)
   ·exact j5 f (wpS_pure (z _).2)
 |false=>
  refine wpS_bind (u5 l2 ?_)
  have p':=p.nO l2 (by exact Mine.Internal.pr7 ‹_›)
  by_cases e:ib-1=1
  ·exact j4 (beq_iff_eq.mpr e) (wpS_pure (h.some p'.last))
  ·refine j5 (mt beq_iff_eq.mp e) ?_
   have z:=fun t=>h.none (t:=t) p' q1 (by exact Mine.Internal.pr2 ‹_› ‹_›) (by exact Mine.Internal.pr5 ‹_› ‹_›)
   by_cases f:bc+1≥mg
   ·exact j4 f (wpS_pure (z _).1)
   ·exact j5 f (wpS_pure (z _).2)
theorem Hh{Q:ForInStep D7→SortSt→Prop}(hc:Ng a b lo none out ia ib)(h:Ar a b lo Q st):wpS (model prog w) A E s (hi3 a b mg k k2 out ia ib) Q st:=by
 obtain⟨p,q1,q2,q3⟩:=hc
 unfold hi3
 have l1:ia-1<a.size:=by lia
 refine wpS_bind (u5 l1 ?_)
 have p':=p.nM l1 q1.1
 by_cases e:ia-1=0
 ·exact j4 (beq_iff_eq.mpr e) (wpS_pure (h.some p'.done))
 ·refine j5 (mt beq_iff_eq.mp e) ?_
  have z:=h.none (t:=(mg,k,k2)) p' (by exact Mine.Internal.pr1 ‹_› ‹_›) q2 (by exact Mine.Internal.pr4 ‹_›)
  by_cases f:(decide (k<7)&&decide (k2<7))=true
  ·exact j4 f (wpS_pure z.1)
  ·exact j5 f (wpS_pure z.2)
theorem Hi{Q:ForInStep D7→SortSt→Prop}(hk:kindOf st=oneType')(ha:uT a)(hb:uT b)(hc:Ng a b lo none out ia ib)(h:Ar a b lo Q st):wpS (model prog w) A E s (hi2 a b mg k bc out ia ib) Q st:=by
 obtain⟨p,q1,q2,q3⟩:=hc
 unfold hi2
 have l1:ia-1<a.size:=by exact Mine.Internal.sb1 ‹_›
 have l2:ib-1<b.size:=by exact Mine.Internal.sb2 ‹_›
 refine wpS_bind (u5 l2 ?_)
 have p':=p.nO l2 (by exact Mine.Internal.pr7 ‹_›)
 by_cases e:ib-1=1
 ·exact j4 (beq_iff_eq.mpr e) (wpS_pure (h.some p'.last))
 ·refine j5 (mt beq_iff_eq.mp e) ?_
  refine wpS_bind (u5 l1 (wpS_bind (V7 hk (ha _ _) hb (by exact Mine.Internal.zl1 ‹_›) (by exact Mine.Internal.pr8 ‹_›) fun k2 r2 O=>?_)))
  by_cases f:ib-1-k2 > 0
  ·refine j4 f ?_
   have p2:=p'.rT r2
   by_cases e:k2=1
   ·exact j4 (beq_iff_eq.mpr e) (wpS_pure (h.some p2.last))
   ·refine j5 (mt beq_iff_eq.mp e) ?_
    by_cases e:k2=0
    ·exact j4 (beq_iff_eq.mpr e) (wpS_pure (h.some p2.done))
    ·refine j5 (mt beq_iff_eq.mp e) ?_
     exact Hh ⟨p2,q1,by exact Mine.Internal.ah9 ‹_› ‹_› ‹_› ‹_›,by exact Mine.Internal.ah8 ‹_› ‹_›⟩ h
  ·refine j5 f ?_
   exact Hh ⟨p',q1,by exact Mine.Internal.pr2 ‹_› ‹_›,by exact Mine.Internal.pr6 ‹_›⟩ h
theorem Ru{c:D7}{Q:ForInStep D7→SortSt→Prop}(hk:kindOf st=oneType')(ha:uT a)(hb:uT b)(hc:Ng a b lo none c.2.2.2.1 c.2.1 c.2.2.1)(h:Ar a b lo Q (m5 st mg)):wpS (model prog w) A E s (hi1 a b mg c) Q st:=by
 obtain⟨c0,ia,ib,out,mg,ac,bc⟩:=c
 obtain⟨p,q1,q2,q3⟩:=hc
 dsimp only at p q1 q2 q3
 unfold hi1
 rw [V8]
 have l2:ib-1<b.size:=by exact Mine.Internal.sb2 ‹_›
 refine wpS_bind (wpS_modify (wpS_bind (u5 l2 (wpS_bind (V7 (st:=m5 st _) hk (hb _ _) ha (by dsimp only;lia) (by dsimp only;exact Mine.Internal.pr9 ‹_›) fun k l O=>?_)))))
 dsimp only at l
 by_cases f:ia-k > 0
 ·refine j4 f ?_
  have p2:=p.rR l
  by_cases e:k=0
  ·exact j4 (beq_iff_eq.mpr e) (wpS_pure (h.some p2.done))
  ·refine j5 (mt beq_iff_eq.mp e) ?_
   exact Hi hk ha hb ⟨p2,by lia,q2,by exact Mine.Internal.ah7 ‹_› ‹_›⟩ h
 ·refine j5 f ?_
  exact Hi hk ha hb ⟨p,q1,q2,q3⟩ h
theorem Av{Q:Array Keyed→SortSt→Prop}(hk:kindOf st=oneType')(ha:uT a)(hb:uT b)(na:1≤a.size)(nb:1≤b.size)
  (h:∀g out,out.toList.Perm (a.toList++b.toList)→Q out (m5 st g)):wpS (model prog w) A E s (rU a b) Q st:=by
 rw [ab0]
 have l1:a.size-1<a.size:=by lia
 refine wpS_bind (wpS_lift (wpAny_rule ⟨rfl,wpS_bind (u5 l1 ?_)⟩))
 have p:X8 a b #[a[a.size-1]] (a.size-1) b.size:=X8.nM (a:=a) (b:=b) (out := #[]) (ia:=a.size) (ib:=b.size) (by
  unfold X8 j7;rw [show a.size=a.toList.length from rfl,show b.size=b.toList.length from rfl,List.drop_length,List.drop_length];exact List.Perm.refl []) l1 na
 by_cases e:a.size-1=0
 ·exact j4 (beq_iff_eq.mpr e) (wpS_pure (h (gallopOf st) _ p.done))
 refine j5 (mt beq_iff_eq.mp e) ?_
 by_cases f:b.size=1
 ·exact j4 (beq_iff_eq.mpr f) (wpS_pure (h (gallopOf st) _ p.last))
 refine j5 (mt beq_iff_eq.mp f) (Nf (OK:=HiK a b) ⟨fun h=>⟨h.1,h.2.1,h.2.2.1,?_⟩,fun h=>?_,fun hc h=>Rt (st:=m5 st _) hk ha hb hc h,fun hc h=>Ru (st:=m5 st _) hk ha hb hc (h _)⟩ ⟨p,by exact Mine.Internal.pr1 ‹_› ‹_›,by lia,by lia⟩ fun h'=>h _ _ h')
 ·have:=h.2.2.2
  lia
 ·have:=h.2.2.2
  lia
end
end Ms.Internal
set_option autoImplicit false
namespace Ms.Internal
open PySem PyProof PyProof.Rows
theorem Aw(i:Nat):mergeAt' i=(do
 let s ← get
 let(some (sa,na,power),some (sb,nb,_)):=((pendingOf s)[i]?,(pendingOf s)[i+1]?)|unsupported "internal:list.sort.pending"
 set (setPending s (((pendingOf s).setIfInBounds i (sa,na+nb,power)).eraseIdxIfInBounds (i+1)))
 let some k ← bD false (← elem' (arrOf s) sb) (arrOf s) sa na 0|return false
 let(sa,na):=(sa+k,na-k)
 if na==0 then return true
 let some nb ← bD true (← elem' (arrOf s) (sa+na-1)) (arrOf s) sb nb (nb-1)|return false
 if nb==0 then return true
 let x:=(arrOf s).extract sa sb
 let y:=(arrOf s).extract sb (sb+nb)
 let merged ← if na≤nb then rO x y else rU x y
 modify fun s=>setArr s (merged.toList.zipIdx.foldl (fun a (p,j)=>a.setIfInBounds (sa+j) p) (arrOf s))
 return (failedOf (← get)).isNone):=by
 rfl
section
variable{prog:Program}{w:World}{A:Around}{E:Value→Shared→Prop}{s:Shared}{st:SortSt}
theorem Rx{st':SortSt}{Q:PUnit→SortSt→Prop}(h:Q ⟨⟩ st'):wpS (model prog w) A E s (set st':StateT SortSt Sem PUnit) Q st:=by
 unfold wpS;rw [StateT.run_set];exact wpAny_pure ⟨rfl,h⟩
noncomputable def key(p:Keyed):Int:=numOf p.1
structure H0(a₀:Array Keyed):Prop where
 ik:IntKeys a₀
 nd:(a₀.toList.map key).Nodup
 mn:∀p∈a₀.toList,K a₀ 0≤key p
structure WB(a₀:Array Keyed)(st:SortSt):Prop where
 perm:(arrOf st).Perm a₀
 kind:kindOf st=oneType'
 failed:failedOf st=none
 head:(arrOf st)[0]? = a₀[0]?
variable{a₀:Array Keyed}
theorem WB.size(h:WB a₀ st):(arrOf st).size=a₀.size:=h.perm.size_eq
theorem WB.iks(h:WB a₀ st)(z:H0 a₀):uT (arrOf st):=fun i hi=>z.ik _ ((Array.perm_iff_toList_perm.mp h.perm).mem_iff.mp (by simp))
theorem Ax{xs:Array Keyed}{i:Nat}(h:i<xs.size):K xs i=key xs[i]:=by unfold K;rw [getElem?_pos xs i h];rfl
theorem WB.gt(h:WB a₀ st)(z:H0 a₀){i:Nat}(h1:1≤i)(h2:i<(arrOf st).size):K (arrOf st) 0<K (arrOf st) i:=by
 have p:=Array.perm_iff_toList_perm.mp h.perm
 have e0:K (arrOf st) 0=K a₀ 0:=K_congr h.head
 have le:K a₀ 0≤K (arrOf st) i:=by
  rw [Ax h2];exact z.mn _ (p.mem_iff.mp (by simp))
 have nd:=(p.map key).nodup_iff.mpr z.nd
 have ne:K (arrOf st) 0≠K (arrOf st) i:=by
  rw [Ax h2,Ax (by lia)]
  intro e
  have:=(List.nodup_iff_pairwise_ne.mp nd)
  have:=List.pairwise_iff_getElem.mp this 0 i (by simp;lia) (by simpa using h2) (by assumption)
  simp at this
  exact this e
 lia
theorem WB.set(h:WB a₀ st){xs:Array Keyed}(p:xs.Perm (arrOf st))(q:xs[0]? = (arrOf st)[0]?):WB a₀ (setArr st xs):=
 ⟨p.trans h.perm,h.kind,h.failed,q.trans h.head⟩
theorem WB.lt(h:WB a₀ st)(z:H0 a₀){i j:Nat}{Q:Option Bool→SortSt→Prop}(hi:i<a₀.size)(hj:j<a₀.size)
  (k:Q (some (decide (K (arrOf st) i<K (arrOf st) j))) st):wpS (model prog w) A E s (ltAt' i j) Q st:=by
 have hi':=h.size▸hi
 have hj':=h.size▸hj
 rw [ltAt'_eq]
 refine wpS_bind (wpS_get (wpS_bind (u5 hi' (wpS_bind (u5 hj' (rN h.kind (h.iks z _ _) (h.iks z _ _) ?_))))))
 rw [Ax hi',Ax hj'] at k
 exact k
end
section
variable{α:Type}
theorem Jr(o:Nat):∀(m:List α) (k:Nat) (a:Array α),o+k+m.length≤a.size→
  ((m.zipIdx k).foldl (fun a p=>a.setIfInBounds (o+p.2) p.1) a).toList=a.toList.take (o+k)++m++a.toList.drop (o+k+m.length):=by
 intro m
 induction m with
 |nil=>intro k a h;simp
 |cons p m ih=>
  intro k a h
  rw [List.length_cons] at h
  rw [List.zipIdx_cons,List.foldl_cons,ih (k+1) _ (by rw [Array.size_setIfInBounds];lia)]
  have hk:o+k<a.toList.length:=by rw [Array.length_toList];lia
  rw [Array.toList_setIfInBounds,List.set_eq_take_append_cons_drop,if_pos hk]
  have hl:(a.toList.take (o+k)).length=o+k:=by rw [List.length_take];lia
  have e1:(a.toList.take (o+k)++p::a.toList.drop (o+k+1)).take (o+(k+1))=a.toList.take (o+k)++[p]:=by
   rw [List.take_append,hl,List.take_of_length_le (by lia),Nat.add_sub_add_left,Nat.add_sub_cancel_left];rfl
  have e2:(a.toList.take (o+k)++p::a.toList.drop (o+k+1)).drop (o+(k+1)+m.length)=a.toList.drop (o+k+(m.length+1)):=by
   rw [List.drop_append,hl,List.drop_of_length_le (by lia),show o+(k+1)+m.length-(o+k)=m.length+1 by lia,List.nil_append,List.drop_succ_cons,List.drop_drop]
   congr 1;exact Nat.add_right_comm ..
  rw [e1,e2,List.append_assoc,List.append_assoc,List.append_assoc,List.length_cons];rfl
noncomputable def Chain:List (Nat×Nat×Nat)→Nat→Nat→Prop
 | [],a,b=>a=b
 | (s,n,_)::l,a,b=>s=a∧1≤n∧Chain l (a+n) b
theorem Chain.le:∀{l a b},Chain l a b→a≤b
 | [],_,_,h=>Nat.le_of_eq h
 | (_,_,_)::_,_,_,h=>Nat.le_trans (Nat.le_add_right ..) h.2.2.le
theorem Chain.snoc{s n x:Nat}(hn:1≤n):∀{l a},Chain l a s→Chain (l++[(s,n,x)]) a (s+n)
 | [],_,h=>⟨h.symm,hn,h▸rfl⟩
 | (_,_,_)::_,_,h=>⟨h.1,h.2.1,Chain.snoc hn h.2.2⟩
theorem Chain.mod(f:Nat×Nat×Nat→Nat×Nat×Nat)(hf:∀p,(f p).1=p.1∧(f p).2.1=p.2.1):∀{l i a b},Chain l a b→Chain (l.modify i f) a b
 | [],i,_,_,h=>by rw [List.modify_nil];exact h
 | (s,n,x)::l,0,a,b,h=>by
  rw [List.modify_zero_cons]
  rcases e:f (s,n,x) with⟨s',n',x'⟩
  have:=hf (s,n,x)
  rw [e] at this
  obtain⟨rfl,rfl⟩:s'=s∧n'=n:=this
  exact h
 | (s,n,x)::l,i+1,a,b,h=>by
  rw [List.modify_succ_cons];exact⟨h.1,h.2.1,h.2.2.mod f hf⟩
theorem Chain.at{l:List (Nat×Nat×Nat)}{i a b s n x s' n' x':Nat}(h:Chain l a b)(e1:l[i]? = some (s,n,x))(e2:l[i+1]? = some (s',n',x')):a≤s∧s'=s+n∧1≤n∧1≤n'∧s'+n'≤b∧
  Chain ((l.set i (s,n+n',x)).eraseIdx (i+1)) a b:=by
 induction l generalizing i a with
 |nil=>cases e1
 |cons p l ih=>
  cases i with
  |zero=>
   cases e1
   cases l with
   |nil=>cases e2
   |cons q l=>
    cases e2
    obtain⟨rfl,h1,rfl,h2,h3⟩:=h
    exact⟨Nat.le_refl _,rfl,h1,h2,h3.le,rfl,Nat.le_trans h1 (Nat.le_add_right ..),(Nat.add_assoc ..).symm▸h3⟩
  |succ i=>
   have t:=ih h.2.2 e1 e2
   exact⟨Nat.le_trans (Nat.le_add_right ..) t.1,t.2.1,t.2.2.1,t.2.2.2.1,t.2.2.2.2.1,h.1,h.2.1,t.2.2.2.2.2⟩
end
end Ms.Internal
set_option autoImplicit false
namespace Ms.Internal
open PySem PyProof PyProof.Rows
section
variable{prog:Program}{w:World}{A:Around}{E:Value→Shared→Prop}{s:Shared}{st:SortSt}{a₀:Array Keyed}
theorem qp{a:Array Keyed}{i j:Nat}(h:uT a):uT (a.extract i j):=fun t ht=>by
 rw [Array.getElem_extract];exact h _ _
theorem WB.merged(h:WB a₀ st){sa L:Nat}{m:Array Keyed}(h1:1≤sa)(h2:sa+L≤(arrOf st).size)(p:m.toList.Perm (((arrOf st).toList.drop sa).take L)):
  WB a₀ (setArr st (m.toList.zipIdx.foldl (fun a p=>a.setIfInBounds (sa+p.2) p.1) (arrOf st))):=by
 have hl:m.toList.length=L:=by
  rw [p.length_eq,List.length_take,List.length_drop,Array.length_toList];lia
 have e:=Jr sa m.toList 0 (arrOf st) (by lia)
 rw [hl,Nat.add_zero] at e
 refine h.set ?_ ?_
 ·rw [Array.perm_iff_toList_perm,e]
  refine((List.Perm.append_left _ p).append_right _).trans (List.Perm.of_eq ?_)
  rw [← List.take_add,List.take_append_drop]
 ·rw [← Array.getElem?_toList,e,List.append_assoc,List.getElem?_append_left (by rw [List.length_take,Array.length_toList];lia),List.getElem?_take,if_pos (by assumption),Array.getElem?_toList]
theorem oU{lo i:Nat}{Q:Bool→SortSt→Prop}(z:H0 a₀)(h:WB a₀ st)(c:Chain (pendingOf st).toList 0 lo)(hl:lo≤a₀.size)(hi:i+1<(pendingOf st).size)
  (k:∀st',WB a₀ st'→Chain (pendingOf st').toList 0 lo→Q true st'):wpS (model prog w) A E s (mergeAt' i) Q st:=by
 rw [Aw]
 refine wpS_bind (wpS_get ?_)
 obtain⟨⟨sa,na,x⟩,e1⟩:∃t,(pendingOf st)[i]? = some t:=⟨_,getElem?_pos _ i (by exact Nat.le_of_lt ‹_›)⟩
 obtain⟨⟨sb,nb,y⟩,e2⟩:∃t,(pendingOf st)[i+1]? = some t:=⟨_,getElem?_pos _ (i+1) hi⟩
 obtain⟨q0,rfl,q1,q2,q3,c'⟩:=c.at (i:=i) ((Array.getElem?_toList ..).trans e1) ((Array.getElem?_toList ..).trans e2)
 dsimp only
 rw [e1,e2]
 dsimp only
 have T:sa+na+nb≤(arrOf st).size:=h.size▸Nat.le_trans q3 hl
 have L1:sa+na<(arrOf st).size:=Nat.lt_of_lt_of_le (Nat.lt_add_of_pos_right q2) T
 have L0:0<(arrOf st).size:=Nat.lt_of_le_of_lt (Nat.zero_le _) L1
 have ik:=h.iks z
 refine wpS_bind (Rx ?_)
 have c2:Chain (((pendingOf st).setIfInBounds i (sa,na+nb,x)).eraseIdxIfInBounds (i+1)).toList 0 lo:=by
  rw [Array.toList_eraseIdxIfInBounds,Array.toList_setIfInBounds];exact c'
 let st1:=setPending st (((pendingOf st).setIfInBounds i (sa,na+nb,x)).eraseIdxIfInBounds (i+1))
 have h1:WB a₀ st1:=⟨h.perm,h.kind,h.failed,h.head⟩
 show wpS _ _ _ _ _ Q st1
 refine wpS_bind (u5 L1 (wpS_bind (V7 h1.kind (ik _ _) ik (Nat.le_of_lt L1) (by assumption) fun j hj hj1=>?_)))
 have e3:sa+j+(na-j)=sa+na:=by rw [Nat.add_assoc,Nat.add_sub_of_le hj]
 dsimp only
 by_cases f:na-j=0
 ·exact j4 (beq_iff_eq.mpr f) (wpS_pure (k _ h1 c2))
 refine j5 (mt beq_iff_eq.mp f) ?_
 refine wpS_bind (u5 (e3.symm▸Nat.lt_of_le_of_lt (Nat.sub_le _ 1) L1) (wpS_bind (V7 h1.kind (ik _ _) ik T (Nat.sub_lt q2 Nat.one_pos) fun Xw hn' O=>?_)))
 dsimp only
 by_cases f2:Xw=0
 ·exact j4 (beq_iff_eq.mpr f2) (wpS_pure (k _ h1 c2))
 refine j5 (mt beq_iff_eq.mp f2) ?_
 have pos:1≤sa+j:=by
  rcases Nat.eq_zero_or_pos sa with rfl|p
  ·have:=hj1 L0 rfl rfl (by
    have:=h.gt z (i:=0+na) ((Nat.zero_add na).symm▸q1) L1
    rw [Ax L0,Ax L1] at this
    exact Int.le_of_lt this)
   exact Nat.add_le_add_left ‹_› _
  ·exact Nat.le_trans p (Nat.le_add_right ..)
 have sx:((arrOf st).extract (sa+j) (sa+na)).size=na-j:=by rw [Array.size_extract,Nat.min_eq_left (Nat.le_of_lt L1),Nat.add_sub_add_left]
 have sy:((arrOf st).extract (sa+na) (sa+na+Xw)).size=Xw:=by rw [Array.size_extract,Nat.min_eq_left (Nat.le_trans (Nat.add_le_add_left hn' _) T),Nat.add_sub_cancel_left]
 have fin:∀(g:Nat) (out:Array Keyed),out.toList.Perm (((arrOf st).extract (sa+j) (sa+na)).toList++((arrOf st).extract (sa+na) (sa+na+Xw)).toList)→
   wpS (model prog w) A E s (do
    modify fun s=>setArr s (out.toList.zipIdx.foldl (fun a (p,i)=>a.setIfInBounds (sa+j+i) p) (arrOf s))
    return (failedOf (← get)).isNone) Q (m5 st1 g):=by
  intro g out p
  refine wpS_bind (wpS_modify (wpS_bind (wpS_get ?_)))
  have h2:WB a₀ (m5 st1 g):=⟨h.perm,h.kind,h.failed,h.head⟩
  have h3:=h2.merged (sa:=sa+j) (L:=na-j+Xw) (m:=out) pos (by show _≤(arrOf st).size;rw [← Nat.add_assoc,e3];exact Nat.le_trans (Nat.add_le_add_left hn' _) T) (by
   refine p.trans (List.Perm.of_eq ?_)
   show _=((arrOf st).toList.drop (sa+j)).take (na-j+Xw)
   rw [List.take_add,List.drop_drop,Nat.add_assoc sa j,Nat.add_sub_of_le hj,Array.toList_extract,Array.toList_extract,List.extract_eq_take_drop,List.extract_eq_take_drop,Nat.add_sub_add_left,Nat.add_sub_cancel_left])
  have:=k _ h3 c2
  refine wpS_pure ?_
  show Q (failedOf st).isNone _
  rw [h.failed]
  exact this
 by_cases f3:na-j≤Xw
 ·refine j4 f3 ?_
  exact wpS_bind (Aq h1.kind (qp ik) (qp ik) (Nat.le_trans (Nat.one_le_iff_ne_zero.mpr f) (Nat.le_of_eq sx.symm)) (Nat.le_trans (Nat.one_le_iff_ne_zero.mpr f2) (Nat.le_of_eq sy.symm)) fin)
 ·refine j5 f3 ?_
  exact wpS_bind (Av h1.kind (qp ik) (qp ik) (Nat.le_trans (Nat.one_le_iff_ne_zero.mpr f) (Nat.le_of_eq sx.symm)) (Nat.le_trans (Nat.one_le_iff_ne_zero.mpr f2) (Nat.le_of_eq sy.symm)) fin)
end
end Ms.Internal
set_option autoImplicit false
namespace Ms.Internal
open PySem PyProof PyProof.Rows
noncomputable def Ry(lo a nrem:Nat):StateT SortSt Sem AscSt:=
 forIn [a:nrem] ((none,a):AscSt) fun O c=>do
  let r ← ltAt' (lo+c.2) (lo+c.2-1)
  match r with
  |some smaller=>if smaller=true then pure (ForInStep.done (none,c.2)) else pure (ForInStep.yield (none,c.2+1))
  |_=>pure (ForInStep.done (some none,c.2))
noncomputable def Hj(lo n nrem:Nat):StateT SortSt Sem (Option Nat):=do
 reverseSlice' lo (lo+n)
 let c ← Ry lo n nrem
 match c.fst with
 |some r=>pure r
 |none=>pure (some c.snd)
noncomputable def Nh(lo n nrem:Nat):StateT SortSt Sem DescSt:=
 forIn [n:nrem] ((none,n,0):DescSt) fun O c=>do
  let r ← ltAt' (lo+c.2.1) (lo+c.2.1-1)
  match r with
  |some smaller=>
   if smaller=true then
    if c.2.2 > 0 then do
     reverseSlice' (lo+c.2.1-(c.2.2+1)) (lo+c.2.1)
     pure (ForInStep.yield (none,c.2.1+1,0))
    else pure (ForInStep.yield (none,c.2.1+1,0))
   else do
    let r ← ltAt' (lo+c.2.1-1) (lo+c.2.1)
    match r with
    |some larger=>
     if larger=true then pure (ForInStep.done (none,c.2.1,c.2.2))
     else pure (ForInStep.yield (none,c.2.1+1,c.2.2+1))
    |_=>pure (ForInStep.done (some none,c.2.1,c.2.2))
  |_=>pure (ForInStep.done (some none,c.2.1,c.2.2))
noncomputable def Hl(lo n nrem:Nat):StateT SortSt Sem (Option Nat):=do
 liftM (rule "list.sort.descending-run")
 let c ← Nh lo (n+1) nrem
 match c.fst with
 |some r=>pure r
 |none=>
  if c.2.2 > 0 then do
   reverseSlice' (lo+c.2.1-(c.2.2+1)) (lo+c.2.1)
   Hj lo c.2.1 nrem
  else Hj lo c.2.1 nrem
theorem Es(lo nrem:Nat):countRun' lo nrem=(do
  let c ← Ry lo 1 nrem
  match c.fst with
  |some r=>pure r
  |none=>
   if(c.2==nrem)=true then pure (some c.2)
   else if c.2 > 1 then do
    let r ← ltAt' lo (lo+c.2-1)
    match r with
    |some rose=>if rose=true then pure (some c.2) else do
      reverseSlice' lo (lo+c.2)
      Hl lo c.2 nrem
    |_=>pure none
   else Hl lo c.2 nrem):=by kernel_rfl
section
variable{prog:Program}{w:World}{A:Around}{E:Value→Shared→Prop}{s:Shared}{st:SortSt}{a₀:Array Keyed}
noncomputable def Wp(a₀:Array Keyed)(p:Array (Nat×Nat×Nat))(st:SortSt):Prop:=WB a₀ st∧pendingOf st=p
variable{p:Array (Nat×Nat×Nat)}{lo n nrem ok:Nat}
theorem Wp.set(h:Wp a₀ p st){xs:Array Keyed}(a:xs.Perm (arrOf st))(q:xs[0]? = (arrOf st)[0]?):Wp a₀ p (setArr st xs):=⟨h.1.set a q,h.2⟩
theorem Wp.mirror(h:Wp a₀ p st){i j:Nat}(h1:1≤i)(h2:j≤a₀.size):Wp a₀ p (setArr st (mirror (arrOf st) i j ((j-i) / 2))):=
 h.set (mirror_perm _ _ _ _) (by rw [getElem?_mirror_all (by rw [h.1.size];exact h2),if_neg (by lia)])
theorem Ay{Q:AscSt→SortSt→Prop}(z:H0 a₀)(h:Wp a₀ p st)(h1:1≤n)(h2:n≤nrem)(h3:lo+nrem≤a₀.size)
  (k:∀m,n≤m→m≤nrem→(lo=0→n=1→2≤nrem→2≤m)→Q (none,m) st):wpS (model prog w) A E s (Ry lo n nrem) Q st:=by
 unfold Ry
 refine wpS_forRange (I:=fun x c st'=>st'=st∧c=(none,x)) ?_ ?_ ⟨rfl,rfl⟩
 ·rintro x c st' hx1 hx2 ⟨rfl,rfl⟩
  dsimp only
  refine wpS_bind (h.1.lt z (by exact Mine.Internal.Uu ‹_› ‹_›) (by exact Mine.Internal.ixp ‹_› ‹_›) ?_)
  by_cases f:K (arrOf st') (lo+x)<K (arrOf st') (lo+x-1)
  ·rw [decide_eq_true f]
   refine wpS_pure (k x hx1 (by exact Nat.le_of_lt ‹_›) fun e1 e2 O=>?_)
   subst e1
   rcases Nat.lt_or_ge x 2 with q|q
   ·have:x=1:=by lia
    subst this
    exact absurd f (Int.not_lt.mpr (Int.le_of_lt (h.1.gt z (by exact Nat.le_refl _) (by rw [h.1.size];exact Mine.Internal.Uu ‹_› ‹_›))))
   ·exact q
  ·rw [decide_eq_false f]
   exact wpS_pure ⟨rfl,rfl⟩
 ·rintro c _ ⟨rfl,rfl⟩
  exact k _ (by exact Nat.le_max_left ..) (by exact Nat.max_le.mpr ⟨‹_›,Nat.le_refl _⟩) fun O O O=>by exact Nat.le_trans ‹_› (Nat.le_max_right ..)
theorem qu{i j:Nat}{Q:Unit→SortSt→Prop}(h:Wp a₀ p st)(h1:1≤i)(h2:j≤a₀.size)(k:∀st',Wp a₀ p st'→Q () st'):wpS (model prog w) A E s (reverseSlice' i j) Q st:=by
 rw [reverseSlice'_eq];exact wpS_modify (k _ (h.mirror h1 h2))
theorem wI{Q:Option Nat→SortSt→Prop}(z:H0 a₀)(h:Wp a₀ p st)(hl:1≤lo)(h1:1≤n)(h2:n≤nrem)(h3:lo+nrem≤a₀.size)
  (k:∀m st',Wp a₀ p st'→1≤m→m≤nrem→Q (some m) st'):wpS (model prog w) A E s (Hj lo n nrem) Q st:=by
 unfold Hj
 exact wpS_bind (qu h hl (by exact Mine.Internal.ixe ‹_› ‹_›) fun st' h'=>wpS_bind (Ay z h' h1 h2 h3 fun m a b O=>wpS_pure (k m _ h' (by exact Nat.le_trans ‹_› ‹_›) b)))
theorem Js{Q:DescSt→SortSt→Prop}(z:H0 a₀)(h:Wp a₀ p st)(hl:1≤lo)(h1:1≤n)(h2:n≤nrem)(h3:lo+nrem≤a₀.size)
  (k:∀m q st',Wp a₀ p st'→n≤m→m≤nrem→q+1≤m→Q (none,m,q) st'):wpS (model prog w) A E s (Nh lo n nrem) Q st:=by
 unfold Nh
 refine wpS_forRange (I:=fun x c st' => ∃q,c=(none,x,q)∧Wp a₀ p st'∧q+1≤x) ?_ ?_ ⟨0,rfl,h,h1⟩
 ·rintro x c st' hx1 hx2 ⟨q,rfl,h',hq⟩
  dsimp only
  refine wpS_bind (h'.1.lt z (by exact Mine.Internal.Uu ‹_› ‹_›) (by exact Mine.Internal.ixp ‹_› ‹_›) ?_)
  cases decide (K (arrOf st') (lo+x)<K (arrOf st') (lo+x-1)) with
  |true=>
   by_cases f:q > 0
   ·show wpS _ _ _ _ (if q > 0 then _ else _) _ _
    refine j4 f ?_
    exact wpS_bind (qu h' (by exact Mine.Internal.sf1 ‹_› ‹_›) (by exact Nat.le_of_lt (Mine.Internal.Uu ‹_› ‹_›)) fun st2 g=>wpS_pure ⟨0,rfl,g,by exact Nat.succ_pos _⟩)
   ·show wpS _ _ _ _ (if q > 0 then _ else _) _ _
    refine j5 f ?_
    exact wpS_pure ⟨0,rfl,h',by exact Nat.succ_pos _⟩
  |false=>
   refine wpS_bind (h'.1.lt z (by exact Mine.Internal.ixp ‹_› ‹_›) (by exact Mine.Internal.Uu ‹_› ‹_›) ?_)
   cases decide (K (arrOf st') (lo+x-1)<K (arrOf st') (lo+x)) with
   |true=>exact wpS_pure (k x q st' h' hx1 (by exact Nat.le_of_lt ‹_›) hq)
   |false=>exact wpS_pure ⟨q+1,rfl,h',by exact Nat.succ_le_succ ‹_›⟩
 ·rintro c st' ⟨q,rfl,h',hq⟩
  exact k _ q st' h' (by exact Nat.le_max_left ..) (by lia) (by exact ‹_›)
theorem wJ{Q:Option Nat→SortSt→Prop}(z:H0 a₀)(h:Wp a₀ p st)(hl:1≤lo)(h2:n+1≤nrem)(h3:lo+nrem≤a₀.size)
  (k:∀m st',Wp a₀ p st'→1≤m→m≤nrem→Q (some m) st'):wpS (model prog w) A E s (Hl lo n nrem) Q st:=by
 unfold Hl
 refine wpS_bind (wpS_lift (wpAny_rule ⟨rfl,wpS_bind (Js z h hl (by exact Nat.le_add_left ..) h2 h3 fun m q st' h' h1 h2 h4=>?_)⟩))
 dsimp only
 by_cases f:q > 0
 ·refine j4 f ?_
  exact wpS_bind (qu h' (by exact Mine.Internal.sf1 ‹_› ‹_›) (by exact Mine.Internal.ixe ‹_› ‹_›) fun st2 g=>wI z g hl (by exact Mine.Internal.Gg ‹_› rfl) h2 h3 k)
 ·refine j5 f ?_
  exact wI z h' hl (by exact Mine.Internal.Gg ‹_› rfl) h2 h3 k
theorem Et{Q:Option Nat→SortSt→Prop}(z:H0 a₀)(h:Wp a₀ p st)(h1:1≤nrem)(h3:lo+nrem≤a₀.size)
  (k:∀m st',Wp a₀ p st'→1≤m→m≤nrem→Q (some m) st'):wpS (model prog w) A E s (countRun' lo nrem) Q st:=by
 rw [Es]
 refine wpS_bind (Ay z h (Nat.le_refl 1) h1 h3 fun m m1 m2 m3=>?_)
 dsimp only
 by_cases f:m=nrem
 ·exact j4 (beq_iff_eq.mpr f) (wpS_pure (k m st h m1 m2))
 refine j5 (mt beq_iff_eq.mp f) ?_
 by_cases f2:m > 1
 ·refine j4 f2 ?_
  refine wpS_bind (h.1.lt z (by exact Mine.Internal.Uu ‹_› ‹_›) (by lia) ?_)
  by_cases f3:K (arrOf st) lo<K (arrOf st) (lo+m-1)
  ·rw [decide_eq_true f3];exact wpS_pure (k m st h m1 m2)
  ·rw [decide_eq_false f3]
   have:1≤lo:=by
    rcases Nat.eq_zero_or_pos lo with e|e
    ·subst e
     exact absurd (h.1.gt z (by lia) (by rw [h.1.size];lia)) f3
    ·exact e
   exact wpS_bind (qu h this (by exact Mine.Internal.ixe ‹_› ‹_›) fun st2 g=>wJ z g this (by exact Nat.lt_of_le_of_ne ‹_› ‹_›) h3 k)
 ·refine j5 f2 ?_
  have:1≤lo:=by
   rcases Nat.eq_zero_or_pos lo with e|e
   ·have:=m3 e rfl (by lia);contradiction
   ·exact e
  exact wJ z h this (by exact Nat.lt_of_le_of_ne ‹_› ‹_›) h3 k
theorem half{l r:Nat}(h:¬l≥r):l≤(l+r) / 2∧(l+r) / 2<r:=by lia
theorem Ni{Q:Bool→SortSt→Prop}(z:H0 a₀)(h:Wp a₀ p st)(hn:lo+n≤a₀.size)(k:∀st',Wp a₀ p st'→Q true st'):wpS (model prog w) A E s (binarySort' lo n ok) Q st:=by
 rw [binarySort'_eq]
 refine wpS_bind (wpS_mono (wpS_forRange (I:=fun O c st'=>c=(none,())∧Wp a₀ p st') (Q:=fun c st'=>c=(none,())∧Wp a₀ p st') ?_ (fun O O h=>h) ⟨rfl,h⟩) ?_)
 ·rintro j c st' h1 h2 ⟨rfl,h'⟩
  refine wpS_bind (wpS_mono (wpS_forRange (I:=fun x c st''=>st''=st'∧∃l r,c=(none,l,r)∧l≤r∧r≤j∧r+x≤j+l∧(lo=0→1≤r))
   (Q:=fun c st''=>st''=st'∧∃l r,c=(none,l,r)∧l≤j∧(lo=0→1≤l)) ?_ ?_ ?_) ?_)
  rotate_left 2
  ·exact⟨rfl,0,j,rfl,Nat.zero_le _,Nat.le_refl _,Nat.le_refl _,fun O=>Nat.lt_of_le_of_lt (Nat.zero_le _) (Nat.lt_of_lt_of_le (Nat.succ_pos _) (Nat.le_trans (Nat.le_max_right ..) h1))⟩
  rotate_left 1
  ·rintro x c st2 _ hx ⟨rfl,l,r,rfl,a1,a2,a3,a4⟩
   dsimp only
   by_cases f:l≥r
   ·exact j4 f (wpS_pure ⟨rfl,l,r,rfl,Nat.le_trans a1 a2,fun e=>Nat.le_trans (a4 e) f⟩)
   obtain⟨m1,m2⟩:=half f
   have jn:lo+j<a₀.size:=Nat.lt_of_lt_of_le (Nat.add_lt_add_left h2 lo) hn
   have mj:=Nat.lt_of_lt_of_le m2 a2
   refine j5 f (wpS_bind (h'.1.lt z jn (Nat.lt_trans (Nat.add_lt_add_left mj lo) jn) ?_))
   by_cases g:K (arrOf st2) (lo+j)<K (arrOf st2) (lo+(l+r) / 2)
   ·rw [decide_eq_true g]
    refine wpS_pure ⟨rfl,l,(l+r) / 2,rfl,m1,Nat.le_of_lt mj,Nat.le_trans (by rw [Nat.add_comm x 1,← Nat.add_assoc];exact Nat.add_le_add_right m2 x) a3,fun e=>?_⟩
    subst e
    rcases Nat.eq_zero_or_pos ((l+r) / 2) with e|e
    ·rw [e,Nat.zero_add,Nat.zero_add] at g
     exact absurd (h'.1.gt z (i:=j) (Nat.lt_of_le_of_lt (Nat.zero_le _) mj) (by rw [h'.1.size];exact Nat.zero_add j▸jn)) (Int.not_lt.mpr (Int.le_of_lt g))
    ·exact e
   ·rw [decide_eq_false g]
    exact wpS_pure ⟨rfl,(l+r) / 2+1,r,rfl,m2,a2,Nat.succ_le_succ (Nat.le_trans a3 (Nat.add_le_add_left m1 j)),a4⟩
  ·rintro c _ ⟨rfl,l,r,rfl,a1,a2,a3,a4⟩
   have rl:r≤l:=by rw [Nat.zero_max,Nat.add_comm] at a3;exact Nat.le_of_add_le_add_left a3
   exact⟨rfl,l,r,rfl,Nat.le_trans a1 a2,fun e=>Nat.le_trans (a4 e) rl⟩
  ·rintro c _ ⟨rfl,l,r,rfl,a1,a2⟩
   show wpS _ _ _ _ (do moveDown' (lo+j) (lo+l);pure (ForInStep.yield (none,()))) _ _
   rw [moveDown'_eq]
   refine wpS_bind (wpS_modify (wpS_pure ⟨rfl,h'.set (bubble_perm _ _ _) ?_⟩))
   have:1≤lo+l:=by
    rcases Nat.eq_zero_or_pos lo with e|e
    ·have:=a2 e;exact Nat.le_trans ‹_› (Nat.le_add_left ..)
    ·exact Nat.le_trans ‹_› (Nat.le_add_right ..)
   rw [getElem?_bubble (by rw [h'.1.size];exact Mine.Internal.Uu ‹_› ‹_›) _ (by exact Nat.sub_le ..),if_neg (by lia),if_neg (by lia)]
 ·rintro c st' ⟨rfl,h'⟩
  exact wpS_pure (k st' h')
end
end Ms.Internal
set_option autoImplicit false
namespace Ms.Internal
open PySem PyProof PyProof.Rows
noncomputable abbrev C1:=Option Unit×Unit
noncomputable abbrev C2:=Option Unit×Nat
noncomputable def sP(lo n:Nat):StateT SortSt Sem (ForInStep C2):=do
 modify fun s=>setPending s ((pendingOf s).push (lo,n,0))
 pure (.yield (none,lo+n))
noncomputable def sM(pw:Nat):StateT SortSt Sem (ForInStep C1):=do
 let s ← get
 match(if(pendingOf s).size > 1 then(pendingOf s)[(pendingOf s).size-2]? else none) with
 |some x=>if x.2.2≤pw then pure (.done (none,())) else do
  let b ← mergeAt' ((pendingOf s).size-2)
  if(!b)=true then pure (.done (some (),())) else pure (.yield (none,()))
 |_=>pure (.done (none,()))
noncomputable def sW(size lo n pw:Nat):StateT SortSt Sem (ForInStep C2):=do
 let c ← forIn [0:size] ((none,()):C1) fun O O=>sM pw
 match c.1 with
 |some r=>pure (.done (some r,lo))
 |none=>do
  modify fun s=>setPending s ((pendingOf s).modify ((pendingOf s).size-1) fun x=>(x.1,x.2.1,pw))
  sP lo n
noncomputable def sN(size lo n:Nat):StateT SortSt Sem (ForInStep C2):=do
 let s ← get
 match(pendingOf s).back? with
 |some x=>sW size lo n (power' size (2*x.1+x.2.1) (2*x.1+x.2.1+x.2.1+n) size)
 |_=>sP lo n
noncomputable def sB(size lo:Nat):StateT SortSt Sem (ForInStep C2):=
 if lo≥size then pure (.done (none,lo)) else do
  let m ← countRun' lo (size-lo)
  match m with
  |some m=>
   if m<minRun' size size 0 then do
    liftM (rule "list.sort.binary-insertion")
    let b ← binarySort' lo (min (size-lo) (minRun' size size 0)) m
    (if(!b)=true then pure (.done (some (),lo)) else sN size lo (min (size-lo) (minRun' size size 0)))
   else sN size lo m
  |_=>pure (.done (some (),lo))
noncomputable def sI(p:Array (Nat×Nat×Nat)):Nat:=
 if(if p.size-2 > 0 then p[p.size-2-1]?.map (·.2.1) else none).any (·< (p[p.size-2+1]?.elim 0 (·.2.1))) then p.size-2-1 else p.size-2
noncomputable def sE:StateT SortSt Sem (ForInStep C1):=do
 let s ← get
 if(pendingOf s).size≤1 then pure (.done (none,())) else do
  let b ← mergeAt' (sI (pendingOf s))
  if(!b)=true then pure (.done (some (),())) else pure (.yield (none,()))
theorem an3:sortRuns'=(do
 let s ← get
 let c ← forIn [0:(arrOf s).size] ((none,0):C2) fun O c=>sB (arrOf s).size c.2
 match c.1 with
 |some r=>pure r
 |none=>do
  let d ← forIn [0:(arrOf s).size] ((none,()):C1) fun O O=>sE
  match d.1 with
  |some r=>pure r
  |none=>pure ()):=by kernel_rfl
section
variable{prog:Program}{w:World}{A:Around}{E:Value→Shared→Prop}{s:Shared}{st:SortSt}{a₀:Array Keyed}{lo n pw:Nat}{Q:ForInStep C2→SortSt→Prop}
noncomputable def Wl(a₀:Array Keyed)(lo:Nat)(st:SortSt):Prop:=WB a₀ st∧Chain (pendingOf st).toList 0 lo∧lo≤a₀.size
noncomputable def One(c:C1)(P:SortSt→Prop)(st:SortSt):Prop:=c=(none,())∧P st
noncomputable def Two(a₀:Array Keyed)(c:C2)(st:SortSt):Prop:=c.1=none∧Wl a₀ c.2 st
theorem Nj(h:Wl a₀ lo st)(n1:1≤n)(n2:lo+n≤a₀.size)(k:∀st',Wl a₀ (lo+n) st'→Q (.yield (none,lo+n)) st'):wpS (model prog w) A E s (sP lo n) Q st:=
 wpS_bind (wpS_modify (wpS_pure (k _ ⟨⟨h.1.perm,h.1.kind,h.1.failed,h.1.head⟩,(by show Chain ((pendingOf st).push (lo,n,0)).toList 0 (lo+n);rw [Array.toList_push];exact h.2.1.snoc n1),n2⟩)))
theorem Xx(z:H0 a₀)(g:Wl a₀ lo st){Q:ForInStep C1→SortSt→Prop}(d:∀st',Wl a₀ lo st'→Q (.done (none,())) st') (y:∀st',Wl a₀ lo st'→Q (.yield (none,())) st'):wpS (model prog w) A E s (sM pw) Q st:=by
 refine wpS_bind (wpS_get ?_)
 by_cases q:(pendingOf st).size > 1
 ·rw [if_pos q]
  cases e:(pendingOf st)[(pendingOf st).size-2]? with
  |none=>exact wpS_pure (d _ g)
  |some x=>
   by_cases r:x.2.2≤pw
   ·exact j4 r (wpS_pure (d _ g))
   ·exact j5 r (wpS_bind (oU z g.1 g.2.1 g.2.2 (by lia) fun st5 a b=>wpS_pure (y _ ⟨a,b,g.2.2⟩)))
 ·rw [if_neg q];exact wpS_pure (d _ g)
theorem Xy(z:H0 a₀)(h:Wl a₀ lo st)(n1:1≤n)(n2:lo+n≤a₀.size)(k:∀st',Wl a₀ (lo+n) st'→Q (.yield (none,lo+n)) st'):wpS (model prog w) A E s (sW a₀.size lo n pw) Q st:=by
 refine wpS_bind (wpS_mono (wpS_forRange (I:=fun O c st'=>One c (Wl a₀ lo) st') (Q:=fun c st'=>One c (Wl a₀ lo) st') (fun O c Xz O O g=>Xx z g.2 (fun O h=>⟨rfl,h⟩) fun O h=>⟨rfl,h⟩) (fun O O h=>h) ⟨rfl,h⟩) ?_)
 rintro c Xz ⟨rfl,g⟩
 refine wpS_bind (wpS_modify (Nj (st:=setPending Xz _) ⟨⟨g.1.perm,g.1.kind,g.1.failed,g.1.head⟩,?_,g.2.2⟩ n1 n2 k))
 show Chain ((pendingOf Xz).modify _ _).toList 0 lo
 rw [Array.toList_modify]
 exact g.2.1.mod (fun x=>(x.1,x.2.1,pw)) fun O=>⟨rfl,rfl⟩
theorem Nk(z:H0 a₀)(h:Wl a₀ lo st)(n1:1≤n)(n2:lo+n≤a₀.size)(k:∀st',Wl a₀ (lo+n) st'→Q (.yield (none,lo+n)) st'):wpS (model prog w) A E s (sN a₀.size lo n) Q st:=by
 refine wpS_bind (wpS_get ?_)
 cases(pendingOf st).back? with
 |none=>exact Nj h n1 n2 k
 |some x=>exact Xy z h n1 n2 k
theorem Wp.wl(h:Wl a₀ lo st){st':SortSt}(g:Wp a₀ (pendingOf st) st'):Wl a₀ lo st':=⟨g.1,(by rw [g.2];exact h.2.1),h.2.2⟩
theorem XC(z:H0 a₀)(h:Wl a₀ lo st)(d:Q (.done (none,lo)) st) (k:∀n st',Wl a₀ n st'→Q (.yield (none,n)) st'):wpS (model prog w) A E s (sB a₀.size lo) Q st:=by
 by_cases f:lo≥a₀.size
 ·exact j4 f (wpS_pure d)
 ·refine j5 f (wpS_bind (Et z ⟨h.1,rfl⟩ (by lia) (by lia) fun m st2 h2 m1 m2=>?_))
  by_cases f2:m<minRun' a₀.size a₀.size 0
  ·refine j4 f2 (wpS_bind (wpS_lift (wpAny_rule ⟨rfl,wpS_bind (Ni z h2 (by lia) fun st3 h3=>?_)⟩)))
   exact Nk z (Wp.wl h h3) (by lia) (by lia) (k _)
  ·exact j5 f2 (Nk z (Wp.wl h h2) m1 (by lia) (k _))
theorem Rz(c:Prop) [Decidable c](a:Nat):(if c then a-1 else a)≤a:=by
 by_cases h:c
 ·rw [if_pos h];exact Nat.sub_le ..
 ·rw [if_neg h];exact Nat.le_refl _
theorem ab1{p:Array (Nat×Nat×Nat)}(h:¬p.size≤1):sI p+1<p.size:=by
 have:sI p≤p.size-2:=Rz ..
 lia
theorem Jt{Q:Unit→SortSt→Prop}(z:H0 a₀)(h:WB a₀ st)(h0:pendingOf st = #[])(k:∀st',WB a₀ st'→Q () st'):wpS (model prog w) A E s sortRuns' Q st:=by
 rw [an3]
 refine wpS_bind (wpS_get ?_)
 rw [h.size]
 refine wpS_bind (wpS_mono (wpS_forRange (I:=fun O c st'=>Two a₀ c st') (Q:=fun c st'=>Two a₀ c st') (fun x c st' O O g=>XC z g.2 ⟨rfl,g.2⟩ fun n st' h=>⟨rfl,h⟩) (fun O O h=>h) ⟨rfl,h,by rw [h0];rfl,Nat.zero_le _⟩) ?_)
 rintro⟨_,lo⟩ st' ⟨rfl,g⟩
 refine wpS_bind (wpS_mono (wpS_forRange (I:=fun O c st'=>One c (Wl a₀ lo) st') (Q:=fun c st'=>One c (Wl a₀ lo) st') (fun O c Xz O O g=>?_) (fun O O h=>h) ⟨rfl,g⟩) ?_)
 ·refine wpS_bind (wpS_get ?_)
  by_cases q:(pendingOf Xz).size≤1
  ·exact j4 q (wpS_pure ⟨rfl,g.2⟩)
  ·exact j5 q (wpS_bind (oU z g.2.1 g.2.2.1 g.2.2.2 (ab1 q) fun st5 a b=>wpS_pure ⟨rfl,a,b,g.2.2.2⟩))
 ·rintro c Xz ⟨rfl,g⟩
  exact wpS_pure (k Xz g.1)
end
end Ms.Internal
namespace Mine.Internal
open PySem PySem.W PySem.Calls PyProof PyProof.Rows Ms.Internal
theorem fJ{vs:List Value}{ns:List Int}(h:IntsAre vs ns):(pairsOf vs).toList.map key=ns:=by
 rw [pairsOf_toList,show(vs.zip vs).map key=((vs.zip vs).map Prod.fst).map numOf by rw [List.map_map];rfl,List.map_fst_zip (Nat.le_refl _),h.nums]
theorem ab2{vs:List Value}{ns:List Int}(h:IntsAre vs ns)(nd:ns.Nodup)(mn:∀x∈ns,∀y,ns[0]? = some y→y≤x):H0 (pairsOf vs):=by
 refine⟨h.intKeys,by rw [fJ h];exact nd,fun p hp=>?_⟩
 have hm:key p∈ns:=by rw [← fJ h];exact List.mem_map_of_mem hp
 have hs:0<(pairsOf vs).size:=List.length_pos_of_mem hp
 rw [Ax hs]
 refine mn _ hm _ ?_
 rw [← fJ h,List.getElem?_map,List.getElem?_eq_getElem (by exact hs)];rfl
theorem XD{vs:List Value}{ns:List Int}(h:IntsAre vs ns){xs:Array Keyed}(p:xs.Perm (pairsOf vs))(q:xs[0]? = (pairsOf vs)[0]?):
  ∃ns',IntsAre (xs.map (·.2)).toList ns'∧ns'.Perm ns∧ns'[0]? = ns[0]? := by
 have hl:=Array.perm_iff_toList_perm.mp p
 have hmem:∀p,p∈xs.toList→p.1=p.2∧p.1∈vs:=fun p hp'=>mem_zip_self (pairsOf_toList vs▸hl.mem_iff.mp hp')
 refine⟨xs.toList.map key,?_,?_,?_⟩
 ·have e:(xs.map (·.2)).toList=xs.toList.map (·.1):=by
   rw [Array.toList_map];exact List.map_congr_left fun p hp'=>(hmem p hp').1.symm
  rw [e]
  have h1:=intsAre_map (xs.toList.map (·.1)) (by
   intro v hv
   obtain⟨p,hp',rfl⟩:=List.mem_map.mp hv
   exact h.all _ (hmem p hp').2)
  rwa [List.map_map] at h1
 ·rw [← fJ h];exact hl.map key
 ·rw [← fJ h,List.getElem?_map,List.getElem?_map,Array.getElem?_toList,Array.getElem?_toList,q]
section
variable{prog:Program}{w:World}{A:Around}{E:Value→Shared→Prop}{s:Shared}
theorem Nm{a:Addr}{vs:List Value}{ns:List Int}{n:Nat}{P:Fin→Shared→Prop}(ho:s.heap.get? a=some (seqObj "list" vs.toArray n))
  (hI:IntsAre vs ns) (nd:ns.Nodup) (mn:∀x∈ns,∀y,ns[0]? = some y→y≤x) (hz:vs.length≤sizeLine)
  (h:∀(out:Array Value) (ns':List Int),IntsAre out.toList ns'→ns'.Perm ns→ns'[0]? = ns[0]? →P (.done (.ret .none)) {s with heap:=sortedHeap s.heap a vs out}):
  wpAny (model prog w) A (Builtin.«list.sort» ⟨[.ref a],[]⟩) P E s:=by
 rw [list_sort_plain]
 have ha:a<s.heap.objs.size:=Heap.lt_size ho
 have hsz:vs.toArray.size=vs.length:=by simp
 refine wpAny_bind (listItems_at ho rfl ?_)
 refine wpAny_bind (listUpdate_at ho rfl ?_ (by rw [hsz];exact hz))
 obtain⟨e1,ho1⟩:∃e1,(s.heap.update a (Obj.mapSeq fun O => #[])).get? a=some (seqObj "list" #[] e1):=⟨_,get?_update_seq ho (fun O => #[])⟩
 refine wpAny_bind (seqEpoch_at ho1 rfl ?_)
 refine wpAny_bind (wpAny_newTuple ?_ (by exact hz))
 refine wpAny_bind (wpAny_newList ?_)
 refine wpAny_holding ?_
 have ho6:(((s.heap.update a (Obj.mapSeq fun O => #[])).push (seqObj "tuple" vs.toArray 0)).push (seqObj "list" #[] 0)).get? a=some (seqObj "list" #[] e1):=by
  rw [Heap.get?_push_ne _ _ _ (by rw [size_push',Heap.size_update];exact Nat.ne_of_lt (Nat.lt_succ_of_lt ha)),Heap.get?_push_ne _ _ _ (by rw [Heap.size_update];exact Nat.ne_of_lt ha)]
  exact ho1
 show wpAny (model prog w) A _ P E {s with heap:=((s.heap.update a (Obj.mapSeq fun O => #[])).push (seqObj "tuple" vs.toArray 0)).push (seqObj "list" #[] 0)}
 dsimp only
 have fin:∀st':SortSt,(arrOf st').Perm (pairsOf vs)→(arrOf st')[0]? = (pairsOf vs)[0]? →
   P (.done (.ret .none)) {s with heap:=sortedHeap s.heap a vs ((arrOf st').map (·.2))}:=by
  intro st' hp hs
  obtain⟨ns',h1,h2,h3⟩:=XD hI hp hs
  exact h _ ns' h1 h2 h3
 by_cases h2:vs.toArray.size<2
 ·rw [if_pos h2,if_pos h2]
  refine wpAny_bind (wpAny_pure ?_)
  rw [StateT.run_pure]
  refine wpAny_bind (wpAny_pure ?_)
  dsimp only
  refine wpAny_bind (seqEpoch_at ho6 rfl ?_)
  refine wpAny_bind (listUpdate_at ho6 rfl ?_ (hsz2:=by rw [Array.size_map];show(pairsOf vs).size≤_;rw [pairsOf_size,sizeLine_eq];exact Nat.le_succ_of_le ‹_›))
  simp only [bne_self_eq_false,Bool.false_eq_true,if_false]
  exact wpAny_pure (fin (SortSt.mk' general' (vs.toArray.zip vs.toArray) #[] 7 none) (Array.Perm.refl _) rfl)
 ·rw [if_neg h2,if_neg h2]
  obtain⟨v₁,v₂,rest,rfl⟩:∃v₁ v₂ rest,vs=v₁::v₂::rest:=by
   cases vs with
   |nil=>exact absurd (show([]:List Value).toArray.size<2 from Nat.zero_lt_two) h2
   |cons a vs=>cases vs with
    |nil=>exact absurd (show [a].toArray.size<2 from Nat.one_lt_two) h2
    |cons b vs=>exact⟨a,b,vs,rfl⟩
  rw [keyKind_ints hI]
  refine wpAny_bind (wpAny_pure ?_)
  refine wpAny_bind (wpAny_mono (Jt (a₀:=pairsOf (v₁::v₂::rest)) (st:=SortSt.mk' oneType' ((v₁::v₂::rest).toArray.zip (v₁::v₂::rest).toArray) #[] 7 none)
   (Q:=fun O st'=>WB (pairsOf (v₁::v₂::rest)) st') (ab2 hI nd mn) ⟨Array.Perm.refl _,rfl,rfl,rfl⟩ rfl fun st' h=>h) ?_ fun O O e=>e)
  rintro⟨⟨⟩,st'⟩ s' ⟨rfl,hW⟩
  dsimp only
  refine wpAny_bind (seqEpoch_at ho6 rfl ?_)
  refine wpAny_bind (listUpdate_at ho6 rfl ?_ (hsz2:=by refine Nat.le_trans (Nat.le_of_eq ((Array.size_map ..).trans (hW.size.trans (pairsOf_size _)))) (Nat.le_succ_of_le hz)))
  have hf:=hW.failed
  dsimp only at hf
  rw [hf]
  simp only [bne_self_eq_false,Bool.false_eq_true,if_false]
  exact wpAny_pure (fin st' hW.perm hW.head)
theorem Eu{l:Addr}{vs:List Value}{ns:List Int}{Q:Value→Shared→Prop}(hl:s.heap.IsList l vs.toArray)(hI:IntsAre vs ns)(nd:ns.Nodup)(mn:∀x∈ns,∀y,ns[0]? = some y→y≤x)(hz:vs.length≤sizeLine)
  (h:∀(out:Array Value) (ns':List Int),IntsAre out.toList ns'→ns'.Perm ns→ns'[0]? = ns[0]? →Q (.ref (s.heap.objs.size+1)) {s with heap:=sortedAll s.heap vs out}):
  wpAny (model prog w) A (call (.builtin "sorted") [.ref l]) Q E s:=by
 refine Calls.call_function_entry kind_sorted plain_sorted entry_sorted (args_sorted1 _) ?_
 unfold Builtin.«sorted»
 refine wpAny_bind (m:=checkCount "sorted" 1 1 _) (wpAny_pure ?_)
 refine wpAny_bind (collect_list hl ?_ hz)
 refine wpAny_bind (wpAny_newList ?_ (by exact hz))
 have hsz:((s.heap.push (seqObj "list" #[] 0)).update s.heap.objs.size (Obj.mapSeq (·++ vs.toArray))).objs.size=s.heap.objs.size+1:=by
  rw [Heap.size_update,size_push']
 have hoL:(((s.heap.push (seqObj "list" #[] 0)).update s.heap.objs.size (Obj.mapSeq (·++ vs.toArray))).push (seqObj "list" vs.toArray 0)).get? (s.heap.objs.size+1)=some (seqObj "list" vs.toArray 0):=by
  rw [← hsz];exact Heap.get?_push_size _ rfl
 show wpAny _ _ _ _ _ {s with heap:=((s.heap.push (seqObj "list" #[] 0)).update s.heap.objs.size (Obj.mapSeq (·++ vs.toArray))).push (seqObj "list" vs.toArray 0)}
 rw [hsz]
 refine wpAny_bind (wpAny_holding (wpAny_call_entry slot_list_sort ⟨_,hoL,rfl⟩ entry_list_sort (Nm hoL hI nd mn hz fun out ns' a1 a2 a3=>⟨_,rfl,?_⟩) (args_list_sort _)))
 exact wpAny_pure ⟨_,rfl,h out ns' a1 a2 a3⟩
end
section
variable{τ:T}{g:G τ}{n:Nat}{H:AH}{Q:PV→AH→Prop}{s:Shared}
noncomputable abbrev iW(l:List Nat):List PV:=l.map fun(i:Nat)=>PV.int (i:Int)
theorem Az{h:Heap}:∀{l:List Nat} {vs:List Value},j7 g.tab h H (iW l) vs→IntsAre vs (l.map Int.ofNat)
 | [],_,r=>by cases r;exact .nil
 |x::l,_,⟨v,r,e,⟨t,e'⟩,z⟩=>by subst e;subst e';exact .cons _ t (Az z)
theorem Ba{h:Heap}:∀{l:List Nat} {vs:List Value},IntsAre vs (l.map Int.ofNat)→j7 g.tab h H (iW l) vs
 | [],_,r=>by cases r;rfl
 |x::l,_,r=>by
  rw [List.map_cons] at r
  cases r with
  |cons _ t z=>exact⟨_,_,rfl,⟨t,rfl⟩,Ba z⟩
theorem Np{ns:List Int}{l:List Nat}(p:ns.Perm (l.map Int.ofNat)):∃l':List Nat,ns=l'.map Int.ofNat∧l'.Perm l:=by
 have h:∀x∈ns,∃k:Nat,x=Int.ofNat k:=fun x hx=>by
  obtain⟨k,_,rfl⟩:=List.mem_map.mp (p.mem_iff.mp hx)
  exact⟨k,rfl⟩
 have e:ns=(ns.map Int.toNat).map Int.ofNat:=by
  clear p
  induction ns with
  |nil=>rfl
  |cons x ns ih=>
   obtain⟨k,rfl⟩:=h x (.head _)
   rw [List.map_cons,List.map_cons,← ih fun y hy=>h y (.tail _ hy)];rfl
 refine⟨_,e,?_⟩
 have:=p.map Int.toNat
 rwa [List.map_map,show Int.toNat ∘ Int.ofNat=id from rfl,List.map_id] at this
theorem rY:∀{l:List Nat},l.Nodup→(l.map Int.ofNat).Nodup
 | [],_=>List.nodup_nil
 |x::l,h=>by
  rw [List.map_cons]
  have:=List.nodup_cons.mp h
  refine List.nodup_cons.mpr ⟨fun hm=>?_,rY this.2⟩
  obtain⟨k,hk,e⟩:=List.mem_map.mp hm
  cases e;exact this.1 hk
theorem Ju{a:Addr}{l:List Nat}(e:H a=some (.list (iW (0::l)))) (nd:(0::l).Nodup) (hz:l.length<sizeLine) (q:∀l':List Nat,(0::l').Perm (0::l)→Q (.lst (iW (0::l'))) H):Cl g n (.blt "sorted") [.obj a] H Q:=.b1 fun A s v1 R S h1=>by
 cases h1
 obtain⟨ws,k,o,uW⟩:=S.obj _ _ e
 have I:=Az uW
 refine Eu (⟨_,o,rfl,_,rfl⟩:s.heap.IsList a ws.toArray) I ?_ ?_ (by rw [uW.length,List.length_map,List.length_cons];assumption) fun out ns' I' p h0=>?_
 ·exact rY nd
 ·intro x hx y hy
  obtain rfl:y=0:=by simpa using hy.symm
  obtain⟨k,_,rfl⟩:=List.mem_map.mp hx
  exact Int.natCast_nonneg k
 ·obtain⟨l',rfl,p'⟩:=Np p
  cases l' with
  |nil=>exact absurd p'.length_eq (by simp)
  |cons z l'=>
   obtain rfl:z=0:=by simpa using h0
   obtain⟨c,hc⟩:=sortedAll_at s.heap ws out
   obtain⟨S',C'⟩:=S.kept (h':=sortedAll s.heap ws out) (fun b o=>sortedAll_old) s.toks
   have hn:=untracked (S.push (s:=s) {cls:=.type "list",data:=.seq #[] 0} s.toks)
   exact⟨.lst (iW (0::l')),H,⟨_,out.toList,c,rfl,hc,(size_push' s.heap _)▸hn,Ba I'⟩,S',C',q l' p'⟩
theorem RB{a:Addr}{l:List (Int×PV)}(hg:v8 g)(e:H a=some (.m6 l))(hz:l.length<2 ^ 62)(q:Q (.int l.length) H):Cl g n (.blt "len") [.obj a] H Q:=.b1 fun A s v1 R S h1=>by
 cases h1
 obtain⟨kvs,hd,r⟩:=S.obj _ _ e
 refine call_len_dict (knd:=intKind g.prog g.w) (beq_eq_false_iff_ne.mpr fun z=>hg.mods (z▸S.fresh a (by rw [e];exact nofun))) hd (by rw [r.length];lia) ?_
 rw [r.length]
 exact Gs (p:=True) S q
end
noncomputable abbrev pw:Program:=PySem.Challenge.pw_ot0049_03
noncomputable abbrev fnAt:=fnD pw
noncomputable abbrev I4:Addr:=219
noncomputable def eX:Str:=Str.ofString "with_blocks.<locals>.<lambda>"
noncomputable abbrev zS(x:String):Str:=Str.ofString x
noncomputable abbrev zT(x:String)(t:Nat):Value:=.str (Str.ofString x) t
noncomputable abbrev zK(P:Params)(x:String)(t:Nat)(v:Value):DictEntry:=⟨PyData.keyHash P (Str.ofString x),.str (Str.ofString x) t,v⟩
noncomputable abbrev zC(x y:String)(a b c:Nat)(i j k:Int)(d e:Addr)(u v w:Value)(f:Addr)(n:Int)(m:Nat):Obj:=⟨.type "code",none,.fields #[.str (Str.ofString x) a,.str (Str.ofString y) b,.str (Str.ofString "/claim/cut.py") c,.int i 0,.int j 0,.int 0 0,.int 0 0,.int k 0,.ref d,.bool true,.int 181 0,.ref e,u,v,w,.ref f,.int n 0,.int i 0,.str (Str.ofString "/claim/cut.py") m],#[]⟩
section
variable(P:Params)
noncomputable def K:Frag:=[
 (1,⟨.type "dict",none,.dict #[zK P "builtins" 162 (.ref 4),zK P "__main__" 163 (.ref 5)] 2,#[]⟩),(2,⟨.none,none,.dict #[zK P "type.__subclasses__.Exception.0" 224 (.int 39 0),zK P "type.__subclasses__.Exception.n" 225 (.int 1 0)] 2,#[]⟩),(3,⟨.type "dict",none,.dict #[zK P "__name__" 165 (zT "law_ot0049_03" 1482),zK P "__doc__" 166 (.none),zK P "__package__" 167 (.none),zK P "__loader__" 168 (.builtin "__main__.__loader__#opaque"),zK P "__spec__" 169 (.none),zK P "__annotations__" 170 (.ref 6),zK P "__builtins__" 171 (.ref 4),zK P "__file__" 173 (zT "/claim/cut.py" 172),zK P "__cached__" 174 (.none),zK P "_wall" 193 (.ref 21),zK P "LendError" 227 (.ref 39),zK P "PatternFault" 243 (.ref 52),zK P "COPY" 247 (zT "Copy" 246),zK P "DROP" 249 (zT "Drop" 248),zK P "parts_of" 257 (.ref 61),zK P "rebuilt" 266 (.ref 68),zK P "substituted" 272 (.ref 73),zK P "with_regions" 278 (.ref 78),zK P "no_region" 285 (.ref 85),zK P "erased" 292 (.ref 92),zK P "matched" 305 (.ref 99),zK P "impl_bounds" 317 (.ref 106),zK P "is_copy" 323 (.ref 111),zK P "field_rows" 332 (.ref 118),zK P "fields_of" 338 (.ref 123),zK P "has_drop" 347 (.ref 130),zK P "needs_drop" 353 (.ref 135),zK P "Body" 441 (.ref 196),zK P "successors" 447 (.ref 205),zK P "retargeted" 453 (.ref 210),zK P "reachable" 463 (.ref 217),zK P "with_blocks" 478 (.ref 224),zK P "field_type" 488 (.ref 231),zK P "projected" 499 (.ref 238),zK P "place_type" 511 (.ref 245),zK P "RESULT" 515 (.int 0 514),zK P "Scopes" 680 (.ref 373),zK P "BOOL_build_places" 684 (.ref 378),zK P "USIZE" 687 (.ref 379),zK P "OUT_OF_BOUNDS" 689 (zT "index out of bounds" 688),zK P "longer" 697 (.ref 386),zK P "PlaceBuilder" 784 (.ref 445),zK P "Binding" 826 (.ref 471),zK P "rows_of" 832 (.ref 480),zK P "alternatives" 838 (.ref 485),zK P "parts_at" 844 (.ref 490),zK P "bindings_at" 855 (.ref 497),zK P "mentions" 865 (.ref 504),zK P "is_plain_name" 872 (.ref 511),zK P "is_kept_on" 878 (.ref 516),zK P "MatchBuilder" 1043 (.ref 618),zK P "BOOL_build_exprs" 1047 (.ref 621),zK P "UNIT" 1049 (.ref 623),zK P "NEVER" 1051 (.ref 624),zK P "PLACES" 1056 (.ref 625),zK P "CHECKED" 1064 (.ref 626),zK P "VERBS" 1086 (.ref 627),zK P "is_quiet" 1093 (.ref 634),zK P "Loop" 1128 (.ref 651),zK P "ExprBuilder" 1383 (.ref 827),zK P "lower" 1393 (.ref 836),zK P "TypedFn" 1432 (.ref 853),zK P "World" 1481 (.ref 882),zK P "_law_kind" 1485 (zT "i32" 1484),zK P "_law_int" 1488 (.ref 887),zK P "_law_bool" 1490 (.ref 888),zK P "_law_unit" 1492 (.ref 890),zK P "_law_pool" 1501 (.ref 897),zK P "_law_take" 1510 (.ref 904),zK P "_law_one" 1518 (.ref 911),zK P "_law_deed" 1526 (.ref 918),zK P "_law_number" 1535 (.ref 925),zK P "_law_truth" 1544 (.ref 932),zK P "_law_statement" 1553 (.ref 939),zK P "_law_sum" 1565 (.ref 946),zK P "_law_worth" 1577 (.ref 953),zK P "_law_done" 1589 (.ref 960),zK P "_law_due" 1598 (.ref 967),zK P "_law_local" 1605 (.ref 974),zK P "_law_typed" 1615 (.ref 981),zK P "_law_act" 1621 (.ref 986),zK P "_law_read" 1631 (.ref 993),zK P "_law_counted" 1644 (.ref 1000),zK P "_law_made" 1650 (.ref 1005),zK P "_law_stepped" 1661 (.ref 1012),zK P "_law_walked" 1667 (.ref 1017),zK P "_law_is_right" 1673 (.ref 1022),zK P "law" 1679 (.ref 1027)] 88,#[]⟩),(60,zC "parts_of" "parts_of" 250 251 252 16 1 3 55 56 .none (.ref 57) (.ref 58) 59 255 256),(61,⟨.type "function",none,.func (fnAt [7] (zS "parts_of") (zS "parts_of") 3 (.none) (.none) (zT "lendcore.types" 244) (.ref 60) 0),#[]⟩),(110,zC "is_copy" "is_copy" 318 319 320 74 3 3 107 108 .none .none .none 109 321 322),(111,⟨.type "function",none,.func (fnAt [15] (zS "is_copy") (zS "is_copy") 3 (.none) (.none) (zT "lendcore.types" 244) (.ref 110) 0),#[]⟩),(134,zC "needs_drop" "needs_drop" 348 349 350 111 2 3 131 132 .none .none .none 133 351 352),(135,⟨.type "function",none,.func (fnAt [19] (zS "needs_drop") (zS "needs_drop") 3 (.none) (.none) (zT "lendcore.types" 244) (.ref 134) 0),#[]⟩),(143,⟨.type "tuple",none,.seq #[.none,.none] 0,#[]⟩),(149,zC "__init__" "Body.__init__" 368 369 370 130 6 3 144 145 .none (.ref 146) (.ref 147) 148 377 378),(150,⟨.type "function",none,.func (fnAt [21,0] (zS "__init__") (zS "Body.__init__") 3 (.ref 143) (.none) (zT "lendcore.mir" 354) (.ref 149) 0),#[]⟩),(156,zC "type_of" "Body.type_of" 380 381 382 137 2 3 151 152 .none (.ref 153) (.ref 154) 155 385 386),(157,⟨.type "function",none,.func (fnAt [21,1] (zS "type_of") (zS "Body.type_of") 3 (.none) (.none) (zT "lendcore.mir" 354) (.ref 156) 0),#[]⟩),(170,zC "statements" "Body.statements" 395 396 397 143 2 3 165 166 .none (.ref 167) (.ref 168) 169 400 401),(171,⟨.type "function",none,.func (fnAt [21,3] (zS "statements") (zS "Body.statements") 3 (.none) (.none) (zT "lendcore.mir" 354) (.ref 170) 0),#[]⟩),(177,zC "terminator" "Body.terminator" 403 404 405 146 2 3 172 173 .none (.ref 174) (.ref 175) 176 408 409),(178,⟨.type "function",none,.func (fnAt [21,4] (zS "terminator") (zS "Body.terminator") 3 (.none) (.none) (zT "lendcore.mir" 354) (.ref 177) 0),#[]⟩),(186,⟨.type "tuple",none,.seq #[.bool true,.none] 0,#[]⟩),(192,zC "new_local" "Body.new_local" 419 420 421 152 4 3 187 188 .none (.ref 189) (.ref 190) 191 426 427),(193,⟨.type "function",none,.func (fnAt [21,6] (zS "new_local") (zS "Body.new_local") 3 (.ref 186) (.none) (zT "lendcore.mir" 354) (.ref 192) 0),#[]⟩),(195,⟨.type "dict",none,.dict #[zK P "__module__" 363 (zT "lendcore.mir" 354),zK P "__firstlineno__" 367 (.int 128 366),zK P "__init__" 379 (.ref 150),zK P "type_of" 387 (.ref 157),zK P "args" 394 (.ref 164),zK P "statements" 402 (.ref 171),zK P "terminator" 410 (.ref 178),zK P "spot" 418 (.ref 185),zK P "new_local" 428 (.ref 193),zK P "__static_attributes__" 434 (.ref 194),zK P "__dict__" 436 (.ref 197),zK P "__weakref__" 438 (.ref 198),zK P "__doc__" 439 (.none)] 4,#[]⟩),(196,⟨.type "type",none,.cls {name:=(zS "Body"),bases:=[.type "object"],mro:=[.ref 196,.type "object"],ns:=195,qualname:=(zS "Body"),hasDict:=true,slotNames:=[],subclasses:=[],abstract:=false,collection:=none,hasDel:=false},#[none,none,some (zT "Body" 356),some (zT "Body" 364),some (.builtin "object.__new__"),some (.bool true)]⟩),(204,zC "successors" "successors" 442 443 444 155 1 3 201 202 .none .none .none 203 445 446),(205,⟨.type "function",none,.func (fnAt [22] (zS "successors") (zS "successors") 3 (.none) (.none) (zT "lendcore.mir" 354) (.ref 204) 0),#[]⟩),(209,zC "retargeted" "retargeted" 448 449 450 174 2 3 206 207 .none .none .none 208 451 452),(210,⟨.type "function",none,.func (fnAt [23] (zS "retargeted") (zS "retargeted") 3 (.none) (.none) (zT "lendcore.mir" 354) (.ref 209) 0),#[]⟩),(216,zC "reachable" "reachable" 454 455 456 188 1 3 211 212 .none (.ref 213) (.ref 214) 215 461 462),(217,⟨.type "function",none,.func (fnAt [24] (zS "reachable") (zS "reachable") 3 (.none) (.none) (zT "lendcore.mir" 354) (.ref 216) 0),#[]⟩),(223,zC "with_blocks" "with_blocks" 464 465 466 196 2 3 218 219 .none (.ref 220) (.ref 221) 222 476 477),(224,⟨.type "function",none,.func (fnAt [25] (zS "with_blocks") (zS "with_blocks") 3 (.none) (.none) (zT "lendcore.mir" 354) (.ref 223) 0),#[]⟩),(256,zC "__init__" "Scopes.__init__" 528 529 530 234 3 3 253 254 .none .none .none 255 531 532),(257,⟨.type "function",none,.func (fnAt [31,0] (zS "__init__") (zS "Scopes.__init__") 3 (.none) (.none) (zT "lendcore.scopes" 512) (.ref 256) 0),#[]⟩),(263,zC "user" "Scopes.user" 534 535 536 247 2 3 258 259 .none (.ref 260) (.ref 261) 262 539 540),(264,⟨.type "function",none,.func (fnAt [31,1] (zS "user") (zS "Scopes.user") 3 (.none) (.none) (zT "lendcore.scopes" 512) (.ref 263) 0),#[]⟩),(265,⟨.type "tuple",none,.seq #[.bool true,.none] 0,#[]⟩),(271,zC "new_local" "Scopes.new_local" 542 543 544 250 4 3 266 267 .none (.ref 268) (.ref 269) 270 549 550),(272,⟨.type "function",none,.func (fnAt [31,2] (zS "new_local") (zS "Scopes.new_local") 3 (.ref 265) (.none) (zT "lendcore.scopes" 512) (.ref 271) 0),#[]⟩),(278,zC "type_of" "Scopes.type_of" 552 553 554 253 2 3 273 274 .none (.ref 275) (.ref 276) 277 557 558),(279,⟨.type "function",none,.func (fnAt [31,3] (zS "type_of") (zS "Scopes.type_of") 3 (.none) (.none) (zT "lendcore.scopes" 512) (.ref 278) 0),#[]⟩),(285,zC "new_block" "Scopes.new_block" 560 561 562 256 1 3 280 281 .none (.ref 282) (.ref 283) 284 564 565),(286,⟨.type "function",none,.func (fnAt [31,4] (zS "new_block") (zS "Scopes.new_block") 3 (.none) (.none) (zT "lendcore.scopes" 512) (.ref 285) 0),#[]⟩),(292,zC "note" "Scopes.note" 567 568 569 260 1 3 287 288 .none (.ref 289) (.ref 290) 291 571 572),(293,⟨.type "function",none,.func (fnAt [31,5] (zS "note") (zS "Scopes.note") 3 (.none) (.none) (zT "lendcore.scopes" 512) (.ref 292) 0),#[]⟩),(299,zC "put" "Scopes.put" 574 575 576 263 2 3 294 295 .none (.ref 296) (.ref 297) 298 579 580),(300,⟨.type "function",none,.func (fnAt [31,6] (zS "put") (zS "Scopes.put") 3 (.none) (.none) (zT "lendcore.scopes" 512) (.ref 299) 0),#[]⟩),(306,zC "close" "Scopes.close" 582 583 584 267 2 3 301 302 .none (.ref 303) (.ref 304) 305 587 588),(307,⟨.type "function",none,.func (fnAt [31,7] (zS "close") (zS "Scopes.close") 3 (.none) (.none) (zT "lendcore.scopes" 512) (.ref 306) 0),#[]⟩),(320,zC "go" "Scopes.go" 598 599 600 275 2 3 315 316 .none (.ref 317) (.ref 318) 319 603 604),(321,⟨.type "function",none,.func (fnAt [31,9] (zS "go") (zS "Scopes.go") 3 (.none) (.none) (zT "lendcore.scopes" 512) (.ref 320) 0),#[]⟩),(327,zC "push" "Scopes.push" 606 607 608 279 1 3 322 323 .none (.ref 324) (.ref 325) 326 610 611),(328,⟨.type "function",none,.func (fnAt [31,10] (zS "push") (zS "Scopes.push") 3 (.none) (.none) (zT "lendcore.scopes" 512) (.ref 327) 0),#[]⟩),(334,zC "declare" "Scopes.declare" 613 614 615 283 2 3 329 330 .none (.ref 331) (.ref 332) 333 618 619),(335,⟨.type "function",none,.func (fnAt [31,11] (zS "declare") (zS "Scopes.declare") 3 (.none) (.none) (zT "lendcore.scopes" 512) (.ref 334) 0),#[]⟩),(348,zC "finish" "Scopes.finish" 629 630 631 290 2 3 343 344 .none (.ref 345) (.ref 346) 347 637 638),(349,⟨.type "function",none,.func (fnAt [31,13] (zS "finish") (zS "Scopes.finish") 3 (.none) (.none) (zT "lendcore.scopes" 512) (.ref 348) 0),#[]⟩),(355,zC "pop" "Scopes.pop" 640 641 642 299 1 3 350 351 .none (.ref 352) (.ref 353) 354 644 645),(356,⟨.type "function",none,.func (fnAt [31,14] (zS "pop") (zS "Scopes.pop") 3 (.none) (.none) (zT "lendcore.scopes" 512) (.ref 355) 0),#[]⟩),(369,zC "finished" "Scopes.finished" 656 657 658 307 1 3 364 365 .none (.ref 366) (.ref 367) 368 661 662),(370,⟨.type "function",none,.func (fnAt [31,16] (zS "finished") (zS "Scopes.finished") 3 (.none) (.none) (zT "lendcore.scopes" 512) (.ref 369) 0),#[]⟩),(372,⟨.type "dict",none,.dict #[zK P "__module__" 523 (zT "lendcore.scopes" 512),zK P "__firstlineno__" 527 (.int 232 526),zK P "__init__" 533 (.ref 257),zK P "user" 541 (.ref 264),zK P "new_local" 551 (.ref 272),zK P "type_of" 559 (.ref 279),zK P "new_block" 566 (.ref 286),zK P "note" 573 (.ref 293),zK P "put" 581 (.ref 300),zK P "close" 589 (.ref 307),zK P "end" 597 (.ref 314),zK P "go" 605 (.ref 321),zK P "push" 612 (.ref 328),zK P "declare" 620 (.ref 335),zK P "hold" 628 (.ref 342),zK P "finish" 639 (.ref 349),zK P "pop" 646 (.ref 356),zK P "leave" 655 (.ref 363),zK P "finished" 663 (.ref 370),zK P "__static_attributes__" 673 (.ref 371),zK P "__dict__" 675 (.ref 374),zK P "__weakref__" 677 (.ref 375),zK P "__doc__" 678 (.none)] 4,#[]⟩),(373,⟨.type "type",none,.cls {name:=(zS "Scopes"),bases:=[.type "object"],mro:=[.ref 373,.type "object"],ns:=372,qualname:=(zS "Scopes"),hasDict:=true,slotNames:=[],subclasses:=[.ref 445],abstract:=false,collection:=none,hasDel:=false},#[none,none,some (zT "Scopes" 516),some (zT "Scopes" 524),some (.builtin "object.__new__"),some (.bool true)]⟩),(385,zC "longer" "longer" 690 691 692 316 2 3 380 381 .none (.ref 382) (.ref 383) 384 695 696),(386,⟨.type "function",none,.func (fnAt [36] (zS "longer") (zS "longer") 3 (.none) (.none) (zT "lendcore.build_places" 681) (.ref 385) 0),#[]⟩),(399,zC "temp" "PlaceBuilder.temp" 710 711 712 320 2 3 394 395 .none (.ref 396) (.ref 397) 398 716 717),(400,⟨.type "function",none,.func (fnAt [37,0] (zS "temp") (zS "PlaceBuilder.temp") 3 (.none) (.none) (zT "lendcore.build_places" 681) (.ref 399) 0),#[]⟩),(406,zC "operand_of" "PlaceBuilder.operand_of" 719 720 721 325 3 3 401 402 .none (.ref 403) (.ref 404) 405 725 726),(407,⟨.type "function",none,.func (fnAt [37,1] (zS "operand_of") (zS "PlaceBuilder.operand_of") 3 (.none) (.none) (zT "lendcore.build_places" 681) (.ref 406) 0),#[]⟩),(413,zC "place" "PlaceBuilder.place" 728 729 730 328 2 3 408 409 .none (.ref 410) (.ref 411) 412 735 736),(414,⟨.type "function",none,.func (fnAt [37,2] (zS "place") (zS "PlaceBuilder.place") 3 (.none) (.none) (zT "lendcore.build_places" 681) (.ref 413) 0),#[]⟩),(434,zC "operand" "PlaceBuilder.operand" 761 762 763 358 2 3 429 430 .none (.ref 431) (.ref 432) 433 766 767),(435,⟨.type "function",none,.func (fnAt [37,5] (zS "operand") (zS "PlaceBuilder.operand") 3 (.none) (.none) (zT "lendcore.build_places" 681) (.ref 434) 0),#[]⟩),(444,⟨.type "dict",none,.dict #[zK P "__module__" 705 (zT "lendcore.build_places" 681),zK P "__firstlineno__" 709 (.int 318 708),zK P "temp" 718 (.ref 400),zK P "operand_of" 727 (.ref 407),zK P "place" 737 (.ref 414),zK P "indexed" 749 (.ref 421),zK P "asserted" 760 (.ref 428),zK P "operand" 768 (.ref 435),zK P "borrow" 778 (.ref 442),zK P "__static_attributes__" 781 (.ref 443),zK P "__doc__" 782 (.none)] 2,#[]⟩),(445,⟨.type "type",none,.cls {name:=(zS "PlaceBuilder"),bases:=[.ref 373],mro:=[.ref 445,.ref 373,.type "object"],ns:=444,qualname:=(zS "PlaceBuilder"),hasDict:=true,slotNames:=[],subclasses:=[.ref 618],abstract:=false,collection:=none,hasDel:=false},#[some (.ref 387),none,some (zT "PlaceBuilder" 698),some (zT "PlaceBuilder" 706),some (.builtin "object.__new__"),some (.bool true)]⟩),(460,zC "__init__" "Binding.__init__" 799 800 801 373 4 3 455 456 .none (.ref 457) (.ref 458) 459 806 807),(461,⟨.type "function",none,.func (fnAt [39,0] (zS "__init__") (zS "Binding.__init__") 3 (.none) (.none) (zT "lendcore.build_match" 785) (.ref 460) 0),#[]⟩),(470,⟨.type "dict",none,.dict #[zK P "__module__" 794 (zT "lendcore.build_match" 785),zK P "__firstlineno__" 798 (.int 371 797),zK P "__init__" 808 (.ref 461),zK P "rvalue" 815 (.ref 468),zK P "__static_attributes__" 819 (.ref 469),zK P "__dict__" 821 (.ref 472),zK P "__weakref__" 823 (.ref 473),zK P "__doc__" 824 (.none)] 4,#[]⟩),(471,⟨.type "type",none,.cls {name:=(zS "Binding"),bases:=[.type "object"],mro:=[.ref 471,.type "object"],ns:=470,qualname:=(zS "Binding"),hasDict:=true,slotNames:=[],subclasses:=[],abstract:=false,collection:=none,hasDel:=false},#[none,none,some (zT "Binding" 787),some (zT "Binding" 795),some (.builtin "object.__new__"),some (.bool true)]⟩),(484,zC "alternatives" "alternatives" 833 834 835 387 1 3 481 482 .none .none .none 483 836 837),(485,⟨.type "function",none,.func (fnAt [41] (zS "alternatives") (zS "alternatives") 3 (.none) (.none) (zT "lendcore.build_match" 785) (.ref 484) 0),#[]⟩),(489,zC "parts_at" "parts_at" 839 840 841 401 2 3 486 487 .none .none .none 488 842 843),(490,⟨.type "function",none,.func (fnAt [42] (zS "parts_at") (zS "parts_at") 3 (.none) (.none) (zT "lendcore.build_match" 785) (.ref 489) 0),#[]⟩),(496,zC "bindings_at" "bindings_at" 845 846 847 413 2 3 491 492 .none (.ref 493) (.ref 494) 495 853 854),(497,⟨.type "function",none,.func (fnAt [43] (zS "bindings_at") (zS "bindings_at") 3 (.none) (.none) (zT "lendcore.build_match" 785) (.ref 496) 0),#[]⟩),(510,zC "is_plain_name" "is_plain_name" 866 867 868 427 1 3 505 506 .none (.ref 507) (.ref 508) 509 870 871),(511,⟨.type "function",none,.func (fnAt [45] (zS "is_plain_name") (zS "is_plain_name") 3 (.none) (.none) (zT "lendcore.build_match" 785) (.ref 510) 0),#[]⟩),(515,zC "is_kept_on" "is_kept_on" 873 874 875 429 1 3 512 513 .none .none .none 514 876 877),(516,⟨.type "function",none,.func (fnAt [46] (zS "is_kept_on") (zS "is_kept_on") 3 (.none) (.none) (zT "lendcore.build_match" 785) (.ref 515) 0),#[]⟩),(593,zC "let_bound" "MatchBuilder.let_bound" 990 991 992 544 3 3 588 589 .none (.ref 590) (.ref 591) 592 999 1000),(594,⟨.type "function",none,.func (fnAt [47,10] (zS "let_bound") (zS "MatchBuilder.let_bound") 3 (.none) (.none) (zT "lendcore.build_match" 785) (.ref 593) 0),#[]⟩),(614,zC "bind_params" "MatchBuilder.bind_params" 1025 1026 1027 575 2 3 609 610 .none (.ref 611) (.ref 612) 613 1034 1035),(615,⟨.type "function",none,.func (fnAt [47,13] (zS "bind_params") (zS "MatchBuilder.bind_params") 3 (.none) (.none) (zT "lendcore.build_match" 785) (.ref 614) 0),#[]⟩),(617,⟨.type "dict",none,.dict #[zK P "__module__" 886 (zT "lendcore.build_match" 785),zK P "__firstlineno__" 890 (.int 435 889),zK P "branch" 902 (.ref 530),zK P "told" 912 (.ref 537),zK P "test" 929 (.ref 544),zK P "bind" 937 (.ref 551),zK P "lent" 943 (.ref 556),zK P "guarded" 949 (.ref 561),zK P "arm_entry" 962 (.ref 568),zK P "anew" 971 (.ref 575),zK P "arm_into" 977 (.ref 580),zK P "match_into" 989 (.ref 587),zK P "let_bound" 1001 (.ref 594),zK P "bind_all" 1014 (.ref 601),zK P "bind_one" 1024 (.ref 608),zK P "bind_params" 1036 (.ref 615),zK P "__static_attributes__" 1040 (.ref 616),zK P "__doc__" 1041 (.none)] 2,#[]⟩),(618,⟨.type "type",none,.cls {name:=(zS "MatchBuilder"),bases:=[.ref 445],mro:=[.ref 618,.ref 445,.ref 373,.type "object"],ns:=617,qualname:=(zS "MatchBuilder"),hasDict:=true,slotNames:=[],subclasses:=[.ref 827],abstract:=false,collection:=none,hasDel:=false},#[some (.ref 517),none,some (zT "MatchBuilder" 879),some (zT "MatchBuilder" 887),some (.builtin "object.__new__"),some (.bool true)]⟩),(621,⟨.type "tuple",none,.seq #[zT "bool" 1046] 0,#[]⟩),(622,⟨.type "tuple",none,.seq #[] 0,#[]⟩),(623,⟨.type "tuple",none,.seq #[zT "tuple" 1048,.ref 622] 0,#[]⟩),(625,⟨.type "tuple",none,.seq #[zT "local" 1052,zT "deref" 1053,zT "field" 1054,zT "index" 1055] 0,#[]⟩),(626,⟨.type "tuple",none,.seq #[zT "+" 1057,zT "-" 1058,zT "*" 1059,zT "/" 1060,zT "%" 1061,zT "<<" 1062,zT ">>" 1063] 0,#[]⟩),(627,⟨.type "dict",none,.dict #[zK P "+" 1065 (zT "add" 1066),zK P "-" 1067 (zT "subtract" 1068),zK P "*" 1069 (zT "multiply" 1070),zK P "/" 1071 (zT "divide" 1072),zK P "%" 1073 (zT "calculate the remainder" 1074),zK P "<<" 1075 (zT "shift left" 1076),zK P ">>" 1077 (zT "shift right" 1078)] 7,#[]⟩),(633,zC "is_quiet" "is_quiet" 1087 1088 1089 588 1 3 628 629 .none (.ref 630) (.ref 631) 632 1091 1092),(634,⟨.type "function",none,.func (fnAt [55] (zS "is_quiet") (zS "is_quiet") 3 (.none) (.none) (zT "lendcore.build_exprs" 1044) (.ref 633) 0),#[]⟩),(668,zC "__init__" "ExprBuilder.__init__" 1141 1142 1143 601 3 3 663 664 .none (.ref 665) (.ref 666) 667 1147 1148),(669,⟨.type "function",none,.func (fnAt [57,0] (zS "__init__") (zS "ExprBuilder.__init__") 3 (.none) (.none) (zT "lendcore.build_exprs" 1044) (.ref 668) 0),#[]⟩),(675,zC "assign" "ExprBuilder.assign" 1150 1151 1152 605 3 3 670 671 .none (.ref 672) (.ref 673) 674 1156 1157),(676,⟨.type "function",none,.func (fnAt [57,1] (zS "assign") (zS "ExprBuilder.assign") 3 (.none) (.none) (zT "lendcore.build_exprs" 1044) (.ref 675) 0),#[]⟩),(682,zC "put_unit" "ExprBuilder.put_unit" 1159 1160 1161 608 2 3 677 678 .none (.ref 679) (.ref 680) 681 1164 1165),(683,⟨.type "function",none,.func (fnAt [57,2] (zS "put_unit") (zS "ExprBuilder.put_unit") 3 (.none) (.none) (zT "lendcore.build_exprs" 1044) (.ref 682) 0),#[]⟩),(689,zC "kept" "ExprBuilder.kept" 1167 1168 1169 611 3 3 684 685 .none (.ref 686) (.ref 687) 688 1174 1175),(690,⟨.type "function",none,.func (fnAt [57,3] (zS "kept") (zS "ExprBuilder.kept") 3 (.none) (.none) (zT "lendcore.build_exprs" 1044) (.ref 689) 0),#[]⟩),(694,zC "operands" "ExprBuilder.operands" 1177 1178 1179 616 2 3 691 692 .none .none .none 693 1180 1181),(695,⟨.type "function",none,.func (fnAt [57,4] (zS "operands") (zS "ExprBuilder.operands") 3 (.none) (.none) (zT "lendcore.build_exprs" 1044) (.ref 694) 0),#[]⟩),(699,zC "operand_ahead" "ExprBuilder.operand_ahead" 1183 1184 1185 619 3 3 696 697 .none .none .none 698 1186 1187),(700,⟨.type "function",none,.func (fnAt [57,5] (zS "operand_ahead") (zS "ExprBuilder.operand_ahead") 3 (.none) (.none) (zT "lendcore.build_exprs" 1044) (.ref 699) 0),#[]⟩),(706,zC "truth" "ExprBuilder.truth" 1189 1190 1191 625 2 3 701 702 .none (.ref 703) (.ref 704) 705 1195 1196),(707,⟨.type "function",none,.func (fnAt [57,6] (zS "truth") (zS "ExprBuilder.truth") 3 (.none) (.none) (zT "lendcore.build_exprs" 1044) (.ref 706) 0),#[]⟩),(713,zC "fork" "ExprBuilder.fork" 1198 1199 1200 632 2 3 708 709 .none (.ref 710) (.ref 711) 712 1205 1206),(714,⟨.type "function",none,.func (fnAt [57,7] (zS "fork") (zS "ExprBuilder.fork") 3 (.none) (.none) (zT "lendcore.build_exprs" 1044) (.ref 713) 0),#[]⟩),(720,zC "must" "ExprBuilder.must" 1208 1209 1210 637 4 3 715 716 .none (.ref 717) (.ref 718) 719 1216 1217),(721,⟨.type "function",none,.func (fnAt [57,8] (zS "must") (zS "ExprBuilder.must") 3 (.none) (.none) (zT "lendcore.build_exprs" 1044) (.ref 720) 0),#[]⟩),(727,zC "into" "ExprBuilder.into" 1219 1220 1221 642 3 3 722 723 .none (.ref 724) (.ref 725) 726 1226 1227),(728,⟨.type "function",none,.func (fnAt [57,9] (zS "into") (zS "ExprBuilder.into") 3 (.none) (.none) (zT "lendcore.build_exprs" 1044) (.ref 727) 0),#[]⟩),(734,zC "into_scalar" "ExprBuilder.into_scalar" 1229 1230 1231 666 3 3 729 730 .none (.ref 731) (.ref 732) 733 1237 1238),(735,⟨.type "function",none,.func (fnAt [57,10] (zS "into_scalar") (zS "ExprBuilder.into_scalar") 3 (.none) (.none) (zT "lendcore.build_exprs" 1044) (.ref 734) 0),#[]⟩),(741,zC "put_binary" "ExprBuilder.put_binary" 1240 1241 1242 679 6 3 736 737 .none (.ref 738) (.ref 739) 740 1251 1252),(742,⟨.type "function",none,.func (fnAt [57,11] (zS "put_binary") (zS "ExprBuilder.put_binary") 3 (.none) (.none) (zT "lendcore.build_exprs" 1044) (.ref 741) 0),#[]⟩),(748,zC "into_lazy" "ExprBuilder.into_lazy" 1254 1255 1256 692 3 3 743 744 .none (.ref 745) (.ref 746) 747 1265 1266),(749,⟨.type "function",none,.func (fnAt [57,12] (zS "into_lazy") (zS "ExprBuilder.into_lazy") 3 (.none) (.none) (zT "lendcore.build_exprs" 1044) (.ref 748) 0),#[]⟩),(753,zC "into_made" "ExprBuilder.into_made" 1268 1269 1270 705 3 3 750 751 .none .none .none 752 1271 1272),(754,⟨.type "function",none,.func (fnAt [57,13] (zS "into_made") (zS "ExprBuilder.into_made") 3 (.none) (.none) (zT "lendcore.build_exprs" 1044) (.ref 753) 0),#[]⟩),(760,zC "into_deed" "ExprBuilder.into_deed" 1274 1275 1276 722 3 3 755 756 .none (.ref 757) (.ref 758) 759 1282 1283),(761,⟨.type "function",none,.func (fnAt [57,14] (zS "into_deed") (zS "ExprBuilder.into_deed") 3 (.none) (.none) (zT "lendcore.build_exprs" 1044) (.ref 760) 0),#[]⟩),(767,zC "put_over" "ExprBuilder.put_over" 1285 1286 1287 736 4 3 762 763 .none (.ref 764) (.ref 765) 766 1293 1294),(768,⟨.type "function",none,.func (fnAt [57,15] (zS "put_over") (zS "ExprBuilder.put_over") 3 (.none) (.none) (zT "lendcore.build_exprs" 1044) (.ref 767) 0),#[]⟩),(781,zC "into_if" "ExprBuilder.into_if" 1307 1308 1309 752 3 3 776 777 .none (.ref 778) (.ref 779) 780 1316 1317),(782,⟨.type "function",none,.func (fnAt [57,17] (zS "into_if") (zS "ExprBuilder.into_if") 3 (.none) (.none) (zT "lendcore.build_exprs" 1044) (.ref 781) 0),#[]⟩),(788,zC "into_scope" "ExprBuilder.into_scope" 1319 1320 1321 765 3 3 783 784 .none (.ref 785) (.ref 786) 787 1325 1326),(789,⟨.type "function",none,.func (fnAt [57,18] (zS "into_scope") (zS "ExprBuilder.into_scope") 3 (.none) (.none) (zT "lendcore.build_exprs" 1044) (.ref 788) 0),#[]⟩),(795,zC "into_block" "ExprBuilder.into_block" 1328 1329 1330 770 3 3 790 791 .none (.ref 792) (.ref 793) 794 1335 1336),(796,⟨.type "function",none,.func (fnAt [57,19] (zS "into_block") (zS "ExprBuilder.into_block") 3 (.none) (.none) (zT "lendcore.build_exprs" 1044) (.ref 795) 0),#[]⟩),(802,zC "put_statement" "ExprBuilder.put_statement" 1338 1339 1340 780 2 3 797 798 .none (.ref 799) (.ref 800) 801 1344 1345),(803,⟨.type "function",none,.func (fnAt [57,20] (zS "put_statement") (zS "ExprBuilder.put_statement") 3 (.none) (.none) (zT "lendcore.build_exprs" 1044) (.ref 802) 0),#[]⟩),(826,⟨.type "dict",none,.dict #[zK P "__module__" 1136 (zT "lendcore.build_exprs" 1044),zK P "__firstlineno__" 1140 (.int 599 1139),zK P "__init__" 1149 (.ref 669),zK P "assign" 1158 (.ref 676),zK P "put_unit" 1166 (.ref 683),zK P "kept" 1176 (.ref 690),zK P "operands" 1182 (.ref 695),zK P "operand_ahead" 1188 (.ref 700),zK P "truth" 1197 (.ref 707),zK P "fork" 1207 (.ref 714),zK P "must" 1218 (.ref 721),zK P "into" 1228 (.ref 728),zK P "into_scalar" 1239 (.ref 735),zK P "put_binary" 1253 (.ref 742),zK P "into_lazy" 1267 (.ref 749),zK P "into_made" 1273 (.ref 754),zK P "into_deed" 1284 (.ref 761),zK P "put_over" 1295 (.ref 768),zK P "into_call" 1306 (.ref 775),zK P "into_if" 1318 (.ref 782),zK P "into_scope" 1327 (.ref 789),zK P "into_block" 1337 (.ref 796),zK P "put_statement" 1346 (.ref 803),zK P "into_way" 1356 (.ref 810),zK P "put_value" 1365 (.ref 817),zK P "into_loop" 1376 (.ref 824),zK P "__static_attributes__" 1380 (.ref 825),zK P "__doc__" 1381 (.none)] 2,#[]⟩),(827,⟨.type "type",none,.cls {name:=(zS "ExprBuilder"),bases:=[.ref 618],mro:=[.ref 827,.ref 618,.ref 445,.ref 373,.type "object"],ns:=826,qualname:=(zS "ExprBuilder"),hasDict:=true,slotNames:=[],subclasses:=[],abstract:=false,collection:=none,hasDel:=false},#[some (.ref 656),none,some (zT "ExprBuilder" 1129),some (zT "ExprBuilder" 1137),some (.builtin "object.__new__"),some (.bool true)]⟩),(835,zC "lower" "lower" 1384 1385 1386 821 2 3 830 831 .none (.ref 832) (.ref 833) 834 1391 1392),(836,⟨.type "function",none,.func (fnAt [58] (zS "lower") (zS "lower") 3 (.none) (.none) (zT "lendcore.build_exprs" 1044) (.ref 835) 0),#[]⟩),(849,zC "__init__" "TypedFn.__init__" 1408 1409 1410 836 6 3 844 845 .none (.ref 846) (.ref 847) 848 1417 1418),(850,⟨.type "function",none,.func (fnAt [60,0] (zS "__init__") (zS "TypedFn.__init__") 3 (.none) (.none) (zT "lendcore.check_exprs" 1394) (.ref 849) 0),#[]⟩),(852,⟨.type "dict",none,.dict #[zK P "__module__" 1403 (zT "lendcore.check_exprs" 1394),zK P "__firstlineno__" 1407 (.int 834 1406),zK P "__init__" 1419 (.ref 850),zK P "__static_attributes__" 1425 (.ref 851),zK P "__dict__" 1427 (.ref 854),zK P "__weakref__" 1429 (.ref 855),zK P "__doc__" 1430 (.none)] 4,#[]⟩),(853,⟨.type "type",none,.cls {name:=(zS "TypedFn"),bases:=[.type "object"],mro:=[.ref 853,.type "object"],ns:=852,qualname:=(zS "TypedFn"),hasDict:=true,slotNames:=[],subclasses:=[],abstract:=false,collection:=none,hasDel:=false},#[none,none,some (zT "TypedFn" 1396),some (zT "TypedFn" 1404),some (.builtin "object.__new__"),some (.bool true)]⟩),(865,⟨.type "tuple",none,.seq #[.none] 0,#[]⟩),(871,zC "__init__" "World.__init__" 1447 1448 1449 845 2 3 866 867 .none (.ref 868) (.ref 869) 870 1452 1453),(872,⟨.type "function",none,.func (fnAt [62,0] (zS "__init__") (zS "World.__init__") 3 (.ref 865) (.none) (zT "lendcore.world" 1433) (.ref 871) 0),#[]⟩),(881,⟨.type "dict",none,.dict #[zK P "__module__" 1442 (zT "lendcore.world" 1433),zK P "__firstlineno__" 1446 (.int 843 1445),zK P "__init__" 1454 (.ref 872),zK P "is_field_seen" 1465 (.ref 879),zK P "__static_attributes__" 1474 (.ref 880),zK P "__dict__" 1476 (.ref 883),zK P "__weakref__" 1478 (.ref 884),zK P "__doc__" 1479 (.none)] 4,#[]⟩),(882,⟨.type "type",none,.cls {name:=(zS "World"),bases:=[.type "object"],mro:=[.ref 882,.type "object"],ns:=881,qualname:=(zS "World"),hasDict:=true,slotNames:=[],subclasses:=[],abstract:=false,collection:=none,hasDel:=false},#[none,none,some (zT "World" 1435),some (zT "World" 1443),some (.builtin "object.__new__"),some (.bool true)]⟩),(887,⟨.type "tuple",none,.seq #[zT "int" 1486,zT "i32" 1487] 0,#[]⟩),(888,⟨.type "tuple",none,.seq #[zT "bool" 1489] 0,#[]⟩),(889,⟨.type "tuple",none,.seq #[] 0,#[]⟩),(890,⟨.type "tuple",none,.seq #[zT "tuple" 1491,.ref 889] 0,#[]⟩),(896,zC "_law_pool" "_law_pool" 1493 1494 1495 862 1 3 891 892 .none (.ref 893) (.ref 894) 895 1499 1500),(897,⟨.type "function",none,.func (fnAt [68] (zS "_law_pool") (zS "_law_pool") 3 (.none) (.none) (zT "law_ot0049_03" 1482) (.ref 896) 0),#[]⟩),(903,zC "_law_take" "_law_take" 1502 1503 1504 866 2 3 898 899 .none (.ref 900) (.ref 901) 902 1508 1509),(904,⟨.type "function",none,.func (fnAt [69] (zS "_law_take") (zS "_law_take") 3 (.none) (.none) (zT "law_ot0049_03" 1482) (.ref 903) 0),#[]⟩),(910,zC "_law_one" "_law_one" 1511 1512 1513 873 2 3 905 906 .none (.ref 907) (.ref 908) 909 1516 1517),(911,⟨.type "function",none,.func (fnAt [70] (zS "_law_one") (zS "_law_one") 3 (.none) (.none) (zT "law_ot0049_03" 1482) (.ref 910) 0),#[]⟩),(917,zC "_law_deed" "_law_deed" 1519 1520 1521 875 2 3 912 913 .none (.ref 914) (.ref 915) 916 1524 1525),(918,⟨.type "function",none,.func (fnAt [71] (zS "_law_deed") (zS "_law_deed") 3 (.none) (.none) (zT "law_ot0049_03" 1482) (.ref 917) 0),#[]⟩),(924,zC "_law_number" "_law_number" 1527 1528 1529 879 2 3 919 920 .none (.ref 921) (.ref 922) 923 1533 1534),(925,⟨.type "function",none,.func (fnAt [72] (zS "_law_number") (zS "_law_number") 3 (.none) (.none) (zT "law_ot0049_03" 1482) (.ref 924) 0),#[]⟩),(931,zC "_law_truth" "_law_truth" 1536 1537 1538 892 2 3 926 927 .none (.ref 928) (.ref 929) 930 1542 1543),(932,⟨.type "function",none,.func (fnAt [73] (zS "_law_truth") (zS "_law_truth") 3 (.none) (.none) (zT "law_ot0049_03" 1482) (.ref 931) 0),#[]⟩),(938,zC "_law_statement" "_law_statement" 1545 1546 1547 905 1 3 933 934 .none (.ref 935) (.ref 936) 937 1551 1552),(939,⟨.type "function",none,.func (fnAt [74] (zS "_law_statement") (zS "_law_statement") 3 (.none) (.none) (zT "law_ot0049_03" 1482) (.ref 938) 0),#[]⟩),(945,zC "_law_sum" "_law_sum" 1554 1555 1556 916 4 3 940 941 .none (.ref 942) (.ref 943) 944 1563 1564),(946,⟨.type "function",none,.func (fnAt [75] (zS "_law_sum") (zS "_law_sum") 3 (.none) (.none) (zT "law_ot0049_03" 1482) (.ref 945) 0),#[]⟩),(952,zC "_law_worth" "_law_worth" 1566 1567 1568 921 2 3 947 948 .none (.ref 949) (.ref 950) 951 1575 1576),(953,⟨.type "function",none,.func (fnAt [76] (zS "_law_worth") (zS "_law_worth") 3 (.none) (.none) (zT "law_ot0049_03" 1482) (.ref 952) 0),#[]⟩),(959,zC "_law_done" "_law_done" 1578 1579 1580 946 2 3 954 955 .none (.ref 956) (.ref 957) 958 1587 1588),(960,⟨.type "function",none,.func (fnAt [77] (zS "_law_done") (zS "_law_done") 3 (.none) (.none) (zT "law_ot0049_03" 1482) (.ref 959) 0),#[]⟩),(966,zC "_law_due" "_law_due" 1590 1591 1592 963 1 3 961 962 .none (.ref 963) (.ref 964) 965 1596 1597),(967,⟨.type "function",none,.func (fnAt [78] (zS "_law_due") (zS "_law_due") 3 (.none) (.none) (zT "law_ot0049_03" 1482) (.ref 966) 0),#[]⟩),(973,zC "_law_local" "_law_local" 1599 1600 1601 968 1 3 968 969 .none (.ref 970) (.ref 971) 972 1603 1604),(974,⟨.type "function",none,.func (fnAt [79] (zS "_law_local") (zS "_law_local") 3 (.none) (.none) (zT "law_ot0049_03" 1482) (.ref 973) 0),#[]⟩),(980,zC "_law_typed" "_law_typed" 1606 1607 1608 970 1 3 975 976 .none (.ref 977) (.ref 978) 979 1613 1614),(981,⟨.type "function",none,.func (fnAt [80] (zS "_law_typed") (zS "_law_typed") 3 (.none) (.none) (zT "law_ot0049_03" 1482) (.ref 980) 0),#[]⟩),(985,zC "_law_act" "_law_act" 1616 1617 1618 991 1 3 982 983 .none .none .none 984 1619 1620),(986,⟨.type "function",none,.func (fnAt [81] (zS "_law_act") (zS "_law_act") 3 (.none) (.none) (zT "law_ot0049_03" 1482) (.ref 985) 0),#[]⟩),(992,zC "_law_read" "_law_read" 1622 1623 1624 1001 2 3 987 988 .none (.ref 989) (.ref 990) 991 1629 1630),(993,⟨.type "function",none,.func (fnAt [82] (zS "_law_read") (zS "_law_read") 3 (.none) (.none) (zT "law_ot0049_03" 1482) (.ref 992) 0),#[]⟩),(999,zC "_law_counted" "_law_counted" 1632 1633 1634 1008 4 3 994 995 .none (.ref 996) (.ref 997) 998 1642 1643),(1000,⟨.type "function",none,.func (fnAt [83] (zS "_law_counted") (zS "_law_counted") 3 (.none) (.none) (zT "law_ot0049_03" 1482) (.ref 999) 0),#[]⟩),(1004,zC "_law_made" "_law_made" 1645 1646 1647 1014 3 3 1001 1002 .none .none .none 1003 1648 1649),(1005,⟨.type "function",none,.func (fnAt [84] (zS "_law_made") (zS "_law_made") 3 (.none) (.none) (zT "law_ot0049_03" 1482) (.ref 1004) 0),#[]⟩),(1011,zC "_law_stepped" "_law_stepped" 1651 1652 1653 1028 4 3 1006 1007 .none (.ref 1008) (.ref 1009) 1010 1659 1660),(1012,⟨.type "function",none,.func (fnAt [85] (zS "_law_stepped") (zS "_law_stepped") 3 (.none) (.none) (zT "law_ot0049_03" 1482) (.ref 1011) 0),#[]⟩),(1016,zC "_law_walked" "_law_walked" 1662 1663 1664 1040 1 3 1013 1014 .none .none .none 1015 1665 1666),(1017,⟨.type "function",none,.func (fnAt [86] (zS "_law_walked") (zS "_law_walked") 3 (.none) (.none) (zT "law_ot0049_03" 1482) (.ref 1016) 0),#[]⟩),(1021,zC "_law_is_right" "_law_is_right" 1668 1669 1670 1062 1 3 1018 1019 .none .none .none 1020 1671 1672),(1022,⟨.type "function",none,.func (fnAt [87] (zS "_law_is_right") (zS "_law_is_right") 3 (.none) (.none) (zT "law_ot0049_03" 1482) (.ref 1021) 0),#[]⟩),(1026,zC "law" "law" 1674 1675 1676 1070 1 3 1023 1024 .none .none .none 1025 1677 1678),(1027,⟨.type "function",none,.func (fnAt [88] (zS "law") (zS "law") 3 (.none) (.none) (zT "law_ot0049_03" 1482) (.ref 1026) 0),#[]⟩)]
end
noncomputable def asK:List Addr:=[1,2,3,60,61,110,111,134,135,143,149,150,156,157,170,171,177,178,186,192,193,195,196,204,205,209,210,216,217,223,224,256,257,263,264,265,271,272,278,279,285,286,292,293,299,300,306,307,320,321,327,328,334,335,348,349,355,356,369,370,372,373,385,386,399,400,406,407,413,414,434,435,444,445,460,461,470,471,484,485,489,490,496,497,510,511,515,516,593,594,614,615,617,618,621,622,623,625,626,627,633,634,668,669,675,676,682,683,689,690,694,695,699,700,706,707,713,714,720,721,727,728,734,735,741,742,748,749,753,754,760,761,767,768,781,782,788,789,795,796,802,803,826,827,835,836,849,850,852,853,865,871,872,881,882,887,888,889,890,896,897,903,904,910,911,917,918,924,925,931,932,938,939,945,946,952,953,959,960,966,967,973,974,980,981,985,986,992,993,999,1000,1004,1005,1011,1012,1016,1017,1021,1022,1026,1027]
noncomputable def wj:List (Nat×PV):=[(42,.str 444),(20,.obj 61),(43,.obj 111),(69,.typ "range"),(31,.blt "len"),(76,.typ "list"),(9,.typ "tuple"),(94,.obj 205),(98,.obj 196),(100,.obj 210),(56,.typ "dict"),(132,.obj 135),(137,.obj 224),(138,.blt "sorted"),(140,.obj 217),(148,.obj 386),(178,.obj 485),(59,.typ "enumerate"),(182,.obj 490),(183,.obj 471),(184,.obj 497),(187,.blt "any"),(188,.obj 516),(219,.obj 511),(223,.obj 634),(226,.obj 618),(230,.tup [.str 77,.str 107,.str 106,.str 97]),(231,.blt "all"),(232,.tup [.str 45]),(264,.tup [.str 321,.str 260,.str 322,.str 265,.str 266,.str 447,.str 448]),(272,.obj 627),(30,.typ "zip"),(285,.tup [.str 9,.tup []]),(294,.obj 827),(291,.int 0),(307,.blt "max"),(32,.typ "int"),(312,.obj 904),(317,.obj 932),(318,.obj 925),(319,.obj 911),(320,.obj 918),(329,.obj 1000),(330,.str 449),(335,.obj 953),(336,.obj 960),(337,.obj 946),(342,.tup [.str 32,.str 449]),(343,.tup [.str 45]),(346,.obj 974),(348,.obj 981),(350,.obj 986),(351,.tup [.str 9,.tup []]),(357,.obj 993),(358,.obj 1005),(360,.obj 1012),(364,.obj 1017),(365,.obj 967),(366,.obj 836),(368,.obj 853),(370,.obj 882),(371,.obj 897),(372,.obj 1022),(373,.obj 939)]
noncomputable def Vd:List (Addr×List (Nat×PV)):=[(627,[(321,.str 331),(260,.str 332),(322,.str 333),(265,.str 428),(266,.str 432),(447,.str 436),(448,.str 440)])]
noncomputable def wk:List (Addr×List (Nat×Addr)):=[(196,[(112,157),(99,171),(81,178),(124,193)]),(373,[(150,264),(124,272),(112,279),(120,286),(126,293),(128,300),(127,307),(222,321),(208,328),(142,335),(135,349),(65,356),(296,370)]),(445,[(146,400),(166,407),(111,414),(162,435),(150,264),(124,272),(112,279),(120,286),(126,293),(128,300),(127,307),(222,321),(208,328),(142,335),(135,349),(65,356),(296,370)]),(471,[]),(618,[(287,594),(295,615),(146,400),(166,407),(111,414),(162,435),(150,264),(124,272),(112,279),(120,286),(126,293),(128,300),(127,307),(222,321),(208,328),(142,335),(135,349),(65,356),(296,370)]),(827,[(159,676),(279,683),(95,690),(258,695),(228,700),(276,707),(275,714),(263,721),(147,728),(238,735),(259,742),(257,749),(240,754),(243,761),(280,768),(252,782),(283,789),(255,796),(284,803),(287,594),(295,615),(146,400),(166,407),(111,414),(162,435),(150,264),(124,272),(112,279),(120,286),(126,293),(128,300),(127,307),(222,321),(208,328),(142,335),(135,349),(65,356),(296,370)]),(853,[]),(882,[])]
noncomputable def wu:List (Addr×List (Nat×Addr)):=[(196,[(4,150)]),(373,[(4,257)]),(445,[(4,257)]),(471,[(4,461)]),(618,[(4,257)]),(827,[(4,669)]),(853,[(4,850)]),(882,[(4,872)])]
noncomputable def wz:List (Addr×Addr):=[(196,150),(373,257),(445,257),(471,461),(618,257),(827,669),(853,850),(882,872)]
noncomputable def Jk:List (Addr×List Nat):=[(196,[40,71,75,73,74]),(373,[37,38,115,116,92,3,117,118,64]),(445,[37,38,115,116,92,3,117,118,64]),(471,[77,170,111]),(618,[37,38,115,116,92,3,117,118,64]),(827,[225,64,3,37,38,115,116,92,117,118]),(853,[119,75,39,122,92]),(882,[298,53,52,121,41,44,299,300])]
noncomputable def Xj:List (Addr×(List Nat×List Nat)):=[(61,([7],[6])),(111,([15],[6,37,38])),(135,([19],[6,37])),(150,([21,0],[1,40,71,72,73,74])),(157,([21,1],[1,77])),(171,([21,3],[1,78])),(178,([21,4],[1,78])),(193,([21,6],[1,6,80,40])),(205,([22],[81])),(210,([23],[81,90])),(217,([24],[92])),(224,([25],[92,95])),(257,([31,0],[1,114,37])),(264,([31,1],[1,123])),(272,([31,2],[1,6,80,40])),(279,([31,3],[1,77])),(286,([31,4],[1])),(293,([31,5],[1])),(300,([31,6],[1,125])),(307,([31,7],[1,81])),(321,([31,9],[1,78])),(328,([31,10],[1])),(335,([31,11],[1,77])),(349,([31,13],[1,130])),(356,([31,14],[1])),(370,([31,16],[1])),(386,([36],[111,141])),(400,([37,0],[1,6])),(407,([37,1],[1,111,6])),(414,([37,2],[1,145])),(435,([37,5],[1,145])),(461,([39,0],[1,77,170,111])),(485,([41],[25])),(490,([42],[25,111])),(497,([43],[25,111])),(511,([45],[25])),(516,([46],[145])),(594,([47,10],[1,25,145])),(615,([47,13],[1,39])),(634,([55],[145])),(669,([57,0],[1,114,37])),(676,([57,1],[1,111,192])),(683,([57,2],[1,111])),(690,([57,3],[1,162,6])),(695,([57,4],[1,227])),(700,([57,5],[1,145,229])),(707,([57,6],[1,145])),(714,([57,7],[1,77])),(721,([57,8],[1,162,163,164])),(728,([57,9],[1,111,145])),(735,([57,10],[1,111,145])),(742,([57,11],[1,111,194,28,29,6])),(749,([57,12],[1,111,145])),(754,([57,13],[1,111,145])),(761,([57,14],[1,111,145])),(768,([57,15],[1,101,162,6])),(782,([57,17],[1,111,145])),(789,([57,18],[1,111,145])),(796,([57,19],[1,111,145])),(803,([57,20],[1,125])),(836,([58],[114,37])),(850,([60,0],[1,119,91,39,122,92])),(872,([62,0],[1,298])),(897,([68],[304])),(904,([69],[308,309])),(911,([70],[308,311])),(918,([71],[308,313])),(925,([72],[308,313])),(932,([73],[308,313])),(939,([74],[308])),(946,([75],[325,194,326,327])),(953,([76],[325,145])),(960,([77],[325,36])),(967,([78],[26])),(974,([79],[28])),(981,([80],[145])),(986,([81],[36])),(993,([82],[338,162])),(1000,([83],[7,194,326,327])),(1005,([84],[92,338,192])),(1012,([85],[92,338,340,125])),(1017,([86],[92])),(1022,([87],[26])),(1027,([88],[304]))]
noncomputable abbrev dH:Addr:=196
noncomputable abbrev Jv:Addr:=471
noncomputable abbrev J8:Addr:=827
noncomputable abbrev gP:Addr:=853
noncomputable abbrev qw:Addr:=882
noncomputable abbrev rZ:Addr:=61
noncomputable abbrev wK:Addr:=111
noncomputable abbrev kO:Addr:=135
noncomputable abbrev fK:Addr:=150
noncomputable abbrev su:Addr:=157
noncomputable abbrev T6:Addr:=171
noncomputable abbrev T7:Addr:=178
noncomputable abbrev cJ:Addr:=193
noncomputable abbrev kW:Addr:=205
noncomputable abbrev kY:Addr:=210
noncomputable abbrev oV:Addr:=217
noncomputable abbrev iY:Addr:=224
noncomputable abbrev uZ:Addr:=257
noncomputable abbrev bT:Addr:=264
noncomputable abbrev R6:Addr:=272
noncomputable abbrev cL:Addr:=279
noncomputable abbrev aG:Addr:=286
noncomputable abbrev iZ:Addr:=293
noncomputable abbrev kZ:Addr:=300
noncomputable abbrev fL:Addr:=307
noncomputable abbrev oW:Addr:=321
noncomputable abbrev jc:Addr:=328
noncomputable abbrev cM:Addr:=335
noncomputable abbrev eF:Addr:=349
noncomputable abbrev dI:Addr:=356
noncomputable abbrev bF:Addr:=370
noncomputable abbrev Bb:Addr:=386
noncomputable abbrev Y7:Addr:=400
noncomputable abbrev Q5:Addr:=407
noncomputable abbrev W8:Addr:=414
noncomputable abbrev I5:Addr:=435
noncomputable abbrev sG:Addr:=461
noncomputable abbrev fM:Addr:=485
noncomputable abbrev sH:Addr:=490
noncomputable abbrev jd:Addr:=497
noncomputable abbrev eG:Addr:=511
noncomputable abbrev dJ:Addr:=516
noncomputable abbrev Q9:Addr:=594
noncomputable abbrev O5:Addr:=615
noncomputable abbrev sJ:Addr:=634
noncomputable abbrev ju:Addr:=669
noncomputable abbrev W9:Addr:=676
noncomputable abbrev T8:Addr:=683
noncomputable abbrev aH:Addr:=690
noncomputable abbrev T9:Addr:=695
noncomputable abbrev v9:Addr:=700
noncomputable abbrev Y8:Addr:=707
noncomputable abbrev aJ:Addr:=714
noncomputable abbrev aK:Addr:=721
noncomputable abbrev I9:Addr:=728
noncomputable abbrev o7:Addr:=735
noncomputable abbrev R2:Addr:=742
noncomputable abbrev R8:Addr:=749
noncomputable abbrev H9:Addr:=754
noncomputable abbrev s8:Addr:=761
noncomputable abbrev U0:Addr:=768
noncomputable abbrev z8:Addr:=782
noncomputable abbrev R3:Addr:=789
noncomputable abbrev q9:Addr:=796
noncomputable abbrev I6:Addr:=803
noncomputable abbrev Ho:Addr:=836
noncomputable abbrev sO:Addr:=850
noncomputable abbrev lg:Addr:=872
noncomputable abbrev oX:Addr:=897
noncomputable abbrev oY:Addr:=904
noncomputable abbrev V9:Addr:=911
noncomputable abbrev fO:Addr:=918
noncomputable abbrev G5:Addr:=925
noncomputable abbrev O8:Addr:=932
noncomputable abbrev cN:Addr:=939
noncomputable abbrev jw:Addr:=946
noncomputable abbrev G6:Addr:=953
noncomputable abbrev X4:Addr:=960
noncomputable abbrev sS:Addr:=967
noncomputable abbrev lq:Addr:=974
noncomputable abbrev lA:Addr:=981
noncomputable abbrev sU:Addr:=986
noncomputable abbrev oZ:Addr:=993
noncomputable abbrev U3:Addr:=1000
noncomputable abbrev pq:Addr:=1005
noncomputable abbrev fP:Addr:=1012
noncomputable abbrev je:Addr:=1017
noncomputable abbrev eH:Addr:=1022
noncomputable abbrev Bc:Addr:=1027
noncomputable def texts:List Str:=[zS "k",zS "self",zS "message",zS "spot",zS "__init__",zS "Exception",zS "told",zS "kind",zS "ref",zS "tuple",zS "box",zS "array",zS "adt",zS "parts",zS "table",zS "param",zS "rebuilt",zS "get",zS "substituted",zS "part",zS "parts_of",zS "change",zS "with_regions",zS "region",zS "no_region",zS "pattern",zS "some",zS "others",zS "one",zS "other",zS "zip",zS "len",zS "int",zS "var",zS "intvar",zS "matched",zS "row",zS "world",zS "bounds",zS "params",zS "name",zS "traits",zS "COPY",zS "is_copy",zS "impls",zS "bool",zS "never",zS "trait",zS "impl_bounds",zS "erased",zS "self_type",zS "variant",zS "variants",zS "adts",zS "types",zS "regions",zS "dict",zS "field_rows",zS "str",zS "enumerate",zS "put_in",zS "DROP",zS "seen",zS "left",zS "here",zS "pop",zS "extend",zS "append",zS "has_drop",zS "range",zS "fields_of",zS "arg_count",zS "locals_told",zS "blocks",zS "spots",zS "locals",zS "list",zS "local",zS "block",zS "point",zS "is_mut",zS "terminator",zS "word",zS "found",zS "goto",zS "switch",zS "call",zS "drop",zS "assert",zS "value",zS "turned",zS "rows",zS "body",zS "waiting",zS "successors",zS "kept",zS "places",zS "index",zS "Body",zS "statements",zS "retargeted",zS "goal",zS "LendError",zS "a type without fields: ",zS "projection",zS "downcast",zS "field",zS "deref",zS "field_type",zS " of ",zS "no ",zS "place",zS "type_of",zS "projected",zS "typed_fn",zS "args",zS "first_user",zS "alias",zS "frames",zS "path",zS "new_block",zS "sigs",zS "result",zS "n",zS "new_local",zS "statement",zS "note",zS "close",zS "put",zS "live",zS "frame",zS "is_living",zS "needs_drop",zS "following",zS "dead",zS "finish",zS "depth",zS "with_blocks",zS "sorted",zS "unreachable",zS "reachable",zS "step",zS "declare",zS "copy",zS "move",zS "e",zS "temp",zS "into",zS "longer",zS "indexed",zS "user",zS "base",zS "is_there",zS "many",zS "USIZE",zS "BOOL_build_places",zS "const",zS "asserted",zS "OUT_OF_BOUNDS",zS "assign",zS "binary",zS "<",zS "operand",zS "expected",zS "text",zS "behind",zS "operand_of",zS "auto",zS "two-phase",zS "shared",zS "mode",zS "use",zS "mut",zS "lots",zS "lot",zS "or",zS "fields",zS "bind",zS "alternatives",zS "rows_of",zS "inner",zS "at",zS "parts_at",zS "Binding",zS "bindings_at",zS "isinstance",zS "borrow",zS "any",zS "is_kept_on",zS "fail",zS "bad",zS "good",zS "rvalue",zS "test",zS "op",zS "bound",zS ">=",zS "<=",zS "branch",zS "discriminant",zS "binding",zS "place_type",zS "guard",zS "bindings",zS "ahead",zS "lent",zS "holds",zS "mentions",zS "push",zS "PatternFault",zS "a guard that looks at what a mutable reference binds",zS "guarded",zS "locals_now",zS "arm",zS "inside",zS "arm_entry",zS "anew",zS "arm_into",zS "is_kept",zS "is_plain_name",zS "bind_all",zS "bind_one",zS "go",zS "is_quiet",zS "head",zS "loops",zS "MatchBuilder",zS "es",zS "operand_ahead",zS "late",zS "PLACES",zS "all",zS "BOOL_build_exprs",zS "yes",zS "no",zS "lazy",zS "unary",zS "cast",zS "into_scalar",zS "repeat",zS "into_made",zS "update",zS "print",zS "into_deed",zS "loop",zS "break",zS "continue",zS "return",zS "panic",zS "into_way",zS "into_call",zS "if",zS "into_if",zS "match",zS "match_into",zS "into_block",zS "no expression: ",zS "into_lazy",zS "operands",zS "put_binary",zS "-",zS "pair",zS "is_zero",zS "must",zS "CHECKED",zS "/",zS "%",zS "checked",zS " with overflow",zS "==",zS " by zero",zS "attempt to ",zS "VERBS",zS "settled",zS "asked",zS "fork",zS "truth",zS "&&",zS "||",zS "put_unit",zS "put_over",zS "NEVER",zS "end",zS "into_scope",zS "put_statement",zS "UNIT",zS "let",zS "let_bound",zS "into_loop",zS "put_value",zS "leave",zS "RESULT",zS "Loop",zS "builder",zS "ExprBuilder",zS "bind_params",zS "finished",zS "hold",zS "modules",zS "consts",zS "bodies",zS "number",zS "module",zS "_wall",zS "script",zS "script_cell",zS "large",zS "max",zS "source",zS "top",zS "digit",zS "things",zS "_law_take",zS "deep",zS "way",zS "choice",zS "sum",zS "_law_truth",zS "_law_number",zS "_law_one",zS "_law_deed",zS "+",zS "*",zS "compared",zS "not",zS "run",zS "a",zS "b",zS "is_over",zS "_law_counted",zS "_law_kind",zS "add",zS "subtract",zS "multiply",zS "first",zS "_law_worth",zS "_law_done",zS "_law_sum",zS "cells",zS "is_so",zS "prints",zS "done",zS "_law_int",zS "_law_bool",zS "tail",zS "both",zS "_law_local",zS "!",zS "_law_typed",zS "do",zS "_law_act",zS "_law_unit",zS "ill",zS "whole",zS "low",zS "u8",zS "told_now",zS "_law_read",zS "_law_made",zS "turn",zS "_law_stepped",zS "key",zS "begins",zS "tree",zS "_law_walked",zS "_law_due",zS "lower",zS "t",zS "TypedFn",zS "f",zS "World",zS "_law_pool",zS "_law_is_right",zS "_law_statement",zS "book",zS "counter",zS "_law_block",zS "ring",zS "_law_asked",zS "open",zS "_law_gone_through",zS "_law_rounds",zS "most",zS "_law_const",zS "_law_tree",zS "_law_choice",zS "_law_ring",zS "leaves",zS "grows",zS "last",zS "told_one",zS "cell",zS "big",zS "mixed",zS "drawn",zS "steps",zS "_law_U8",zS "slot",zS "wild",zS "due",zS "is_open",zS "_law_pattern",zS "_law_BOOL",zS "events",zS "event",zS "_law_event",zS "begin",zS "gone",zS "arms",zS "x",zS "guards",zS "_law_ways",zS "_law_way_right",zS "",zS "_law_scrutinee",zS "_law_arms",zS "_law_right",zS "_law_is_refused",zS "g",zS "attempt to add",zS "attempt to add with overflow",zS "attempt to add by zero",zS "attempt to subtract",zS "attempt to subtract with overflow",zS "attempt to subtract by zero",zS "attempt to multiply",zS "attempt to multiply with overflow",zS "attempt to multiply by zero",zS "divide",zS "attempt to divide",zS "attempt to divide with overflow",zS "attempt to divide by zero",zS "calculate the remainder",zS "attempt to calculate the remainder",zS "attempt to calculate the remainder with overflow",zS "attempt to calculate the remainder by zero",zS "shift left",zS "attempt to shift left",zS "attempt to shift left with overflow",zS "attempt to shift left by zero",zS "shift right",zS "attempt to shift right",zS "attempt to shift right with overflow",zS "attempt to shift right by zero",zS "Copy",zS "Drop",zS ".0",zS "<<",zS ">>",zS "i32"]
noncomputable def Xk:List ((Nat×Nat)×Nat):=[((271,331),419),((419,268),420),((419,270),421),((271,332),422),((422,268),423),((422,270),424),((271,333),425),((425,268),426),((425,270),427),((271,428),429),((429,268),430),((429,270),431),((271,432),433),((433,268),434),((433,270),435),((271,436),437),((437,268),438),((437,270),439),((271,440),441),((441,268),442),((441,270),443)]
noncomputable abbrev Ew:List S:=[.asg (.name 7) (.at (.loc 6) 0),.iff (.cmp .Eq (.loc 7) (.str 8)) [.bad] [],.iff (.or [.cmp .Eq (.loc 7) (.str 10),.cmp .Eq (.loc 7) (.str 11)]) [.bad] [],.iff (.cmp .Eq (.loc 7) (.str 9)) [.ret (.at (.loc 6) 1)] [],.ret (.O1 (.cmp .Eq (.loc 7) (.str 12)) (.at (.loc 6) 3) (.tup []))]
noncomputable abbrev Jw:List S:=[.asg (.name 7) (.at (.loc 6) 0),.iff (.cmp .In (.loc 7) (.tup [.str 32,.str 45,.str 46,.str 34])) [.ret (.O2 true)] [],.iff (.cmp .Eq (.loc 7) (.str 8)) [.bad] [],.iff (.or [.cmp .Eq (.loc 7) (.str 9),.cmp .Eq (.loc 7) (.str 11)]) [.ret (.cmp .Eq (.comp [37,38] (.one 19) (.loc 19) (.call 20 [.loc 6]) [.not (.call 43 [.loc 19,.loc 37,.loc 38])] [(446,.local),(19,.local),(43,.globalImplicit),(38,.free),(37,.free)]) (.lst []))] [],.bad,.bad,.bad,.bad]
noncomputable abbrev yg:List S:=[.asg (.name 62) (.bR []),.asg (.name 63) (.bR [.loc 6]),.while (.cmp .NotEq (.loc 63) (.lst [])) [.asg (.name 64) (.Q0 (.loc 63) "list" 65 "list.pop" []),.iff (.cmp .In (.at (.loc 64) 0) (.tup [.str 10,.str 15])) [.bad] [],.iff (.cmp .In (.at (.loc 64) 0) (.tup [.str 9,.str 11])) [.expr (.Q0 (.loc 63) "list" 66 "list.extend" [.call 20 [.loc 64]])] [.iff (.and [.cmp .Eq (.at (.loc 64) 0) (.str 12),.cmp .NotIn (.loc 64) (.loc 62)]) [.bad,.bad,.bad] []]],.ret (.O2 false)]
noncomputable abbrev Bd:List S:=[.asg (.attr (.loc 1) 40) (.loc 40),.asg (.attr (.loc 1) 71) (.loc 71),.asg (.attr (.loc 1) 75) (.call 76 [.loc 72]),.asg (.attr (.loc 1) 73) (.O1 (.cmp .Is (.loc 73) .none) (.bR []) (.loc 73)),.asg (.attr (.loc 1) 74) (.O1 (.cmp .Is (.loc 74) .none) (.cF 2) (.loc 74))]
noncomputable abbrev sV:List S:=[.ret (.at (.sub (.attr (.loc 1) 75) (.loc 77)) 0)]
noncomputable abbrev lC:List S:=[.ret (.at (.sub (.attr (.loc 1) 73) (.loc 78)) 0)]
noncomputable abbrev lD:List S:=[.ret (.at (.sub (.attr (.loc 1) 73) (.loc 78)) 1)]
noncomputable abbrev nQ:List S:=[.expr (.Q0 (.attr (.loc 1) 75) "list" 67 "list.append" [.tup [.loc 6,.loc 80,.loc 40]]),.ret (.bin .Sub (.call 31 [.attr (.loc 1) 75]) (.int 1))]
noncomputable abbrev yh:List S:=[.asg (.name 82) (.at (.loc 81) 0),.iff (.cmp .Eq (.loc 82) (.str 84)) [.asg (.name 6) (.lst [.at (.loc 81) 1])] [.iff (.cmp .Eq (.loc 82) (.str 85)) [.asg (.name 6) (.bin .Add (.comp [] (.many [89,78]) (.loc 78) (.at (.loc 81) 2) [] [(446,.local),(89,.local),(78,.local)]) (.lst [.at (.loc 81) 3]))] [.iff (.cmp .Eq (.loc 82) (.str 86)) [.asg (.name 6) (.lst [.at (.loc 81) 4])] [.iff (.cmp .Eq (.loc 82) (.str 87)) [.asg (.name 6) (.lst [.at (.loc 81) 2])] [.iff (.cmp .Eq (.loc 82) (.str 88)) [.asg (.name 6) (.lst [.at (.loc 81) 4])] [.asg (.name 6) (.lst [])]]]]],.asg (.name 83) (.bR []),.for (.name 78) (.loc 6) [.iff (.and [.cmp .IsNot (.loc 78) .none,.cmp .NotIn (.loc 78) (.loc 83)]) [.expr (.Q0 (.loc 83) "list" 67 "list.append" [.loc 78])] []],.ret (.loc 83)]
noncomputable abbrev yj:List S:=[.asg (.name 82) (.at (.loc 81) 0),.iff (.cmp .Eq (.loc 82) (.str 84)) [.ret (.tup [.str 84,.GD 90 [.at (.loc 81) 1]])] [],.iff (.cmp .Eq (.loc 82) (.str 85)) [.asg (.name 91) (.call 9 [.comp [90] (.many [89,78]) (.tup [.loc 89,.GD 90 [.loc 78]]) (.at (.loc 81) 2) [] [(446,.local),(89,.local),(78,.local),(90,.free)]]),.ret (.tup [.str 85,.at (.loc 81) 1,.loc 91,.O1 (.cmp .Is (.at (.loc 81) 3) .none) .none (.GD 90 [.at (.loc 81) 3])])] [],.iff (.cmp .Eq (.loc 82) (.str 86)) [.bad] [],.iff (.cmp .Eq (.loc 82) (.str 87)) [.bad] [],.iff (.cmp .Eq (.loc 82) (.str 88)) [.ret (.bin .Add (.slT (.loc 81) (.int 4)) (.tup [.GD 90 [.at (.loc 81) 4]]))] [],.ret (.loc 81)]
noncomputable abbrev Bf:List S:=[.swap [83,93] [.bR [],.bR [.int 0]],.while (.cmp .NotEq (.loc 93) (.lst [])) [.asg (.name 78) (.Q0 (.loc 93) "list" 65 "list.pop" []),.iff (.cmp .NotIn (.loc 78) (.loc 83)) [.expr (.Q0 (.loc 83) "list" 67 "list.append" [.loc 78]),.expr (.Q0 (.loc 93) "list" 66 "list.extend" [.slR (.call 94 [.meth (.loc 92) 81 [.loc 78]])])] []],.ret (.loc 83)]
noncomputable abbrev vd:List S:=[.asg (.name 96) (.cF 0),.for (.name 78) (.loc 95) [.asg (.sub (.loc 96) (.loc 78)) (.call 31 [.loc 96])],.swap [73,74] [.bR [],.cF 2],.for (.name 78) (.loc 95) [.asg (.tup [.name 99,.name 81]) (.sub (.attr (.loc 92) 73) (.loc 78)),.Mj 73 67 (.call 76 [.loc 99]) 81 96 101 100 I4,.for (.name 97) (.call 69 [.bin .Add (.call 31 [.loc 99]) (.int 1)]) [.iff (.cmp .In (.tup [.loc 78,.loc 97]) (.attr (.loc 92) 74)) [.asg (.sub (.loc 74) (.tup [.sub (.loc 96) (.loc 78),.loc 97])) (.sub (.attr (.loc 92) 74) (.tup [.loc 78,.loc 97]))] []]],.ret (.call 98 [.attr (.loc 92) 40,.attr (.loc 92) 71,.attr (.loc 92) 75,.loc 73,.loc 74])]
noncomputable abbrev vf:List S:=[.asg (.attr (.loc 1) 37) (.loc 37),.asg (.attr (.loc 1) 38) (.O1 (.cmp .In (.attr (.loc 114) 119) (.attr (.loc 37) 121)) (.call 56 [.attr (.sub (.attr (.loc 37) 121) (.attr (.loc 114) 119)) 39]) (.cF 1)),.asg (.name 91) (.Wm (.lst [.tup [.attr (.loc 114) 122,.O2 true,.none]]) (.comp [] (.one 25) (.tup [.at (.loc 25) 1,.O2 false,.none]) (.attr (.loc 114) 39) [] [(446,.local),(25,.local)])),.asg (.attr (.loc 1) 115) (.call 76 [.call 69 [.int 1,.call 31 [.loc 91]]]),.asg (.attr (.loc 1) 116) (.call 31 [.loc 91]),.expr (.Q0 (.loc 91) "list" 66 "list.extend" [.comp [] (.many [40,6,80]) (.tup [.loc 6,.loc 80,.loc 40]) (.attr (.loc 114) 75) [] [(446,.local),(40,.local),(6,.local),(80,.local)]]),.asg (.attr (.loc 1) 92) (.call 98 [.attr (.loc 114) 119,.call 31 [.attr (.loc 1) 115],.loc 91]),.asg (.attr (.loc 1) 3) (.int 0),.asg (.attr (.loc 1) 117) (.cF 0),.asg (.attr (.loc 1) 118) (.bR []),.asg (.attr (.loc 1) 64) (.meth (.loc 1) 120 [])]
noncomputable abbrev vg:List S:=[.ret (.bin .Add (.attr (.loc 1) 116) (.loc 123))]
noncomputable abbrev jx:List S:=[.ret (.meth (.attr (.loc 1) 92) 124 [.loc 6,.loc 80,.loc 40])]
noncomputable abbrev nR:List S:=[.ret (.meth (.attr (.loc 1) 92) 112 [.loc 77])]
noncomputable abbrev jy:List S:=[.expr (.Q0 (.attr (.attr (.loc 1) 92) 73) "list" 67 "list.append" [.bR [.bR [],.none]]),.ret (.bin .Sub (.call 31 [.attr (.attr (.loc 1) 92) 73]) (.int 1))]
noncomputable abbrev vh:List S:=[.asg (.sub (.attr (.attr (.loc 1) 92) 74) (.tup [.attr (.loc 1) 64,.call 31 [.meth (.attr (.loc 1) 92) 99 [.attr (.loc 1) 64]]])) (.attr (.loc 1) 3)]
noncomputable abbrev yp:List S:=[.expr (.meth (.loc 1) 126 []),.expr (.Q0 (.meth (.attr (.loc 1) 92) 99 [.attr (.loc 1) 64]) "list" 67 "list.append" [.loc 125])]
noncomputable abbrev sX:List S:=[.expr (.meth (.loc 1) 126 []),.asg (.sub (.sub (.attr (.attr (.loc 1) 92) 73) (.attr (.loc 1) 64)) (.int 1)) (.loc 81)]
noncomputable abbrev Bg:List S:=[.expr (.meth (.loc 1) 127 [.tup [.str 84,.loc 78]]),.asg (.attr (.loc 1) 64) (.loc 78)]
noncomputable abbrev vm:List S:=[.expr (.Q0 (.attr (.loc 1) 118) "list" 67 "list.append" [.bR []]),.ret (.bin .Sub (.call 31 [.attr (.loc 1) 118]) (.int 1))]
noncomputable abbrev nU:List S:=[.expr (.meth (.loc 1) 128 [.tup [.str 129,.loc 77]]),.expr (.Q0 (.sub (.attr (.loc 1) 118) (.neg (.int 1))) "list" 67 "list.append" [.tup [.loc 77,.O2 true]])]
noncomputable abbrev pK:List S:=[.for (.tup [.name 77,.name 131]) (.slR (.loc 130)) [.iff (.call 132 [.meth (.loc 1) 112 [.loc 77],.attr (.loc 1) 37]) [.bad,.bad,.bad] [],.iff (.loc 131) [.expr (.meth (.loc 1) 128 [.tup [.str 134,.loc 77]])] []]]
noncomputable abbrev yq:List S:=[.expr (.meth (.loc 1) 135 [.sub (.attr (.loc 1) 118) (.neg (.int 1))]),.expr (.Q0 (.attr (.loc 1) 118) "list" 65 "list.pop" [])]
noncomputable abbrev lE:List S:=[.for (.name 78) (.attr (.attr (.loc 1) 92) 73) [.iff (.cmp .Is (.at (.loc 78) 1) .none) [.asg (.sub (.loc 78) (.int 1)) (.tup [.str 139])] []],.ret (.call 137 [.attr (.loc 1) 92,.call 138 [.call 140 [.attr (.loc 1) 92]]])]
noncomputable abbrev Nq:List S:=[.ret (.tup [.at (.loc 111) 0,.bin .Add (.at (.loc 111) 1) (.tup [.loc 141])])]
noncomputable abbrev iG:List S:=[.asg (.name 77) (.meth (.loc 1) 124 [.loc 6]),.expr (.meth (.loc 1) 142 [.loc 77]),.ret (.loc 77)]
noncomputable abbrev aV:List S:=[.ret (.tup [.O1 (.call 43 [.loc 6,.attr (.loc 1) 37,.attr (.loc 1) 38]) (.str 143) (.str 144),.loc 111])]
noncomputable abbrev fQ:List S:=[.asg (.name 7) (.at (.loc 145) 0),.iff (.cmp .Eq (.loc 7) (.str 77)) [.ret (.O1 (.cmp .In (.at (.loc 145) 3) (.attr (.loc 1) 117)) (.sub (.attr (.loc 1) 117) (.at (.loc 145) 3)) (.tup [.meth (.loc 1) 150 [.at (.loc 145) 3],.tup []]))] [],.iff (.cmp .Eq (.loc 7) (.str 107)) [.bad] [],.iff (.cmp .Eq (.loc 7) (.str 106)) [.ret (.call 148 [.meth (.loc 1) 111 [.at (.loc 145) 3],.tup [.str 106,.at (.loc 145) 4]])] [],.iff (.cmp .Eq (.loc 7) (.str 97)) [.bad] [],.asg (.name 77) (.meth (.loc 1) 146 [.at (.loc 145) 1]),.expr (.meth (.loc 1) 147 [.tup [.loc 77,.tup []],.loc 145]),.ret (.tup [.loc 77,.tup []])]
noncomputable abbrev dK:List S:=[.iff (.cmp .Eq (.at (.loc 145) 0) (.str 156)) [.ret (.tup [.str 156,.at (.loc 145) 1,.at (.loc 145) 3])] [],.ret (.meth (.loc 1) 166 [.meth (.loc 1) 111 [.loc 145],.at (.loc 145) 1])]
noncomputable abbrev sY:List S:=[.asg (.attr (.loc 1) 77) (.loc 77),.asg (.attr (.loc 1) 170) (.loc 170),.asg (.attr (.loc 1) 111) (.loc 111)]
noncomputable abbrev sZ:List S:=[.asg (.name 7) (.at (.loc 25) 0),.iff (.cmp .Eq (.loc 7) (.str 175)) [.bad] [],.iff (.and [.cmp .Eq (.loc 7) (.str 177),.cmp .IsNot (.at (.loc 25) 4) .none]) [.bad] [],.iff (.cmp .Eq (.loc 7) (.str 107)) [.bad] [],.iff (.cmp .Eq (.loc 7) (.str 176)) [.bad] [],.iff (.cmp .Eq (.loc 7) (.str 51)) [.bad,.bad] [],.ret (.lst [.loc 25])]
noncomputable abbrev Ey:List S:=[.asg (.name 7) (.at (.loc 25) 0),.iff (.cmp .Eq (.loc 7) (.str 177)) [.ret (.O1 (.cmp .Is (.at (.loc 25) 4) .none) (.lst []) (.lst [.tup [.at (.loc 25) 4,.loc 111]]))] [],.iff (.cmp .Eq (.loc 7) (.str 107)) [.bad] [],.iff (.cmp .Eq (.loc 7) (.str 176)) [.bad] [],.iff (.cmp .Eq (.loc 7) (.str 51)) [.bad,.bad] [],.bad]
noncomputable abbrev vo:List S:=[.asg (.name 83) (.O1 (.cmp .Eq (.at (.loc 25) 0) (.str 177)) (.bR [.call 183 [.at (.loc 25) 2,.at (.loc 25) 3,.loc 111]]) (.bR [])),.for (.tup [.name 19,.name 3]) (.call 182 [.loc 25,.loc 111]) [.bad],.ret (.loc 83)]
noncomputable abbrev pL:List S:=[.ret (.and [.cmp .Eq (.at (.loc 25) 0) (.str 177),.cmp .Is (.at (.loc 25) 4) .none,.cmp .In (.at (.loc 25) 3) (.tup [.str 144,.str 143])])]
noncomputable abbrev yr:List S:=[.iff (.cmp .In (.at (.loc 145) 0) (.tup [.str 9,.str 11])) [.ret (.call 187 [.comp [] (.one 19) (.call 188 [.loc 19]) (.at (.loc 145) 3) [] [(446,.local),(19,.local),(188,.globalImplicit)]])] [],.iff (.cmp .Eq (.at (.loc 145) 0) (.str 12)) [.bad] [],.ret (.cmp .Eq (.at (.loc 145) 0) (.str 186))]
noncomputable abbrev bU:List S:=[.asg (.name 26) (.call 184 [.at (.call 178 [.loc 25]) 0,.tup [.int 0,.tup []]]),.for (.name 200) (.loc 26) [.expr (.meth (.loc 1) 142 [.meth (.loc 1) 150 [.attr (.loc 200) 77]])],.iff (.cmp .Is (.loc 145) .none) [.Ri] [],.asg (.name 218) (.call 188 [.loc 145]),.iff (.not (.loc 218)) [.expr (.meth (.loc 1) 208 [])] [],.iff (.call 219 [.loc 25]) [.expr (.meth (.loc 1) 147 [.tup [.meth (.loc 1) 150 [.at (.loc 25) 2],.tup []],.loc 145])] [.bad],.iff (.not (.loc 218)) [.expr (.meth (.loc 1) 65 [])] []]
noncomputable abbrev aL:List S:=[.am7 (.tup [.name 181,.name 25]) 59 (.loc 39) [.bad,.bad,.bad]]
noncomputable abbrev tu:List S:=[.iff (.cmp .Eq (.at (.loc 145) 0) (.str 106)) [.ret (.call 223 [.at (.loc 145) 3])] [],.ret (.cmp .In (.at (.loc 145) 0) (.tup [.str 156,.str 77]))]
noncomputable abbrev jz:List S:=[.expr (.Le 226 4 [.loc 1,.loc 114,.loc 37]),.asg (.attr (.loc 1) 225) (.cF 0)]
noncomputable abbrev fU:List S:=[.expr (.meth (.loc 1) 128 [.tup [.str 159,.loc 111,.loc 192]])]
noncomputable abbrev dM:List S:=[.expr (.meth (.loc 1) 159 [.loc 111,.tup [.str 9,.tup []]])]
noncomputable abbrev jA:List S:=[.asg (.name 77) (.meth (.loc 1) 146 [.loc 6]),.expr (.meth (.loc 1) 159 [.tup [.loc 77,.tup []],.tup [.str 171,.loc 162]]),.ret (.tup [.O1 (.call 43 [.loc 6,.attr (.loc 1) 37,.attr (.loc 1) 38]) (.str 143) (.str 144),.tup [.loc 77,.tup []]])]
noncomputable abbrev dN:List S:=[.ret (.comp [1,227] (.one 181) (.meth (.loc 1) 228 [.sub (.loc 227) (.loc 181),.slF (.loc 227) (.bin .Add (.loc 181) (.int 1))]) (.call 69 [.call 31 [.loc 227]]) [] [(446,.local),(181,.local),(227,.free),(1,.free)])]
noncomputable abbrev Z6:List S:=[.asg (.name 162) (.meth (.loc 1) 162 [.loc 145]),.iff (.and [.cmp .In (.at (.loc 145) 0) (.glob 230),.not (.call 231 [.comp [] (.one 28) (.call 223 [.loc 28]) (.loc 229) [] [(446,.local),(28,.local),(223,.globalImplicit)]])]) [.ret (.meth (.loc 1) 95 [.loc 162,.at (.loc 145) 1])] [],.ret (.loc 162)]
noncomputable abbrev iH:List S:=[.asg (.name 77) (.meth (.loc 1) 146 [.glob 232]),.expr (.meth (.loc 1) 208 []),.expr (.meth (.loc 1) 147 [.tup [.loc 77,.tup []],.loc 145]),.expr (.meth (.loc 1) 65 []),.ret (.loc 77)]
noncomputable abbrev jB:List S:=[.swap [233,234] [.meth (.loc 1) 120 [],.meth (.loc 1) 120 []],.expr (.meth (.loc 1) 127 [.tup [.str 85,.tup [.str 143,.tup [.loc 77,.tup []]],.tup [.tup [.O2 false,.loc 234]],.loc 233]]),.ret (.tup [.loc 233,.loc 234])]
noncomputable abbrev jC:List S:=[.asg (.name 133) (.meth (.loc 1) 120 []),.expr (.meth (.loc 1) 127 [.tup [.str 88,.loc 162,.loc 163,.loc 164,.loc 133]]),.asg (.attr (.loc 1) 64) (.loc 133)]
noncomputable abbrev jD:List S:=[.Xg [.name 3,.attr (.loc 1) 3] [.attr (.loc 1) 3,.at (.loc 145) 2],.iff (.or [.cmp .In (.at (.loc 145) 0) (.glob 230),.cmp .Eq (.at (.loc 145) 0) (.str 156)]) [.expr (.meth (.loc 1) 159 [.loc 111,.tup [.str 171,.meth (.loc 1) 162 [.loc 145]]])] [.iff (.cmp .In (.at (.loc 145) 0) (.tup [.str 160,.str 235,.str 236,.str 237])) [.expr (.meth (.loc 1) 238 [.loc 111,.loc 145])] [.iff (.cmp .In (.at (.loc 145) 0) (.tup [.str 186,.str 9,.str 11,.str 239,.str 12,.str 10])) [.expr (.meth (.loc 1) 240 [.loc 111,.loc 145])] [.iff (.cmp .In (.at (.loc 145) 0) (.tup [.str 159,.str 241,.str 242])) [.expr (.meth (.loc 1) 243 [.loc 111,.loc 145])] [.iff (.cmp .In (.at (.loc 145) 0) (.tup [.str 244,.str 245,.str 246,.str 247,.str 248])) [.expr (.meth (.loc 1) 249 [.loc 111,.loc 145])] [.iff (.cmp .Eq (.at (.loc 145) 0) (.str 86)) [.expr (.meth (.loc 1) 250 [.loc 111,.loc 145])] [.iff (.cmp .Eq (.at (.loc 145) 0) (.str 251)) [.expr (.meth (.loc 1) 252 [.loc 111,.loc 145])] [.iff (.cmp .Eq (.at (.loc 145) 0) (.str 253)) [.expr (.meth (.loc 1) 254 [.loc 111,.loc 145])] [.iff (.cmp .Eq (.at (.loc 145) 0) (.str 78)) [.expr (.meth (.loc 1) 255 [.loc 111,.loc 145])] [.bad]]]]]]]]],.asg (.attr (.loc 1) 3) (.loc 3)]
noncomputable abbrev aW:List S:=[.iff (.cmp .Eq (.at (.loc 145) 0) (.str 235)) [.expr (.meth (.loc 1) 257 [.loc 111,.loc 145])] [.iff (.cmp .Eq (.at (.loc 145) 0) (.str 237)) [.expr (.meth (.loc 1) 159 [.loc 111,.tup [.str 237,.meth (.loc 1) 162 [.at (.loc 145) 3],.at (.loc 145) 1]])] [.iff (.cmp .Eq (.at (.loc 145) 0) (.str 160)) [.asg (.tup [.name 28,.name 29]) (.meth (.loc 1) 258 [.tup [.at (.loc 145) 4,.at (.loc 145) 5]]),.expr (.meth (.loc 1) 259 [.loc 111,.at (.loc 145) 3,.loc 28,.loc 29,.at (.at (.loc 145) 4) 1])] [.iff (.cmp .Eq (.at (.loc 145) 3) (.str 260)) [.expr (.meth (.loc 1) 259 [.loc 111,.str 260,.tup [.str 156,.at (.loc 145) 1,.int 0],.meth (.loc 1) 162 [.at (.loc 145) 4],.at (.loc 145) 1])] [.expr (.meth (.loc 1) 159 [.loc 111,.tup [.str 236,.at (.loc 145) 3,.meth (.loc 1) 162 [.at (.loc 145) 4]]])]]]]]
noncomputable abbrev bV:List S:=[.iff (.or [.cmp .NotIn (.loc 194) (.glob 264),.cmp .NotEq (.at (.loc 6) 0) (.str 32)]) [.expr (.meth (.loc 1) 159 [.loc 111,.tup [.str 160,.loc 194,.loc 28,.loc 29]]),.Ri] [],.iff (.cmp .In (.loc 194) (.tup [.str 265,.str 266])) [.asg (.name 262) (.meth (.loc 1) 146 [.glob 232]),.expr (.meth (.loc 1) 159 [.tup [.loc 262,.tup []],.tup [.str 160,.str 269,.loc 29,.tup [.str 156,.loc 6,.int 0]]]),.expr (.meth (.loc 1) 263 [.tup [.str 143,.tup [.loc 262,.tup []]],.O2 false,.bin .Add (.bin .Add (.str 271) (.sub (.glob 272) (.loc 194))) (.str 270)])] [],.asg (.name 261) (.meth (.loc 1) 146 [.tup [.str 9,.tup [.loc 6,.glob 232]]]),.expr (.meth (.loc 1) 159 [.tup [.loc 261,.tup []],.tup [.str 267,.loc 194,.loc 28,.loc 29]]),.expr (.meth (.loc 1) 263 [.tup [.str 143,.tup [.loc 261,.tup [.tup [.str 106,.int 1]]]],.O2 false,.bin .Add (.bin .Add (.str 271) (.sub (.glob 272) (.loc 194))) (.str 268)]),.expr (.meth (.loc 1) 159 [.loc 111,.tup [.str 171,.tup [.str 143,.tup [.loc 261,.tup [.tup [.str 106,.int 0]]]]]])]
noncomputable abbrev cO:List S:=[.asg (.tup [.name 233,.name 234]) (.meth (.loc 1) 275 [.meth (.loc 1) 276 [.at (.loc 145) 4]]),.asg (.tup [.name 274,.name 273]) (.O1 (.cmp .Eq (.at (.loc 145) 3) (.str 277)) (.tup [.loc 233,.loc 234]) (.tup [.loc 234,.loc 233])),.asg (.name 165) (.meth (.loc 1) 120 []),.asg (.attr (.loc 1) 64) (.loc 273),.expr (.meth (.loc 1) 159 [.loc 111,.tup [.str 171,.tup [.str 156,.glob 232,.cmp .Eq (.at (.loc 145) 3) (.str 278)]]]),.expr (.meth (.loc 1) 127 [.tup [.str 84,.loc 165]]),.asg (.attr (.loc 1) 64) (.loc 274),.expr (.meth (.loc 1) 208 []),.expr (.meth (.loc 1) 147 [.loc 111,.at (.loc 145) 5]),.expr (.meth (.loc 1) 65 []),.expr (.meth (.loc 1) 222 [.loc 165])]
noncomputable abbrev cP:List S:=[.iff (.cmp .Eq (.at (.loc 145) 0) (.str 186)) [.expr (.meth (.loc 1) 159 [.loc 111,.meth (.loc 1) 186 [.loc 145]])] [.iff (.cmp .Eq (.at (.loc 145) 0) (.str 10)) [.expr (.meth (.loc 1) 159 [.loc 111,.tup [.str 10,.meth (.loc 1) 162 [.at (.loc 145) 3]]])] [.iff (.cmp .In (.at (.loc 145) 0) (.tup [.str 9,.str 11])) [.expr (.meth (.loc 1) 159 [.loc 111,.tup [.at (.loc 145) 0,.call 9 [.meth (.loc 1) 258 [.at (.loc 145) 3]]]])] [.iff (.cmp .Eq (.at (.loc 145) 0) (.str 239)) [.asg (.name 162) (.meth (.loc 1) 162 [.at (.loc 145) 3]),.iff (.and [.cmp .Gt (.at (.loc 145) 4) (.int 1),.cmp .NotEq (.at (.loc 162) 0) (.str 156)]) [.asg (.name 162) (.tup [.str 143,.at (.meth (.loc 1) 95 [.loc 162,.at (.at (.loc 145) 3) 1]) 1])] [],.expr (.meth (.loc 1) 159 [.loc 111,.tup [.str 11,.bin .Mult (.tup [.loc 162]) (.at (.loc 145) 4)]])] [.asg (.name 91) (.call 76 [.call 30 [.comp [] (.many [0,89]) (.loc 0) (.at (.loc 145) 4) [] [(446,.local),(0,.local),(89,.local)],.meth (.loc 1) 258 [.comp [] (.many [0,89]) (.loc 89) (.at (.loc 145) 4) [] [(446,.local),(0,.local),(89,.local)]]]]),.bad,.expr (.meth (.loc 1) 159 [.loc 111,.tup [.str 12,.at (.loc 145) 1,.at (.loc 145) 3,.loc 176]])]]]]]
noncomputable abbrev cQ:List S:=[.iff (.cmp .Eq (.at (.loc 145) 0) (.str 242)) [.expr (.meth (.loc 1) 128 [.tup [.str 242,.meth (.loc 1) 162 [.at (.loc 145) 3]]])] [.iff (.cmp .Eq (.at (.loc 145) 0) (.str 159)) [.asg (.name 162) (.meth (.loc 1) 228 [.at (.loc 145) 4,.tup [.at (.loc 145) 3]]),.iff (.and [.cmp .Eq (.at (.loc 162) 0) (.str 144),.cmp .In (.at (.at (.loc 145) 4) 0) (.glob 230),.call 132 [.at (.at (.loc 145) 3) 1,.attr (.loc 1) 37]]) [.asg (.name 162) (.meth (.loc 1) 95 [.loc 162,.at (.at (.loc 145) 4) 1])] [],.expr (.meth (.loc 1) 280 [.meth (.loc 1) 111 [.at (.loc 145) 3],.loc 162,.at (.at (.loc 145) 3) 1])] [.asg (.name 162) (.meth (.loc 1) 228 [.at (.loc 145) 5,.tup [.at (.loc 145) 4]]),.asg (.name 101) (.meth (.loc 1) 111 [.at (.loc 145) 4]),.expr (.meth (.loc 1) 259 [.loc 101,.at (.loc 145) 3,.tup [.str 143,.loc 101],.loc 162,.at (.at (.loc 145) 4) 1])]],.expr (.meth (.loc 1) 279 [.loc 111])]
noncomputable abbrev dO:List S:=[.iff (.call 132 [.loc 6,.attr (.loc 1) 37]) [.bad,.bad,.bad] [],.expr (.meth (.loc 1) 159 [.loc 101,.tup [.str 171,.loc 162]])]
noncomputable abbrev eY:List S:=[.asg (.tup [.name 233,.name 234]) (.meth (.loc 1) 275 [.meth (.loc 1) 276 [.at (.loc 145) 3]]),.asg (.name 165) (.meth (.loc 1) 120 []),.asg (.attr (.loc 1) 64) (.loc 233),.expr (.meth (.loc 1) 283 [.loc 111,.at (.loc 145) 4]),.expr (.meth (.loc 1) 127 [.tup [.str 84,.loc 165]]),.asg (.attr (.loc 1) 64) (.loc 234),.iff (.cmp .Is (.at (.loc 145) 5) .none) [.expr (.meth (.loc 1) 279 [.loc 111])] [.expr (.meth (.loc 1) 283 [.loc 111,.at (.loc 145) 5])],.expr (.meth (.loc 1) 222 [.loc 165])]
noncomputable abbrev bW:List S:=[.expr (.meth (.loc 1) 208 []),.expr (.meth (.loc 1) 147 [.loc 111,.loc 145]),.expr (.meth (.loc 1) 65 [])]
noncomputable abbrev bY:List S:=[.expr (.meth (.loc 1) 208 []),.for (.name 125) (.at (.loc 145) 3) [.expr (.meth (.loc 1) 284 [.loc 125])],.iff (.cmp .IsNot (.at (.loc 145) 4) .none) [.expr (.meth (.loc 1) 147 [.loc 111,.at (.loc 145) 4])] [.iff (.cmp .Eq (.at (.loc 145) 1) (.glob 285)) [.expr (.meth (.loc 1) 279 [.loc 111])] []],.expr (.meth (.loc 1) 65 [])]
noncomputable abbrev Z7:List S:=[.Xg [.name 3,.attr (.loc 1) 3] [.attr (.loc 1) 3,.at (.loc 125) 1],.iff (.cmp .Eq (.at (.loc 125) 0) (.str 286)) [.expr (.meth (.loc 1) 287 [.at (.loc 125) 2,.at (.loc 125) 3])] [.expr (.meth (.loc 1) 208 []),.expr (.meth (.loc 1) 147 [.tup [.meth (.loc 1) 146 [.at (.at (.loc 125) 2) 1],.tup []],.at (.loc 125) 2]),.expr (.meth (.loc 1) 65 [])],.asg (.attr (.loc 1) 3) (.loc 3)]
noncomputable abbrev RD:List S:=[.asg (.name 293) (.call 294 [.loc 114,.loc 37]),.expr (.meth (.loc 293) 208 []),.for (.name 77) (.attr (.loc 293) 115) [.expr (.meth (.loc 293) 297 [.loc 77])],.expr (.meth (.loc 293) 208 []),.expr (.meth (.loc 293) 295 [.attr (.loc 114) 39]),.expr (.meth (.loc 293) 147 [.tup [.glob 291,.tup []],.attr (.loc 114) 92]),.expr (.meth (.loc 293) 65 []),.expr (.meth (.loc 293) 65 []),.expr (.meth (.loc 293) 127 [.tup [.str 247]]),.ret (.meth (.loc 293) 296 [])]
noncomputable abbrev tC:List S:=[.asg (.attr (.loc 1) 119) (.loc 119),.asg (.attr (.loc 1) 75) (.loc 91),.asg (.attr (.loc 1) 39) (.loc 39),.asg (.attr (.loc 1) 122) (.loc 122),.asg (.attr (.loc 1) 92) (.loc 92)]
noncomputable abbrev yt:List S:=[.asg (.attr (.loc 1) 298) (.loc 298),.asg (.attr (.loc 1) 53) (.cF 1),.asg (.attr (.loc 1) 52) (.cF 1),.asg (.attr (.loc 1) 121) (.cF 1),.asg (.attr (.loc 1) 41) (.cF 1),.asg (.attr (.loc 1) 44) (.bR []),.asg (.attr (.loc 1) 299) (.cF 1),.asg (.attr (.loc 1) 300) (.cF 1)]
noncomputable abbrev Bh:List S:=[.asg (.name 305) (.O1 (.cmp .Gt (.call 31 [.loc 304]) (.int 0)) (.at (.loc 304) 0) (.int 0)),.asg (.name 306) (.call 307 [.call 32 [.loc 305],.call 32 [.bin .Sub (.neg (.int 1)) (.loc 305)]]),.ret (.bR [.bin .Mult (.loc 306) (.call 32 [.cmp .GtE (.loc 306) (.bin .Pow (.int 10) (.int 18))]),.bin .Mod (.call 32 [.bin .Mult (.bin .Add (.bin .Mod (.loc 306) (.int 2147483629)) (.int 17)) (.int 48271)]) (.int 2147483647)])]
noncomputable abbrev Bj:List S:=[.iff (.cmp .Gt (.at (.loc 308) 0) (.int 0)) [.asg (.name 310) (.bin .Mod (.call 32 [.at (.loc 308) 0]) (.loc 309)),.asg (.sub (.loc 308) (.int 0)) (.bin .FloorDiv (.at (.loc 308) 0) (.loc 309)),.ret (.loc 310)] [],.asg (.sub (.loc 308) (.int 1)) (.bin .Mod (.call 32 [.bin .Add (.bin .Mult (.at (.loc 308) 1) (.int 39373)) (.int 7)]) (.int 2147483647)),.ret (.bin .Mod (.bin .FloorDiv (.bin .Mod (.call 32 [.bin .Mult (.at (.loc 308) 1) (.at (.loc 308) 1)]) (.int 2147483629)) (.int 32)) (.loc 309))]
noncomputable abbrev Ez:List S:=[.ret (.sub (.loc 311) (.call 312 [.loc 308,.call 31 [.loc 311]]))]
noncomputable abbrev Bm:List S:=[.iff (.cmp .Eq (.call 312 [.loc 308,.int 2]) (.int 0)) [.ret (.tup [.str 242,.tup [.str 156,.bin .Add (.int 1) (.call 312 [.loc 308,.int 40])]])] [],.ret (.tup [.str 159,.call 312 [.loc 308,.int 3],.tup [.str 156,.call 312 [.loc 308,.int 60]]])]
noncomputable abbrev vp:List S:=[.asg (.name 314) (.O1 (.cmp .Gt (.loc 313) (.int 0)) (.call 312 [.loc 308,.int 9]) (.call 312 [.loc 308,.int 2])),.iff (.cmp .Eq (.loc 314) (.int 0)) [.ret (.tup [.str 156,.call 319 [.loc 308,.lst [.int 0,.int 1,.int 5,.int 70000]]])] [],.iff (.cmp .Eq (.loc 314) (.int 1)) [.ret (.tup [.str 77,.call 312 [.loc 308,.int 3]])] [],.iff (.cmp .Lt (.loc 314) (.int 4)) [.ret (.tup [.str 316,.call 319 [.loc 308,.lst [.str 321,.str 260,.str 322]],.call 318 [.loc 308,.bin .Sub (.loc 313) (.int 1)],.call 318 [.loc 308,.bin .Sub (.loc 313) (.int 1)]])] [],.iff (.cmp .Lt (.loc 314) (.int 7)) [.ret (.tup [.str 78,.call 320 [.loc 308,.loc 313],.call 318 [.loc 308,.bin .Sub (.loc 313) (.int 1)]])] [],.iff (.cmp .Eq (.loc 314) (.int 7)) [.ret (.tup [.str 261,.call 312 [.loc 308,.int 2],.call 318 [.loc 308,.bin .Sub (.loc 313) (.int 1)],.call 318 [.loc 308,.bin .Sub (.loc 313) (.int 1)]])] [],.ret (.tup [.str 315,.call 317 [.loc 308,.bin .Sub (.loc 313) (.int 1)],.call 318 [.loc 308,.bin .Sub (.loc 313) (.int 1)],.call 318 [.loc 308,.bin .Sub (.loc 313) (.int 1)]])]
noncomputable abbrev yu:List S:=[.asg (.name 314) (.O1 (.cmp .Gt (.loc 313) (.int 0)) (.call 312 [.loc 308,.int 8]) (.call 312 [.loc 308,.int 2])),.iff (.cmp .Eq (.loc 314) (.int 0)) [.ret (.tup [.str 276,.cmp .Eq (.call 312 [.loc 308,.int 2]) (.int 0)])] [],.iff (.cmp .Eq (.loc 314) (.int 1)) [.ret (.tup [.str 77,.bin .Add (.int 3) (.call 312 [.loc 308,.int 2])])] [],.iff (.cmp .Lt (.loc 314) (.int 5)) [.ret (.tup [.str 235,.call 319 [.loc 308,.lst [.str 277,.str 278]],.call 317 [.loc 308,.bin .Sub (.loc 313) (.int 1)],.call 317 [.loc 308,.bin .Sub (.loc 313) (.int 1)]])] [],.iff (.cmp .Eq (.loc 314) (.int 5)) [.ret (.tup [.str 324,.call 317 [.loc 308,.bin .Sub (.loc 313) (.int 1)]])] [],.iff (.cmp .Eq (.loc 314) (.int 6)) [.ret (.tup [.str 78,.call 320 [.loc 308,.loc 313],.call 317 [.loc 308,.bin .Sub (.loc 313) (.int 1)]])] [],.ret (.tup [.str 323,.call 319 [.loc 308,.lst [.str 161,.str 196,.str 269]],.call 318 [.loc 308,.bin .Sub (.loc 313) (.int 1)],.call 318 [.loc 308,.bin .Sub (.loc 313) (.int 1)]])]
noncomputable abbrev nW:List S:=[.swap [314,111] [.call 312 [.loc 308,.int 5],.call 312 [.loc 308,.int 3]],.iff (.cmp .Eq (.loc 314) (.int 0)) [.ret (.tup [.str 242,.call 318 [.loc 308,.int 2]])] [],.iff (.cmp .Eq (.loc 314) (.int 1)) [.ret (.tup [.str 159,.loc 111,.call 318 [.loc 308,.int 3]])] [],.iff (.cmp .Eq (.loc 314) (.int 2)) [.ret (.tup [.str 241,.loc 111,.call 319 [.loc 308,.lst [.str 321,.str 260,.str 322]],.call 318 [.loc 308,.int 2]])] [],.iff (.cmp .Eq (.loc 314) (.int 3)) [.ret (.tup [.str 159,.bin .Add (.int 3) (.bin .Mod (.loc 111) (.int 2)),.call 317 [.loc 308,.int 3]])] [],.ret (.tup [.str 274,.call 317 [.loc 308,.int 3],.lst [.call 320 [.loc 308,.int 0]],.lst [.call 320 [.loc 308,.int 0]]])]
noncomputable abbrev EY:List S:=[.asg (.tup [.name 89,.name 328]) (.call 329 [.glob 330,.loc 194,.loc 326,.loc 327]),.iff (.and [.loc 328,.cmp .Is (.sub (.loc 325) (.str 248)) .none]) [.asg (.sub (.loc 325) (.str 248)) (.bin .Add (.bin .Add (.str 271) (.sub (.ZF [321,260,322] [.str 331,.str 332,.str 333]) (.loc 194))) (.str 268))] [],.ret (.loc 89)]
noncomputable abbrev yw:List S:=[.asg (.name 82) (.at (.loc 145) 0),.iff (.cmp .IsNot (.sub (.loc 325) (.str 248)) .none) [.ret (.int 0)] [],.iff (.cmp .In (.loc 82) (.lst [.str 156,.str 276])) [.ret (.at (.loc 145) 1)] [],.iff (.cmp .Eq (.loc 82) (.str 77)) [.ret (.sub (.sub (.loc 325) (.str 338)) (.at (.loc 145) 1))] [],.iff (.cmp .Eq (.loc 82) (.str 78)) [.expr (.call 336 [.loc 325,.at (.loc 145) 1]),.ret (.call 335 [.loc 325,.at (.loc 145) 2])] [],.iff (.cmp .Eq (.loc 82) (.str 315)) [.ret (.call 335 [.loc 325,.O1 (.call 335 [.loc 325,.at (.loc 145) 1]) (.at (.loc 145) 2) (.at (.loc 145) 3)])] [],.iff (.cmp .Eq (.loc 82) (.str 324)) [.ret (.not (.call 335 [.loc 325,.at (.loc 145) 1]))] [],.iff (.cmp .Eq (.loc 82) (.str 235)) [.asg (.name 334) (.call 335 [.loc 325,.at (.loc 145) 2]),.ret (.O1 (.cmp .Eq (.loc 334) (.cmp .Eq (.at (.loc 145) 1) (.str 277))) (.call 335 [.loc 325,.at (.loc 145) 3]) (.loc 334))] [],.asg (.name 28) (.call 335 [.loc 325,.at (.loc 145) 2]),.asg (.name 29) (.call 335 [.loc 325,.at (.loc 145) 3]),.iff (.cmp .IsNot (.sub (.loc 325) (.str 248)) .none) [.ret (.int 0)] [],.iff (.cmp .Eq (.loc 82) (.str 261)) [.ret (.sub (.lst [.loc 28,.loc 29]) (.at (.loc 145) 1))] [],.ret (.O1 (.cmp .Eq (.loc 82) (.str 316)) (.call 337 [.loc 325,.at (.loc 145) 1,.loc 28,.loc 29]) (.at (.call 329 [.glob 330,.at (.loc 145) 1,.loc 28,.loc 29]) 0))]
noncomputable abbrev Bo:List S:=[.asg (.name 82) (.at (.loc 36) 0),.iff (.cmp .IsNot (.sub (.loc 325) (.str 248)) .none) [.Ri] [],.iff (.cmp .Eq (.loc 82) (.str 274)) [.asg (.name 339) (.call 335 [.loc 325,.at (.loc 36) 1]),.for (.name 28) (.O1 (.loc 339) (.at (.loc 36) 2) (.at (.loc 36) 3)) [.expr (.call 336 [.loc 325,.loc 28])],.Ri] [],.asg (.name 89) (.call 335 [.loc 325,.sub (.loc 36) (.neg (.int 1))]),.iff (.and [.cmp .Eq (.loc 82) (.str 241),.cmp .Is (.sub (.loc 325) (.str 248)) .none]) [.asg (.name 89) (.call 337 [.loc 325,.at (.loc 36) 2,.sub (.sub (.loc 325) (.str 338)) (.at (.loc 36) 1),.loc 89])] [],.iff (.cmp .Is (.sub (.loc 325) (.str 248)) .none) [.iff (.cmp .Eq (.loc 82) (.str 242)) [.expr (.Q0 (.sub (.loc 325) (.str 340)) "list" 67 "list.append" [.loc 89])] [.asg (.sub (.sub (.loc 325) (.str 338)) (.at (.loc 36) 1)) (.loc 89)]] []]
noncomputable abbrev Fe:List S:=[.asg (.name 325) (.ZF [338,340,248] [.ak5 [0,1,2,3,4] [.int 3,.int 11,.int 0,.O2 true,.O2 false],.bR [],.none]),.for (.name 36) (.loc 26) [.expr (.call 336 [.loc 325,.loc 36])],.ret (.tup [.O1 (.cmp .Is (.sub (.loc 325) (.str 248)) .none) (.tup [.str 341,.at (.sub (.loc 325) (.str 338)) 0]) (.tup [.str 248,.sub (.loc 325) (.str 248)]),.sub (.loc 325) (.str 340)])]
noncomputable abbrev yx:List S:=[.ret (.tup [.str 77,.O1 (.cmp .Lt (.loc 28) (.int 3)) (.glob 342) (.glob 343),.int 0,.loc 28])]
noncomputable abbrev yC:List S:=[.asg (.name 82) (.at (.loc 145) 0),.iff (.cmp .Eq (.loc 82) (.str 156)) [.ret (.tup [.str 156,.glob 342,.int 0,.at (.loc 145) 1])] [],.iff (.cmp .Eq (.loc 82) (.str 276)) [.ret (.tup [.str 156,.glob 343,.int 0,.at (.loc 145) 1])] [],.iff (.cmp .Eq (.loc 82) (.str 77)) [.ret (.call 346 [.at (.loc 145) 1])] [],.iff (.cmp .Eq (.loc 82) (.str 324)) [.ret (.tup [.str 236,.glob 343,.int 0,.str 347,.call 348 [.at (.loc 145) 1]])] [],.iff (.cmp .Eq (.loc 82) (.str 235)) [.ret (.tup [.str 235,.glob 343,.int 0,.at (.loc 145) 1,.call 348 [.at (.loc 145) 2],.call 348 [.at (.loc 145) 3]])] [],.iff (.cmp .Eq (.loc 82) (.str 315)) [.ret (.tup [.str 251,.glob 342,.int 0,.call 348 [.at (.loc 145) 1],.call 348 [.at (.loc 145) 2],.call 348 [.at (.loc 145) 3]])] [],.iff (.cmp .Eq (.loc 82) (.str 78)) [.asg (.name 344) (.call 348 [.at (.loc 145) 2]),.ret (.tup [.str 78,.at (.loc 344) 1,.int 0,.tup [.tup [.str 349,.int 0,.call 350 [.at (.loc 145) 1]]],.loc 344])] [],.iff (.cmp .Eq (.loc 82) (.str 261)) [.asg (.name 345) (.tup [.str 9,.tup [.str 9,.tup [.glob 342,.glob 342]],.int 0,.tup [.call 348 [.at (.loc 145) 2],.call 348 [.at (.loc 145) 3]]]),.ret (.tup [.str 106,.glob 342,.int 0,.loc 345,.at (.loc 145) 1])] [],.ret (.tup [.str 160,.O1 (.cmp .Eq (.loc 82) (.str 316)) (.glob 342) (.glob 343),.int 0,.at (.loc 145) 1,.call 348 [.at (.loc 145) 2],.call 348 [.at (.loc 145) 3]])]
noncomputable abbrev Fg:List S:=[.asg (.name 82) (.at (.loc 36) 0),.iff (.cmp .Eq (.loc 82) (.str 242)) [.ret (.tup [.str 242,.glob 351,.int 0,.call 348 [.at (.loc 36) 1]])] [],.iff (.cmp .Eq (.loc 82) (.str 159)) [.ret (.tup [.str 159,.glob 351,.int 0,.call 346 [.at (.loc 36) 1],.call 348 [.at (.loc 36) 2]])] [],.iff (.cmp .Eq (.loc 82) (.str 241)) [.ret (.tup [.str 241,.glob 351,.int 0,.at (.loc 36) 2,.call 346 [.at (.loc 36) 1],.call 348 [.at (.loc 36) 3]])] [],.ZR 345 [] (.one 26) (.tup [.str 78,.glob 351,.int 0,.call 9 [.comp [] (.one 28) (.tup [.str 349,.int 0,.call 350 [.loc 28]]) (.loc 26) [] [(446,.local),(28,.local),(350,.globalImplicit)]],.none]) (.slF (.loc 36) (.int 2)) [] [(446,.local),(26,.local),(351,.globalImplicit),(9,.globalImplicit)],.ret (.tup [.str 251,.glob 351,.int 0,.call 348 [.at (.loc 36) 1],.at (.loc 345) 0,.at (.loc 345) 1])]
noncomputable abbrev Bp:List S:=[.iff (.cmp .Eq (.at (.loc 162) 0) (.str 156)) [.ret (.at (.loc 162) 2)] [],.asg (.name 83) (.Q0 (.loc 338) "dict" 17 "dict.get" [.at (.at (.loc 162) 1) 0,.str 352]),.for (.name 141) (.at (.at (.loc 162) 1) 1) [.asg (.name 83) (.O1 (.cmp .NotEq (.loc 83) (.str 352)) (.sub (.loc 83) (.at (.loc 141) 1)) (.loc 83))],.ret (.loc 83)]
noncomputable abbrev tD:List S:=[.iff (.cmp .In (.loc 194) (.lst [.str 161,.str 196,.str 269])) [.ret (.tup [.O1 (.cmp .Eq (.loc 194) (.str 161)) (.cmp .Lt (.loc 326) (.loc 327)) (.O1 (.cmp .Eq (.loc 194) (.str 196)) (.cmp .GtE (.loc 326) (.loc 327)) (.cmp .Eq (.loc 326) (.loc 327))),.O2 false])] [],.asg (.name 353) (.O1 (.cmp .Eq (.loc 194) (.str 321)) (.bin .Add (.loc 326) (.loc 327)) (.O1 (.cmp .Eq (.loc 194) (.str 260)) (.bin .Sub (.loc 326) (.loc 327)) (.bin .Mult (.loc 326) (.loc 327)))),.asg (.tup [.name 354,.name 153]) (.O1 (.cmp .Eq (.loc 7) (.str 355)) (.tup [.int 0,.int 256]) (.tup [.bin .Sub (.int 0) (.bin .Pow (.int 2) (.int 31)),.bin .Pow (.int 2) (.int 32)])),.ret (.tup [.bin .Add (.bin .Mod (.bin .Sub (.loc 353) (.loc 354)) (.loc 153)) (.loc 354),.not (.QK .Lt (.loc 354) (.loc 353) (.bin .Add (.loc 354) (.loc 153)))])]
noncomputable abbrev Br:List S:=[.iff (.cmp .Eq (.at (.loc 192) 0) (.str 9)) [.ZR 26 [338] (.one 28) (.call 357 [.loc 338,.loc 28]) (.at (.loc 192) 1) [] [(446,.local),(28,.local),(357,.globalImplicit),(338,.free)],.ret (.O1 (.cmp .In (.str 352) (.loc 26)) (.str 352) (.call 9 [.loc 26]))] [],.iff (.cmp .Eq (.at (.loc 192) 0) (.str 236)) [.asg (.name 89) (.call 357 [.loc 338,.at (.loc 192) 2]),.ret (.O1 (.cmp .Eq (.loc 89) (.str 352)) (.str 352) (.not (.loc 89)))] [],.iff (.cmp .NotIn (.at (.loc 192) 0) (.lst [.str 160,.str 267])) [.ret (.O1 (.cmp .Eq (.at (.loc 192) 0) (.str 171)) (.call 357 [.loc 338,.at (.loc 192) 1]) (.str 352))] [],.swap [326,327] [.call 357 [.loc 338,.at (.loc 192) 2],.call 357 [.loc 338,.at (.loc 192) 3]],.iff (.cmp .In (.str 352) (.lst [.loc 326,.loc 327])) [.ret (.str 352)] [],.asg (.name 356) (.call 329 [.glob 330,.at (.loc 192) 1,.loc 326,.loc 327]),.ret (.O1 (.cmp .Eq (.at (.loc 192) 0) (.str 267)) (.loc 356) (.at (.loc 356) 0))]
noncomputable abbrev tE:List S:=[.iff (.cmp .Eq (.at (.loc 125) 0) (.str 134)) [.expr (.Q0 (.loc 338) "dict" 65 "dict.pop" [.at (.loc 125) 1,.none])] [.iff (.cmp .Eq (.at (.loc 125) 0) (.str 242)) [.expr (.Q0 (.loc 340) "list" 67 "list.append" [.call 357 [.loc 338,.at (.loc 125) 1]]),.ret (.cmp .NotEq (.sub (.loc 340) (.neg (.int 1))) (.str 352))] [.iff (.cmp .Eq (.at (.loc 125) 0) (.str 159)) [.asg (.name 89) (.call 358 [.loc 92,.loc 338,.at (.loc 125) 2]),.iff (.or [.cmp .Eq (.loc 89) (.str 352),.cmp .NotEq (.at (.at (.loc 125) 1) 1) (.tup [])]) [.ret (.O2 false)] [],.asg (.sub (.loc 338) (.at (.at (.loc 125) 1) 0)) (.loc 89)] []]],.ret (.O2 true)]
noncomputable abbrev vq:List S:=[.Xg [.name 338,.name 340,.name 64] [.cF 0,.bR [],.int 0],.for (.name 359) (.call 69 [.int 900]) [.iff (.cmp .NotEq (.comp [92,338,340] (.one 28) (.loc 28) (.meth (.loc 92) 99 [.loc 64]) [.not (.call 360 [.loc 92,.loc 338,.loc 340,.loc 28])] [(446,.local),(28,.local),(360,.globalImplicit),(92,.free),(338,.free),(340,.free)]) (.lst [])) [.ret .none] [],.asg (.name 282) (.meth (.loc 92) 81 [.loc 64]),.iff (.cmp .Eq (.at (.loc 282) 0) (.str 247)) [.ret (.tup [.tup [.str 341,.call 357 [.loc 338,.tup [.str 143,.tup [.int 0,.tup []]]]],.loc 340])] [],.iff (.cmp .Eq (.at (.loc 282) 0) (.str 84)) [.asg (.name 64) (.at (.loc 282) 1)] [.iff (.cmp .Eq (.at (.loc 282) 0) (.str 88)) [.asg (.name 89) (.call 357 [.loc 338,.at (.loc 282) 1]),.iff (.or [.cmp .Eq (.loc 89) (.str 352),.cmp .NotEq (.loc 89) (.at (.loc 282) 2)]) [.ret (.O1 (.cmp .Eq (.loc 89) (.str 352)) .none (.tup [.tup [.str 248,.at (.loc 282) 3],.loc 340]))] [],.asg (.name 64) (.at (.loc 282) 4)] [.iff (.cmp .Eq (.at (.loc 282) 0) (.str 85)) [.asg (.name 89) (.call 357 [.loc 338,.at (.loc 282) 1]),.asg (.name 91) (.bin .Add (.comp [89] (.many [361,78]) (.loc 78) (.at (.loc 282) 2) [.cmp .Eq (.loc 361) (.loc 89)] [(446,.local),(361,.local),(78,.local),(89,.free)]) (.lst [.at (.loc 282) 3])),.asg (.name 64) (.at (.loc 91) 0)] [.ret .none]]]],.ret .none]
noncomputable abbrev pN:List S:=[.asg (.name 362) (.bR []),.for (.tup [.name 28,.name 89]) (.lst [.tup [.int 0,.int 3],.tup [.int 1,.int 11],.tup [.int 2,.int 0],.tup [.int 3,.O2 true],.tup [.int 4,.O2 false]]) [.asg (.name 7) (.O1 (.cmp .Lt (.loc 28) (.int 3)) (.glob 342) (.glob 343)),.expr (.Q0 (.loc 362) "list" 67 "list.append" [.tup [.str 286,.int 0,.tup [.str 177,.loc 7,.loc 28,.str 143,.none],.tup [.str 156,.loc 7,.int 0,.loc 89]]])],.asg (.name 91) (.bin .Add (.bin .Mult (.lst [.tup [.str 123,.glob 342,.O2 true]]) (.int 3)) (.bin .Mult (.lst [.tup [.str 367,.glob 343,.O2 true]]) (.int 2))),.asg (.name 363) (.tup [.str 78,.glob 342,.int 0,.call 9 [.bin .Add (.loc 362) (.comp [] (.one 36) (.tup [.str 349,.int 0,.call 350 [.loc 36]]) (.loc 26) [] [(446,.local),(36,.local),(350,.globalImplicit)])],.call 346 [.int 0]]),.ret (.cmp .Eq (.call 364 [.call 366 [.call 368 [.str 369,.loc 91,.tup [],.glob 342,.loc 363],.call 370 []]]) (.call 365 [.loc 26]))]
noncomputable abbrev ab3:List S:=[.asg (.name 308) (.call 371 [.loc 304]),.iff (.not (.call 372 [.lst [.tup [.str 159,.int 0,.tup [.str 316,.str 321,.tup [.str 77,.int 0],.tup [.str 78,.tup [.str 159,.int 0,.tup [.str 156,.int 9]],.tup [.str 156,.int 1]]]]]])) [.ret (.O2 false)] [],.ret (.call 372 [.comp [308] (.one 359) (.call 373 [.loc 308]) (.call 69 [.bin .Add (.int 2) (.call 312 [.loc 308,.int 4])]) [] [(446,.local),(359,.local),(373,.globalImplicit),(308,.free)]])]
noncomputable def Ml:Option (List Nat×Addr×Addr×Str):=some ([25],223,219,eX)
noncomputable def s7(P:Params):TD:=⟨pw,texts,K P,wj,Vd,wk,wu,wz,Jk,Xj,Xk,Ml⟩
theorem ok1:qm texts=true:=by kernel_rfl
theorem ok2(P:Params):(wj.all (Ej (tabOf texts) (K P)))=true:=by kernel_rfl
theorem ok3(P:Params):(Jk.all (Mx (tabOf texts) (K P)))=true:=by kernel_rfl
theorem ok4(P:Params):(wk.all (Ek (tabOf texts) (K P)))=true:=by kernel_rfl
theorem ok5(P:Params):(Xj.all (fun q=>Mz (K P) q.1))=true:=by kernel_rfl
theorem ok6(P:Params):(wu.all (El (tabOf texts) (K P)))=true:=by kernel_rfl
theorem ok7(P:Params):(wz.all (Em (K P)))=true:=by kernel_rfl
theorem ok8(P:Params):(Vd.all (Xm (tabOf texts) (K P)))=true:=by kernel_rfl
theorem ok9(P:Params):Xn (K P) sysModules=true:=by kernel_rfl
theorem an4(P:Params):GR (s7 P)=true:=by kernel_rfl
theorem XF(P:Params):(s7 P).ok=true:=by
 show(wj.all (Ej (tabOf texts) (K P))&&Jk.all (Mx (tabOf texts) (K P))&&wk.all (Ek (tabOf texts) (K P))&&Xj.all (fun q=>Mz (K P) q.1)&&wu.all (El (tabOf texts) (K P))&&wz.all (Em (K P))&&Vd.all (Xm (tabOf texts) (K P))&&Xn (K P) sysModules&&GR (s7 P))=true
 rw [ok2,ok3,ok4,ok5,ok6,ok7,ok8,ok9,an4];rfl
theorem Bs:texts.Nodup:=Eo (by kernel_rfl)
theorem Bt(P:Params):n7 (s7 P).T rZ [6] Ew:=n7.of (by kernel_rfl) (by kernel_rfl) (by kernel_rfl)
theorem Fi(P:Params):n7 (s7 P).T wK [6,37,38] Jw:=n7.of (by kernel_rfl) (by kernel_rfl) (by kernel_rfl)
theorem vA(P:Params):n7 (s7 P).T kO [6,37] yg:=n7.of (by kernel_rfl) (by kernel_rfl) (by kernel_rfl)
theorem lF(P:Params):aF (s7 P).T fK [1,40,71,72,73,74] Bd:=aF.of (by kernel_rfl) (by kernel_rfl)
theorem pO(P:Params):n7 (s7 P).T su [1,77] sV:=n7.of (by kernel_rfl) (by kernel_rfl) (by kernel_rfl)
theorem aM(P:Params):n7 (s7 P).T T6 [1,78] lC:=n7.of (by kernel_rfl) (by kernel_rfl) (by kernel_rfl)
theorem aN(P:Params):n7 (s7 P).T T7 [1,78] lD:=n7.of (by kernel_rfl) (by kernel_rfl) (by kernel_rfl)
theorem lG(P:Params):aF (s7 P).T cJ [1,6,80,40] nQ:=aF.of (by kernel_rfl) (by kernel_rfl)
theorem vB(P:Params):n7 (s7 P).T kW [81] yh:=n7.of (by kernel_rfl) (by kernel_rfl) (by kernel_rfl)
theorem vC(P:Params):n7 (s7 P).T kY [81,90] yj:=n7.of (by kernel_rfl) (by kernel_rfl) (by kernel_rfl)
theorem yD(P:Params):n7 (s7 P).T oV [92] Bf:=n7.of (by kernel_rfl) (by kernel_rfl) (by kernel_rfl)
theorem tG(P:Params):n7 (s7 P).T iY [92,95] vd:=n7.of (by kernel_rfl) (by kernel_rfl) (by kernel_rfl)
theorem tH(P:Params):n7 (s7 P).T uZ [1,114,37] vf:=n7.of (by kernel_rfl) (by kernel_rfl) (by kernel_rfl)
theorem tK(P:Params):n7 (s7 P).T bT [1,123] vg:=n7.of (by kernel_rfl) (by kernel_rfl) (by kernel_rfl)
theorem iI(P:Params):aF (s7 P).T R6 [1,6,80,40] jx:=aF.of (by kernel_rfl) (by kernel_rfl)
theorem lJ(P:Params):n7 (s7 P).T cL [1,77] nR:=n7.of (by kernel_rfl) (by kernel_rfl) (by kernel_rfl)
theorem Y9(P:Params):n7 (s7 P).T aG [1] jy:=n7.of (by kernel_rfl) (by kernel_rfl) (by kernel_rfl)
theorem tL(P:Params):n7 (s7 P).T iZ [1] vh:=n7.of (by kernel_rfl) (by kernel_rfl) (by kernel_rfl)
theorem vD(P:Params):n7 (s7 P).T kZ [1,125] yp:=n7.of (by kernel_rfl) (by kernel_rfl) (by kernel_rfl)
theorem pP(P:Params):n7 (s7 P).T fL [1,81] sX:=n7.of (by kernel_rfl) (by kernel_rfl) (by kernel_rfl)
theorem yE(P:Params):n7 (s7 P).T oW [1,78] Bg:=n7.of (by kernel_rfl) (by kernel_rfl) (by kernel_rfl)
theorem tM(P:Params):n7 (s7 P).T jc [1] vm:=n7.of (by kernel_rfl) (by kernel_rfl) (by kernel_rfl)
theorem lK(P:Params):n7 (s7 P).T cM [1,77] nU:=n7.of (by kernel_rfl) (by kernel_rfl) (by kernel_rfl)
theorem nY(P:Params):n7 (s7 P).T eF [1,130] pK:=n7.of (by kernel_rfl) (by kernel_rfl) (by kernel_rfl)
theorem vG(P:Params):n7 (s7 P).T dI [1] yq:=n7.of (by kernel_rfl) (by kernel_rfl) (by kernel_rfl)
theorem jE(P:Params):n7 (s7 P).T bF [1] lE:=n7.of (by kernel_rfl) (by kernel_rfl) (by kernel_rfl)
theorem Jx(P:Params):n7 (s7 P).T Bb [111,141] Nq:=n7.of (by kernel_rfl) (by kernel_rfl) (by kernel_rfl)
theorem fV(P:Params):n7 (s7 P).T Y7 [1,6] iG:=n7.of (by kernel_rfl) (by kernel_rfl) (by kernel_rfl)
theorem aO(P:Params):n7 (s7 P).T Q5 [1,111,6] aV:=n7.of (by kernel_rfl) (by kernel_rfl) (by kernel_rfl)
theorem M8(P:Params):n7 (s7 P).T W8 [1,145] fQ:=n7.of (by kernel_rfl) (by kernel_rfl) (by kernel_rfl)
theorem R9(P:Params):n7 (s7 P).T I5 [1,145] dK:=n7.of (by kernel_rfl) (by kernel_rfl) (by kernel_rfl)
theorem pQ(P:Params):n7 (s7 P).T sG [1,77,170,111] sY:=n7.of (by kernel_rfl) (by kernel_rfl) (by kernel_rfl)
theorem pR(P:Params):n7 (s7 P).T fM [25] sZ:=n7.of (by kernel_rfl) (by kernel_rfl) (by kernel_rfl)
theorem Bu(P:Params):n7 (s7 P).T sH [25,111] Ey:=n7.of (by kernel_rfl) (by kernel_rfl) (by kernel_rfl)
theorem tO(P:Params):n7 (s7 P).T jd [25,111] vo:=n7.of (by kernel_rfl) (by kernel_rfl) (by kernel_rfl)
theorem nZ(P:Params):n7 (s7 P).T eG [25] pL:=n7.of (by kernel_rfl) (by kernel_rfl) (by kernel_rfl)
theorem vH(P:Params):n7 (s7 P).T dJ [145] yr:=n7.of (by kernel_rfl) (by kernel_rfl) (by kernel_rfl)
theorem aX(P:Params):n7 (s7 P).T Q9 [1,25,145] bU:=n7.of (by kernel_rfl) (by kernel_rfl) (by kernel_rfl)
theorem Z8(P:Params):n7 (s7 P).T O5 [1,39] aL:=n7.of (by kernel_rfl) (by kernel_rfl) (by kernel_rfl)
theorem pA(P:Params):n7 (s7 P).T sJ [145] tu:=n7.of (by kernel_rfl) (by kernel_rfl) (by kernel_rfl)
theorem iJ(P:Params):n7 (s7 P).T ju [1,114,37] jz:=n7.of (by kernel_rfl) (by kernel_rfl) (by kernel_rfl)
theorem eZ(P:Params):n7 (s7 P).T W9 [1,111,192] fU:=n7.of (by kernel_rfl) (by kernel_rfl) (by kernel_rfl)
theorem cR(P:Params):n7 (s7 P).T T8 [1,111] dM:=n7.of (by kernel_rfl) (by kernel_rfl) (by kernel_rfl)
theorem iK(P:Params):n7 (s7 P).T aH [1,162,6] jA:=n7.of (by kernel_rfl) (by kernel_rfl) (by kernel_rfl)
theorem cT(P:Params):n7 (s7 P).T T9 [1,227] dN:=n7.of (by kernel_rfl) (by kernel_rfl) (by kernel_rfl)
theorem Y0(P:Params):n7 (s7 P).T v9 [1,145,229] Z6:=n7.of (by kernel_rfl) (by kernel_rfl) (by kernel_rfl)
theorem fW(P:Params):n7 (s7 P).T Y8 [1,145] iH:=n7.of (by kernel_rfl) (by kernel_rfl) (by kernel_rfl)
theorem iM(P:Params):n7 (s7 P).T aJ [1,77] jB:=n7.of (by kernel_rfl) (by kernel_rfl) (by kernel_rfl)
theorem iQ(P:Params):n7 (s7 P).T aK [1,162,163,164] jC:=n7.of (by kernel_rfl) (by kernel_rfl) (by kernel_rfl)
theorem Z0(P:Params):n7 (s7 P).T I9 [1,111,145] jD:=n7.of (by kernel_rfl) (by kernel_rfl) (by kernel_rfl)
theorem J0(P:Params):n7 (s7 P).T o7 [1,111,145] aW:=n7.of (by kernel_rfl) (by kernel_rfl) (by kernel_rfl)
theorem aY(P:Params):n7 (s7 P).T R2 [1,111,194,28,29,6] bV:=n7.of (by kernel_rfl) (by kernel_rfl) (by kernel_rfl)
theorem bZ(P:Params):n7 (s7 P).T R8 [1,111,145] cO:=n7.of (by kernel_rfl) (by kernel_rfl) (by kernel_rfl)
theorem cg(P:Params):n7 (s7 P).T H9 [1,111,145] cP:=n7.of (by kernel_rfl) (by kernel_rfl) (by kernel_rfl)
theorem J9(P:Params):n7 (s7 P).T s8 [1,111,145] cQ:=n7.of (by kernel_rfl) (by kernel_rfl) (by kernel_rfl)
theorem cU(P:Params):n7 (s7 P).T U0 [1,101,162,6] dO:=n7.of (by kernel_rfl) (by kernel_rfl) (by kernel_rfl)
theorem dR(P:Params):n7 (s7 P).T z8 [1,111,145] eY:=n7.of (by kernel_rfl) (by kernel_rfl) (by kernel_rfl)
theorem aZ(P:Params):n7 (s7 P).T R3 [1,111,145] bW:=n7.of (by kernel_rfl) (by kernel_rfl) (by kernel_rfl)
theorem J3(P:Params):n7 (s7 P).T q9 [1,111,145] bY:=n7.of (by kernel_rfl) (by kernel_rfl) (by kernel_rfl)
theorem K9(P:Params):n7 (s7 P).T I6 [1,125] Z7:=n7.of (by kernel_rfl) (by kernel_rfl) (by kernel_rfl)
theorem Nr(P:Params):n7 (s7 P).T Ho [114,37] RD:=n7.of (by kernel_rfl) (by kernel_rfl) (by kernel_rfl)
theorem pU(P:Params):n7 (s7 P).T sO [1,119,91,39,122,92] tC:=n7.of (by kernel_rfl) (by kernel_rfl) (by kernel_rfl)
theorem vI(P:Params):aF (s7 P).T lg [1,298] yt:=aF.of (by kernel_rfl) (by kernel_rfl)
theorem yF(P:Params):n7 (s7 P).T oX [304] Bh:=n7.of (by kernel_rfl) (by kernel_rfl) (by kernel_rfl)
theorem yG(P:Params):n7 (s7 P).T oY [308,309] Bj:=n7.of (by kernel_rfl) (by kernel_rfl) (by kernel_rfl)
theorem Bv(P:Params):n7 (s7 P).T V9 [308,311] Ez:=n7.of (by kernel_rfl) (by kernel_rfl) (by kernel_rfl)
theorem yH(P:Params):n7 (s7 P).T fO [308,313] Bm:=n7.of (by kernel_rfl) (by kernel_rfl) (by kernel_rfl)
theorem fX(P:Params):n7 (s7 P).T G5 [308,313] vp:=n7.of (by kernel_rfl) (by kernel_rfl) (by kernel_rfl)
theorem jf(P:Params):n7 (s7 P).T O8 [308,313] yu:=n7.of (by kernel_rfl) (by kernel_rfl) (by kernel_rfl)
theorem lM(P:Params):n7 (s7 P).T cN [308] nW:=n7.of (by kernel_rfl) (by kernel_rfl) (by kernel_rfl)
theorem Bw(P:Params):n7 (s7 P).T jw [325,194,326,327] EY:=n7.of (by kernel_rfl) (by kernel_rfl) (by kernel_rfl)
theorem w6(P:Params):n7 (s7 P).T G6 [325,145] yw:=n7.of (by kernel_rfl) (by kernel_rfl) (by kernel_rfl)
theorem U4(P:Params):n7 (s7 P).T X4 [325,36] Bo:=n7.of (by kernel_rfl) (by kernel_rfl) (by kernel_rfl)
theorem Bx(P:Params):n7 (s7 P).T sS [26] Fe:=n7.of (by kernel_rfl) (by kernel_rfl) (by kernel_rfl)
theorem vJ(P:Params):n7 (s7 P).T lq [28] yx:=n7.of (by kernel_rfl) (by kernel_rfl) (by kernel_rfl)
theorem G7(P:Params):n7 (s7 P).T lA [145] yC:=n7.of (by kernel_rfl) (by kernel_rfl) (by kernel_rfl)
theorem bG(P:Params):n7 (s7 P).T sU [36] Fg:=n7.of (by kernel_rfl) (by kernel_rfl) (by kernel_rfl)
theorem yI(P:Params):n7 (s7 P).T oZ [338,162] Bp:=n7.of (by kernel_rfl) (by kernel_rfl) (by kernel_rfl)
theorem eO(P:Params):n7 (s7 P).T U3 [7,194,326,327] tD:=n7.of (by kernel_rfl) (by kernel_rfl) (by kernel_rfl)
theorem yJ(P:Params):n7 (s7 P).T pq [92,338,192] Br:=n7.of (by kernel_rfl) (by kernel_rfl) (by kernel_rfl)
theorem pW(P:Params):n7 (s7 P).T fP [92,338,340,125] tE:=n7.of (by kernel_rfl) (by kernel_rfl) (by kernel_rfl)
theorem tQ(P:Params):n7 (s7 P).T je [92] vq:=n7.of (by kernel_rfl) (by kernel_rfl) (by kernel_rfl)
theorem oh(P:Params):n7 (s7 P).T eH [26] pN:=n7.of (by kernel_rfl) (by kernel_rfl) (by kernel_rfl)
theorem XH(P:Params):n7 (s7 P).T Bc [304] ab3:=n7.of (by kernel_rfl) (by kernel_rfl) (by kernel_rfl)
noncomputable abbrev ab4:=@PySem.W.Fast.tw10110043849684766642
theorem BJ:@segRunT=ab4:=PySem.W.Fast.te10110043849684766642
noncomputable abbrev Hp:=@PySem.W.Fast.tw14364793385576792824
theorem lN:@treeTable=Hp:=PySem.W.Fast.te14364793385576792824
noncomputable abbrev RG:=@PySem.W.Fast.tw12563942051412417395
theorem tR:@execs=RG:=PySem.W.Fast.te12563942051412417395
noncomputable abbrev RJ:Env:={scope:=pw.main.scope,locals:=mainNs,globals:=mainNs,cells:=[],code:=.ref 13,frame:=some 14}
noncomputable abbrev p0:Pos:={line:=0,col:=0,endLine:=0,endCol:=0}
noncomputable abbrev S_(s:String)(t:Nat):Value:=.str (Str.ofString s) t
noncomputable def o11:Obj:=⟨.type "tuple",none,.seq #[] 0,#[]⟩
noncomputable def o12:Obj:=⟨.none,none,.fields #[],#[]⟩
noncomputable def o13:Obj:=⟨.type "code",none,.fields #[S_ "<module>" 182,S_ "<module>" 183,S_ "/claim/cut.py" 184,.int 1 0,.int 0 0,.int 0 0,.int 0 0,.int 0 0,.ref 11,.bool false,.int 181 0,.ref 12,.none,.none,.none,.none,.int 185 0,.int 1 0,S_ "/claim/cut.py" 186],#[]⟩
noncomputable def o14:Obj:=⟨.type "frame",none,.plain,#[some (.ref 13),some (.ref 3),some (.ref 3),none,some (S_ "__main__" 164),none,some (.ref 0)]⟩
noncomputable def Nt:List Obj→Nat→BT→BT
 | [],_,t=>t
 |o::r,i,t=>Nt r (i+1) (t.ins i o)
noncomputable def saT(P:Params):BT:=Nt [boot_o_0 P,boot_o_1 P,boot_o_2 P,boot_o_3 P,boot_o_4 P,boot_o_5 P,boot_o_6 P,boot_o_7 P,boot_o_8 P,boot_o_9 P,boot_o_10 P,o11,o12,o13,o14] 0 .nil
noncomputable def sa(P:Params)(os:OsState):SharedT:=⟨saT P,15,(boot_heap P).life,Array.mk [],boot_drawn,187,os⟩
noncomputable def Nu:Code:=.body (behindTheImports pw) RJ
noncomputable abbrev XJ:=@PySem.W.Fast.tw4187177175401517315
theorem wL:@openSeen = @XJ:=PySem.W.Fast.te4187177175401517315
noncomputable def ab5:Nat:=88
noncomputable def qv:Program:={pw with main:={pw.main with body:=(pw.main.body[ab5]?).toList}}
noncomputable def loose:List Str:=[Str.ofString "_wall",Str.ofString "LendError",Str.ofString "PatternFault",Str.ofString "COPY",Str.ofString "DROP",Str.ofString "parts_of",Str.ofString "rebuilt",Str.ofString "substituted",Str.ofString "with_regions",Str.ofString "no_region",Str.ofString "erased",Str.ofString "matched",Str.ofString "impl_bounds",Str.ofString "is_copy",Str.ofString "field_rows",Str.ofString "fields_of",Str.ofString "has_drop",Str.ofString "needs_drop",Str.ofString "Body",Str.ofString "successors",Str.ofString "retargeted",Str.ofString "reachable",Str.ofString "with_blocks",Str.ofString "field_type",Str.ofString "projected",Str.ofString "place_type",Str.ofString "RESULT",Str.ofString "Scopes",Str.ofString "BOOL_build_places",Str.ofString "USIZE",Str.ofString "OUT_OF_BOUNDS",Str.ofString "longer",Str.ofString "PlaceBuilder",Str.ofString "Binding",Str.ofString "rows_of",Str.ofString "alternatives",Str.ofString "parts_at",Str.ofString "bindings_at",Str.ofString "mentions",Str.ofString "is_plain_name",Str.ofString "is_kept_on",Str.ofString "MatchBuilder",Str.ofString "BOOL_build_exprs",Str.ofString "UNIT",Str.ofString "NEVER",Str.ofString "PLACES",Str.ofString "CHECKED",Str.ofString "VERBS",Str.ofString "is_quiet",Str.ofString "Loop",Str.ofString "ExprBuilder",Str.ofString "lower",Str.ofString "TypedFn",Str.ofString "World",Str.ofString "_law_kind",Str.ofString "_law_int",Str.ofString "_law_bool",Str.ofString "_law_unit",Str.ofString "_law_pool",Str.ofString "_law_take",Str.ofString "_law_one",Str.ofString "_law_deed",Str.ofString "_law_number",Str.ofString "_law_truth",Str.ofString "_law_statement",Str.ofString "_law_sum",Str.ofString "_law_worth",Str.ofString "_law_done",Str.ofString "_law_due",Str.ofString "_law_local",Str.ofString "_law_typed",Str.ofString "_law_act",Str.ofString "_law_read",Str.ofString "_law_counted",Str.ofString "_law_made",Str.ofString "_law_stepped",Str.ofString "_law_walked",Str.ofString "_law_is_right"]
noncomputable abbrev p1:Pos:={line:=1070,col:=0,endLine:=1074,endCol:=94}
noncomputable def Xt(_:Shared):Bool:=true
set_option maxHeartbeats 0
noncomputable abbrev Hq:=@PySem.W.Fast.tw15667345088766844465
theorem Fj:@topGo = @Hq:=PySem.W.Fast.te15667345088766844465
noncomputable abbrev Vn:=@PySem.W.Fast.tw11892475500146522536
theorem Nv:@denote = @Vn:=PySem.W.Fast.te11892475500146522536
noncomputable abbrev Vo:=@PySem.W.Fast.tw14374325043358763698
theorem Nx:@segRun = @Vo:=PySem.W.Fast.te14374325043358763698
noncomputable abbrev Vp:=@PySem.W.Fast.tw1066825118222455980
theorem Ny:@blockStart = @Vp:=PySem.W.Fast.te1066825118222455980
theorem an5(w:World)(os:OsState):Hq Hp pw w 11 (some (.ref 6)) 12 ⟨boot_heap w.params,Array.mk [],boot_drawn,boot_toks,os⟩ (topStub pw)=some ((sa w.params os).abs,⟨Vn Hp Nu,Nu,p0,[topFrame p0]⟩):=by kernel_rfl
theorem an6(w:World)(os:OsState):Vo Hp pw w 11 (some (.ref 6)) 1 1 (sa w.params os).abs ⟨(Vp (behindTheImports pw) RJ).wrap (fun O=>doneF .next) deadEnd id id,Nu,p0,[topFrame p0]⟩=some (.next,(sa w.params os).abs,Nu,p0):=by kernel_rfl
theorem an7(w:World)(s:Shared):topRun treeTable pw w 11 (some (.ref 6)) 2 s ⟨doneF .next,Nu,p1,[topFrame p0]⟩=some s:=by kernel_rfl
theorem ab6(w:World):((boot_heap w.params).isNs mainGlobals,(boot_heap w.params).objs.size,(boot_heap w.params).nsMap mainGlobals "__annotations__")=(true,11,some (.ref 6)):=by kernel_rfl
theorem an8:opening pw=plainProg pw.main.scope.names:=by kernel_rfl
theorem an9(s:Shared):fenceModules? pw s=some s:=by kernel_rfl
theorem RK{p q:Program}{loose:List Str}{Xt:Shared→Bool}{α:Type}{Yf:Shared→α}{Ya:World→α}{N:Nat}(h:∀w:World,∃(H0:Heap) (d:Drawn) (k m0 M j:Nat) (ann:Option Value),(fencedOpening treeTable p w N).map (fun s=>(s.heap,s.gens,s.drawn,s.toks))=some (H0,Array.mk [],d,k)∧(H0.isNs mainGlobals,H0.objs.size,H0.nsMap mainGlobals "__annotations__")=(true,m0,ann)∧M+j=N∧
  ∀os,∃s1,topRun treeTable p w m0 ann M ⟨H0,Array.mk [],d,k,os⟩ (topStub p)=some s1∧(staticsOk (importedModules p.main.body) H0 s1.heap&&namesBound p s1.heap&&gensDone s1&&laidKept H0 s1.heap)=true∧
   openSeen q loose (importedModules p.main.body) Xt true s1=openGood q loose∧Yf s1=Ya w):LeftO p q loose Xt Yf Ya N:=fun w=>by
 obtain⟨H0,d,k,m0,M,j,ann,h1,h2,h3,h4⟩:=h w
 obtain⟨⟨h,gs,d',k',os⟩,e1,e2⟩:=Option.map_eq_some_iff.mp h1
 obtain⟨rfl,rfl,rfl,rfl⟩:h=H0∧gs=Array.mk []∧d'=d∧k'=k:=by simpa using e2
 obtain⟨z1,z2,z3⟩:h.isNs mainGlobals=true∧h.objs.size=m0∧h.nsMap mainGlobals "__annotations__" = ann:=by simpa using h2
 obtain⟨s1,r,k1,k2,k3⟩:=h4 os
 have top:topFrom treeTable p w N ⟨h,Array.mk [],d',k',os⟩=some s1:=by
  have r:=topRun_mono j _ _ _ _ r
  rw [h3] at r
  unfold topFrom
  dsimp only
  rw [z1,z2,z3,r]
  show(match staticsOk (importedModules p.main.body) h s1.heap&&namesBound p s1.heap&&gensDone s1&&laidKept h s1.heap with|true=>some s1|false=>none)=_
  rw [k1]
 unfold openEnds
 rw [e1]
 show(topFrom treeTable p w N _).map _=_
 rw [top]
 exact congrArg some (Prod.ext k2 k3)
theorem six{A B C D E F:Type}{a a':A}{b b':B}{c c':C}{d d':D}{e e':E}{f f':F}(h:(a,b,c,d,e,f)=(a',b',c',d',e',f')):a=a'∧b=b'∧c=c'∧d=d'∧e=e'∧f=f':=by
 simpa using h
theorem run_mk{p:Program}{w:World}{m0 n1 n2:Nat}{ann:Option Value}{s0:Shared}{sa s:SharedT}{env:Env}{b:List Stmt}{c:Code}{q q1 q2:Pos}(h1:topGo treeTable p w m0 ann n1 s0 (topStub p)=some (sa.abs,⟨denote treeTable (.body b env),c,q,[topFrame q]⟩))
  (h2:segRun treeTable p w m0 ann 1 1 sa.abs (blockOf b env c q [topFrame q])=some (.next,sa.abs,c,q1)) (h3:segRunT treeTable p w m0 ann 1 n2 sa (piecesOf b env c q1 [topFrame q])=some (.next,s,c,q2)) (h4:topRun treeTable p w m0 ann 2 s.abs ⟨doneF .next,c,q2,[topFrame q]⟩=some s.abs):
  topRun treeTable p w m0 ann (n1+(1+(n2+2))) s0 (topStub p)=some s.abs:=by
 have z:=piece_app (rest:=[]) (q:=q) (segRun_of h3) (piece_nil h4)
 rw [List.append_nil] at z
 exact go_top h1 (piece_block h2 z)
noncomputable def tU(p q:Program)(loose:List Str)(K:Frag)(n:Nat)(c:Code)(p1:Pos)(H0:Heap)(r:Option (Flow×SharedT×Code×Pos)):Prop:=
 r.map (fun r=>((r.1,r.2.2),(staticsOk (importedModules p.main.body) H0 r.2.1.abs.heap&&namesBound p r.2.1.abs.heap&&gensDone r.2.1.abs&&laidKept H0 r.2.1.abs.heap),K.map (fun q=>r.2.1.tree.get q.1),r.2.1.n,(),openSeen q loose (importedModules p.main.body) Xt true r.2.1.abs))=some ((Flow.next,c,p1),true,K.map (fun q=>some q.2),n,(),openGood q loose)
noncomputable def Hr(o:Obj):Bool:=match o.data with
 |.freed=>false
 |_=>true
theorem Nz{o:Obj}(h:Hr o=true):alive o=some o:=by
 obtain⟨c,d,x,sl⟩:=o
 cases x<;>first|rfl|cases h
theorem ab7{K:Frag}{T:BT}{n:Nat}{life:Life}(h1:K.map (fun q=>T.get q.1)=K.map fun q=>some q.2)(h2:K.all (fun q=>Nat.blt q.1 n&&Hr q.2)=true):(K.map (·.1)).map (absHeap T n life).get? = K.map fun q=>some q.2:=by
 rw [List.map_map]
 refine List.map_congr_left fun q hq=>?_
 obtain⟨a,b⟩:=d7 (List.all_eq_true.mp h2 q hq)
 exact(abs_get (Nat.le_of_ble_eq_true a) (List.map_inj_left.mp h1 q hq)).trans (Nz b)
theorem tU.of{p q:Program}{loose:List Str}{K:Frag}{n:Nat}{c:Code}{p1:Pos}{H0:Heap}{r:Option (Flow×SharedT×Code×Pos)}(h:tU p q loose K n c p1 H0 r)(hK:K.all (fun q=>Nat.blt q.1 n&&Hr q.2)=true):
  ∃s:SharedT,r=some (.next,s,c,p1)∧(staticsOk (importedModules p.main.body) H0 s.abs.heap&&namesBound p s.abs.heap&&gensDone s.abs&&laidKept H0 s.abs.heap)=true∧openSeen q loose (importedModules p.main.body) Xt true s.abs=openGood q loose∧(K.map (·.1)).map s.abs.heap.get? = K.map fun q=>some q.2:=by
 obtain⟨⟨f,⟨T,m,life,gs,d,k,os⟩,c',p'⟩,r1,r2⟩:=Option.map_eq_some_iff.mp h
 obtain⟨h1,h2,h3,h4,_,h6⟩:=six r2
 obtain⟨rfl,rfl,rfl⟩:f = .next∧c'=c∧p'=p1:=by simpa using h1
 obtain rfl:m=n:=h4
 exact⟨_,r1,h2,h6,ab7 h3 hK⟩
noncomputable def KT(P:Params):Frag:=(I4,tabObj #[])::K P
noncomputable def Ran(w:World):Prop := ∀os:OsState,tU pw qv loose (KT w.params) 1028 Nu p1 (boot_heap w.params) (segRunT treeTable pw w 11 (some (.ref 6)) 1 6729 (sa w.params os) (piecesOf (behindTheImports pw) RJ Nu p0 [topFrame p0]))
theorem ao0(w:World):Ran (w.withFollow "special-get-raises" false):=by
 unfold Ran tU piecesOf
 rw [BJ,lN,tR,wL]
 intro os
 kernel_rfl
theorem ao1(w:World):Ran (w.withFollow "special-get-raises" true):=by
 unfold Ran tU piecesOf
 rw [BJ,lN,tR,wL]
 intro os
 kernel_rfl
theorem ran(w:World):Ran w:=byRow2 "special-get-raises" ao0 ao1 w
theorem ao2(P:Params):(KT P).all (fun q=>Nat.blt q.1 1028&&Hr q.2)=true:=by kernel_rfl
theorem as_(P:Params):I4::asK=(KT P).map (·.1):=by kernel_rfl
theorem pre'(w:World)(os:OsState):topGo treeTable pw w 11 (some (.ref 6)) 12 ⟨boot_heap w.params,Array.mk [],boot_drawn,boot_toks,os⟩ (topStub pw)=some ((sa w.params os).abs,⟨denote treeTable Nu,Nu,p0,[topFrame p0]⟩):=by
 rw [Fj,lN,Nv];exact an5 w os
theorem ao3(w:World)(os:OsState):segRun treeTable pw w 11 (some (.ref 6)) 1 1 (sa w.params os).abs (blockOf (behindTheImports pw) RJ Nu p0 [topFrame p0])=some (.next,(sa w.params os).abs,Nu,p0):=by
 unfold blockOf
 rw [Nx,lN,Ny];exact an6 w os
noncomputable def tV:Hook:=kHook KT (I4::asK) as_
theorem ab8:LeftO pw qv loose Xt tV.obs tV.val 7000:=RK fun w=>⟨_,_,_,_,_,256,_,boot_open (N:=7000) an8 (by decide) an9 w,ab6 w,rfl,fun os=>by
 obtain⟨s,r,k1,k2,k3⟩:=(ran w os).of (ao2 w.params)
 exact⟨s.abs,run_mk (pre' w os) (ao3 w os) r (an7 w s.abs),k1,k2,(congrArg (List.map s.abs.heap.get?) (as_ w.params)).trans k3⟩⟩
noncomputable abbrev g8:OpenLaw:=PySem.Challenge.rw_ot0049_03
set_option maxHeartbeats 0
theorem pB:@noRoadLSs = @PySem.W.Fast.tw8326940854005059898:=PySem.W.Fast.te8326940854005059898
theorem bH:@namesMeet = @PySem.W.Fast.tw17119622794617984870:=PySem.W.Fast.te17119622794617984870
theorem BK:@sreFenced = @PySem.W.Fast.tw11788848310118352699:=PySem.W.Fast.te11788848310118352699
theorem tW:@namesResolve = @PySem.W.Fast.tw8377067652309620493:=PySem.W.Fast.te8377067652309620493
theorem tZ:@lookedIntoSs = @PySem.W.Fast.tw12862048085361865435:=PySem.W.Fast.te12862048085361865435
theorem BL:@defStands = @PySem.W.Fast.tw9558739934217749035:=PySem.W.Fast.te9558739934217749035
theorem uc:@noClassBlock = @PySem.W.Fast.tw8179353310426384613:=PySem.W.Fast.te8179353310426384613
theorem lO:@OpenLaw.namesIt = @PySem.W.Fast.tw16286561074155671207:=PySem.W.Fast.te16286561074155671207
theorem pX:@OpenLaw.reads = @PySem.W.Fast.tw6984425678791042302:=PySem.W.Fast.te6984425678791042302
theorem Fl:@footLine = @PySem.W.Fast.tw10501279942588096481:=PySem.W.Fast.te10501279942588096481
theorem RL:@attrL = @PySem.W.Fast.tw17868728402115742887:=PySem.W.Fast.te17868728402115742887
theorem X5:@Program.boundNames = @PySem.W.Fast.tw18344453789297297638:=PySem.W.Fast.te18344453789297297638
theorem Fo:@readsOut = @PySem.W.Fast.tw13343964577679436407:=PySem.W.Fast.te13343964577679436407
theorem lQ:@importedModules = @PySem.W.Fast.tw5923862056798008813:=PySem.W.Fast.te5923862056798008813
theorem W4:@OpenLaw.own = @PySem.W.Fast.tw10792542408131684335:=PySem.W.Fast.te10792542408131684335
theorem yK:@worldNames = @PySem.W.Fast.tw14412699480532031325:=PySem.W.Fast.te14412699480532031325
theorem vK:@moduleNames = @PySem.W.Fast.tw9807087744658564304:=PySem.W.Fast.te9807087744658564304
theorem cV:@OpenLaw.bound' = @PySem.W.Fast.tw797321630700447069:=PySem.W.Fast.te797321630700447069
theorem jg:@OpenLaw.may = @PySem.W.Fast.tw9572597257264208301:=PySem.W.Fast.te9572597257264208301
theorem lo1:sreFenced pw.main=true:=by rw [BK];kernel_rfl
theorem lo2:((moduleNames pw.main.body).isEmpty||lookedIntoSs (moduleNames pw.main.body) pw.main.body)=true:=by rw [vK,tZ];kernel_rfl
theorem YK:namesResolve pw=true:=by rw [tW];kernel_rfl
theorem lo4:pw.boundNames.all (fun n => !worldNames.contains n)=true:=by rw [X5,yK];kernel_rfl
theorem lo5:noRoadLSs {strict := !(importedModules pw.main.body).all cThrough.contains,foot:=none,bare:=(["vars","dir","locals"]:List Str).filter (readsOut pw pw.main.body)} pw.main.body=true:=by rw [pB,lQ,Fo];kernel_rfl
theorem lo6:namesMeet pw pw.main.body (fun O n=>attrL n)=true:=by rw [bH,RL];kernel_rfl
theorem ls2:decide (g8.foot≤(behindTheImports g8.prog).length)=true:=by kernel_rfl
theorem ls3:g8.footing.all footLine=true:=by rw [Fl];kernel_rfl
theorem ls4:noClassBlock g8.prog g8.footing=true:=by rw [uc];kernel_rfl
theorem ls5:g8.most.all (fun n=>decide (63≤n))=true:=by kernel_rfl
theorem ls6:g8.bound.all (fun n=>decide (2 ^ 63≤n))=true:=by kernel_rfl
theorem ls7:noRoadLSs {strict:=true,foot:=some g8.bound',writes:=g8.writes,may:=g8.may} g8.footing=true:=by rw [pB,cV,jg];kernel_rfl
theorem ls8:defStands g8.about g8.above=true:=by rw [BL];kernel_rfl
theorem ls9:g8.namesIt=true:=by rw [lO];kernel_rfl
theorem ao4:(["type","isinstance","issubclass","getattr","hasattr"]:List Str).all (fun n=>g8.about != [n])=true:=by kernel_rfl
theorem ao5:g8.bound'.all (fun n => !builtinNamed n||g8.about==[n] || !g8.reads n)=true:=by rw [cV,pX,PySem.W.Fast.named_eq];kernel_rfl
theorem ao6:(!g8.writes||(g8.prog.main.body.flatMap importedNames).all fun n => !g8.reads n)=true:=by kernel_rfl
theorem ao7:(g8.prog.main.body.flatMap importedNames).all (fun n => !g8.reads n||(drawsOf n g8.prog.main.body).all fun mn=>mn.2 != ("attrgetter" : Str)&&mn.2 != ("methodcaller" : Str))=true:=by kernel_rfl
theorem ao8:namesMeet g8.prog g8.footing (fun sc n=>(!(["type","isinstance","issubclass","getattr","hasattr"]:List Str).contains n||sc.names.lookup n==some .globalImplicit)&&(g8.may != some n||sc.kind == .module||sc.names.lookup n==some .globalImplicit))=true:=by rw [bH,jg];kernel_rfl
theorem ao9:g8.own.contains g8.name=true:=by rw [W4];kernel_rfl
theorem ap0:(g8.own.eraseDups.length==g8.own.length)=true:=by rw [W4];kernel_rfl
theorem ap1:g8.own.all (fun n => !builtinNamed n)=true:=by rw [W4,PySem.W.Fast.named_eq];kernel_rfl
theorem ap2:namesMeet g8.prog g8.above (fun O n => !g8.own.contains n)=true:=by rw [bH,W4];kernel_rfl
theorem ap3:namesMeet g8.prog g8.footing (fun sc n=>sc.kind == .module||sc.names.lookup n != some .globalExplicit)=true:=by rw [bH];kernel_rfl
theorem lo_:looksOpen pw=true:=look_both (look_both (look_both (look_both (look_both lo1 lo2) YK) lo4) lo5) lo6
theorem ab9:g8.row.partSaid=true:=
 look_both (look_both (look_both (look_both (look_both (look_both (look_both (look_both (look_both (look_both (look_both (look_both (look_both lo_ rfl) rfl) rfl) rfl) (by kernel_rfl)) rfl) (by kernel_rfl)) (by kernel_rfl)) (by kernel_rfl)) rfl) rfl) rfl) rfl
theorem bn_:pw.boundNames.contains g8.name=true:=by rw [X5];kernel_rfl
theorem ap4:g8.row.wellSaid=true:=look_both (look_both ab9 bn_) (by kernel_rfl)
theorem ac0:g8.wellSaid=true:=by
 have z:=look_both (look_both (look_both (look_both (look_both (look_both (look_both (look_both (look_both (look_both (look_both (look_both (look_both (look_both (look_both (look_both (look_both (look_both ap4 ls2) ls3) ls4) ls5) ls6) ls7) ls8) ls9) ao4) ao5) ao6) ao7) ao8) ao9) ap0) ap1) ap2) ap3
 exact z
theorem NK:(PySem.W.defOf qv g8.row.name).isSome=true:=by kernel_rfl
noncomputable def BP:DefRec×List (Str×PySem.Expr):=(PySem.W.defOf qv g8.row.name).get NK
theorem RM:PySem.W.defOf qv g8.row.name=some (BP.1,BP.2):=(Option.some_get NK).symm
noncomputable abbrev ac1:=@PySem.W.Fast.tw10235530238920679567
theorem NP:@Program.theDef = @ac1:=PySem.W.Fast.te10235530238920679567
theorem RN:g8.row.prog.theDef g8.row.name=some (BP.1.params,BP.1.body,BP.1.scope):=by
 rw [NP];kernel_rfl
theorem kw_:kwWritten? BP.1.params.kwonlyargs BP.1.params.kw_defaults=some BP.2:=by kernel_rfl
theorem ok_:(chainsOk qv&&opensWell g8.row.prog&&(frees g8.row.toRowW&&g8.row.within.isEmpty))=true:=by kernel_rfl
theorem ac2:g8.row.prog.bare:=⟨rfl,rfl,rfl,rfl,rfl,by kernel_rfl⟩
theorem Vq:g8.row.toRowW.promised:=⟨[.list []],by kernel_rfl,by kernel_rfl⟩
theorem jh:∀{xs:List WData},WShape.hasItems [] xs .int=true→∃is:List Int,xs=is.map WData.int
 | [],_=>⟨[],rfl⟩
 |x::xs,h=>by
  obtain⟨h1,h2⟩:=d7 (show(WShape.has [] x .int&&WShape.hasItems [] xs .int)=true from h)
  obtain⟨is,rfl⟩:=jh h2
  cases x<;>first|exact nomatch (show false=true from h1)|exact⟨_::is,rfl⟩
theorem lay_ints{R:WRecords}{cl:Str→Option Addr}{P:Params}{ord:List DictEntry→List DictEntry}:∀(is:List Int) (s:Shared),∃vs t,layAllW R cl P ord (is.map WData.int) s=some (vs,{s with toks:=t})∧∀tab h H,j7 tab h H (is.map PV.int) vs
 | [],s=>⟨[],s.toks,rfl,fun O O O=>rfl⟩
 |i::is,s=>by
  obtain⟨vs,t,e,r⟩:=lay_ints (R:=R) (cl:=cl) (P:=P) (ord:=ord) is {s with toks:=s.toks+1}
  refine⟨.int i s.toks::vs,t,?_,fun tab h H=>⟨_,_,rfl,⟨_,rfl⟩,r tab h H⟩⟩
  show(match layAllW R cl P ord (is.map WData.int) {s with toks:=s.toks+1} with|some r=>some (Value.int i s.toks::r.1,r.2)|none=>none)=_
  rw [e]
theorem XK(P:Params):KeysLit P []:=trivial
theorem RP{P:Params}{e:DictEntry}{r:List DictEntry}{x:Str}{t:Tok}(h1:e.key = .str x t)(h2:e.hash=PyData.keyHash P x)(h:KeysLit P r):KeysLit P (e::r):=⟨⟨x,t,h1,h2⟩,h⟩
theorem ac3(P:Params):∀q∈Vd,∃es n,(K P).lookup q.1=some ⟨.type "dict",none,.dict es n,#[]⟩∧KeysLit P es.toList:=by
 intro q hq
 cases hq with
 |head=>exact⟨_,_,rfl,by repeat' first|exact XK P|refine RP rfl rfl ?_⟩
 |tail _ h=>cases h
theorem RQ(P:Params):nsIn (K P) mainGlobals g8.row.name=some (some (.ref Bc)):=by kernel_rfl
theorem RT{xs:List WData}(h:g8.row.pre.holds [] {args:=[.list xs]}=true):xs.length≤63:=by
 have z:=condW_of (X := !decide ((63:Int)<(xs.length:Int))) (holds_andW h).1 rfl
 have z:=of_decide_eq_false ((Bool.not_eq_true' _).mp z)
 lia
theorem post_(a:List WData):g8.row.claim.post a (.bool true) a=true:=by
 have h:g8.row.post.value [] {args:=a,res:=some (.bool true),after:=a}=some (.bool (same (.bool true) (.bool true))):=rfl
 show(true&&(match g8.row.post.value [] {args:=a,res:=some (.bool true),after:=a} with|some (.bool true)=>true|_=>false))=true
 rw [h,same_self];rfl
noncomputable def erase(h:Heap)(a:Addr):Heap:=h.update a fun o=>{o with data:=.freed}
theorem ud(h:Heap)(a:Addr):(erase h a).get? a=none:=by
 obtain⟨objs,l⟩:=h
 show(match(objs.modify a _)[a]? with|some ⟨_,_,.freed,_⟩=>none|o=>o)=none
 rw [Array.getElem?_modify,if_pos rfl]
 cases objs[a]? <;> rfl
theorem uf{h:Heap}{a b:Addr}{o:Obj}(e:(erase h a).get? b=some o):h.get? b=some o:=by
 by_cases z:b=a
 ·rw [z,ud] at e;cases e
 ·exact((Heap.SameBut.update h a _).2 b z).symm.trans e
theorem NQ(P:Params):(K P).lookup I4=none:=by kernel_rfl
theorem NT(P:Params):∃o vs,(K P).lookup 223=some o∧o.cls = .type "code"∧o.data = .fields vs∧vs[11]? = some (.ref I4):=⟨_,_,rfl,rfl,rfl,rfl⟩
theorem RV{w:World}{p:Program}{loose:List Str}{mean:ExcName→Option Value}{mg mb:Str→Option Value}{h:Heap}(T:Top p loose mean mg mb h)(X:(KT w.params).In h):(K w.params).In (erase h I4)∧Base mg mb (erase h I4):=by
 have B:Heap.SameBut I4 h (erase h I4):=Heap.SameBut.update h I4 _
 refine⟨fun a o e=>?_,T.g.sameBut B (by decide),T.b.sameBut B (by decide),T.nolimit.sameBut B (by decide),T.builtins,?_⟩
 ·have ne:a≠I4:=fun z=>by rw [z,NQ] at e;cases e
  refine(B.2 a ne).trans (X a o ?_)
  show List.lookup a ((I4,tabObj #[])::K w.params)=some o
  rw [List.lookup_cons,beq_eq_false_iff_ne.mpr ne]
  exact e
 ·obtain⟨bm,ob,h1,h2,h3,h4,r⟩:=T.bmain
  refine⟨bm,ob,h1,h2,(B.2 bm fun z=>?_).trans h3,h4,r⟩
  have e:=X I4 (tabObj #[]) rfl
  rw [z,e] at h3
  cases h3
  cases h4
noncomputable abbrev H0:AH:=upd (fun O=>none) I4 (.code eX)
set_option tactic.hygienic true in
theorem Jy(main:∀(w:World) (g:G (s7 w.params).T),g.w=w→v8 g→∀xs:List Int,xs.length≤63→Dl g 150 (.obj Bc) [.lst (xs.map .int)] H0 fun r H'=>r = .bool true∧H' I4=some (.code eX)):g8.Holds:=by
 refine holds_law ac0 fun said=>⟨said,Vq,open_anyG (r:=g8.row.toRowW) (run:=fun f vs=>PySem.call f vs) (tree:=fun vs=>do match ← nsGet mainNs g8.row.name with
   |some f=>do ret (← PySem.call f vs)
   |none=>unsupported "claim.caller:no-such-global") (Xt:=Xt) (XP:=fun O O=>True) (Yf:=tV.obs) (Ya:=tV.val) (YP:=tV.says) ab8 tV.of tV.keeps (fun O O=>trivial) (fun O O O O O=>trivial) (fun O O=>recFacts_nil rfl) rfl ok_ ac2 Vq
  (fun vs w s mg f Q E hg hf h=>wpAny_bind (wpAny_nsGet hg (by rw [hf];exact wpAny_bind (wpAny_mono h (fun O O x=>wpAny_pure x) fun O O x=>x))))
  (fun w s hg G n hn=>?_) fun w s₀ s₁ mg mb G Y args vs as hpre hlay L low=>?_⟩
 ·obtain rfl:n=g8.row.name:=List.mem_singleton.mp hn
  exact pinned_of_view hg G RM RN kw_
 ·have X:(KT w.params).In s₁.heap:=kIn_of Y
  have XB:=RV G.T X
  refine⟨.ref Bc,mg_of XB.1 XB.2.g (RQ w.params),?_⟩
  obtain⟨p1,p2⟩:=d7 (show(WShape.hasAll [] args [.list .int]&&g8.row.pre.holds [] {args:=args})=true from hpre)
  cases args with
  |nil=>cases p1
  |cons d r=>
  obtain⟨q1,q2⟩:=d7 (show(WShape.has [] d (.list .int)&&WShape.hasAll [] r [])=true from p1)
  cases r with
  |cons _ _=>cases q2
  |nil=>
  cases d<;>try exact nomatch (show false=true from q1)
  rename_i xs
  have q3:WShape.hasItems [] xs .int=true:=by
   have:(WShape.hasItems [] xs .int||false)=true:=q1
   rwa [Bool.or_false] at this
  obtain⟨is,rfl⟩:=jh q3
  have hlen:is.length≤63:=by have:=RT p2;rwa [List.length_map] at this
  obtain⟨ord,_,hl⟩:=L.laid
  obtain⟨ws,t,e,rp⟩:=lay_ints (R:=[]) (cl:=classAt s₀.heap) (P:=w.params) (ord:=ord) is s₀
  have hl':(match(match layAllW [] (classAt s₀.heap) w.params ord (is.map WData.int) s₀ with
   |some r=>some (Value.ref r.2.heap.objs.size,({r.2 with heap:=r.2.heap.push {cls:=.type "list",data:=.seq r.1.toArray}}:Shared))
   |Option.none=>Option.none) with
   |some a=>some ([a.1],a.2)
   |Option.none=>Option.none)=some (vs,s₁):=hl
  rw [e] at hl'
  obtain⟨rfl,rfl⟩:[Value.ref s₀.heap.objs.size]=vs∧({s₀ with heap:=s₀.heap.push {cls:=.type "list",data:=.seq ws.toArray},toks:=t}:Shared)=s₁:=by simpa using hl'
  let hh:Heap:=s₀.heap.push {cls:=.type "list",data:=.seq ws.toArray}
  let g:Mine.Internal.G (s7 w.params).T:=⟨w,erase hh I4,s₀.os⟩
  have hg:v8 g:=v8.of (XF w.params) ok1 Bs XB.1 XB.2 (ac3 w.params)
  have tb:hh.get? I4=some (tabObj #[]):=X I4 _ rfl
  have lst:hh.get? s₀.heap.objs.size=some {cls:=.type "list",data:=.seq ws.toArray}:=Heap.get?_push_size _ rfl
  have ne:s₀.heap.objs.size≠I4:=fun z=>by rw [z,tb] at lst;cases lst
  have S:m9 g {s₀ with heap:=hh,toks:=t} H0:=by
   refine⟨fun b o e=>uf e,fun b e=>?_,fun b o e=>?_,L.gens,rfl⟩
   ·by_cases z:b=I4
    ·rw [z];exact ud hh I4
    ·exact absurd (d9 z) e
   ·have e:upd (fun O=>none) I4 (.code eX) b=some o:=e
    by_cases z:b=I4
    ·rw [z,c7] at e
     cases e
     rw [z]
     exact⟨#[],tb,trivial,fun O O h=>nomatch h⟩
    ·rw [d9 z] at e;cases e
  have R:K1 150 callerA:=⟨rfl,by decide,by decide⟩
  refine wpAny_call (codeAny_mono (main w g rfl hg is hlen callerA _ _ _ R S rfl ⟨_,[],rfl,⟨s₀.heap.objs.size,ws,0,rfl,lst,d9 ne,rp _ _ _⟩,rfl⟩) fun r s' ⟨u,eu,p,H',y,z,c,q,qt⟩=>?_)
  subst eu q
  cases y
  have old:OldK hh s'.heap:=by
   obtain⟨ps,k1,k2,k3⟩:=z.obj _ _ qt
   refine⟨fun b o e=>?_,fun b o e=>?_⟩
   ·by_cases q:b=I4
    ·subst q
     rw [tb] at e
     cases e
     obtain⟨oc,vs,c1,c2,c3,c4⟩:=NT w.params
     exact .inr (.inl ⟨⟨223,oc,vs,uf (XB.1 _ _ c1),c2,c3,c4⟩,rfl,#[],ps,rfl,by rw [Array.empty_append];exact k1⟩)
    ·exact .inl (z.keep b o (((Heap.SameBut.update hh I4 _).2 b q).trans e))
   ·by_cases q:b=I4
    ·subst q;exact⟨_,k1⟩
    ·exact⟨o,z.keep b o (((Heap.SameBut.update hh I4 _).2 b q).trans e)⟩
  exact⟨.inl ⟨_,.bool true,[],rfl,fun O=>rfl,ReadsW.bool _,post_ _,fun O=>⟨List.nodup_nil,fun O h=>(nomatch h)⟩⟩,old,z.os,.of_eq z.gens⟩
inductive Role where
 |self|dx|body|N5|locs|blks|spots|frs|alias
 |bl (i:Nat)|st (i:Nat)|fr (i:Nat)
inductive U5:PV→Prop
 |int (k:Nat):U5 (.tup [.str 32,.str k])
 |bool:U5 (.tup [.str 45])
inductive Simple:PV→Prop
 |one {p:PV}:U5 p→Simple p
 |tup {l:List PV}:(∀p∈l,U5 p)→l.length≤2→Simple (.tup [.str 9,.tup l])
structure Mem where
 tys:List PV
 blks:List (List PV×PV)
 here:Nat
 frs:List (List (Nat×Bool))
 sz:Nat
structure Fix where
 world:PV
 bounds:PV
 args:PV
 fu:Int
 path:PV
 argc:PV
 loops:PV
structure vL where
 spot:PV
 sp:List ((Int×Int)×PV)
 rows:List PV
noncomputable def yL(x:Nat×Bool):PV:=.tup [.int (x.1:Int),.bool x.2]
section
variable(c:Fix)(M:Mem)(L:Role→Addr)(x:vL)
noncomputable abbrev dxL:List (Nat×PV):=[(37,c.world),(38,c.bounds),(115,c.args),(116,.int c.fu),(92,.obj (L .body)),(3,x.spot),(117,.obj (L .alias)),(118,.obj (L .frs)),(64,.int M.here),(225,c.loops)]
noncomputable abbrev ac4:List (Nat×PV):=[(40,c.path),(71,c.argc),(75,.obj (L .locs)),(73,.obj (L .blks)),(74,.obj (L .spots))]
noncomputable def U6:Nat→Nat→List PV
 |_,0=>[]
 |i,k+1=>PV.obj (L (.bl i))::U6 (i+1) k
noncomputable def R4:Nat→Nat→List PV
 |_,0=>[]
 |i,k+1=>PV.obj (L (.fr i))::R4 (i+1) k
noncomputable def U7:Role→Option q7
 |.self=>some (.inst J8 (L .dx))
 |.dx=>some (.attrs (dxL c M L x))
 |.body=>some (.inst dH (L .N5))
 |.N5=>some (.attrs (ac4 c L))
 |.locs=>some (.list x.rows)
 |.blks=>some (.list (U6 L 0 M.blks.length))
 |.spots=>some (.w7 x.sp)
 |.frs=>some (.list (R4 L 0 M.frs.length))
 |.alias=>some (.m6 [])
 |.bl i=>M.blks[i]?.map fun b=>.list [.obj (L (.st i)),b.2]
 |.st i=>M.blks[i]?.map fun b=>.list b.1
 |.fr i=>M.frs.reverse[i]?.map fun f=>.list (f.map yL)
noncomputable def Mem.tick(M:Mem):Mem:={M with sz:=M.sz+1}
noncomputable def Mem.put(M:Mem)(s:PV):Mem:={M with blks:=M.blks.modify M.here fun b=>(b.1++[s],b.2),sz:=M.sz+1}
noncomputable def Mem.close(M:Mem)(t:PV):Mem:={M with blks:=M.blks.modify M.here fun b=>(b.1,t),sz:=M.sz+1}
noncomputable def Mem.to(M:Mem)(b:Nat):Mem:={M with here:=b}
noncomputable def Mem.o8(M:Mem):Mem:={M with blks:=M.blks++[([],.none)],sz:=M.sz+1}
noncomputable def Mem.newL(M:Mem)(ty:PV):Mem:={M with tys:=M.tys++[ty],sz:=M.sz+1}
noncomputable def Mem.push(M:Mem):Mem:={M with frs:=[]::M.frs,sz:=M.sz+1}
noncomputable def Mem.add(M:Mem)(x:Nat×Bool):Mem:={M with frs:=(match M.frs with|f::fs=>(f++[x])::fs | []=>[]),sz:=M.sz+1}
noncomputable def Mem.drop(M:Mem):Mem:={M with frs:=M.frs.tail}
inductive R7:List PV→List PV→Prop
 |nil:R7 [] []
 |cons {t a b:PV} {ts rows:List PV}:R7 ts rows→R7 (t::ts) (.tup [t,a,b]::rows)
structure lR(M:Mem):Prop where
 tys:M.tys.length≤M.sz
 blks:M.blks.length≤M.sz
 sts:∀b∈M.blks,b.1.length≤M.sz
 frs:M.frs.length≤M.sz
 Jz:∀f∈M.frs,f.length≤M.sz
 here:M.here<M.blks.length
 simple:∀t∈M.tys,Simple t
 Km:∀f∈M.frs,∀y∈f,y.1<M.tys.length
structure u0(H:AH):Prop where
 inj:∀r r',U7 c M L x r≠none→U7 c M L x r'≠none→L r=L r'→r=r'
 at_:∀r o,U7 c M L x r=some o→H (L r)=some o
 rows:R7 M.tys x.rows
 sp:x.sp.length≤M.sz
 ok:lR M
noncomputable def Framed(R H:AH):Prop := ∀b o,R b=some o→H b=some o∧∀r,U7 c M L x r≠none→L r≠b
end
noncomputable def n6(c:Fix)(self:Addr)(M:Mem)(R H:AH):Prop := ∃L x,L .self=self∧u0 c M L x H∧Framed c M L x R H
section
variable{c:Fix}{M M':Mem}{L:Role→Addr}{x x':vL}{H R:AH}
theorem u0.self(B:u0 c M L x H):H (L .self)=some (.inst J8 (L .dx)):=B.at_ .self _ rfl
theorem u0.dx(B:u0 c M L x H):H (L .dx)=some (.attrs (dxL c M L x)):=B.at_ .dx _ rfl
theorem u0.body(B:u0 c M L x H):H (L .body)=some (.inst dH (L .N5)):=B.at_ .body _ rfl
theorem u0.N5(B:u0 c M L x H):H (L .N5)=some (.attrs (ac4 c L)):=B.at_ .N5 _ rfl
theorem u0.bl(B:u0 c M L x H){i:Nat}{b:List PV×PV}(e:M.blks[i]? = some b):H (L (.bl i))=some (.list [.obj (L (.st i)),b.2]):=B.at_ (.bl i) _ (congrArg (Option.map _) e)
theorem u0.st(B:u0 c M L x H){i:Nat}{b:List PV×PV}(e:M.blks[i]? = some b):H (L (.st i))=some (.list b.1):=B.at_ (.st i) _ (congrArg (Option.map _) e)
theorem u0.fr(B:u0 c M L x H){i:Nat}{b:List (Nat×Bool)}(e:M.frs.reverse[i]? = some b):H (L (.fr i))=some (.list (b.map yL)):=B.at_ (.fr i) _ (congrArg (Option.map _) e)
theorem u0.turn{r0:Role}{o1:q7}(B:u0 c M L x H)(h0:U7 c M L x r0≠none)(h1:U7 c M' L x' r0=some o1)(h2:∀r,r≠r0→U7 c M' L x' r=U7 c M L x r∨U7 c M' L x' r=none)
  (hr:R7 M'.tys x'.rows) (hs:x'.sp.length≤M'.sz) (ok:lR M'):u0 c M' L x' (upd H (L r0) o1):=by
 have sub:∀r,U7 c M' L x' r≠none→U7 c M L x r≠none:=fun r h=>by
  by_cases e:r=r0
  ·subst e;exact h0
  ·rcases h2 r e with q|q
   ·rw [← q];exact h
   ·exact absurd q h
 refine⟨fun r r' h h'=>B.inj r r' (sub r h) (sub r' h'),fun r o h=>?_,hr,hs,ok⟩
 by_cases e:r=r0
 ·subst e;rw [h1] at h;cases h;exact c7 ..
 ·have ne:L r≠L r0:=fun z=>e (B.inj r r0 (sub r (by rw [h];simp)) h0 z)
  rw [d9 ne]
  rcases h2 r e with q|q
  ·exact B.at_ r o (q▸h)
  ·rw [q] at h;cases h
theorem Framed.turn{r0:Role}{o1:q7}(F:Framed c M L x R H)(h0:U7 c M L x r0≠none)(h1:U7 c M' L x' r0=some o1)(h2:∀r,r≠r0→U7 c M' L x' r=U7 c M L x r∨U7 c M' L x' r=none):Framed c M' L x' R (upd H (L r0) o1):=fun b o e=>by
 obtain⟨e1,e2⟩:=F b o e
 refine⟨by rw [d9 (fun z=>e2 r0 h0 z.symm)];exact e1,fun r h=>e2 r ?_⟩
 by_cases e:r=r0
 ·subst e;exact h0
 ·rcases h2 r e with q|q
  ·rw [← q];exact h
  ·exact absurd q h
theorem n6.turn{r0:Role}{o1:q7}(B:u0 c M L x H)(F:Framed c M L x R H)(x':vL)(h0:U7 c M L x r0≠none)(h1:U7 c M' L x' r0=some o1)(h2:∀r,r≠r0→U7 c M' L x' r=U7 c M L x r∨U7 c M' L x' r=none)
  (hr:R7 M'.tys x'.rows) (hs:x'.sp.length≤M'.sz) (ok:lR M'):n6 c (L .self) M' R (upd H (L r0) o1):=⟨L,x',rfl,B.turn h0 h1 h2 hr hs ok,F.turn h0 h1 h2⟩
theorem n6.el{C:Addr→Prop}{self:Addr}(B:n6 c self M R H)(k:∀L x,u0 c M L x H→Framed c M L x R H→C (L .self)):C self:=by
 obtain⟨L,x,rfl,B,F⟩:=B
 exact k L x B F
theorem wM(L:Role→Addr):∀(k i j:Nat),j<k→(U6 L i k)[j]? = some (.obj (L (.bl (i+j))))
 |0,_,_,h=>absurd h (Nat.not_lt_zero _)
 |k+1,i,0,h=>rfl
 |k+1,i,j+1,h=>by
  show(U6 L (i+1) k)[j]? = _
  rw [wM L k (i+1) j (by exact Nat.le_of_succ_le_succ ‹_›),Nat.add_right_comm];rfl
theorem wN(L:Role→Addr):∀(k i j:Nat),j<k→(R4 L i k)[j]? = some (.obj (L (.fr (i+j))))
 |0,_,_,h=>absurd h (Nat.not_lt_zero _)
 |k+1,i,0,h=>rfl
 |k+1,i,j+1,h=>by
  show(R4 L (i+1) k)[j]? = _
  rw [wN L k (i+1) j (by exact Nat.le_of_succ_le_succ ‹_›),Nat.add_right_comm];rfl
theorem gQ(L:Role→Addr):∀(k i:Nat),(U6 L i k).length=k
 |0,_=>rfl
 |k+1,i=>congrArg (·+ 1) (gQ L k (i+1))
theorem cW(L:Role→Addr):∀(k i:Nat),(R4 L i k).length=k
 |0,_=>rfl
 |k+1,i=>congrArg (·+ 1) (cW L k (i+1))
theorem ug(L:Role→Addr):∀(k i:Nat),U6 L i (k+1)=U6 L i k++[.obj (L (.bl (i+k)))]
 |0,_=>rfl
 |k+1,i=>by
  show _::U6 L (i+1) (k+1)=_
  rw [ug L k (i+1),Nat.add_right_comm];rfl
theorem jF(L:Role→Addr):∀(k i:Nat),R4 L i (k+1)=R4 L i k++[.obj (L (.fr (i+k)))]
 |0,_=>rfl
 |k+1,i=>by
  show _::R4 L (i+1) (k+1)=_
  rw [jF L k (i+1),Nat.add_right_comm];rfl
theorem jG{L L':Role→Addr}:∀(k i:Nat),(∀j,i≤j→j<i+k→L (.bl j)=L' (.bl j))→U6 L i k=U6 L' i k
 |0,_,_=>rfl
 |k+1,i,h=>by
  show PV.obj (L (.bl i))::_=PV.obj (L' (.bl i))::_
  rw [h i (Nat.le_refl _) (by lia),jG k (i+1) fun j a b=>h j (by exact Nat.le_of_lt ‹_›) (by lia)]
theorem jH{L L':Role→Addr}:∀(k i:Nat),(∀j,i≤j→j<i+k→L (.fr j)=L' (.fr j))→R4 L i k=R4 L' i k
 |0,_,_=>rfl
 |k+1,i,h=>by
  show PV.obj (L (.fr i))::_=PV.obj (L' (.fr i))::_
  rw [h i (Nat.le_refl _) (by lia),jH k (i+1) fun j a b=>h j (by exact Nat.le_of_lt ‹_›) (by lia)]
end
theorem get_modify{α:Type}(f:α→α):∀(l:List α) (h i:Nat),(l.modify h f)[i]? = if h=i then l[i]?.map f else l[i]? := fun l h i=>by
 rw [List.getElem?_modify]
 by_cases e:h=i
 ·rw [if_pos e,e];simp
 ·rw [if_neg e];simp [e]
theorem lookup_none{l:List (Nat×PV)}{x:Nat}(h:(l.map (·.1)).elem x=false):l.lookup x=none:=by
 induction l with
 |nil=>rfl
 |cons q l ih=>
  rw [List.map_cons,List.elem_cons] at h
  rw [List.lookup_cons]
  cases e:x==q.1 with
  |true=>rw [e] at h;cases h
  |false=>rw [e] at h;exact ih h
theorem uh{k:Nat}(h:k≤sizeLine):k<2 ^ 62:=Nat.lt_of_le_of_lt h (by rw [sizeLine_eq];decide)
section
variable{P:Params}{g:G (s7 P).T}(hg:v8 g){n:Nat}{m:Loc}{c:Fix}{M M':Mem}{L:Role→Addr}{x x':vL}{H R:AH}{Q:PV→AH→Prop}{W:Loc→AH→Prop}{self:Addr}
theorem n6.attr(B:n6 c self M R H){k:Nat}(hf:(s7 P).T.fld J8 k=true)(h:∀L x,L .self=self→u0 c M L x H→Framed c M L x R H→∃q,(dxL c M L x).lookup k=some q∧Q q H):j6 g k Q (.obj self) H:=by
 obtain⟨L,x,rfl,B,F⟩:=B
 obtain⟨q,e1,e2⟩:=h L x rfl B F
 exact .mk B.self B.dx hf e1 e2
theorem n6.me(B:n6 c self M R H){k:Nat}{f:Addr}{K:Addr→Addr→AH→Prop}(hf:(s7 P).T.meth J8 k=some f)(hx:[37,38,115,116,92,3,117,118,64,225].elem k=false)(h:K self f H):MethP g k K (.obj self) H:=by
 revert h
 apply n6.el B
 intro L x B F
 intro h
 exact MethP.mk B.self B.dx hf (lookup_none hx) h
theorem n6.world(B:n6 c self M R H)(h:Q c.world H):j6 g 37 Q (.obj self) H:=B.attr rfl fun O O O O O=>⟨_,rfl,h⟩
theorem n6.bounds(B:n6 c self M R H)(h:Q c.bounds H):j6 g 38 Q (.obj self) H:=B.attr rfl fun O O O O O=>⟨_,rfl,h⟩
theorem n6.spot(B:n6 c self M R H)(h:∀q,Q q H):j6 g 3 Q (.obj self) H:=B.attr rfl fun O O O O O=>⟨_,rfl,h _⟩
theorem NZ(M':Mem)(e:M'=M∨∃b,M'=M.to b)(r:Role)(ne:r≠.dx)(x':vL)(e1:x'.rows=x.rows)(e2:x'.sp=x.sp):U7 c M' L x' r=U7 c M L x r:=by
 obtain⟨_,_,_⟩:=x
 obtain⟨_,_,_⟩:=x'
 cases e1
 cases e2
 rcases e with rfl|⟨b,rfl⟩<;>cases r<;>first|rfl|exact absurd rfl ne
theorem n6.bJ(B:n6 c self M R H){q:PV}{W:AH→Prop}(h:∀H',n6 c self M R H'→W H'):jX g 3 q W (.obj self) H:=by
 revert h
 apply n6.el B
 intro L x B F
 intro h
 exact jX.mk B.self B.dx rfl (Nat.le_of_ble_eq_true rfl) (h _ (n6.turn (r0:=.dx) B F {x with spot:=q} nofun rfl (fun r ne=>.inl (NZ M (.inl rfl) r ne _ rfl rfl)) B.rows B.sp B.ok))
theorem n6.gV(B:n6 c self M R H){b:Nat}{W:AH→Prop}(hb:b<M.blks.length)(h:∀H',n6 c self (M.to b) R H'→W H'):jX g 64 (.int b) W (.obj self) H:=by
 revert h
 apply n6.el B
 intro L x B F
 intro h
 exact jX.mk B.self B.dx rfl (Nat.le_of_ble_eq_true rfl) (h _ (n6.turn (r0:=.dx) B F x nofun rfl (fun r ne=>.inl (NZ _ (.inr ⟨b,rfl⟩) r ne _ rfl rfl)) B.rows B.sp ⟨B.ok.tys,B.ok.blks,B.ok.sts,B.ok.frs,B.ok.Jz,hb,B.ok.simple,B.ok.Km⟩))
theorem qx(B:u0 c M L x H){i:Nat}(hl:i<M.blks.length)(hi:M.sz≤sizeLine)(h:Q (.obj (L (.bl i))) H):SubL g (.obj (L .blks)) (.int (i:Int)) H Q:=
 V6 (B.at_ .blks _ rfl) (uh (Nat.le_trans (Nat.le_of_lt hl) (Nat.le_trans B.ok.blks hi))) ((wM L _ _ _ hl).trans (by rw [Nat.zero_add])) h
include hg in
theorem vM(B:u0 c M L x H){i:Nat}{b:List PV×PV}(e:M.blks[i]? = some b)(hi:M.sz≤sizeLine)(hn:1≤n)(h:Q (.obj (L (.st i))) H):Cl g n (.obj T6) [.obj (L .body),.int i] H Q:=
 (aM P).cl hg rfl hn fun n hn=>j6.mk B.body B.N5 rfl rfl (qx B (List.getElem?_eq_some_iff.mp e).1 hi (V6 (i:=0) (B.bl e) (Nat.le_of_ble_eq_true rfl) rfl h))
include hg in
theorem BR(B:u0 c M L x H)(e:m.lookup 1=some (.obj (L .self))) {b:List PV×PV} (eb:M.blks[M.here]? = some b) (hi:M.sz≤sizeLine) (hn:1≤n) (h:Q (.obj (L (.st M.here))) H):
  j6 g 92 (MethP g 99 fun a f H₁=>zB g n [.attr (.loc 1) 64] m H₁ fun l H₂=>Cl g n (.obj f) (.obj a::l) H₂ Q) (.obj (L .self)) H:=
 .mk B.self B.dx rfl rfl (.mk B.body B.N5 rfl rfl (d8 e (j6.mk B.self B.dx rfl rfl (vM hg B eb hi hn h))))
theorem u0.blk(B:u0 c M L x H):∃b,M.blks[M.here]? = some b:=by
 exact⟨_,List.getElem?_eq_getElem B.ok.here⟩
theorem lR.mono{k:Nat}(o:lR M)(h:M.sz≤k):lR {M with sz:=k}:=⟨Nat.le_trans o.tys h,Nat.le_trans o.blks h,fun b hb=>Nat.le_trans (o.sts b hb) h,Nat.le_trans o.frs h,fun f hf=>Nat.le_trans (o.Jz f hf) h,o.here,o.simple,o.Km⟩
include hg in
theorem Hs(B:n6 c self M R H)(hz:M.tick.sz≤sizeLine)(hn:2≤n)(h:∀H',n6 c self M.tick R H'→Q .none H'):Cl g n (.obj iZ) [.obj self] H Q:=by
 have hi:M.sz≤sizeLine:=Nat.le_of_succ_le hz
 revert h
 apply n6.el B
 intro L x B F
 intro h
 obtain⟨b,eb⟩:=B.blk
 refine(tL P).cl hg rfl hn fun n hn=>j6.mk B.self B.dx rfl rfl (j6.mk B.self B.dx rfl rfl (.mk B.body B.N5 rfl rfl (j6.mk B.self B.dx rfl rfl ?_)))
 refine BR hg B rfl eb hi hn (V5 (k:=b.1.length) (len_list (B.st eb)) (uh (Nat.le_trans (B.ok.sts b (List.mem_of_getElem? eb)) hi)) ?_)
 refine wB (B.at_ .spots _ rfl) rfl (Nat.le_trans B.sp hi) (h _ ?_)
 exact n6.turn (M':=M.tick) (r0:=.spots) B F {x with sp:=N8 ((M.here:Int),(b.1.length:Int)) x.spot x.sp} nofun rfl (fun r ne=>.inl (by cases r<;>first|rfl|exact absurd rfl ne)) B.rows
  (Nat.le_trans (oN ..) (Nat.add_le_add_right B.sp 1)) (B.ok.mono (Nat.le_succ _))
theorem lR.put(o:lR M)(s:PV):lR (M.put s):=by
 refine⟨Nat.le_succ_of_le o.tys,?_,fun b hb=>?_,Nat.le_succ_of_le o.frs,fun f hf=>Nat.le_succ_of_le (o.Jz f hf),?_,o.simple,o.Km⟩
 ·show(M.blks.modify _ _).length≤_
  rw [List.length_modify];exact Nat.le_succ_of_le o.blks
 ·obtain⟨i,hi⟩:=List.mem_iff_getElem?.mp hb
  rw [show(M.put s).blks=M.blks.modify M.here fun b=>(b.1++[s],b.2) from rfl,get_modify] at hi
  split at hi
  ·obtain⟨b',e,rfl⟩:=Option.map_eq_some_iff.mp hi
   show(b'.1++[s]).length≤_
   rw [List.length_append]
   exact Nat.succ_le_succ (o.sts b' (List.mem_of_getElem? e))
  ·exact Nat.le_succ_of_le (o.sts b (List.mem_of_getElem? hi))
 ·show _<(M.blks.modify _ _).length
  rw [List.length_modify];exact o.here
theorem lR.close(o:lR M)(s:PV):lR (M.close s):=by
 refine⟨Nat.le_succ_of_le o.tys,?_,fun b hb=>?_,Nat.le_succ_of_le o.frs,fun f hf=>Nat.le_succ_of_le (o.Jz f hf),?_,o.simple,o.Km⟩
 ·show(M.blks.modify _ _).length≤_
  rw [List.length_modify];exact Nat.le_succ_of_le o.blks
 ·obtain⟨i,hi⟩:=List.mem_iff_getElem?.mp hb
  rw [show(M.close s).blks=M.blks.modify M.here fun b=>(b.1,s) from rfl,get_modify] at hi
  split at hi
  ·obtain⟨b',e,rfl⟩:=Option.map_eq_some_iff.mp hi
   exact Nat.le_succ_of_le (o.sts b' (List.mem_of_getElem? e))
  ·exact Nat.le_succ_of_le (o.sts b (List.mem_of_getElem? hi))
 ·show _<(M.blks.modify _ _).length
  rw [List.length_modify];exact o.here
set_option tactic.hygienic true in
theorem Ht{k:Nat}{f:List PV×PV→List PV×PV}(r:Role)(h1:∀b,(f b).2=b.2∨r≠.bl M.here)(h2:∀b,(f b).1=b.1∨r≠.st M.here):U7 c {M with blks:=M.blks.modify M.here f,sz:=k} L x r=U7 c M L x r:=by
 cases r<;>try rfl
 case blks=>show some (q7.list (U6 L 0 (M.blks.modify M.here f).length))=_;rw [List.length_modify];rfl
 case bl i=>
  show Option.map _ (M.blks.modify M.here f)[i]? = _
  rw [get_modify]
  split
  ·next e=>
   rw [Option.map_map]
   refine congrArg (fun z=>Option.map z M.blks[i]?) (funext fun b=>?_)
   rcases h1 b with z|z
   ·show q7.list [.obj (L (.st i)),(f b).2]=_;rw [z]
   ·exact absurd (congrArg Role.bl e.symm) z
  ·rfl
 case st i=>
  show Option.map _ (M.blks.modify M.here f)[i]? = _
  rw [get_modify]
  split
  ·next e=>
   rw [Option.map_map]
   refine congrArg (fun z=>Option.map z M.blks[i]?) (funext fun b=>?_)
   rcases h2 b with z|z
   ·show q7.list (f b).1=_;rw [z]
   ·exact absurd (congrArg Role.st e.symm) z
  ·rfl
include hg in
theorem yM{s:PV}(B:n6 c self M R H)(hz:(M.tick.put s).sz≤sizeLine)(hn:3≤n)(h:∀H',n6 c self (M.tick.put s) R H'→Q .none H'):Cl g n (.obj kZ) [.obj self,s] H Q:=by
 have hi:M.tick.sz≤sizeLine:=Nat.le_of_succ_le hz
 refine(vD P).cl hg rfl hn fun n hn=>B.me rfl rfl (Hs hg B hi hn fun H B=>?_)
 revert h
 apply n6.el B
 intro L x B F
 intro h
 obtain⟨b,eb⟩:=B.blk
 refine BR hg B rfl eb hi (leB hn rfl) (G4 (B.st eb) (z6 (B.st eb) (Nat.le_trans (B.ok.sts b (List.mem_of_getElem? eb)) hi) (h _ ?_)))
 refine n6.turn (M':=M.tick.put s) (r0:=.st M.here) B F x ?_ ?_ (fun r ne=>.inl (Ht r (fun O=>.inl rfl) fun O=>.inr ne)) B.rows (Nat.le_succ_of_le B.sp) (B.ok.put s)
 ·rw [U7,show M.tick.blks[M.here]? = _ from eb];exact nofun
 ·show Option.map _ (M.blks.modify M.here _)[M.here]? = _
  rw [get_modify,if_pos rfl,show M.blks[M.here]? = _ from eb];rfl
end
section
variable{P:Params}{g:G (s7 P).T}(hg:v8 g){n:Nat}{m:Loc}{c:Fix}{M M':Mem}{L L':Role→Addr}{x x':vL}{H H' R:AH}{Q:PV→AH→Prop}{W:Loc→AH→Prop}{self:Addr}
noncomputable def Ext(H H':AH):Prop := ∀b o,H b=some o→H' b=some o
theorem Ext.refl:Ext H H:=fun O O e=>e
theorem Ext.trans{mU:AH}(a:Ext H H')(b:Ext H' mU):Ext H mU:=fun x o e=>b x o (a x o e)
theorem Ext.new{a:Addr}{o:q7}(h:H a=none):Ext H (upd H a o):=fun b q e=>by
 rw [d9 fun z=>by rw [z,h] at e;cases e];exact e
theorem Ext.upd{a:Addr}{o:q7}(h:H a=none)(E:Ext H H'):Ext H (upd H' a o):=fun b q e=>by
 rw [d9 fun z=>by rw [z,h] at e;cases e];exact E b q e
theorem u0.ext(B:u0 c M L x H)(E:Ext H H'):u0 c M L x H':=⟨B.inj,fun r o e=>E _ _ (B.at_ r o e),B.rows,B.sp,B.ok⟩
theorem n6.ext(B:n6 c self M R H)(E:Ext H H'):n6 c self M R H':=by
 obtain⟨L,x,e,B,F⟩:=B
 exact⟨L,x,e,B.ext E,fun b o q=>⟨E _ _ (F b o q).1,(F b o q).2⟩⟩
theorem n6.grow(B:u0 c M L x H)(F:Framed c M L x R H)(N:Role→Prop)(old:∀r,¬N r→U7 c M' L' x' r≠none→U7 c M L x r≠none∧L' r=L r)(new:∀r,N r→H (L' r)=none)
  (inj:∀r r',N r→N r'→L' r=L' r'→r=r') (at_:∀r o,U7 c M' L' x' r=some o→H' (L' r)=some o) (fr:∀b o,H b=some o→(∀r,U7 c M L x r≠none→L r≠b)→H' b=some o)
  (hr:R7 M'.tys x'.rows) (hs:x'.sp.length≤M'.sz) (ok:lR M'):n6 c (L' .self) M' R H':=by
 have st:∀r,U7 c M L x r≠none→H (L r)≠none:=fun r h=>by
  cases e:U7 c M L x r with
  |none=>exact absurd e h
  |some o=>rw [B.at_ r o e];exact nofun
 refine⟨L',x',rfl,⟨fun r r' h h' e=>?_,at_,hr,hs,ok⟩,fun b o e=>⟨fr b o (F b o e).1 (F b o e).2,fun r h z=>?_⟩⟩
 ·by_cases q:N r<;>by_cases q':N r'
  ·exact inj r r' q q' e
  ·obtain⟨i,j⟩:=old r' q' h'
   exact absurd (by rw [← j,← e];exact new r q) (st r' i)
  ·obtain⟨i,j⟩:=old r q h
   exact absurd (by rw [← j,e];exact new r' q') (st r i)
  ·obtain⟨i,j⟩:=old r q h
   obtain⟨i',j'⟩:=old r' q' h'
   exact B.inj r r' i i' (by rw [← j,← j',e])
 ·by_cases q:N r
  ·have:=new r q
   rw [z,(F b o e).1] at this;cases this
  ·obtain⟨i,j⟩:=old r q h
   exact(F b o e).2 r i (by rw [← j];exact z)
noncomputable def wO(L:Role→Addr)(k:Nat)(a b:Addr):Role→Addr
 |.st i=>if i=k then a else L (.st i)
 |.bl i=>if i=k then b else L (.bl i)
 |r=>L r
theorem lR.o8(o:lR M):lR M.o8:=by
 refine⟨Nat.le_succ_of_le o.tys,?_,fun b hb=>?_,Nat.le_succ_of_le o.frs,fun f hf=>Nat.le_succ_of_le (o.Jz f hf),?_,o.simple,o.Km⟩
 ·show(M.blks++[([],PV.none)]).length≤_
  rw [List.length_append];exact Nat.succ_le_succ o.blks
 ·rcases List.mem_append.mp hb with h|h
  ·exact Nat.le_succ_of_le (o.sts b h)
  ·rw [List.mem_singleton.mp h];exact Nat.zero_le _
 ·show _<(M.blks++[([],PV.none)]).length
  rw [List.length_append];exact Nat.lt_succ_of_lt o.here
theorem BW(i:Nat)(ne:i≠M.blks.length):M.o8.blks[i]? = M.blks[i]? := by
 show(M.blks++[([],PV.none)])[i]? = _
 by_cases h:i<M.blks.length
 ·exact List.getElem?_append_left h
 ·rw [List.getElem?_append_right (Nat.le_of_not_lt h),List.getElem?_eq_none (Nat.le_of_not_lt h)]
  exact List.getElem?_eq_none (show 1≤_ by lia)
theorem wQ:M.o8.blks[M.blks.length]? = some ([],.none):=by
 show(M.blks++[([],PV.none)])[_]? = _
 rw [List.getElem?_append_right (Nat.le_refl _),Nat.sub_self];rfl
set_option tactic.hygienic true in
theorem BX{a b:Addr}(r:Role)(h1:r≠.blks)(h2:r≠.bl M.blks.length)(h3:r≠.st M.blks.length):U7 c M.o8 (wO L M.blks.length a b) x r=U7 c M L x r∧wO L M.blks.length a b r=L r:=by
 cases r<;>try exact⟨rfl,rfl⟩
 case blks=>exact absurd rfl h1
 case frs=>exact⟨congrArg (fun z=>some (q7.list z)) (jH _ _ fun O O O=>rfl),rfl⟩
 case bl i=>
  have ne:i≠M.blks.length:=fun z=>h2 (z▸rfl)
  have e2:∀{y z:Addr},(if i=M.blks.length then y else z)=z:=if_neg ne
  refine⟨?_,e2⟩
  show Option.map _ M.o8.blks[i]? = _
  rw [BW i ne]
  refine congrArg (fun z=>Option.map z M.blks[i]?) (funext fun b=>?_)
  show q7.list [.obj (if i=M.blks.length then a else L (.st i)),b.2]=_
  rw [e2]
 case st i=>
  have ne:i≠M.blks.length:=fun z=>h3 (z▸rfl)
  refine⟨?_,if_neg ne⟩
  show Option.map _ M.o8.blks[i]? = _
  rw [BW i ne];rfl
theorem RW(B:u0 c M L x H)(F:Framed c M L x R H){a b:Addr}(ha:H a=none)(hb:H b=none)(ne:b≠a):
  n6 c (L .self) M.o8 R (upd (upd (upd H a (.list [])) b (.list [.obj a,.none])) (L .blks) (.list (U6 L 0 M.blks.length++[.obj b]))):=by
 have key:∀y o,H y=some o→y≠L .blks→upd (upd (upd H a (.list [])) b (.list [.obj a,.none])) (L .blks) (.list (U6 L 0 M.blks.length++[.obj b])) y=some o:=fun y o e q=>by
  rw [d9 q];exact Ext.new (by rw [d9 ne];exact hb) y o (Ext.new ha y o e)
 have hk:=B.at_ .blks _ rfl
 have na:a≠L .blks:=fun z=>by rw [z,hk] at ha;cases ha
 have nb:b≠L .blks:=fun z=>by rw [z,hk] at hb;cases hb
 have wb:wO L M.blks.length a b (.bl M.blks.length)=b:=if_pos rfl
 have ws:wO L M.blks.length a b (.st M.blks.length)=a:=if_pos rfl
 refine n6.grow (L':=wO L M.blks.length a b) (x':=x) B F (fun r=>r = .bl M.blks.length∨r = .st M.blks.length) (fun r h v=>?_) (fun r h=>?_) (fun r r' h h' e=>?_) (fun r o e=>?_) (fun y o e q=>key y o e fun z=>q .blks nofun z.symm) B.rows (Nat.le_succ_of_le B.sp) B.ok.o8
 ·by_cases q:r = .blks
  ·subst q;exact⟨nofun,rfl⟩
  ·obtain⟨e1,e2⟩:=BX (c:=c) (L:=L) (x:=x) (a:=a) (b:=b) r q (fun z=>h (.inl z)) (fun z=>h (.inr z))
   exact⟨e1▸v,e2⟩
 ·rcases h with rfl|rfl
  ·rw [wb];exact hb
  ·rw [ws];exact ha
 ·rcases h with rfl|rfl<;>rcases h' with rfl|rfl
  ·rfl
  ·rw [wb,ws] at e;exact absurd e ne
  ·rw [wb,ws] at e;exact absurd e.symm ne
  ·rfl
 ·by_cases q1:r = .blks
  ·subst q1
   show upd _ (L .blks) _ (L .blks)=_
   rw [c7,← e]
   show _=some (q7.list (U6 _ 0 (M.blks++[([],PV.none)]).length))
   rw [List.length_append,List.length_singleton,ug,Nat.zero_add,wb,jG M.blks.length 0 fun j O h=>?_]
   exact(if_neg (show j≠M.blks.length by lia)).symm
  ·by_cases q2:r = .bl M.blks.length
   ·subst q2
    rw [wb,d9 nb,c7,← e]
    show _=Option.map _ M.o8.blks[_]?
    rw [wQ]
    show _=some (q7.list [.obj (wO L M.blks.length a b (.st M.blks.length)),.none])
    rw [ws]
   ·by_cases q3:r = .st M.blks.length
    ·subst q3
     rw [ws,d9 na,d9 fun z=>ne z.symm,c7,← e]
     show _=Option.map _ M.o8.blks[_]?
     rw [wQ];rfl
    ·obtain⟨e1,e2⟩:=BX (c:=c) (L:=L) (x:=x) (a:=a) (b:=b) r q1 q2 q3
     rw [e2]
     refine key _ _ (B.at_ r o (e1▸e)) fun z=>q1 (B.inj r .blks (by rw [← e1,e];exact nofun) nofun z)
theorem JB(B:n6 c self M R H)(hz:M.o8.sz≤sizeLine)(h:∀H',n6 c self M.o8 R H'→Q .none H'):
  j6 g 92 (j6 g 73 fun p H₁=>pJ H₁ "list" p∧zB g n [.bR [.bR [],.none]] m H₁ fun l H₂=>Cl g n (.blt "list.append") (p::l) H₂ Q) (.obj self) H:=by
 revert h
 apply n6.el B
 intro L x B F h
 refine .mk B.self B.dx rfl rfl (.mk B.body B.N5 rfl rfl (G4 (B.at_ .blks _ rfl) fun a ha b hb=>?_))
 have ne:b≠a:=fun z=>by rw [z,c7] at hb;cases hb
 rw [d9 ne] at hb
 exact z6 (Ext.new (by rw [d9 ne];exact hb) _ _ (Ext.new ha _ _ (B.at_ .blks _ rfl))) (by rw [gQ];exact Nat.le_trans B.ok.blks (Nat.le_of_succ_le hz)) (h _ (RW B F ha hb ne))
theorem Oa(B:n6 c self M R H)(hz:M.sz≤sizeLine)(h:Q (.int M.blks.length) H):j6 g 92 (j6 g 73 fun p H=>Cl g n (.blt "len") [p] H Q) (.obj self) H:=by
 apply n6.el B
 intro L x B F
 exact .mk B.self B.dx rfl rfl (.mk B.body B.N5 rfl rfl (V5 (len_list (B.at_ .blks _ rfl)) (by rw [gQ];exact uh (Nat.le_trans B.ok.blks hz)) (by rw [gQ];exact h)))
theorem XM{k:Nat}(h:Q (.int (k:Int)) H):Q (.int (((k+1:Nat):Int)-1)) H:=by
 rw [show((k+1:Nat):Int)-1=k by lia]
 exact h
include hg in
theorem U8(B:n6 c self M R H)(hz:M.o8.sz≤sizeLine)(hn:1≤n)(h:∀H',n6 c self M.o8 R H'→Q (.int M.blks.length) H'):Cl g n (.obj aG) [.obj self] H Q:=
 (Y9 P).cl hg rfl hn fun n hn=>JB B hz fun H B=>Oa B hz (by
  rw [show M.o8.blks.length=M.blks.length+1 from List.length_append]
  exact XM (Q:=Q) (h _ B))
end
section
variable{P:Params}{g:G (s7 P).T}(hg:v8 g){n:Nat}{m:Loc}{c:Fix}{M M':Mem}{L L':Role→Addr}{x x':vL}{H H' R:AH}{Q:PV→AH→Prop}{W:Loc→AH→Prop}{self:Addr}
include hg in
theorem cX{t:PV}(B:n6 c self M R H)(hz:(M.tick.close t).sz≤sizeLine)(hn:3≤n)(h:∀H',n6 c self (M.tick.close t) R H'→Q .none H'):Cl g n (.obj fL) [.obj self,t] H Q:=by
 refine(pP P).cl hg rfl hn fun n hn=>B.me rfl rfl (Hs hg B (Nat.le_of_succ_le hz) hn fun H B=>?_)
 revert h
 apply n6.el B
 intro L x B F h
 obtain⟨b,eb⟩:=B.blk
 refine j6.mk B.self B.dx rfl rfl (.mk B.body B.N5 rfl rfl (j6.mk B.self B.dx rfl rfl (qx B B.ok.here (Nat.le_of_succ_le hz) (set_list (i:=1) (B.bl eb) (Nat.lt_succ_self 1) (Y6 rfl) (h _ ?_)))))
 refine n6.turn (M':=M.tick.close t) (r0:=.bl M.here) B F x ?_ ?_ (fun r ne=>.inl (Ht r (fun O=>.inr ne) fun O=>.inl rfl)) B.rows (Nat.le_succ_of_le B.sp) (B.ok.close t)
 ·rw [U7,show M.tick.blks[M.here]? = _ from eb];exact nofun
 ·show Option.map _ (M.blks.modify M.here _)[M.here]? = _
  rw [get_modify,if_pos rfl,show M.blks[M.here]? = _ from eb];rfl
include hg in
theorem Vr{b:Nat}(B:n6 c self M R H)(hb:b<M.blks.length)(hz:(M.tick.close (.tup [.str 84,.int b])).sz≤sizeLine) (hn:4≤n) (h:∀H',n6 c self ((M.tick.close (.tup [.str 84,.int b])).to b) R H'→Q .none H'):Cl g n (.obj oW) [.obj self,.int b] H Q:=
 (yE P).cl hg rfl hn fun n hn=>B.me rfl rfl (cX hg B hz hn fun H B=>B.gV (by show b<(M.tick.blks.modify _ _).length;rw [List.length_modify];exact hb) h)
include hg in
theorem Hu{i:Int}(B:n6 c self M R H)(hn:1≤n)(h:Q (.int (c.fu+i)) H):Cl g n (.obj bT) [.obj self,.int i] H Q:=
 (tK P).cl hg rfl hn fun n hn=>B.attr rfl fun O O O O O=>⟨_,rfl,h⟩
theorem R7.get{ts rows:List PV}(h:R7 ts rows):∀{i:Nat} {t:PV},ts[i]? = some t→∃a b,rows[i]? = some (.tup [t,a,b]):=by
 induction h with
 |nil=>intro i t e;cases e
 |cons h ih=>
  intro i t e
  cases i with
  |zero=>cases e;exact⟨_,_,rfl⟩
  |succ i=>exact ih e
theorem R7.length{ts rows:List PV}(h:R7 ts rows):rows.length=ts.length:=by
 induction h with
 |nil=>rfl
 |cons h ih=>exact congrArg (·+ 1) ih
theorem R7.snoc{ts rows:List PV}(h:R7 ts rows)(t a b:PV):R7 (ts++[t]) (rows++[.tup [t,a,b]]):=by
 induction h with
 |nil=>exact .cons .nil
 |cons h ih=>exact .cons ih
include hg in
theorem RX(B:n6 c self M R H){i:Nat}{t:PV}(e:M.tys[i]? = some t)(hz:M.sz≤sizeLine)(hn:2≤n)(h:Q t H):Cl g n (.obj cL) [.obj self,.int i] H Q:=by
 apply n6.el B
 intro L x B F
 obtain⟨a,b,er⟩:=B.rows.get e
 exact(lJ P).cl hg rfl hn fun n hn=>j6.mk B.self B.dx rfl rfl (MethP.mk B.body B.N5 rfl rfl ((pO P).cl hg rfl hn fun n O=>j6.mk B.body B.N5 rfl rfl
  (V6 (B.at_ .locs _ rfl) (uh (Nat.le_trans (Nat.le_of_lt (List.getElem?_eq_some_iff.mp e).1) (Nat.le_trans B.ok.tys hz))) er h)))
theorem lR.newL(o:lR M){t:PV}(s:Simple t):lR (M.newL t):=by
 refine⟨?_,Nat.le_succ_of_le o.blks,fun b hb=>Nat.le_succ_of_le (o.sts b hb),Nat.le_succ_of_le o.frs,fun f hf=>Nat.le_succ_of_le (o.Jz f hf),o.here,fun y hy=>?_,fun f hf y hy=>by
  show y.1<(M.tys++[t]).length
  rw [List.length_append];exact Nat.lt_succ_of_lt (o.Km f hf y hy)⟩
 ·show(M.tys++[t]).length≤_
  rw [List.length_append];exact Nat.succ_le_succ o.tys
 ·rcases List.mem_append.mp hy with h|h
  ·exact o.simple y h
  ·rw [List.mem_singleton.mp h];exact s
noncomputable def vL.row(x:vL)(t a b:PV):vL:={x with rows:=x.rows++[.tup [t,a,b]]}
theorem RZ{t:PV}(a b:PV)(B:u0 c M L x H)(F:Framed c M L x R H)(s:Simple t):u0 c (M.newL t) L (x.row t a b) (upd H (L .locs) (.list (x.rows++[.tup [t,a,b]])))∧Framed c (M.newL t) L (x.row t a b) R (upd H (L .locs) (.list (x.rows++[.tup [t,a,b]]))):=
 have h2:∀r,r≠.locs→U7 c (M.newL t) L (x.row t a b) r=U7 c M L x r∨U7 c (M.newL t) L (x.row t a b) r=none:=fun r ne=>.inl (by cases r<;>first|rfl|exact absurd rfl ne)
 ⟨B.turn (r0:=.locs) nofun rfl h2 (B.rows.snoc t a b) (Nat.le_succ_of_le B.sp) (B.ok.newL s),F.turn (r0:=.locs) nofun rfl h2⟩
theorem O6{k:Nat}{vs:List Value}(h:vs.length=k+1):∃a r,vs=a::r∧r.length=k:=by
 cases vs with
 |nil=>cases h
 |cons a r=>exact⟨a,r,rfl,Nat.succ.inj h⟩
theorem Sd{vs:List Value}(h:vs.length=0):vs=[]:=List.length_eq_zero_iff.mp h
theorem len2{vs:List Value}(h:vs.length=2):∃a b,vs=[a,b]:=by
 obtain⟨a,r,e1,h1⟩:=O6 h
 obtain⟨b,r',e2,h2⟩:=O6 h1
 exact⟨a,b,by rw [e1,e2,Sd h2]⟩
theorem d4:jt (s7 P).T cJ 4 []:=jt.of (fd:=_) (ps:=_) rfl [] rfl fun vs h S=>by
 obtain⟨a,r,e1,h1⟩:=O6 h
 obtain⟨b,r',e2,h2⟩:=O6 h1
 obtain⟨c,d,e3⟩:=len2 h2
 rw [e1,e2,e3];rfl
theorem d2:jt (s7 P).T R6 2 [.bool true,.none]:=jt.of (fd:=_) (ps:=_) rfl [.bool true,.none] rfl fun vs h S=>by
 obtain⟨a,b,rfl⟩:=len2 h
 rfl
include hg in
theorem yN{t:PV}(B:n6 c self M R H)(s:Simple t)(hz:(M.newL t).sz≤sizeLine)(hn:2≤n)(h:∀H',n6 c self (M.newL t) R H'→Q (.int M.tys.length) H'):Cl g n (.obj R6) [.obj self,t] H Q:=by
 revert h
 apply n6.el B
 intro L x B F h
 have hr:=B.rows.length
 have z:=RZ (.bool true) .none B F s
 refine(iI P).clD hg d2 rfl hn fun n hn=>j6.mk B.self B.dx rfl rfl (MethP.mk B.body B.N5 rfl rfl ((lG P).clD hg d4 rfl hn fun n O=>j6.mk B.body B.N5 rfl rfl (G4 (B.at_ .locs _ rfl) (z6 (B.at_ .locs _ rfl) (hr▸Nat.le_trans B.ok.tys (Nat.le_of_succ_le hz)) ?_))))
 refine j6.mk z.1.body z.1.N5 rfl rfl (V5 (k:=M.tys.length+1) ((len_list (c7 ..)).trans (congrArg some (List.length_append.trans (congrArg (·+ 1) hr)))) (uh (Nat.le_trans (Nat.succ_le_succ B.ok.tys) hz)) (XM (Q:=Q) (h _ ⟨L,_,rfl,z.1,z.2⟩)))
end
section
variable{P:Params}{g:G (s7 P).T}(hg:v8 g){n:Nat}{m:Loc}{c:Fix}{M M':Mem}{L L':Role→Addr}{x x':vL}{H H' R:AH}{Q:PV→AH→Prop}{W:Loc→AH→Prop}{self:Addr}
include hg in
theorem uo{t w b:PV}(s:U5 t)(hn:1≤n)(h:Q (.bool true) H):Cl g n (.obj wK) [t,w,b] H Q:=(Fi P).cl hg rfl hn fun n O=>by cases s<;>exact h
include hg in
theorem BZ{l:List PV}(hn:1≤n)(h:Q (.tup l) H):Cl g n (.obj rZ) [.tup [.str 9,.tup l]] H Q:=(Bt P).cl hg rfl hn fun n O=>h
theorem U5.d{t:PV}(s:U5 t):t.isD=true:=by cases s<;>rfl
theorem Hv{l:List PV}(h:∀t∈l,PV.isD t=true):PV.eV l=true:=by
 induction l with
 |nil=>rfl
 |cons x l ih=>exact Bool.and_eq_true_iff.mpr ⟨h x (.head _),ih fun t ht=>h t (.tail _ ht)⟩
theorem Simple.d{t:PV}(s:Simple t):t.isD=true:=by
 cases s with
 |one s=>exact s.d
 |@tup l h _=>
  show(true&&(PV.eV l&&true))=true
  rw [Hv fun t ht=>(h t ht).d];rfl
noncomputable def Sg:PV→Nat
 |.tup [_,.tup l]=>l.length+1
 |_=>1
noncomputable def wt:List PV→Nat
 | []=>0
 |t::l=>Sg t+wt l
set_option tactic.hygienic true in
theorem Ob(p:PV):1≤Sg p:=by
 cases p<;>try exact Nat.le_refl 1
 rename_i l
 cases l with
 |nil=>exact Nat.le_refl 1
 |cons a l=>
  cases l with
  |nil=>exact Nat.le_refl 1
  |cons b l=>
   cases l with
   |cons _ _=>cases b<;>exact Nat.le_refl 1
   |nil=>cases b<;>first|exact Nat.le_refl 1|exact Nat.succ_le_succ (Nat.zero_le _)
theorem Oc(l k:List PV):wt (l++k)=wt l+wt k:=by
 induction l with
 |nil=>exact(Nat.zero_add _).symm
 |cons x l ih=>show Sg x+wt (l++k)=Sg x+wt l+wt k;rw [ih,Nat.add_assoc]
theorem JC{l:List PV}(h:∀t∈l,U5 t):wt l=l.length:=by
 induction l with
 |nil=>rfl
 |cons x l ih=>
  show Sg x+wt l=_
  rw [ih fun t ht=>h t (.tail _ ht),show Sg x=1 by cases h x (.head _)<;>rfl,List.length_cons,Nat.add_comm]
theorem Od:∀l:List PV,l.length≤wt l
 | []=>Nat.le_refl _
 |x::l=>by
  show l.length+1≤Sg x+wt l
  have h1:=Ob x
  have:=Od l
  lia
inductive NdI(m0:Loc)(a1:Addr)(H:AH)(j:Nat)(m':Loc)(H':AH):Prop
 |mk (l:List PV) (hm:m'=m0∨∃q,m'=m0++[(64,q)]) (e:H' a1=some (.list l)) (hs:∀t∈l,Simple t) (hw:wt l≤j) (hj:j≤20) (E:Ext H H'):NdI m0 a1 H j m' H'
include hg in
theorem ji{t w:PV}(s:Simple t)(hn:2≤n)(h:∀H',Ext H H'→Q (.bool false) H'):Cl g n (.obj kO) [t,w] H Q:=by
 refine(vA P).cl hg rfl hn fun n hn a0 h0 a1 h1=>?_
 have ne:a1≠a0:=fun z=>by rw [z,c7] at h1;cases h1
 have h1':H a1=none:=by rw [← h1,d9 ne]
 let m0:Loc:=[(6,t),(37,w),(62,.obj a0),(63,.obj a1)]
 refine xW.mk (NdI m0 a1 H) 20 ⟨[t],.inl rfl,c7 ..,fun y hy=>List.mem_singleton.mp hy▸s,?_,Nat.le_refl _,Ext.upd h1' (Ext.new h0)⟩ ?_
 ·cases s with
  |one s=>cases s<;>exact(show 1+0≤20 by decide)
  |@tup l h k=>show l.length+1+0≤20;exact Nat.lt_of_le_of_lt ‹_› (by decide)
 intro j m' H' z
 obtain⟨l,hm,e,hs,hw,hj,E⟩:=z
 have lk:m'.lookup 63=some (.obj a1):=by rcases hm with rfl|⟨q,rfl⟩<;>rfl
 refine d8 lk (Vl e (Hv fun t ht=>(hs t ht).d) ?_)
 rcases List.eq_nil_or_concat l with rfl|⟨l,p,rfl⟩
 ·exact h _ E
 rw [List.concat_eq_append] at *
 rw [Oc] at hw
 have hw:wt l+(Sg p+0)≤j:=hw
 have hl:=Od l
 have hsz:l.length+1≤sizeLine:=by have:=Ob p;rw [sizeLine_eq];lia
 refine V3 (by cases l<;>rfl) (d8 lk (G4 e (DN e hsz ?_)))
 have hs':∀t∈l,Simple t:=fun t ht=>hs t (List.mem_append_left _ ht)
 have m2:j8 64 p m'=m0++[(64,p)]:=by rcases hm with rfl|⟨q,rfl⟩<;>rfl
 show K4 g n _ (j8 64 p m') _ _
 rw [m2]
 cases hs p (List.mem_append_right _ (.head _)) with
 |one hp=>
  have hw1:Sg p=1:=by cases hp<;>rfl
  have fin:∃i,i<j∧NdI m0 a1 H i (m0++[(64,p)]) (upd H' a1 (.list l)):=⟨j-1,by lia,l,.inr ⟨_,rfl⟩,c7 ..,hs',by lia,by lia,Ext.upd h1' E⟩
  cases hp<;>exact fin
 |@tup ts h k=>
  have hw1:wt l+(ts.length+1+0)≤j:=hw
  refine G4 (c7 ..) (BZ hg hn (nq (c7 ..) (.inl rfl) (by rw [sizeLine_eq];lia) ?_))
  exact⟨j-1,by lia,l++ts,.inr ⟨_,rfl⟩,c7 ..,fun y hy=>(List.mem_append.mp hy).elim (hs' y) fun z=>.one (h y z),by rw [Oc,JC h];exact Mine.Internal.qh2 ‹_›,by exact Nat.le_trans (Nat.sub_le ..) ‹_›,Ext.upd h1' (Ext.upd h1' E)⟩
end
section
variable{P:Params}{g:G (s7 P).T}(hg:v8 g){n:Nat}{m:Loc}{c:Fix}{M M':Mem}{L L':Role→Addr}{x x':vL}{H H' R:AH}{Q:PV→AH→Prop}{W:Loc→AH→Prop}{self:Addr}
theorem bK{α:Type}(f:α)(fs:List α)(i:Nat):(f::fs).reverse[i]? = if i=fs.length then some f else fs.reverse[i]? := by
 rw [List.reverse_cons]
 by_cases h:i<fs.length
 ·rw [List.getElem?_append_left (by rw [List.length_reverse];exact h),if_neg (Nat.ne_of_lt h)]
 ·rw [List.getElem?_append_right (by rw [List.length_reverse];exact Nat.le_of_not_lt h),List.length_reverse]
  by_cases e:i=fs.length
  ·rw [if_pos e,e,Nat.sub_self];rfl
  ·rw [if_neg e]
   exact(List.getElem?_eq_none (show 1≤i-fs.length by lia)).trans (List.getElem?_eq_none (by rw [List.length_reverse];exact Nat.le_of_not_lt h)).symm
noncomputable def pC(L:Role→Addr)(k:Nat)(a:Addr):Role→Addr
 |.fr i=>if i=k then a else L (.fr i)
 |r=>L r
theorem lR.push(o:lR M):lR M.push:=by
 refine⟨Nat.le_succ_of_le o.tys,Nat.le_succ_of_le o.blks,fun b hb=>Nat.le_succ_of_le (o.sts b hb),Nat.succ_le_succ o.frs,fun f hf=>?_,o.here,o.simple,fun f hf y hy=>?_⟩
 ·rcases List.mem_cons.mp hf with rfl|h
  ·exact Nat.zero_le _
  ·exact Nat.le_succ_of_le (o.Jz f h)
 ·rcases List.mem_cons.mp hf with rfl|h
  ·cases hy
  ·exact o.Km f h y hy
set_option tactic.hygienic true in
theorem Ca{a:Addr}(r:Role)(h1:r≠.frs)(h2:r≠.fr M.frs.length):U7 c M.push (pC L M.frs.length a) x r=U7 c M L x r∧pC L M.frs.length a r=L r:=by
 cases r<;>try exact⟨rfl,rfl⟩
 case frs=>exact absurd rfl h1
 case blks=>exact⟨congrArg (fun z=>some (q7.list z)) (jG _ _ fun O O O=>rfl),rfl⟩
 case fr i=>
  have ne:i≠M.frs.length:=fun z=>h2 (z▸rfl)
  refine⟨?_,if_neg ne⟩
  show Option.map _ ([]::M.frs).reverse[i]? = _
  rw [bK,if_neg ne];rfl
theorem Sq(B:u0 c M L x H)(F:Framed c M L x R H){a:Addr}(ha:H a=none):u0 c M.push (pC L M.frs.length a) x (upd (upd H a (.list [])) (L .frs) (.list (R4 L 0 M.frs.length++[.obj a])))∧
  Framed c M.push (pC L M.frs.length a) x R (upd (upd H a (.list [])) (L .frs) (.list (R4 L 0 M.frs.length++[.obj a]))):=by
 have hk:=B.at_ .frs _ rfl
 have na:a≠L .frs:=fun z=>by rw [z,hk] at ha;cases ha
 have key:∀y o,H y=some o→y≠L .frs→upd (upd H a (.list [])) (L .frs) (.list (R4 L 0 M.frs.length++[.obj a])) y=some o:=fun y o e q=>by
  rw [d9 q];exact Ext.new ha y o e
 have wb:pC L M.frs.length a (.fr M.frs.length)=a:=if_pos rfl
 have st:∀r,U7 c M L x r≠none→H (L r)≠none:=fun r h=>by
  cases e:U7 c M L x r with
  |none=>exact absurd e h
  |some o=>rw [B.at_ r o e];exact nofun
 have old:∀r,r≠.fr M.frs.length→U7 c M.push (pC L M.frs.length a) x r≠none→U7 c M L x r≠none∧pC L M.frs.length a r=L r:=fun r h v=>by
  by_cases q:r = .frs
  ·subst q;exact⟨nofun,rfl⟩
  ·obtain⟨e1,e2⟩:=Ca (c:=c) (L:=L) (x:=x) (a:=a) r q h
   exact⟨e1▸v,e2⟩
 refine⟨⟨fun r r' h h' e=>?_,fun r o e=>?_,B.rows,Nat.le_succ_of_le B.sp,B.ok.push⟩,fun y o e=>⟨key y o (F y o e).1 fun z=>(F y o e).2 .frs nofun z.symm,fun r h z=>?_⟩⟩
 ·by_cases q:r = .fr M.frs.length<;>by_cases q':r' = .fr M.frs.length
  ·rw [q,q']
  ·obtain⟨i,j⟩:=old r' q' h'
   rw [q,wb,j] at e
   exact absurd ha (e▸st r' i)
  ·obtain⟨i,j⟩:=old r q h
   rw [q',wb,j] at e
   exact absurd ha (e.symm▸st r i)
  ·obtain⟨i,j⟩:=old r q h
   obtain⟨i',j'⟩:=old r' q' h'
   exact B.inj r r' i i' (by rw [← j,← j',e])
 ·by_cases q1:r = .frs
  ·subst q1
   show upd _ (L .frs) _ (L .frs)=_
   rw [c7,← e]
   show _=some (q7.list (R4 _ 0 (M.frs.length+1)))
   rw [jF,Nat.zero_add,wb,jH M.frs.length 0 fun j O h=>?_]
   exact(if_neg (show j≠M.frs.length by lia)).symm
  ·by_cases q2:r = .fr M.frs.length
   ·subst q2
    rw [wb,d9 na,c7,← e]
    show _=Option.map _ ([]::M.frs).reverse[_]?
    rw [bK,if_pos rfl];rfl
   ·obtain⟨e1,e2⟩:=Ca (c:=c) (L:=L) (x:=x) (a:=a) r q1 q2
    rw [e2]
    refine key _ _ (B.at_ r o (e1▸e)) fun z=>q1 (B.inj r .frs (by rw [← e1,e];exact nofun) nofun z)
 ·by_cases q:r = .fr M.frs.length
  ·rw [q,wb] at z
   rw [z,(F y o e).1] at ha;cases ha
  ·obtain⟨i,j⟩:=old r q h
   exact(F y o e).2 r i (by rw [← j];exact z)
include hg in
theorem W5(B:n6 c self M R H)(hz:M.push.sz≤sizeLine)(hn:1≤n)(h:∀H',n6 c self M.push R H'→Q (.int M.frs.length) H'):Cl g n (.obj jc) [.obj self] H Q:=by
 revert h
 apply n6.el B
 intro L x B F h
 refine(tM P).cl hg rfl hn fun n O=>j6.mk B.self B.dx rfl rfl (G4 (B.at_ .frs _ rfl) fun a ha=>z6 (Ext.new ha _ _ (B.at_ .frs _ rfl)) (by rw [cW];exact Nat.le_trans B.ok.frs (Nat.le_of_succ_le hz)) ?_)
 have z:=Sq B F ha
 exact j6.mk z.1.self z.1.dx rfl rfl (V5 (k:=M.frs.length+1) ((len_list (c7 ..)).trans (congrArg some (by rw [List.length_append,cW];rfl))) (uh (Nat.le_trans (Nat.succ_le_succ B.ok.frs) hz)) (XM (Q:=Q) (h _ ⟨pC L M.frs.length a,x,rfl,z.1,z.2⟩)))
theorem Vs(B:u0 c M L x H){f:List (Nat×Bool)}{fs:List (List (Nat×Bool))} (e:M.frs=f::fs) (hi:M.sz≤sizeLine):DK (R4 L 0 M.frs.length) (-1)=some (.obj (L (.fr fs.length)))∧H (L (.fr fs.length))=some (.list (f.map yL)):=by
 have hl:M.frs.length=fs.length+1:=by rw [e];rfl
 refine⟨?_,B.fr (by rw [e,bK,if_pos rfl])⟩
 unfold DK
 rw [cW,hl,if_neg (by decide),if_pos ⟨by lia,by decide⟩]
 rw [show((-1:Int)+((fs.length+1:Nat):Int)).toNat=fs.length by lia,wN L _ _ _ (Nat.lt_succ_self _),Nat.zero_add]
set_option tactic.hygienic true in
theorem lR.add(o:lR M)(y:Nat×Bool)(hy:y.1<M.tys.length):lR (M.add y):=by
 refine⟨Nat.le_succ_of_le o.tys,Nat.le_succ_of_le o.blks,fun b hb=>Nat.le_succ_of_le (o.sts b hb),?_,fun f hf=>?_,o.here,o.simple,fun f hf z hz=>?_⟩
 ·have:=o.frs
  unfold Mem.add
  dsimp only
  split<;>rename_i e<;>rw [e] at this<;>exact Nat.le_succ_of_le this
 ·unfold Mem.add at hf ⊢
  dsimp only at hf ⊢
  split at hf
  ·rename_i f' fs e
   rcases List.mem_cons.mp hf with rfl|h
   ·rw [List.length_append];exact Nat.succ_le_succ (o.Jz f' (by rw [e];exact .head _))
   ·exact Nat.le_succ_of_le (o.Jz f (by rw [e];exact .tail _ h))
  ·cases hf
 ·show z.1<M.tys.length
  unfold Mem.add at hf
  dsimp only at hf
  split at hf
  ·rename_i f' fs e
   rcases List.mem_cons.mp hf with rfl|h
   ·rcases List.mem_append.mp hz with h|h
    ·exact o.Km f' (by rw [e];exact .head _) z h
    ·rw [List.mem_singleton.mp h];exact hy
   ·exact o.Km f (by rw [e];exact .tail _ h) z hz
  ·cases hf
set_option tactic.hygienic true in
theorem Ss{f:List (Nat×Bool)}{fs:List (List (Nat×Bool))} (e:M.frs=f::fs) (y:Nat×Bool) (r:Role) (h:r≠.fr fs.length):U7 c (M.add y) L x r=U7 c M L x r:=by
 have e2:(M.add y).frs=(f++[y])::fs:=by unfold Mem.add;dsimp only;rw [e]
 cases r<;>try rfl
 case frs=>show some (q7.list (R4 L 0 (M.add y).frs.length))=some (q7.list (R4 L 0 M.frs.length));rw [e2,e];rfl
 case fr i=>
  have ne:i≠fs.length:=fun z=>h (z▸rfl)
  show Option.map _ (M.add y).frs.reverse[i]? = Option.map _ M.frs.reverse[i]?
  rw [e2,e,bK,bK,if_neg ne,if_neg ne]
include hg in
theorem Sv(B:u0 c M L x H)(F:Framed c M L x R H){f:List (Nat×Bool)}{fs:List (List (Nat×Bool))} (e:M.frs=f::fs) (y:Nat×Bool) (hy:y.1<M.tys.length):n6 c (L .self) (M.add y) R (upd H (L (.fr fs.length)) (.list (f.map yL++[yL y]))):=by
 have e2:(M.add y).frs=(f++[y])::fs:=by unfold Mem.add;dsimp only;rw [e]
 refine n6.turn (M':=M.add y) (r0:=.fr fs.length) B F x ?_ ?_ (fun r ne=>.inl (Ss e y r ne)) B.rows (Nat.le_succ_of_le B.sp) (B.ok.add y hy)
 ·show Option.map _ M.frs.reverse[_]? ≠none
  rw [e,bK,if_pos rfl];exact nofun
 ·show Option.map _ (M.add y).frs.reverse[_]? = _
  rw [e2,bK,if_pos rfl]
  show some (q7.list ((f++[y]).map yL))=_
  rw [List.map_append];rfl
include hg in
theorem uq{i:Nat}(B:n6 c self M R H)(hi:i<M.tys.length)(hf:M.frs≠[])(hz:((M.tick.put (.tup [.str 129,.int i])).add (i,true)).sz≤sizeLine) (hn:4≤n) (h:∀H',n6 c self ((M.tick.put (.tup [.str 129,.int i])).add (i,true)) R H'→Q .none H'):Cl g n (.obj cM) [.obj self,.int i] H Q:=by
 refine(lK P).cl hg rfl hn fun n hn=>B.me rfl rfl (yM hg B (Nat.le_of_succ_le hz) hn fun H B=>?_)
 revert h
 apply n6.el B
 intro L x B F h
 obtain⟨f,fs,e⟩:=List.exists_cons_of_ne_nil hf
 have z:=Vs B (f:=f) (fs:=fs) e (Nat.le_of_succ_le hz)
 exact j6.mk B.self B.dx rfl rfl (kh (B.at_ .frs _ rfl) z.1 (G4 z.2 (z6 z.2 (by rw [List.length_map];exact Nat.le_trans (B.ok.Jz f (by rw [show(M.tick.put _).frs=M.frs from rfl,e];exact .head _)) (Nat.le_of_succ_le hz)) (h _ (Sv hg B F (f:=f) (fs:=fs) e (i,true) hi)))))
noncomputable def Mem.temp(M:Mem)(t:PV):Mem:=((M.newL t).tick.put (.tup [.str 129,.int M.tys.length])).add (M.tys.length,true)
include hg in
theorem lU{t:PV}(B:n6 c self M R H)(s:Simple t)(hf:M.frs≠[])(hz:(M.temp t).sz≤sizeLine)(hn:5≤n)(h:∀H',n6 c self (M.temp t) R H'→Q (.int M.tys.length) H'):Cl g n (.obj Y7) [.obj self,t] H Q:=
 (fV P).cl hg rfl hn fun n hn=>B.me rfl rfl (yN hg B s (Nat.le_of_add_right_le (k:=3) hz) (leB hn rfl) fun H B=>B.me rfl rfl (uq hg B (by show _<(M.tys++[t]).length;rw [List.length_append];exact Nat.lt_succ_self _) hf hz hn h))
end
noncomputable def Mem.fin:Mem→List (Nat×Bool)→Mem
 |M,[]=>M
 |M,(i,true)::r=>Mem.fin (M.tick.put (.tup [.str 134,.int (i:Int)])) r
 |M,(_,false)::r=>Mem.fin M r
noncomputable def Mem.pop(M:Mem):Mem:=(M.fin (M.frs.headD []).reverse).drop
section
variable{P:Params}{g:G (s7 P).T}(hg:v8 g){n:Nat}{m:Loc}{c:Fix}{M M':Mem}{L L':Role→Addr}{x x':vL}{H H' R:AH}{Q:PV→AH→Prop}{W:Loc→AH→Prop}{self:Addr}
theorem dU:∀(l:List (Nat×Bool)) (M:Mem),(M.fin l).frs=M.frs∧(M.fin l).tys=M.tys∧(M.fin l).here=M.here∧(M.fin l).sz≤M.sz+2*l.length∧M.sz≤(M.fin l).sz
 | [],M=>⟨rfl,rfl,rfl,Nat.le_refl _,Nat.le_refl _⟩
 | (i,true)::r,M=>by
  obtain⟨a,b,h,d,e⟩:=dU r (M.tick.put (.tup [.str 134,.int (i:Int)]))
  have d:_≤M.sz+1+1+2*r.length:=d
  have e:M.sz+1+1≤_:=e
  refine⟨a,b,h,?_,?_⟩
  ·show(Mem.fin _ r).sz≤M.sz+2*(r.length+1);lia
  ·show M.sz≤(Mem.fin _ r).sz;lia
 | (_,false)::r,M=>by
  obtain⟨a,b,h,d,e⟩:=dU r M
  refine⟨a,b,h,?_,e⟩
  show(Mem.fin _ r).sz≤M.sz+2*(r.length+1);lia
theorem yO(l:List (Nat×Bool))(M:Mem):M.sz≤(M.fin l).sz:=(dU l M).2.2.2.2
include hg in
theorem JD{p:PV}{full:List PV}{m0:Loc}{Q':Out→Loc→AH→Prop}(hn:5≤n)(hm0:m0=[(1,.obj self),(130,p)])(fin:∀m' H',n6 c self M' R H'→Q' .next m' H'):∀(r:List (Nat×Bool)) (M:Mem) (H:AH) (m':Loc),n6 c self M R H→(m'=m0∨∃a b,m'=m0++[(77,a),(131,b)])→
  (∀y∈r,y.1<M.tys.length)→(M.fin r).sz≤sizeLine→M.fin r=M'→Ef (fun q m H Q=>(Tg.tup [.name 77,.name 131]).w g n q m H Q) (fun m H Q=>K4 g n [.iff (.call 132 [.meth (.loc 1) 112 [.loc 77],.attr (.loc 1) 37]) [.bad,.bad,.bad] [],.iff (.loc 131) [.expr (.meth (.loc 1) 128 [.tup [.str 134,.loc 77]])] []] m H Q) (.lst full) full Q' (r.map yL) m' H:=by
 intro r
 induction r with
 |nil=>exact fun M H m' B O O O e=>fin m' H (e▸B)
 |cons y r ih=>
  intro M H m' B hm hv hz e
  obtain⟨i,b⟩:=y
  have hi:i<M.tys.length:=hv _ (.head _)
  have m2:j8 131 (.bool b) (j8 77 (.int (i:Int)) m')=m0++[(77,.int (i:Int)),(131,.bool b)]:=by
   rcases hm with rfl|⟨a,b,rfl⟩<;>subst hm0<;>rfl
  show K4 g n _ (j8 131 (.bool b) (j8 77 (.int (i:Int)) m')) _ _
  rw [m2]
  have es:M.tys[i]? = some M.tys[i]:=List.getElem?_eq_getElem hi
  have hs:Simple M.tys[i]:=B.elim fun L z=>z.elim fun x z=>z.2.1.ok.simple _ (List.getElem_mem hi)
  have h0:=Nat.le_trans (yO ((i,b)::r) M) hz
  subst hm0
  refine B.me rfl rfl (RX hg B es h0 (leB hn rfl) (B.world (ji hg hs (leB hn rfl) fun H' E=>?_)))
  have B:=B.ext E
  cases b with
  |false=>exact ih M H' _ B (.inr ⟨_,_,rfl⟩) (fun y hy=>hv y (.tail _ hy)) hz e
  |true=>exact B.me rfl rfl (yM hg B (Nat.le_trans (yO r _) hz) (leB hn rfl) fun H' B=>ih _ H' _ B (.inr ⟨_,_,rfl⟩) (fun y hy=>hv y (.tail _ hy)) hz e)
include hg in
theorem finish_ok{p:PV}{l:List (Nat×Bool)}(B:n6 c self M R H)(hp:v7 H p=some (l.map yL))(hv:∀y∈l,y.1<M.tys.length)(hl:l.length≤sizeLine)(hz:(M.fin l.reverse).sz≤sizeLine)(hn:6≤n)(h:∀H',n6 c self (M.fin l.reverse) R H'→Q .none H'):Cl g n (.obj eF) [.obj self,p] H Q:=by
 refine(nY P).cl hg rfl hn fun n hn=>d8 hp (V3 (Nat.ble_eq_true_of_le (by rw [List.length_map];exact hl)) ?_)
 rw [← List.map_reverse]
 exact JD hg (m0:=[(1,.obj self),(130,p)]) hn rfl (fun m' H' B=>h H' B) l.reverse M H _ B (.inl rfl) (fun y hy=>hv y (List.mem_reverse.mp hy)) hz rfl
theorem XQ{f:List (Nat×Bool)}{fs:List (List (Nat×Bool))} (e:M.frs=f::fs):M.pop=(M.fin f.reverse).drop:=by unfold Mem.pop;rw [e];rfl
set_option tactic.hygienic true in
theorem pop_at{M':Mem}{f:List (Nat×Bool)}{fs:List (List (Nat×Bool))} (B:u0 c M' L x H) (F:Framed c M' L x R H) (e:M'.frs=f::fs):n6 c (L .self) M'.drop R (upd H (L .frs) (.list (R4 L 0 fs.length))):=by
 have img:∀r,r≠.frs→U7 c M'.drop L x r=U7 c M' L x r∨U7 c M'.drop L x r=none:=fun r ne=>by
  cases r<;>try exact .inl rfl
  case frs=>exact absurd rfl ne
  case fr i=>
   show Option.map _ M'.frs.tail.reverse[i]? = Option.map _ M'.frs.reverse[i]? ∨Option.map _ M'.frs.tail.reverse[i]? = none
   rw [e,bK]
   by_cases q:i=fs.length
   ·refine .inr ?_
    show Option.map _ fs.reverse[i]? = none
    rw [List.getElem?_eq_none (by rw [List.length_reverse,q];exact Nat.le_refl _)];rfl
   ·rw [if_neg q];exact .inl rfl
 have o:=B.ok
 refine n6.turn (r0:=.frs) B F x nofun ?_ img B.rows B.sp ⟨o.tys,o.blks,o.sts,?_,fun z hz=>o.Jz z (List.mem_of_mem_tail hz),o.here,o.simple,fun z hz=>o.Km z (List.mem_of_mem_tail hz)⟩
 ·show some (q7.list (R4 L 0 M'.frs.tail.length))=_
  rw [e];rfl
 ·show M'.frs.tail.length≤_
  rw [List.length_tail];exact Nat.le_trans (Nat.sub_le _ _) o.frs
theorem Sw(B:n6 c self M R H){f:List (Nat×Bool)}{fs:List (List (Nat×Bool))} (e:M.frs=f::fs) (hi:M.sz≤sizeLine) (h:∀a,H a=some (.list (f.map yL))→(∀y∈f,y.1<M.tys.length)∧f.length≤M.sz→Q (.obj a) H):j6 g 118 (fun p H=>SubL g p (.int (-1)) H Q) (.obj self) H:=by
 apply n6.el B
 intro L x B F
 have z:=Vs B e hi
 exact .mk B.self B.dx rfl rfl (kh (B.at_ .frs _ rfl) z.1 (h _ z.2 ⟨B.ok.Km f (by rw [e];exact .head _),B.ok.Jz f (by rw [e];exact .head _)⟩))
theorem Sx(B:n6 c self M R H){f:List (Nat×Bool)}{fs:List (List (Nat×Bool))} (e:M.frs=f::fs) (hi:M.sz≤sizeLine) (h:∀q H',n6 c self M.drop R H'→Q q H'):j6 g 118 (fun p H=>pJ H "list" p∧Cl g n (.blt "list.pop") [p] H Q) (.obj self) H:=by
 revert h
 apply n6.el B
 intro L x B F h
 have h5:H (L .frs)=some (.list (R4 L 0 fs.length++[.obj (L (.fr fs.length))])):=by
  rw [B.at_ .frs _ rfl,e]
  show some (q7.list (R4 L 0 (fs.length+1)))=_
  rw [jF,Nat.zero_add]
 exact .mk B.self B.dx rfl rfl (G4 h5 (DN h5 (by have:=B.ok.frs;rw [e] at this;rw [cW];exact Nat.le_trans this hi) (h _ _ (pop_at B F e))))
include hg in
theorem XR{f:List (Nat×Bool)}{fs:List (List (Nat×Bool))} (B:n6 c self M R H) (e:M.frs=f::fs) (hz:M.pop.sz≤sizeLine) (hn:7≤n) (h:∀H',n6 c self M.pop R H'→Q .none H'):Cl g n (.obj dI) [.obj self] H Q:=by
 rw [XQ e] at hz h
 have h0:M.sz≤sizeLine:=Nat.le_trans (yO f.reverse M) hz
 exact(vG P).cl hg rfl hn fun n hn=>B.me rfl rfl (Sw B e h0 fun a ea z=>finish_ok hg B (I3 ea) z.1 (Nat.le_trans z.2 h0) hz hn fun H B=>Sx B ((dU f.reverse M).1.trans e) hz fun O H B=>h H B)
end
section
variable{c:Fix}{M:Mem}{self:Addr}{R R' H:AH}{D:Addr}{o o':q7}
theorem n6.ac5(B:n6 c self M R' H)(h:∀b o,R b=some o→R' b=some o):n6 c self M R H:=by
 obtain⟨L,x,e,B,F⟩:=B
 exact⟨L,x,e,B,fun b o z=>F b o (h b o z)⟩
theorem n6.newR(B:n6 c self M R H)(h:H D=none):n6 c self M (upd R D o) (upd H D o):=by
 obtain⟨L,x,e,B,F⟩:=B
 refine⟨L,x,e,B.ext (Ext.new h),fun b q z=>?_⟩
 by_cases k:b=D
 ·subst k
  rw [c7] at z ⊢
  exact⟨z,fun r hr w=>by
   cases i:U7 c M L x r with
   |none=>exact hr i
   |some o'=>rw [← w,B.at_ r o' i] at h;cases h⟩
 ·rw [d9 k] at z
  exact⟨Ext.new h b q (F b q z).1,(F b q z).2⟩
theorem n6.ac6(B:n6 c self M (upd R D o) H):n6 c self M (upd R D o') (upd H D o'):=by
 obtain⟨L,x,e,B,F⟩:=B
 have hD:=(F D o (c7 ..)).2
 refine⟨L,x,e,⟨B.inj,fun r q i=>?_,B.rows,B.sp,B.ok⟩,fun b q z=>?_⟩
 ·rw [d9 (hD r (by rw [i];exact nofun))];exact B.at_ r q i
 ·by_cases k:b=D
  ·subst k
   rw [c7] at z ⊢
   exact⟨z,hD⟩
  ·rw [d9 k] at z ⊢
   exact F b q (by rw [d9 k];exact z)
theorem n6.ap7(B:n6 c self M (upd R D o) H)(h:R D=none):n6 c self M R (del H D):=by
 obtain⟨L,x,e,B,F⟩:=B
 have hD:=(F D o (c7 ..)).2
 refine⟨L,x,e,⟨B.inj,fun r q i=>?_,B.rows,B.sp,B.ok⟩,fun b q z=>?_⟩
 ·rw [del,if_neg (hD r (by rw [i];exact nofun))];exact B.at_ r q i
 ·have ne:b≠D:=fun k=>by rw [k,h] at z;cases z
  rw [del,if_neg ne]
  exact F b q (by rw [d9 ne];exact z)
theorem n6.inR(B:n6 c self M (upd R D o) H):H D=some o:=by
 obtain⟨L,x,e,B,F⟩:=B
 exact(F D o (c7 ..)).1
theorem n6.ac7(B:n6 c self M R H)(h:H D=none):R D=none:=by
 obtain⟨L,x,e,B,F⟩:=B
 cases k:R D with
 |none=>rfl
 |some o=>rw [(F D o k).1] at h;cases h
theorem n6.ap8(B:n6 c self M (upd R D o) H)(h:R D=none):n6 c self M R H:=B.ac5 fun b q z=>by
 rw [d9 fun e=>by rw [e,h] at z;cases z];exact z
end
noncomputable def lV(M:Mem):Nat:=(M.frs.map List.length).sum
noncomputable def Mem.phi(M:Mem):Nat:=M.sz+2*lV M
noncomputable def z7(p:PV):PV:=.tup [.str 143,p]
noncomputable def I8(i:Nat):PV:=.tup [.int (i:Int),.tup []]
noncomputable def Mem.asg(M:Mem)(p rv:PV):Mem:=M.tick.put (.tup [.str 159,p,rv])
noncomputable def Mem.cls(M:Mem)(t:PV):Mem:=M.tick.close t
noncomputable def bw(o:PV):PV:=.tup [.str 171,o]
noncomputable def J7:PV:=.tup [.str 9,.tup []]
theorem Hw(M:Mem)(t:PV):(M.cls t).phi=M.phi+2:=by
 show M.sz+1+1+2*lV M=M.sz+2*lV M+2;lia
theorem Oe(M:Mem):M.o8.phi=M.phi+1:=by
 show M.sz+1+2*lV M=M.sz+2*lV M+1;exact Nat.add_right_comm ..
theorem Og(M:Mem):M.push.phi=M.phi+1:=by
 show M.sz+1+2*(0+lV M)=M.sz+2*lV M+1;lia
theorem Oh{M:Mem}(h:M.frs≠[])(t:PV):(M.temp t).phi=M.phi+6:=by
 obtain⟨f,fs,e⟩:=List.exists_cons_of_ne_nil h
 have e2:(M.temp t).frs=(f++[(M.tys.length,true)])::fs:=by
  show(match M.frs with|f::fs=>(f++[(M.tys.length,true)])::fs | []=>[])=_
  rw [e]
 show M.sz+1+1+1+1+2*lV (M.temp t)=M.sz+2*lV M+6
 unfold lV
 rw [e2,e]
 simp only [List.map_cons,List.sum_cons,List.length_append,List.length_singleton]
 lia
theorem Sy{M:Mem}{f:List (Nat×Bool)}{fs:List (List (Nat×Bool))} (e:M.frs=f::fs):M.pop.phi≤M.phi:=by
 obtain⟨f1,f2,f3,f4,f5⟩:=dU f.reverse M
 have pp:M.pop=(M.fin f.reverse).drop:=by unfold Mem.pop;rw [e];rfl
 have h1:M.pop.frs=fs:=by rw [pp];show(M.fin f.reverse).frs.tail=_;rw [f1,e];rfl
 have h2:M.pop.sz=(M.fin f.reverse).sz:=by rw [pp];rfl
 unfold Mem.phi lV
 rw [h1,h2,e]
 rw [List.length_reverse] at f4
 simp only [List.map_cons,List.sum_cons]
 lia
theorem XS(M:Mem):M.sz≤M.phi:=Nat.le_add_right _ _
noncomputable def Hx(i y:Nat):PV:=.tup [.str 85,z7 (I8 i),.tup [.tup [.bool false,.int (y+1:Nat)]],.int (y:Int)]
noncomputable def Q6(b:Nat):PV:=.tup [.str 84,.int (b:Int)]
noncomputable def G9(i:Nat)(M:Mem):Mem:=M.o8.o8.cls (Hx i M.blks.length)
noncomputable def lW(M:Mem)(o x t:PV):Mem:=(M.o8.cls (.tup [.str 88,o,x,t,.int M.blks.length])).to M.blks.length
noncomputable def Mem.Hy(M:Mem)(b:Nat):Mem:=(M.cls (Q6 b)).to b
theorem X6(M:Mem):M.o8.blks.length=M.blks.length+1:=List.length_append
theorem lZ(M:Mem)(t:PV):(M.cls t).blks.length=M.blks.length:=List.length_modify ..
theorem SJ(M:Mem)(p rv:PV):(M.asg p rv).blks.length=M.blks.length:=List.length_modify ..
section
variable{P:Params}{g:G (s7 P).T}(hg:v8 g){n:Nat}{m:Loc}{c:Fix}{M M':Mem}{L L':Role→Addr}{x x':vL}{H H' R:AH}{Q:PV→AH→Prop}{W:Loc→AH→Prop}{self:Addr}
include hg in
theorem M6{p rv:PV}(B:n6 c self M R H)(hz:(M.asg p rv).sz≤sizeLine)(hn:4≤n)(h:∀H',n6 c self (M.asg p rv) R H'→Q .none H'):Cl g n (.obj W9) [.obj self,p,rv] H Q:=
 (eZ P).cl hg rfl hn fun n hn=>B.me rfl rfl (yM hg B hz hn h)
include hg in
theorem bL{p:PV}(B:n6 c self M R H)(hz:(M.asg p J7).sz≤sizeLine)(hn:5≤n)(h:∀H',n6 c self (M.asg p J7) R H'→Q .none H'):Cl g n (.obj T8) [.obj self,p] H Q:=
 (cR P).cl hg rfl hn fun n hn=>B.me rfl rfl (M6 hg B hz hn h)
include hg in
theorem vN{p t:PV}(B:n6 c self M R H)(s:U5 t)(hn:2≤n)(h:Q (z7 p) H):Cl g n (.obj Q5) [.obj self,p,t] H Q:=
 (aO P).cl hg rfl hn fun n hn=>B.world (B.bounds (uo hg s hn h))
include hg in
theorem JF{i s:PV}{l:List PV}(hl:l.length+1≤sizeLine)(hn:1≤n)(h:Q (.tup [i,.tup (l++[s])]) H):Cl g n (.obj Bb) [.tup [i,.tup l],s] H Q:=
 (Jx P).cl hg rfl hn fun n hn=>Vm hl h
include hg in
theorem SM{o t:PV}(B:n6 c self M R H)(s:U5 t)(hf:M.frs≠[])(hz:((M.temp t).asg (I8 M.tys.length) (bw o)).sz≤sizeLine) (hn:6≤n) (h:∀H',n6 c self ((M.temp t).asg (I8 M.tys.length) (bw o)) R H'→Q (z7 (I8 M.tys.length)) H'):Cl g n (.obj aH) [.obj self,o,t] H Q:=
 (iK P).cl hg rfl hn fun n hn=>B.me rfl rfl (lU hg B (.one s) hf (Nat.le_of_add_right_le (k:=2) hz) hn fun H B=>B.me rfl rfl (M6 hg B hz (leB hn rfl) fun H B=>B.world (B.bounds (uo hg s (leB hn rfl) (h H B)))))
include hg in
theorem Hz{i:Nat}(B:n6 c self M R H)(hz:(G9 i M).sz≤sizeLine)(hn:4≤n)(h:∀H',n6 c self (G9 i M) R H'→Q (.tup [.int M.blks.length,.int (M.blks.length+1:Nat)]) H'):Cl g n (.obj aJ) [.obj self,.int i] H Q:=
 (iM P).cl hg rfl hn fun n hn=>B.me rfl rfl (U8 hg B (Nat.le_of_add_right_le (k:=3) hz) (leB hn rfl) fun H B=>B.me rfl rfl (U8 hg B (Nat.le_of_add_right_le (k:=2) hz) (leB hn rfl) fun H B=>by
  rw [X6]
  exact B.me rfl rfl (cX hg B hz hn h)))
include hg in
theorem SN{o x t:PV}(B:n6 c self M R H)(hz:(lW M o x t).sz≤sizeLine)(hn:4≤n)(h:∀H',n6 c self (lW M o x t) R H'→Q .none H'):Cl g n (.obj aK) [.obj self,o,x,t] H Q:=
 (iQ P).cl hg rfl hn fun n hn=>B.me rfl rfl (U8 hg B (Nat.le_of_add_right_le (k:=2) hz) (leB hn rfl) fun H B=>B.me rfl rfl (cX hg B hz hn fun H B=>B.gV (by rw [show(M.o8.tick.close _).blks.length=M.o8.blks.length from lZ _ _,X6];exact Nat.lt_succ_self _) h))
end
end Mine.Internal
namespace Mine.Internal
open PySem PySem.W PySem.Calls PyProof.Rows
inductive Op where|add|sub|mul|lt|ge|eq
noncomputable def Op.s:Op→Nat
 |.add=>321 | .sub=>260 | .mul=>322 | .lt=>161 | .ge=>196 | .eq=>269
noncomputable def Op.ar:Op→Bool
 |.add=>true | .sub=>true | .mul=>true|_=>false
noncomputable def Op.msg:Op→Nat
 |.add=>420 | .sub=>423|_=>426
inductive Kd where|n|t|u|p
inductive E where
 |num (i:Int)|O2 (b:Bool)|loc (k:Nat)|not (a:E)|lazy (an:Bool) (a b:E)|O1 (u:Bool) (c a b:E)|bin (op:Op) (a b:E)|pair (a b:E)|fld (k:Nat) (q:E)
 |seq (d e:E)|unit (d:E)|print (a:E)|assign (k:Nat) (a:E)|update (op:Op) (k:Nat) (a:E)
noncomputable def E.k:E→Kd
 |.num _=>.n | .O2 _=>.t | .loc i=>if i<3 then .n else .t | .not _=>.t | .lazy _ _ _=>.t | .O1 u _ _ _=>if u then .u else .n | .bin op _ _=>if op.ar then .n else .t | .pair _ _=>.p | .fld _ _=>.n
 |.seq _ e=>e.k | .unit _=>.u | .print _=>.u | .assign _ _=>.u | .update _ _ _=>.u
noncomputable abbrev cY:PV:=.tup [.str 32,.str 449]
noncomputable abbrev N6:PV:=.tup [.str 45]
noncomputable def Ko:Kd→PV
 |.n=>cY | .t=>N6 | .u=>J7 | .p=>.tup [.str 9,.tup [cY,cY]]
noncomputable abbrev ur:PV:=.tup [.str 9,.tup [cY,N6]]
noncomputable abbrev E.ty(e:E):PV:=Ko e.k
noncomputable def E.tag:E→Nat
 |.num _=>156 | .O2 _=>156 | .loc _=>77 | .not _=>236 | .lazy _ _ _=>235 | .O1 _ _ _ _=>251 | .bin _ _ _=>160 | .pair _ _=>9 | .fld _ _=>106
 |.seq _ _=>78 | .unit _=>78 | .print _=>242 | .assign _ _=>159 | .update _ _ _=>241
noncomputable abbrev E.mkT(e:E)(r:List PV):PV:=.tup (.str e.tag::e.ty :: .int 0::r)
noncomputable def E.rest:E→List PV
 |.num i=>[.int i]
 |.O2 b=>[.bool b]
 |.loc i=>[.int (i:Int)]
 |.not a=>[.str 347,a.mkT a.rest]
 |.lazy an a b=>[.str (if an then 277 else 278),a.mkT a.rest,b.mkT b.rest]
 |.O1 _ c a b=>[c.mkT c.rest,a.mkT a.rest,b.mkT b.rest]
 |.bin op a b=>[.str op.s,a.mkT a.rest,b.mkT b.rest]
 |.pair a b=>[.tup [a.mkT a.rest,b.mkT b.rest]]
 |.fld k q=>[q.mkT q.rest,.int (k:Int)]
 |.seq d e=>[.tup [.tup [.str 349,.int 0,d.mkT d.rest]],e.mkT e.rest]
 |.unit d=>[.tup [.tup [.str 349,.int 0,d.mkT d.rest]],.none]
 |.print a=>[a.mkT a.rest]
 |.assign i a=>[(E.loc i).mkT [.int (i:Int)],a.mkT a.rest]
 |.update op i a=>[.str op.s,(E.loc i).mkT [.int (i:Int)],a.mkT a.rest]
noncomputable def E.typ(e:E):PV:=e.mkT e.rest
noncomputable def E.W:E→Nat
 |.num _=>20 | .O2 _=>20 | .loc _=>20 | .not a=>a.W+8 | .lazy _ a b=>max a.W b.W+8 | .O1 _ c a b=>max c.W (max a.W b.W)+8 | .bin _ a b=>max a.W b.W+8 | .pair a b=>max a.W b.W+8 | .fld _ q=>q.W+8
 |.seq d e=>max d.W e.W+8 | .unit d=>d.W+8 | .print a=>a.W+8 | .assign _ a=>a.W+8 | .update _ _ a=>a.W+8
noncomputable def E.ok:E→Prop
 |.num _=>True
 |.O2 _=>True
 |.loc i=>i<5
 |.not a=>a.k = .t∧a.ok
 |.lazy _ a b=>(a.k = .t∧b.k = .t)∧a.ok∧b.ok
 |.O1 u c a b=>(c.k = .t∧a.k=(if u then .u else .n)∧b.k=if u then .u else .n)∧c.ok∧a.ok∧b.ok
 |.bin _ a b=>(a.k = .n∧b.k = .n)∧a.ok∧b.ok
 |.pair a b=>(a.k = .n∧b.k = .n)∧a.ok∧b.ok
 |.fld k q=>(k<2∧q.k = .p)∧q.ok
 |.seq d e=>d.k = .u∧d.ok∧e.ok
 |.unit d=>d.k = .u∧d.ok
 |.print a=>a.k = .n∧a.ok
 |.assign i a=>(i<5∧a.k=(E.loc i).k)∧a.ok
 |.update op i a=>(op.ar=true∧i<3∧a.k = .n)∧a.ok
structure Lw where
 into:PV→Mem→Mem
 place:Mem→Mem×PV
noncomputable def uw(t v:PV):PV:=.tup [.str 156,t,v]
noncomputable def SQ(i k:Nat):PV:=.tup [.int (i:Int),.tup [.tup [.str 106,.int (k:Int)]]]
noncomputable def K3(e:E)(L:Lw)(M:Mem):Mem×PV:=match e with
 |.num i=>(M,uw cY (.int i))
 |.O2 b=>(M,uw N6 (.bool b))
 |_=>((L.place M).1,z7 (L.place M).2)
noncomputable def E.vO:E→Bool
 |.loc _=>true | .fld _ _=>true|_=>false
noncomputable def E.quiet:E→Bool
 |.num _=>true | .O2 _=>true | .loc _=>true|_=>false
noncomputable def keep(r:Mem×PV)(t:PV):Mem×PV:=((r.1.temp t).asg (I8 r.1.tys.length) (bw r.2),z7 (I8 r.1.tys.length))
noncomputable def ahead(e:E)(L:Lw)(q:Bool)(M:Mem):Mem×PV:=if e.vO && !q then keep (K3 e L M) e.ty else K3 e L M
noncomputable def J4(p:PV)(op:Op)(a b:PV)(M:Mem):Mem:=if op.ar then
  (lW ((M.temp ur).asg (I8 M.tys.length) (.tup [.str 267,.str op.s,a,b])) (z7 (SQ M.tys.length 1)) (.bool false) (.str op.msg)).asg p (bw (z7 (SQ M.tys.length 0)))
 else M.asg p (.tup [.str 160,.str op.s,a,b])
noncomputable def U9(t:PV)(into:PV→Mem→Mem)(M:Mem):Mem×PV:=(into (I8 M.tys.length) (M.temp t),I8 M.tys.length)
noncomputable def inScope(into:PV→Mem→Mem)(p:PV)(M:Mem):Mem:=(into p M.push).pop
noncomputable def n8(into:PV→Mem→Mem)(M:Mem):Mem:=inScope into (I8 M.tys.length) (M.temp N6)
noncomputable def mq(an:Bool)(c b:PV→Mem→Mem)(p:PV)(M:Mem):Mem:=
 let M1:=n8 c M
 let y:=M1.blks.length
 let M2:=G9 M.tys.length M1
 let z:=M2.blks.length
 let M4:=((M2.o8.to (if an then y+1 else y)).asg p (bw (uw N6 (.bool (!an))))).cls (Q6 z)
 (inScope b p (M4.to (if an then y else y+1))).Hy z
noncomputable def Vt(c a b:PV→Mem→Mem)(p:PV)(M:Mem):Mem:=
 let M1:=n8 c M
 let y:=M1.blks.length
 let M2:=G9 M.tys.length M1
 let z:=M2.blks.length
 let M4:=(inScope a p (M2.o8.to y)).cls (Q6 z)
 (inScope b p (M4.to (y+1))).Hy z
noncomputable def zF(d:PV→Mem→Mem)(M:Mem):Mem:=(d (I8 M.push.tys.length) (M.push.temp J7)).pop
noncomputable def low:E→Lw
 |.num i=>let f:=fun p (M:Mem)=>M.asg p (bw (uw cY (.int i)));⟨f,U9 cY f⟩
 |.O2 b=>let f:=fun p (M:Mem)=>M.asg p (bw (uw N6 (.bool b)));⟨f,U9 N6 f⟩
 |.loc i=>⟨fun p M=>M.asg p (bw (z7 (I8 (1+i)))),fun M=>(M,I8 (1+i))⟩
 |.not a=>let f:=fun p (M:Mem)=>(K3 a (low a) M).1.asg p (.tup [.str 236,.str 347,(K3 a (low a) M).2]);⟨f,U9 N6 f⟩
 |.lazy an a b=>let f:=mq an (low a).into (low b).into;⟨f,U9 N6 f⟩
 |.O1 u c a b=>let f:=Vt (low c).into (low a).into (low b).into;⟨f,U9 (Ko (if u then .u else .n)) f⟩
 |.bin op a b=>let f:=fun p (M:Mem)=>let r:=ahead a (low a) b.quiet M;let s:=ahead b (low b) true r.1;J4 p op r.2 s.2 s.1
  ⟨f,U9 (Ko (if op.ar then .n else .t)) f⟩
 |.pair a b=>let f:=fun p (M:Mem)=>let r:=ahead a (low a) b.quiet M;let s:=ahead b (low b) true r.1;s.1.asg p (.tup [.str 9,.tup [r.2,s.2]])
  ⟨f,U9 (Ko .p) f⟩
 |.fld k q=>let f:=fun(M:Mem)=>(low q).into (I8 M.tys.length) (M.temp q.ty);⟨fun p M=>(f M).asg p (bw (z7 (SQ M.tys.length k))),fun M=>(f M,SQ M.tys.length k)⟩
 |.seq d e=>let f:=fun p (M:Mem)=>((low e).into p (zF (low d).into M.push)).pop;⟨f,U9 e.ty f⟩
 |.unit d=>let f:=fun p (M:Mem)=>((zF (low d).into M.push).asg p J7).pop;⟨f,U9 J7 f⟩
 |.print a=>let f:=fun p (M:Mem)=>((K3 a (low a) M).1.tick.put (.tup [.str 242,(K3 a (low a) M).2])).asg p J7;⟨f,U9 J7 f⟩
 |.assign i a=>let f:=fun p (M:Mem)=>((K3 a (low a) M).1.asg (I8 (1+i)) (bw (K3 a (low a) M).2)).asg p J7;⟨f,U9 J7 f⟩
 |.update op i a=>let f:=fun p (M:Mem)=>(J4 (I8 (1+i)) op (z7 (I8 (1+i))) (K3 a (low a) M).2 (K3 a (low a) M).1).asg p J7;⟨f,U9 J7 f⟩
noncomputable def E.cost:E→Nat
 |.num _=>10 | .O2 _=>10 | .loc _=>10 | .not a=>a.cost+10 | .lazy _ a b=>a.cost+b.cost+40 | .O1 _ c a b=>c.cost+a.cost+b.cost+40
 |.bin _ a b=>a.cost+b.cost+41 | .pair a b=>a.cost+b.cost+41 | .fld _ q=>q.cost+20 | .seq d e=>d.cost+e.cost+20 | .unit d=>d.cost+20 | .print a=>a.cost+20 | .assign _ a=>a.cost+30 | .update _ _ a=>a.cost+40
structure Gr(M M':Mem)(k:Nat):Prop where
 frs:∀f fs,M.frs=f::fs→∃l,M'.frs=(f++l)::fs
 tys:∃l,M'.tys=M.tys++l
 blks:M.blks.length≤M'.blks.length
 sz:M.sz≤M'.sz
 phi:M'.phi≤M.phi+k
section
variable{M M' M'':Mem}{k k':Nat}
theorem Gr.trans(a:Gr M M' k)(b:Gr M' M'' k'):Gr M M'' (k+k'):=by
 refine⟨fun f fs e=>?_,?_,Nat.le_trans a.blks b.blks,Nat.le_trans a.sz b.sz,?_⟩
 ·obtain⟨l,e1⟩:=a.frs f fs e
  obtain⟨l',e2⟩:=b.frs _ _ e1
  exact⟨l++l',by rw [e2,List.append_assoc]⟩
 ·obtain⟨l,e1⟩:=a.tys
  obtain⟨l',e2⟩:=b.tys
  exact⟨l++l',by rw [e2,e1,List.append_assoc]⟩
 ·have:=a.phi;have:=b.phi;lia
theorem Gr.le(a:Gr M M' k)(h:k≤k'):Gr M M' k':=⟨a.frs,a.tys,a.blks,a.sz,Nat.le_trans a.phi (Nat.add_le_add_left h _)⟩
theorem Gr.ne(a:Gr M M' k)(h:M.frs≠[]):M'.frs≠[]:=by
 obtain⟨f,fs,e⟩:=List.exists_cons_of_ne_nil h
 obtain⟨l,e1⟩:=a.frs f fs e
 rw [e1];exact nofun
theorem yP{α:Type}(l:List α):∃k,l=l++k:=⟨[],(List.append_nil l).symm⟩
theorem Gr.refl:Gr M M 0:=⟨fun f fs e=>⟨[],by rw [List.append_nil];exact e⟩,yP _,Nat.le_refl _,Nat.le_refl _,Nat.le_refl _⟩
theorem Gr.fits(a:Gr M M' k)(h:M'.sz≤sizeLine):M.sz≤sizeLine:=Nat.le_trans a.sz h
theorem Oi(s:PV):Gr M (M.tick.put s) 2:=⟨fun f fs e=>⟨[],by rw [List.append_nil];exact e⟩,yP _,by show _≤(M.blks.modify _ _).length;rw [List.length_modify];exact Nat.le_refl _,Nat.le_add_right _ 2,Nat.le_of_eq (Hw M s)⟩
theorem M9(p rv:PV):Gr M (M.asg p rv) 2:=Oi _
theorem ux(t:PV):Gr M (M.cls t) 2:=⟨fun f fs e=>⟨[],by rw [List.append_nil];exact e⟩,yP _,by show _≤(M.blks.modify _ _).length;rw [List.length_modify];exact Nat.le_refl _,Nat.le_add_right _ 2,Nat.le_of_eq (Hw M t)⟩
theorem wR(b:Nat):Gr M (M.to b) 0:=⟨fun f fs e=>⟨[],by rw [List.append_nil];exact e⟩,yP _,Nat.le_refl _,Nat.le_refl _,Nat.le_refl _⟩
theorem mz:Gr M M.o8 1:=⟨fun f fs e=>⟨[],by rw [List.append_nil];exact e⟩,yP _,by show _≤(M.blks++[_]).length;rw [List.length_append];exact Nat.le_succ _,Nat.le_succ _,Nat.le_of_eq (Oe M)⟩
theorem K6(h:M.frs≠[])(t:PV):Gr M (M.temp t) 6:=⟨fun f fs e=>⟨[(M.tys.length,true)],by
  show(match M.frs with|f::fs=>(f++[(M.tys.length,true)])::fs | []=>[])=_
  rw [e]⟩,⟨[t],rfl⟩,by show _≤(M.blks.modify _ _).length;rw [List.length_modify];exact Nat.le_refl _,Nat.le_add_right _ 4,Nat.le_of_eq (Oh h t)⟩
theorem ao{f:List (Nat×Bool)}{fs:List (List (Nat×Bool))} (e:M.frs=f::fs):M.pop.frs=fs∧M.pop.tys=M.tys∧M.pop.here=M.here:=by
 obtain⟨f1,f2,f3,f4,f5⟩:=dU f.reverse M
 have pp:M.pop=(M.fin f.reverse).drop:=by unfold Mem.pop;rw [e];rfl
 rw [pp]
 exact⟨by show(M.fin f.reverse).frs.tail=_;rw [f1,e];rfl,f2,f3⟩
theorem uy:∀(l:List (Nat×Bool)) (M:Mem),(M.fin l).blks.length=M.blks.length
 | [],_=>rfl
 | (i,true)::r,M=>(uy r _).trans (List.length_modify ..)
 | (_,false)::r,M=>uy r M
theorem aP(M:Mem):M.sz≤M.pop.sz:=yO _ M
theorem X7(h:Gr M.push M' k):Gr M M'.pop (k+1):=by
 obtain⟨l,e⟩:=h.frs [] M.frs rfl
 obtain⟨s1,s2,s3⟩:=ao e
 refine⟨fun f fs z=>⟨[],by rw [s1,z,List.append_nil]⟩,by rw [s2];exact h.tys,Nat.le_trans h.blks (Nat.le_of_eq (uy _ _).symm),Nat.le_trans (Nat.le_of_succ_le h.sz) (aP M'),?_⟩
 ·have a:=Sy e
  have b:=h.phi
  have c:=Og M
  lia
theorem HB(o x t:PV):Gr M (lW M o x t) 3:=(mz.trans (ux _)).trans (wR _)
theorem gW(h:M.frs≠[])(p:PV)(op:Op)(a b:PV):Gr M (J4 p op a b M) 13:=by
 unfold J4
 split
 ·exact(((K6 h ur).trans (M9 _ _)).trans (HB _ _ _)).trans (M9 _ _)
 ·exact(M9 _ _).le (by exact Nat.le_add_left ..)
theorem uz{f:PV→Mem→Mem}{p:PV}(h:Gr M.push (f p M.push) k):Gr M (inScope f p M) (k+1):=X7 h
theorem Cd{f:PV→Mem→Mem}(hm:M.frs≠[])(h:∀M p,M.frs≠[]→Gr M (f p M) k):Gr M (n8 f M) (k+7):=((K6 hm N6).trans (uz (h _ _ nofun))).le (by lia)
theorem qy(i:Nat):Gr M (G9 i M) 4:=(mz.trans mz).trans (ux _)
theorem Vu(b:Nat):Gr M (M.Hy b) 2:=(ux _).trans (wR _)
theorem SX{c b:PV→Mem→Mem}{an:Bool}{p:PV}{i j:Nat}(hm:M.frs≠[])(hc:∀M p,M.frs≠[]→Gr M (c p M) i)(hb:∀M p,M.frs≠[]→Gr M (b p M) j):Gr M (mq an c b p M) (i+j+40):=by
 have h1:=(Cd hm hc).trans ((qy M.tys.length).trans mz)
 have h2:=((h1.trans (wR (if an then(n8 c M).blks.length+1 else(n8 c M).blks.length))).trans (M9 p (bw (uw N6 (.bool (!an)))))).trans (ux (Q6 (G9 M.tys.length (n8 c M)).blks.length))
 exact(((h2.trans (wR (if an then(n8 c M).blks.length else(n8 c M).blks.length+1))).trans (uz (hb _ p nofun))).trans (Vu (G9 M.tys.length (n8 c M)).blks.length)).le (by lia)
theorem ac8{c a b:PV→Mem→Mem}{p:PV}{i j l:Nat}(hm:M.frs≠[])(hc:∀M p,M.frs≠[]→Gr M (c p M) i)(ha:∀M p,M.frs≠[]→Gr M (a p M) j)(hb:∀M p,M.frs≠[]→Gr M (b p M) l):Gr M (Vt c a b p M) (i+j+l+40):=by
 have h1:=(Cd hm hc).trans ((qy M.tys.length).trans mz)
 have h2:=((h1.trans (wR (n8 c M).blks.length)).trans (uz (ha _ p nofun))).trans (ux (Q6 (G9 M.tys.length (n8 c M)).blks.length))
 exact(((h2.trans (wR ((n8 c M).blks.length+1))).trans (uz (hb _ p nofun))).trans (Vu (G9 M.tys.length (n8 c M)).blks.length)).le (by lia)
theorem Ce{d:PV→Mem→Mem}(hd:∀M p,M.frs≠[]→Gr M (d p M) k):Gr M (zF d M) (k+7):=(X7 ((K6 (M:=M.push) nofun J7).trans (hd _ _ ((K6 (M:=M.push) nofun J7).ne nofun)))).le (by lia)
theorem Oj{f:PV→Mem→Mem}(hm:M.frs≠[])(h:∀M p,M.frs≠[]→Gr M (f p M) k)(t:PV):Gr M (U9 t f M).1 (k+6):=((K6 hm t).trans (h _ _ ((K6 hm t).ne hm))).le (by lia)
end
structure yQ(L:Lw)(k:Nat):Prop where
 into:∀M p,M.frs≠[]→Gr M (L.into p M) k
 place:∀M,M.frs≠[]→Gr M (L.place M).1 (k+6)
theorem yQ.def_{f:PV→Mem→Mem}{k:Nat}(h:∀M p,M.frs≠[]→Gr M (f p M) k)(t:PV):yQ ⟨f,U9 t f⟩ k:=⟨h,fun O hm=>Oj hm h t⟩
theorem yQ.K3{L:Lw}{k:Nat}(h:yQ L k)(e:E){M:Mem}(hm:M.frs≠[]):Gr M (K3 e L M).1 (k+6):=by
 cases e<;>first|exact h.place M hm|exact Gr.refl.le (Nat.zero_le _)
theorem Tc{M:Mem}{r:Mem×PV}{k:Nat}(h:Gr M r.1 k)(hm:M.frs≠[])(t:PV):Gr M (keep r t).1 (k+8):=(h.trans ((K6 (h.ne hm) t).trans (M9 _ _)))
theorem yQ.ahead{L:Lw}{k:Nat}(h:yQ L k)(e:E)(q:Bool){M:Mem}(hm:M.frs≠[]):Gr M (ahead e L q M).1 (k+14):=by
 unfold Mine.Internal.ahead
 split
 ·exact Tc (h.K3 e hm) hm _
 ·exact(h.K3 e hm).le (by lia)
theorem o9:∀e:E,yQ (low e) e.cost
 |.num i=>yQ.def_ (fun M p O=>(M9 _ _).le (show 2≤10 by decide)) _
 |.O2 b=>yQ.def_ (fun M p O=>(M9 _ _).le (show 2≤10 by decide)) _
 |.loc i=>⟨fun M p O=>(M9 _ _).le (show 2≤10 by decide),fun M O=>Gr.refl.le (Nat.zero_le _)⟩
 |.not a=>yQ.def_ (fun M p hm=>(((o9 a).K3 a hm).trans (M9 _ _)).le (show a.cost+6+2≤a.cost+10 by lia)) _
 |.lazy an a b=>yQ.def_ (fun M p hm=>SX hm (o9 a).into (o9 b).into) _
 |.O1 u c a b=>yQ.def_ (fun M p hm=>ac8 hm (o9 c).into (o9 a).into (o9 b).into) _
 |.bin op a b=>yQ.def_ (fun M p hm=>by
   have h1:=(o9 a).ahead a b.quiet hm
   have h2:=h1.trans ((o9 b).ahead b true (h1.ne hm))
   exact(h2.trans (gW (h2.ne hm) p op _ _)).le (show a.cost+14+(b.cost+14)+13≤a.cost+b.cost+41 by lia)) _
 |.pair a b=>yQ.def_ (fun M p hm=>by
   have h1:=(o9 a).ahead a b.quiet hm
   have h2:=h1.trans ((o9 b).ahead b true (h1.ne hm))
   exact(h2.trans (M9 p _)).le (show a.cost+14+(b.cost+14)+2≤a.cost+b.cost+41 by lia)) _
 |.fld k q=>⟨fun M p hm=>(((K6 hm q.ty).trans ((o9 q).into _ _ ((K6 hm q.ty).ne hm))).trans (M9 _ _)).le (show 6+q.cost+2≤q.cost+20 by lia),fun M hm=>((K6 hm q.ty).trans ((o9 q).into _ _ ((K6 hm q.ty).ne hm))).le (show 6+q.cost≤q.cost+20+6 by lia)⟩
 |.seq d e=>yQ.def_ (fun M p hm=>by
   have h1:=Ce (M:=M.push) (o9 d).into
   exact(X7 (h1.trans ((o9 e).into _ p (h1.ne nofun)))).le (show d.cost+7+e.cost+1≤d.cost+e.cost+20 by lia)) _
 |.unit d=>yQ.def_ (fun M p hm=>(X7 ((Ce (M:=M.push) (o9 d).into).trans (M9 p J7))).le (show d.cost+7+2+1≤d.cost+20 by lia)) _
 |.print a=>yQ.def_ (fun M p hm=>((((o9 a).K3 a hm).trans (Oi _)).trans (M9 p J7)).le (show a.cost+6+2+2≤a.cost+20 by lia)) _
 |.assign i a=>yQ.def_ (fun M p hm=>((((o9 a).K3 a hm).trans (M9 _ _)).trans (M9 p J7)).le (show a.cost+6+2+2≤a.cost+30 by lia)) _
 |.update op i a=>yQ.def_ (fun M p hm=>by
   have h1:=(o9 a).K3 a hm
   exact((h1.trans (gW (h1.ne hm) _ op _ _)).trans (M9 p J7)).le (show a.cost+6+13+2≤a.cost+40 by lia)) _
section
variable{P:Params}{g:G (s7 P).T}(hg:v8 g){n w:Nat}{c:Fix}{M M1:Mem}{H R:AH}{Q:PV→AH→Prop}{self:Addr}
include hg
theorem bM{t:Nat}{ty sp p o:PV}{l:List PV}(ht:t=156∨t=77∨t=106)(hw:4≤w)(hn:w+1≤n)(B:n6 c self M R H)
  (ho:∀{n H} {Q:PV→AH→Prop},w≤n→n6 c self M R H→(∀H',n6 c self M1 R H'→Q o H')→Cl g n (.obj I5) [.obj self,.tup (.str t::ty::sp::l)] H Q)
  (hz:(M1.asg p (bw o)).sz≤sizeLine) (h:∀H',n6 c self (M1.asg p (bw o)) R H'→Q .none H'):Cl g n (.obj I9) [.obj self,p,.tup (.str t::ty::sp::l)] H Q:=by
 refine(Z0 P).cl hg rfl hn fun n hn=>B.spot fun q=>B.bJ fun H B=>?_
 rcases ht with rfl|rfl|rfl<;>exact B.me rfl rfl (B.me rfl rfl (ho hn B fun H B=>M6 hg B hz (Nat.le_trans hw hn) fun H B=>B.bJ (h · ·)))
theorem Cg{t:Nat}{f:Addr}{ty sp p:PV}{l:List PV}(ht:f=o7∧(t=236∨t=235∨t=160)∨f=H9∧t=9∨f=s8∧(t=242∨t=159∨t=241)∨f=z8∧t=251∨f=q9∧t=78)(hn:w+1≤n)(B:n6 c self M R H)
  (ho:∀{n H} {Q:PV→AH→Prop},w≤n→n6 c self M R H→(∀r H',n6 c self M1 R H'→Q r H')→Cl g n (.obj f) [.obj self,p,.tup (.str t::ty::sp::l)] H Q)
  (h:∀H',n6 c self M1 R H'→Q .none H'):Cl g n (.obj I9) [.obj self,p,.tup (.str t::ty::sp::l)] H Q:=by
 refine(Z0 P).cl hg rfl hn fun n hn=>B.spot fun q=>B.bJ fun H B=>?_
 rcases ht with⟨rfl,rfl|rfl|rfl⟩|⟨rfl,rfl⟩|⟨rfl,rfl|rfl|rfl⟩|⟨rfl,rfl⟩|⟨rfl,rfl⟩<;>exact B.me rfl rfl (ho hn B fun r H B=>B.bJ (h · ·))
end
theorem qz(k:Kd):Simple (Ko k):=by
 cases k
 ·exact .one (.int _)
 ·exact .one .bool
 ·exact .tup (fun p h=>nomatch h) (Nat.zero_le _)
 ·refine .tup (fun p h=>?_) (Nat.le_refl _)
  rcases List.mem_cons.mp h with rfl|h
  ·exact .int _
  ·rw [List.mem_singleton.mp h];exact .int _
theorem Ci{k:Kd}(h:k = .n∨k = .t):U5 (Ko k):=by
 rcases h with rfl|rfl
 ·exact .int _
 ·exact .bool
theorem HD(i:Nat):(E.loc i).k = .n∨(E.loc i).k = .t:=(Nat.lt_or_ge i 3).imp (fun h=>if_pos h) fun h=>if_neg (Nat.not_lt_of_ge h)
set_option tactic.hygienic true in
theorem kp{q:E}(h:q.k = .p):q.tag=9∨q.tag=78:=by
 cases q<;>first|exact .inl rfl|exact .inr rfl|(cases h;done)|skip
 case loc i=>rcases HD i with z|z<;>rw [z] at h<;>cases h
 case O1 u _ _ _=>cases u<;>cases h
 case bin op _ _=>cases op<;>cases h
theorem ac9(i:Nat):PV.tup [.int (1+(i:Int)),.tup []]=I8 (1+i):=congrArg (fun z=>PV.tup [.int z,.tup []]) (by lia)
section
variable{P:Params}{g:G (s7 P).T}(hg:v8 g){n:Nat}{c:Fix}(hfu:c.fu=1){M M' M1:Mem}{H R:AH}{Q:PV→AH→Prop}{self:Addr}{w:Nat}{e a b:E}
noncomputable def J5(g:G (s7 P).T)(c:Fix)(e:E):Prop := ∀{n:Nat} {M:Mem} {R H:AH} {self:Addr} {p:PV} {Q:PV→AH→Prop},e.W≤n→n6 c self M R H→M.frs≠[]→((low e).into p M).sz≤sizeLine→(∀H',n6 c self ((low e).into p M) R H'→Q .none H')→Cl g n (.obj I9) [.obj self,p,e.typ] H Q
noncomputable def Z9(g:G (s7 P).T)(c:Fix)(e:E)(w:Nat):Prop := ∀{n:Nat} {M:Mem} {R H:AH} {self:Addr} {Q:PV→AH→Prop},w≤n→n6 c self M R H→M.frs≠[]→((low e).place M).1.sz≤sizeLine→(∀H',n6 c self ((low e).place M).1 R H'→Q ((low e).place M).2 H')→Cl g n (.obj W8) [.obj self,e.typ] H Q
noncomputable abbrev yR(g:G (s7 P).T)(c:Fix)(e:E):Prop:=Z9 g c e (e.W+1)
noncomputable def Cj(g:G (s7 P).T)(c:Fix)(e:E)(w:Nat):Prop := ∀{n:Nat} {M:Mem} {R H:AH} {self:Addr} {Q:PV→AH→Prop},w≤n→n6 c self M R H→M.frs≠[]→(K3 e (low e) M).1.sz≤sizeLine→(∀H',n6 c self (K3 e (low e) M).1 R H'→Q (K3 e (low e) M).2 H')→Cl g n (.obj I5) [.obj self,e.typ] H Q
noncomputable abbrev HF(g:G (s7 P).T)(c:Fix)(e:E):Prop:=Cj g c e (e.W+2)
noncomputable def R5(g:G (s7 P).T)(c:Fix)(e:E)(late:List E):Prop := ∀{n:Nat} {M:Mem} {R H:AH} {self:Addr} {Q:PV→AH→Prop},e.W+3≤n→n6 c self M R H→M.frs≠[]→(ahead e (low e) (late.all E.quiet) M).1.sz≤sizeLine→
 (∀H',n6 c self (ahead e (low e) (late.all E.quiet) M).1 R H'→Q (ahead e (low e) (late.all E.quiet) M).2 H')→Cl g n (.obj v9) [.obj self,e.typ,.tup (late.map E.typ)] H Q
theorem fj(e:E):20≤e.W:=by
 induction e<;>first|exact Nat.le_refl _|exact Nat.le_add_right_of_le (by assumption)|exact Nat.le_add_right_of_le (Nat.le_trans (by assumption) (Nat.le_max_left ..))
include hg
theorem ou(h:J5 g c e)(ht:Nat.beq e.tag 77=false∧Nat.beq e.tag 107=false∧Nat.beq e.tag 106=false∧Nat.beq e.tag 97=false)(hd:(low e).place=U9 e.ty (low e).into):yR g c e:=by
 intro n M R H self Q hn B hf hz hQ
 rw [hd] at hz hQ
 refine(M8 P).cl hg rfl hn fun n hn=>cA ht.1 (cA ht.2.1 (cA ht.2.2.1 (cA ht.2.2.2 (B.me rfl rfl (lU hg B (qz _) hf (Nat.le_trans ((o9 e).into _ _ ((K6 hf e.ty).ne hf)).sz hz) (Nat.le_trans (Nat.le_of_ble_eq_true rfl) (Nat.le_trans (fj e) hn)) fun H B=>?_)))))
 exact B.me rfl rfl (h hn B ((K6 hf e.ty).ne hf) hz fun H B=>hQ H B)
omit hg in
theorem Ol{i:Int}{C:Bool→AH→Prop}(B:n6 c self M R H)(h:C false H):j6 g 117 (fun q H=>rE .In (.int i) q H fun b=>C b H) (.obj self) H:=by
 apply n6.el B
 intro L x B F
 exact .mk B.self B.dx rfl rfl (aa7 (B.at_ .alias _ rfl) h)
include hfu in
theorem oA{i:Nat}:Z9 g c (.loc i) 2:=by
 intro n M R H self Q hn B _ _ hQ
 refine(M8 P).cl hg rfl hn fun n hn=>Ol B (B.me rfl rfl (Hu hg B (leB hn rfl) ?_))
 rw [hfu]
 show Q (.tup [.int (1+(i:Int)),.tup []]) H
 rw [ac9]
 exact hQ H B
theorem JG{k:Nat}{q:E}(h:Z9 g c q (w+1))(hq:(low q).place=U9 q.ty (low q).into):Z9 g c (.fld k q) (w+2):=by
 intro n M R H self Q hn B hf hz hQ
 have h:=@h
 unfold Z9 at h
 rw [hq] at h
 exact(M8 P).cl hg rfl hn fun n hn=>B.me rfl rfl (h hn B hf hz fun H B=>JF hg (Y6 rfl) (Nat.le_trans (Nat.le_add_left 1 _) hn) (hQ H B))
theorem qC{t v:PV}{l:List PV}(hn:1≤n)(h:Q (uw t v) H):Cl g n (.obj I5) [.obj self,.tup (.str 156::t :: .int 0::v::l)] H Q:=
 (R9 P).cl hg rfl hn fun n hn=>h
omit hg in
theorem Yb(ht:Nat.beq e.tag 156=false)(M:Mem):K3 e (low e) M=(((low e).place M).1,z7 ((low e).place M).2):=by cases e<;>first|rfl|cases ht
theorem Fp(h:Z9 g c e (w+2))(hk:e.k = .n∨e.k = .t)(ht:Nat.beq e.tag 156=false):Cj g c e (w+3):=by
 intro n M R H self Q hn B hf hz hQ
 rw [Yb ht] at hz hQ
 exact(R9 P).cl hg rfl hn fun n hn=>cA ht (B.me rfl rfl (B.me rfl rfl (h hn B hf hz fun H B=>vN hg B (Ci hk) (Nat.le_trans (Nat.le_add_left 2 w) hn) (hQ H B))))
theorem Om(e:E)(he:e.ok)(hn:2≤n)(h:Q (.bool e.quiet) H):Cl g n (.obj sJ) [e.typ] H Q:=by
 refine(pA P).cl hg rfl hn fun n hn=>?_
 cases e
 case fld k q=>
  refine(pA P).cl hg rfl hn fun n hn=>?_
  have z:∀t,t=9∨t=78→K4 g n tu [(145,.tup (.str t::q.ty :: .int 0::q.rest))] H (IV Q):=fun t z=>by rcases z with rfl|rfl<;>exact h
  exact z _ (kp he.1.2)
 all_goals exact h
omit hg in
theorem Oo:∀(l:List E),bools (l.map fun e=>PV.bool e.quiet)=some (l.map E.quiet)
 | []=>rfl
 |e::l=>by
  show(bools (l.map fun e=>PV.bool e.quiet)).map (e.quiet :: ·)=_
  rw [Oo l];rfl
omit hg in
theorem Vv(e:E):([.str 77,.str 107,.str 106,.str 97].any fun y=>PV.eqv y (.str e.tag))=e.vO:=by cases e<;>rfl
omit hg in
theorem uD{q:Bool}(h:(e.vO && !q)=false)(M:Mem):ahead e (low e) q M=K3 e (low e) M:=by unfold ahead;rw [h];rfl
omit hg in
theorem wU{q:Bool}(h:(e.vO && !q)=true)(M:Mem):ahead e (low e) q M=keep (K3 e (low e) M) e.ty:=by unfold ahead;rw [h];rfl
omit hg in
theorem Oq{q:Bool}(M:Mem):(K3 e (low e) M).1.sz≤(ahead e (low e) q M).1.sz:=by
 cases h:(e.vO && !q) with
 |false=>rw [uD h];exact Nat.le_refl _
 |true=>rw [wU h];exact Nat.le_add_right _ 6
theorem JH{l:List E}(hl:l.length≤3)(ho:∀e∈l,e.ok)(hn:2≤n){m:Loc}{C:PV→AH→Prop}(h:C (.bool (l.all E.quiet)) H):
  qZ m [] (.one 28) (Xc g n []) (fun m H Q=>(X.call 223 [.loc 28]).wE g n m H Q) (fun acc H=>Cl g n (.blt "all") [.lst acc] H C) (.tup (l.map E.typ)) H:=
 cI (f:=E.typ) (w:=fun e=>.bool e.quiet) l (Nat.le_trans hl (Y6 rfl)) (fun a ha D o K O k=>d8 (x:=E.typ a) (by rw [s6,if_pos rfl]) (Om hg a (ho a ha) hn k)) (Wx rfl (Oo l) (by rw [List.all_map];exact h))
theorem Ot(h:HF g c e)(hk:e.k = .n∨e.k = .t){l:List E}(hl:l.length≤3)(ho:∀e∈l,e.ok):R5 g c e l:=by
 intro n M R H self Q hn B hf hz hQ
 refine(Y0 P).cl hg rfl hn fun n hn=>B.me rfl rfl (h hn B hf (Nat.le_trans (Oq M) hz) fun H B=>?_)
 have n20:20≤n:=Nat.le_trans (fj e) (Nat.le_trans (Nat.le_add_right _ 2) hn)
 cases hp:e.vO with
 |false=>
  rw [uD (by rw [hp];rfl)] at hQ
  exact cA ((Vv e).trans hp) (hQ H B)
 |true=>
  refine V3 ((Vv e).trans hp) (JH hg hl ho (leB n20 rfl) ?_)
  cases hq:l.all E.quiet with
  |true=>
   rw [uD (by rw [hp,hq];rfl)] at hQ
   exact hQ H B
  |false=>
   rw [wU (by rw [hp,hq];rfl)] at hQ hz
   exact B.me rfl rfl (SM hg B (Ci hk) (((o9 e).K3 e hf).ne hf) hz (leB n20 rfl) hQ)
end
theorem ad0(P:Params)(op:Op)(h:op.ar=true):∃v j,(s7 P).T.w5 627 op.s=some (.str v)∧(s7 P).T.cat 271 v=some j∧(s7 P).T.cat j 268=some op.msg∧
  tabOf texts j=tabOf texts 271++tabOf texts v∧tabOf texts op.msg=tabOf texts j++tabOf texts 268∧(tabOf texts 271).length+(tabOf texts v).length≤100∧(tabOf texts j).length+(tabOf texts 268).length≤100:=by
 cases op<;>first|(cases h;done)|skip
 ·exact⟨331,419,rfl,rfl,rfl,by kernel_rfl,by kernel_rfl,by decide +kernel,by decide +kernel⟩
 ·exact⟨332,422,rfl,rfl,rfl,by kernel_rfl,by kernel_rfl,by decide +kernel,by decide +kernel⟩
 ·exact⟨333,425,rfl,rfl,rfl,by kernel_rfl,by kernel_rfl,by decide +kernel,by decide +kernel⟩
section
variable{P:Params}{g:G (s7 P).T}(hg:v8 g){n:Nat}{c:Fix}{M M':Mem}{H R:AH}{Q:PV→AH→Prop}{self:Addr}{w:Nat}{e a b:E}
include hg
theorem pD(ha:R5 g c a [b])(hb:R5 g c b [])(wa:a.W≤w)(wb:b.W≤w)(hn:w+4≤n)(B:n6 c self M R H)(hf:M.frs≠[])(hz:(ahead b (low b) true (ahead a (low a) b.quiet M).1).1.sz≤sizeLine)
  (h:∀H',n6 c self (ahead b (low b) true (ahead a (low a) b.quiet M).1).1 R H'→Q (.lst [(ahead a (low a) b.quiet M).2,(ahead b (low b) true (ahead a (low a) b.quiet M).1).2]) H'):Cl g n (.obj T9) [.obj self,.tup [a.typ,b.typ]] H Q:=by
 have qb:[b].all E.quiet=b.quiet:=Bool.and_true _
 have gr:=(o9 a).ahead a b.quiet (M:=M) hf
 have h1:(ahead a (low a) ([b].all E.quiet) M).1.sz≤sizeLine:=by rw [qb];exact Nat.le_trans ((o9 b).ahead b true (gr.ne hf)).sz hz
 refine(cT P).cl hg rfl hn fun n hn=>V5 (k:=2) rfl (Nat.le_of_ble_eq_true rfl) (gA ⟨⟨by decide,by decide,by decide,by decide⟩,fun D hD=>?_⟩)
 have hR:=B.ac7 hD
 have B:=B.newR (D:=D) (o:=.list []) hD
 refine B.me rfl rfl (Z4 rfl rfl (MN (by decide) (show(1:Int)≤(2:Nat) by decide) (Y6 rfl) (ha (Xp hn wa rfl) B hf h1 fun H B=>?_)))
 rw [qb] at B ⊢
 refine And.intro (And.intro B.inR (And.intro (Y6 rfl) rfl)) ?_
 have B:=B.ac6 (o':=.list [(ahead a (low a) b.quiet M).2])
 refine B.me rfl rfl (Z4 rfl rfl (MN (by decide) (show(2:Int)≤(2:Nat) by decide) (Y6 rfl) (hb (Xp hn wb rfl) B (gr.ne hf) hz fun H B=>?_)))
 refine And.intro (And.intro B.inR (And.intro (Y6 rfl) rfl)) (h _ ?_)
 exact(B.ac6 (o':=.list [(ahead a (low a) b.quiet M).2,(ahead b (low b) true (ahead a (low a) b.quiet M).1).2])).ap7 hR
include hg
theorem jj{p o1 o2:PV}{op:Op}(B:n6 c self M R H)(hf:M.frs≠[])(hz:(J4 p op o1 o2 M).sz≤sizeLine)(hn:6≤n)(h:∀H',n6 c self (J4 p op o1 o2 M) R H'→Q .none H'):Cl g n (.obj R2) [.obj self,p,.str op.s,o1,o2,cY] H Q:=by
 refine(aY P).cl hg rfl hn fun n hn=>?_
 unfold J4 at hz h
 cases har:op.ar with
 |false=>
  rw [har] at hz h
  cases op<;>first|(cases har;done)|exact B.me rfl rfl (M6 hg B hz (leB hn rfl) h)
 |true=>
  rw [har] at hz h
  obtain⟨v,j,k1,k2,k3,k4,k5,k6,k7⟩:=ad0 P op har
  have t:=K6 hf ur
  have a:=M9 (M:=M.temp ur) (I8 M.tys.length) (.tup [.str 267,.str op.s,o1,o2])
  have st:Simple ur:=.tup (fun p h=>by
   rcases List.mem_cons.mp h with rfl|h
   ·exact .int _
   ·rw [List.mem_singleton.mp h];exact .bool) (Nat.le_refl _)
  have h3:=Nat.le_of_add_right_le (k:=2) hz
  have h2:=(HB (M:=(M.temp ur).asg (I8 M.tys.length) (.tup [.str 267,.str op.s,o1,o2])) (z7 (SQ M.tys.length 1)) (.bool false) (.str op.msg)).fits h3
  have e1:([.str 321,.str 260,.str 322,.str 265,.str 266,.str 447,.str 448].any fun y=>PV.eqv y (.str op.s))=true:=by cases op<;>first|rfl|(cases har;done)
  have e2:([.str 265,.str 266].any fun y=>PV.eqv y (.str op.s))=false:=by cases op<;>first|rfl|(cases har;done)
  refine cA (congrArg (fun x => !x) e1) (cA e2 (B.me rfl rfl (lU hg B st hf (a.fits h2) hn fun H B=>B.me rfl rfl (M6 hg B h2 (leB hn rfl) fun H B=>?_))))
  refine B.me rfl rfl (Xo k1 (GX k2 ⟨k4,Nat.le_trans k6 (Y6 rfl)⟩ (GX k3 ⟨k5,Nat.le_trans k7 (Y6 rfl)⟩ (SN hg B h3 (leB hn rfl) fun H B=>?_))))
  exact B.me rfl rfl (M6 hg B hz (leB hn rfl) h)
end
section
variable{P:Params}{g:G (s7 P).T}(hg:v8 g){n:Nat}{c:Fix}{M M' M1:Mem}{H R:AH}{Q:PV→AH→Prop}{self:Addr}{w k:Nat}{e a b d:E}{p:PV}
include hg
theorem cj(B:n6 c self M' R H)(gr:Gr M.push M' k)(hz:M'.pop.sz≤sizeLine)(hn:7≤n)(h:∀H',n6 c self M'.pop R H'→Q .none H'):Cl g n (.obj dI) [.obj self] H Q:=by
 obtain⟨f,e⟩:=gr.frs [] M.frs rfl
 exact XR hg B e hz hn h
theorem Ck(h:J5 g c e)(B:n6 c self M R H)(hf:M.frs≠[])(hz:(n8 (low e).into M).sz≤sizeLine) (hn:e.W+1≤n) (hQ:∀H',n6 c self (n8 (low e).into M) R H'→Q (.int M.tys.length) H'):Cl g n (.obj Y8) [.obj self,e.typ] H Q:=by
 have gr:=(o9 e).into (M.temp N6).push (I8 M.tys.length) nofun
 have h3:=Nat.le_trans (aP _) hz
 have h2:=gr.fits h3
 exact(fW P).cl hg rfl hn fun n hn=>B.me rfl rfl (lU hg B (qz .t) hf (Nat.le_of_succ_le h2) (leB (Nat.le_trans (fj e) hn) rfl) fun H B=>B.me rfl rfl (W5 hg B h2 (leB (Nat.le_trans (fj e) hn) rfl) fun H B=>B.me rfl rfl (h (p:=I8 M.tys.length) hn B nofun h3 fun H B=>
  B.me rfl rfl (cj hg (M:=M.temp N6) B gr hz (leB (Nat.le_trans (fj e) hn) rfl) hQ))))
theorem jk(h:J5 g c e)(B:n6 c self M R H)(hz:(inScope (low e).into p M).sz≤sizeLine) (hn:e.W+1≤n) (hQ:∀H',n6 c self (inScope (low e).into p M) R H'→Q .none H'):Cl g n (.obj R3) [.obj self,p,e.typ] H Q:=by
 have gr:=(o9 e).into M.push p nofun
 have h3:=Nat.le_trans (aP _) hz
 exact(aZ P).cl hg rfl hn fun n hn=>B.me rfl rfl (W5 hg B (gr.fits h3) (leB (Nat.le_trans (fj e) hn) rfl) fun H B=>B.me rfl rfl (h (p:=p) hn B nofun h3 fun H B=>B.me rfl rfl (cj hg (M:=M) B gr hz (leB (Nat.le_trans (fj e) hn) rfl) hQ)))
omit hg
theorem qD(e:E)(p:PV)(M:Mem):Gr M.push ((low e).into p M.push) e.cost:=(o9 e).into M.push p nofun
theorem Cm(i:Nat)(M1:Mem):(G9 i M1).blks.length=M1.blks.length+2:=(lZ _ _).trans ((X6 _).trans (congrArg (·+ 1) (X6 _)))
theorem yS{M3:Mem}{st i:Nat}{p rv t:PV}(h:i<M3.blks.length):i<(((M3.to st).asg p rv).cls t).blks.length:=by rw [lZ,SJ];exact h
theorem HJ{X:Mem}{i:Nat}(h:i<X.blks.length):i<(inScope (low e).into p X).blks.length:=Nat.lt_of_lt_of_le h (uz ((o9 e).into _ p nofun)).blks
theorem Ou{X:Mem}(h:(inScope (low e).into p X).sz≤sizeLine):X.sz≤sizeLine:=(uz ((o9 e).into _ p nofun)).fits h
include hg
theorem Td{an:Bool}(ha:J5 g c a)(hb:J5 g c b)(wa:a.W≤w)(wb:b.W≤w)(hn:w+2≤n)(B:n6 c self M R H)(hf:M.frs≠[])(hz:(mq an (low a).into (low b).into p M).sz≤sizeLine)
  (h:∀H',n6 c self (mq an (low a).into (low b).into p M) R H'→Q .none H'):Cl g n (.obj R8) [.obj self,p,(E.lazy an a b).typ] H Q:=by
 have n20:20≤w:=Nat.le_trans (fj a) wa
 refine(bZ P).cl hg rfl hn fun n hn=>?_
 have nn:20≤n:=Nat.le_trans n20 (Nat.le_trans (Nat.le_succ _) hn)
 have h8:=Nat.le_of_add_right_le (k:=2) hz
 have h7:=Ou h8
 have h6:=Nat.le_of_add_right_le (k:=2) h7
 have h5:=Nat.le_of_add_right_le (k:=2) h6
 have h4:=Nat.le_of_succ_le h5
 have h9:=Nat.le_trans (aP _) h8
 unfold mq at h
 dsimp only at h
 refine B.me rfl rfl (B.me rfl rfl (Ck hg ha B hf ((qy M.tys.length).fits h4) (Xp hn wa rfl) fun H B=>Hz hg B h4 (leB nn rfl) fun H B=>?_))
 have l3:(G9 M.tys.length (n8 (low a).into M)).o8.blks.length=(n8 (low a).into M).blks.length+3:=(X6 _).trans (congrArg (·+ 1) (Cm _ _))
 cases an<;>refine B.me rfl rfl (U8 hg B h5 (leB nn rfl) fun H B=>B.gV (by rw [l3];first|exact Nat.lt_add_of_pos_right (by decide)|exact Nat.add_lt_add_left (by decide) _) fun H B=>B.me rfl rfl (M6 hg B h6 (leB nn rfl) fun H B=>B.me rfl rfl (cX hg B h7 (leB nn rfl) fun H B=>B.gV ?_ fun H B=>
  B.me rfl rfl (W5 hg B ((qD b p _).fits h9) (leB nn rfl) fun H B=>B.me rfl rfl (hb (p:=p) (Jp hn wb) B nofun h9 fun H B=>B.me rfl rfl (cj hg B (qD b p _) h8 (leB nn rfl) fun H B=>B.me rfl rfl (Vr hg B ?_ hz (leB nn rfl) h)))))))
 case false.refine_1=>exact yS (by rw [l3];exact Nat.add_lt_add_left (by decide) _)
 case true.refine_1=>exact yS (by rw [l3];exact Nat.lt_add_of_pos_right (by decide))
 all_goals exact HJ (e:=b) (p:=p) (X:=Mem.to _ _) (yS (Nat.lt_of_lt_of_eq (Nat.lt_succ_self _) (X6 _).symm))
theorem ad5{u:Bool}(hc:J5 g c e)(ha:J5 g c a)(hb:J5 g c b)(we:e.W≤w)(wa:a.W≤w)(wb:b.W≤w)(hn:w+3≤n)(B:n6 c self M R H)(hf:M.frs≠[])(hz:(Vt (low e).into (low a).into (low b).into p M).sz≤sizeLine)
  (h:∀H',n6 c self (Vt (low e).into (low a).into (low b).into p M) R H'→Q .none H'):Cl g n (.obj z8) [.obj self,p,(E.O1 u e a b).typ] H Q:=by
 have n20:20≤w:=Nat.le_trans (fj a) wa
 refine(dR P).cl hg rfl hn fun n hn=>?_
 have nn:20≤n:=Nat.le_trans n20 (Jp hn (Nat.le_refl _))
 have h8:=Nat.le_of_add_right_le (k:=2) hz
 have h7:=Ou h8
 have h6:=Nat.le_of_add_right_le (k:=2) h7
 have h5:=Ou h6
 have h4:=Nat.le_of_succ_le h5
 refine B.me rfl rfl (B.me rfl rfl (Ck hg hc B hf ((qy M.tys.length).fits h4) (Xp hn we rfl) fun H B=>Hz hg B h4 (leB nn rfl) fun H B=>?_))
 have l3:(G9 M.tys.length (n8 (low e).into M)).o8.blks.length=(n8 (low e).into M).blks.length+3:=(X6 _).trans (congrArg (·+ 1) (Cm _ _))
 refine B.me rfl rfl (U8 hg B h5 (leB nn rfl) fun H B=>B.gV (by rw [l3];exact Nat.lt_add_of_pos_right (by decide)) fun H B=>B.me rfl rfl (jk hg ha B h6 (Xp hn wa rfl) fun H B=>B.me rfl rfl (cX hg B h7 (leB nn rfl) fun H B=>B.gV ?_ fun H B=>
  B.me rfl rfl (jk hg hb B h8 (Xp hn wb rfl) fun H B=>B.me rfl rfl (Vr hg B ?_ hz (leB nn rfl) h)))))
 ·exact Nat.lt_of_lt_of_eq (HJ (e:=a) (p:=p) (X:=Mem.to _ _) (Nat.lt_of_lt_of_eq (Nat.add_lt_add_left (by decide) _) l3.symm)) (lZ _ _).symm
 ·exact HJ (e:=b) (p:=p) (X:=Mem.to _ _) (Nat.lt_of_lt_of_eq (HJ (e:=a) (p:=p) (X:=Mem.to _ _) (Nat.lt_of_lt_of_eq (Nat.lt_succ_self _) (X6 _).symm)) (lZ _ _).symm)
end
section
variable{P:Params}{g:G (s7 P).T}(hg:v8 g){n:Nat}{c:Fix}(hfu:c.fu=1){M M' M1:Mem}{H R:AH}{Q:PV→AH→Prop}{self:Addr}{w k i:Nat}{e a b d:E}{p:PV}{op:Op}
noncomputable def fY(g:G (s7 P).T)(c:Fix)(f:Addr)(e:E):Prop := ∀{n:Nat} {M:Mem} {R H:AH} {self:Addr} {p:PV} {Q:PV→AH→Prop},e.W≤n+1→n6 c self M R H→M.frs≠[]→((low e).into p M).sz≤sizeLine→(∀H',n6 c self ((low e).into p M) R H'→Q .none H')→Cl g n (.obj f) [.obj self,p,e.typ] H Q
include hg
theorem Yc(ha:R5 g c a [b])(hb:R5 g c b [])(hk:a.k = .n):fY g c o7 (.bin op a b):=by
 intro n M R H self p Q hn B hf hz h
 have hn:max a.W b.W+7≤n:=Nat.le_of_succ_le_succ hn
 have h1:=(o9 a).ahead a b.quiet (M:=M) hf
 have h2:=h1.trans ((o9 b).ahead b true (h1.ne hf))
 have hz:(J4 p op (ahead a (low a) b.quiet M).2 (ahead b (low b) true (ahead a (low a) b.quiet M).1).2 (ahead b (low b) true (ahead a (low a) b.quiet M).1).1).sz≤sizeLine:=hz
 have hs:=(gW (h2.ne hf) _ _ _ _).fits hz
 have ty:a.ty=cY:=congrArg Ko hk
 refine(J0 P).cl hg rfl hn fun n hn=>B.me rfl rfl (pD hg ha hb (Nat.le_max_left ..) (Nat.le_max_right ..) (Kl hn rfl) B hf hs fun H B=>B.me rfl rfl ?_)
 show Cl g n _ [_,_,_,_,_,a.ty] _ _
 rw [ty]
 exact jj hg B (h2.ne hf) hz (leB (Nat.le_trans (Nat.le_trans (fj a) (Nat.le_max_left ..)) (Jp hn (Nat.le_refl _))) rfl) h
theorem Yd(ha:HF g c a):fY g c o7 (.not a):=by
 intro n M R H self p Q hn B hf hz h
 have hn:a.W+7≤n:=Nat.le_of_succ_le_succ hn
 exact(J0 P).cl hg rfl hn fun n hn=>B.me rfl rfl (B.me rfl rfl (ha (Kl hn rfl) B hf (Nat.le_of_add_right_le (k:=2) hz) fun H B=>M6 hg B hz (leB (Nat.le_trans (fj a) (Jp hn (Nat.le_refl _))) rfl) h))
theorem Ov{an:Bool}(ha:J5 g c a)(hb:J5 g c b):fY g c o7 (.lazy an a b):=by
 intro n M R H self p Q hn B hf hz h
 have hn:max a.W b.W+7≤n:=Nat.le_of_succ_le_succ hn
 exact(J0 P).cl hg rfl hn fun n hn=>B.me rfl rfl (Td hg ha hb (Nat.le_max_left ..) (Nat.le_max_right ..) (Kl hn rfl) B hf hz h)
theorem Ye{u:Bool}(hc:J5 g c e)(ha:J5 g c a)(hb:J5 g c b):fY g c z8 (.O1 u e a b):=by
 intro n M R H self p Q hn B hf hz h
 have hn:max e.W (max a.W b.W)+7≤n:=Nat.le_of_succ_le_succ hn
 exact ad5 hg hc ha hb (Nat.le_max_left ..) (Nat.le_trans (Nat.le_max_left ..) (Nat.le_max_right ..)) (Nat.le_trans (Nat.le_max_right ..) (Nat.le_max_right ..)) (Kl hn rfl) B hf hz h
theorem Te(ha:R5 g c a [b])(hb:R5 g c b []):fY g c H9 (.pair a b):=by
 intro n M R H self p Q hn B hf hz h
 have hn:max a.W b.W+7≤n:=Nat.le_of_succ_le_succ hn
 exact(cg P).cl hg rfl hn fun n hn=>B.me rfl rfl (B.me rfl rfl (pD hg ha hb (Nat.le_max_left ..) (Nat.le_max_right ..) (Kl hn rfl) B hf (Nat.le_of_add_right_le (k:=2) hz) fun H B=>
  cD (.inr rfl) (Y6 rfl) (M6 hg B hz (leB (Nat.le_trans (Nat.le_trans (fj a) (Nat.le_max_left ..)) (Jp hn (Nat.le_refl _))) rfl) h)))
theorem Ow(ha:HF g c a):fY g c s8 (.print a):=by
 intro n M R H self p Q hn B hf hz h
 have hn:a.W+7≤n:=Nat.le_of_succ_le_succ hn
 exact(J9 P).cl hg rfl hn fun n hn=>
  have nn:=Nat.le_trans (fj a) (Jp hn (Nat.le_refl _))
  have h1:=Nat.le_of_add_right_le (k:=2) hz
  B.me rfl rfl (B.me rfl rfl (ha (Kl hn rfl) B hf (Nat.le_of_add_right_le (k:=2) h1) fun H B=>yM hg B h1 (leB nn rfl) fun H B=>B.me rfl rfl (bL hg (p:=p) B hz (leB nn rfl) h)))
theorem Cp{gl o:PV}{q:Kd}(B:n6 c self M R H)(hz:(M.asg gl (bw o)).sz≤sizeLine) (hn:6≤n) (h:∀H',n6 c self (M.asg gl (bw o)) R H'→Q .none H'):Cl g n (.obj U0) [.obj self,gl,o,Ko q] H Q:=
 (cU P).cl hg rfl hn fun n hn=>B.world (ji hg (qz q) (leB hn rfl) fun H E=>(B.ext E).me rfl rfl (M6 hg (B.ext E) hz (leB hn rfl) h))
omit hg
theorem HN(e:E)(L:Lw)(M:Mem):ahead e L true M=K3 e L M:=by
 unfold Mine.Internal.ahead
 rw [Bool.not_true,Bool.and_false];rfl
theorem Tf(e:E)(L:Lw)(M:Mem):∃t l,(K3 e L M).2 = .tup (.str t::l)∧Nat.beq t 144=false:=by
 cases e<;>exact⟨_,_,rfl,rfl⟩
include hg hfu
theorem Ti(ha:R5 g c a [.loc i]):fY g c s8 (.assign i a):=by
 intro n M R H self p Q hn B hf hz h
 have hn:a.W+7≤n:=Nat.le_of_succ_le_succ hn
 have h1:((K3 a (low a) M).1.asg (I8 (1+i)) (bw (K3 a (low a) M).2)).sz≤sizeLine:=Nat.le_of_add_right_le (k:=2) hz
 have ha:∀{n:Nat} {H:AH} {Q:PV→AH→Prop},a.W+3≤n→n6 c self M R H→(∀H',n6 c self (K3 a (low a) M).1 R H'→Q (K3 a (low a) M).2 H')→Cl g n (.obj v9) [.obj self,a.typ,.tup [(E.loc i).typ]] H Q:=fun hn B h=>by
  have z:=HN a (low a) M
  exact ha hn B hf (z▸Nat.le_of_add_right_le (k:=2) h1) (z▸h)
 obtain⟨t,l,o1,o2⟩:=Tf a (low a) M
 exact(J9 P).cl hg rfl hn fun n hn=>
  have nn:=Nat.le_trans (fj a) (Jp hn (Nat.le_refl _))
  B.me rfl rfl (ha (Kl hn rfl) B fun H B=>at_of (r:=.str t) (by rw [o1];rfl) rfl (cA o2 (B.me rfl rfl (B.me rfl rfl (oA hg hfu (leB nn rfl) B (((o9 a).K3 a hf).ne hf) (Nat.le_of_add_right_le (k:=2) h1) fun H B=>
   Cp hg B h1 (leB nn rfl) fun H B=>B.me rfl rfl (bL hg (p:=p) B hz (leB nn rfl) h))))))
theorem Yg(ha:R5 g c a [.loc i])(hi:i<3):fY g c s8 (.update op i a):=by
 intro n M R H self p Q hn B hf hz h
 have hn:a.W+7≤n:=Nat.le_of_succ_le_succ hn
 have gr:=(o9 a).K3 a (M:=M) hf
 have h1:(J4 (I8 (1+i)) op (z7 (I8 (1+i))) (K3 a (low a) M).2 (K3 a (low a) M).1).sz≤sizeLine:=Nat.le_of_add_right_le (k:=2) hz
 have h2:=(gW (gr.ne hf) _ _ _ _).fits h1
 have ha:∀{n:Nat} {H:AH} {Q:PV→AH→Prop},a.W+3≤n→n6 c self M R H→(∀H',n6 c self (K3 a (low a) M).1 R H'→Q (K3 a (low a) M).2 H')→Cl g n (.obj v9) [.obj self,a.typ,.tup [(E.loc i).typ]] H Q:=fun hn B h=>by
  have z:=HN a (low a) M
  exact ha hn B hf (z▸h2) (z▸h)
 have ty:E.ty (.loc i)=cY:=congrArg Ko (if_pos hi)
 refine(J9 P).cl hg rfl hn fun n hn=>B.me rfl rfl (ha (Kl hn rfl) B fun H B=>?_)
 have nn:=Nat.le_trans (fj a) (Jp hn (Nat.le_refl _))
 refine B.me rfl rfl (oA hg hfu (leB nn rfl) B (gr.ne hf) h2 fun H B=>B.me rfl rfl ?_)
 show Cl g n _ [_,_,_,_,_,E.ty (.loc i)] _ _
 rw [ty]
 exact jj hg B (gr.ne hf) h1 (leB nn rfl) fun H B=>B.me rfl rfl (bL hg (p:=p) B hz (leB nn rfl) h)
omit hfu
theorem Ox(hd:J5 g c d)(hk:d.k = .u)(hn:d.W+1≤n)(B:n6 c self M R H)(hz:(zF (low d).into M).sz≤sizeLine) (h:∀H',n6 c self (zF (low d).into M) R H'→Q .none H'):Cl g n (.obj I6) [.obj self,.tup [.str 349,.int 0,d.typ]] H Q:=by
 have t:=K6 (M:=M.push) nofun J7
 have i:=(o9 d).into _ (I8 M.push.tys.length) (t.ne nofun)
 have h3:=Nat.le_trans (aP _) hz
 have h2:=i.fits h3
 have h1:=t.fits h2
 have ty:d.ty=J7:=congrArg Ko hk
 refine(K9 P).cl hg rfl hn fun n hn=>B.spot fun q=>B.bJ fun H B=>B.me rfl rfl (W5 hg B h1 (leB (Nat.le_trans (fj d) hn) rfl) fun H B=>B.me rfl rfl (B.me rfl rfl ?_))
 show Cl g n _ [_,d.ty] _ _
 rw [ty]
 have nn:=Nat.le_trans (fj d) hn
 exact lU hg B (qz .u) nofun h2 (leB nn rfl) fun H B=>hd (p:=I8 M.push.tys.length) hn B (t.ne nofun) h3 fun H B=>B.me rfl rfl (cj hg (M:=M) B (t.trans i) hz (leB nn rfl) fun H B=>B.bJ (h · ·))
theorem Yh(hd:J5 g c d)(hk:d.k = .u)(he:J5 g c e):fY g c q9 (.seq d e):=by
 intro n M R H self p Q hn B hf hz h
 have hn:max d.W e.W+7≤n:=Nat.le_of_succ_le_succ hn
 have g1:=Ce (M:=M.push) (o9 d).into
 have gi:=(o9 e).into _ p (g1.ne nofun)
 have h3:=Nat.le_trans (aP _) hz
 have h2:=gi.fits h3
 exact(J3 P).cl hg rfl hn fun n hn=>
  have nn:=Nat.le_trans (Nat.le_trans (fj d) (Nat.le_max_left ..)) (Jp hn (Nat.le_refl _))
  B.me rfl rfl (W5 hg B (g1.fits h2) (leB nn rfl) fun H B=>B.me rfl rfl (Ox hg hd hk (Xp hn (Nat.le_max_left ..) rfl) B h2 fun H B=>B.me rfl rfl (he (p:=p) (Jp hn (Nat.le_max_right ..)) B (g1.ne nofun) h3 fun H B=>B.me rfl rfl (cj hg (M:=M) B (g1.trans gi) hz (leB nn rfl) h))))
theorem Tj(hd:J5 g c d)(hk:d.k = .u):fY g c q9 (.unit d):=by
 intro n M R H self p Q hn B hf hz h
 have hn:d.W+7≤n:=Nat.le_of_succ_le_succ hn
 have g1:=Ce (M:=M.push) (o9 d).into
 have h3:=Nat.le_trans (aP _) hz
 have h2:=Nat.le_of_add_right_le (k:=2) h3
 exact(J3 P).cl hg rfl hn fun n hn=>
  have nn:=Nat.le_trans (fj d) (Jp hn (Nat.le_refl _))
  B.me rfl rfl (W5 hg B (g1.fits h2) (leB nn rfl) fun H B=>B.me rfl rfl (Ox hg hd hk (Kl hn rfl) B h2 fun H B=>B.me rfl rfl (bL hg (p:=p) B h3 (leB nn rfl) fun H B=>B.me rfl rfl (cj hg (M:=M) B (g1.trans (M9 p J7)) hz (leB nn rfl) h))))
end
section
variable{P:Params}{g:G (s7 P).T}(hg:v8 g){n:Nat}{c:Fix}(hfu:c.fu=1){M M' M1:Mem}{H R:AH}{Q:PV→AH→Prop}{self:Addr}{w k i:Nat}{e a b d:E}{p:PV}{op:Op}
structure Low(g:G (s7 P).T)(c:Fix)(e:E):Prop where
 into:J5 g c e
 place:yR g c e
 K3:e.k = .n∨e.k = .t→HF g c e
set_option tactic.hygienic true in
theorem Oz{q:E}(h:q.k = .p):(low q).place=U9 q.ty (low q).into:=by
 cases q<;>first|rfl|(cases h;done)|skip
 case loc i=>rcases HD i with z|z<;>rw [z] at h<;>cases h
include hg
theorem Low.via{f:Addr}(v:fY g c f e)(ht:f=o7∧(e.tag=236∨e.tag=235∨e.tag=160)∨f=H9∧e.tag=9∨f=s8∧(e.tag=242∨e.tag=159∨e.tag=241)∨f=z8∧e.tag=251∨f=q9∧e.tag=78)
  (hd:(low e).place=U9 e.ty (low e).into):Low g c e:=by
 have hi:J5 g c e:=fun hn B hf hz h=>Cg hg (w:=e.W-1) ht (by rw [Nat.sub_add_cancel (Nat.le_trans (Nat.le_of_ble_eq_true rfl) (fj e))];exact hn) B (fun hw B h=>v (Nat.le_add_of_sub_le hw) B hf hz (h _)) h
 have tg:Nat.beq e.tag 77=false∧Nat.beq e.tag 107=false∧Nat.beq e.tag 106=false∧Nat.beq e.tag 97=false:=by
  rcases ht with⟨_,h|h|h⟩|⟨_,h⟩|⟨_,h|h|h⟩|⟨_,h⟩|⟨_,h⟩<;>rw [h]<;>exact⟨rfl,rfl,rfl,rfl⟩
 have hp:yR g c e:=ou hg hi tg hd
 have wp:Z9 g c e (e.W-1+2):=by rw [show e.W-1+2=e.W+1 by have:=fj e;lia];exact hp
 exact⟨hi,hp,fun hk=>by
  have z:Cj g c e (e.W-1+3):=Fp hg wp hk (by rcases ht with⟨_,h|h|h⟩|⟨_,h⟩|⟨_,h|h|h⟩|⟨_,h⟩|⟨_,h⟩<;>rw [h]<;>rfl)
  rw [show e.W-1+3=e.W+2 by have:=fj e;lia] at z
  intro n M R H self Q hn B hf hz h
  exact z hn B hf hz h⟩
theorem Low.ahead(h:Low g c e)(hk:e.k = .n∨e.k = .t){l:List E}(hl:l.length≤3)(ho:∀e∈l,e.ok):R5 g c e l:=Ot hg (h.K3 hk) hk hl ho
theorem Low.yU(h:Low g c e)(hk:e.k = .n∨e.k = .t)(ho:a.ok):R5 g c e [a]:=h.ahead hg hk (Nat.le_of_ble_eq_true rfl) fun e he=>List.mem_singleton.mp he▸ho
theorem Low.OD(h:Low g c e)(hk:e.k = .n∨e.k = .t):R5 g c e []:=h.ahead hg hk (Nat.zero_le _) fun e he=>absurd he List.not_mem_nil
include hfu
theorem Fq(e:E):e.ok→Low g c e:=by
 induction e with
 |num i=>exact fun O=>
   have hi:J5 g c (.num i):=fun hn B hf hz h=>bM hg (w:=19) (.inl rfl) (Nat.le_of_ble_eq_true rfl) hn B (fun hw B h=>qC hg (leB hw rfl) (h _ B)) hz h
   ⟨hi,ou hg hi ⟨rfl,rfl,rfl,rfl⟩ rfl,fun O=>fun hn B hf hz h=>qC hg (leB hn rfl) (h _ B)⟩
 |O2 b=>exact fun O=>
   have hi:J5 g c (.O2 b):=fun hn B hf hz h=>bM hg (w:=19) (.inl rfl) (Nat.le_of_ble_eq_true rfl) hn B (fun hw B h=>qC hg (leB hw rfl) (h _ B)) hz h
   ⟨hi,ou hg hi ⟨rfl,rfl,rfl,rfl⟩ rfl,fun O=>fun hn B hf hz h=>qC hg (leB hn rfl) (h _ B)⟩
 |loc i=>exact fun O=>
   have hp:Z9 g c (.loc i) 2:=oA hg hfu
   have ho:Cj g c (.loc i) 3:=Fp hg (w:=0) hp (HD i) rfl
   ⟨fun hn B hf hz h=>bM hg (w:=19) (.inr (.inl rfl)) (Nat.le_of_ble_eq_true rfl) hn B (fun hw B h=>ho (leB hw rfl) B hf (Nat.le_of_add_right_le (k:=2) hz) h) hz h,fun hn=>hp (leB hn rfl),fun O=>fun hn=>ho (leB hn rfl)⟩
 |fld k q iq=>exact fun h=>
   have hp:Z9 g c (.fld k q) (q.W+2):=JG hg (iq h.2).place (Oz h.1.2)
   have ho:Cj g c (.fld k q) (q.W+3):=Fp hg hp (.inl rfl) rfl
   ⟨fun hn B hf hz h=>bM hg (w:=q.W+7) (.inr (.inr rfl)) (Nat.le_add_left 4 (q.W+3)) hn B (fun hw B h=>ho (Kl hw rfl) B hf (Nat.le_of_add_right_le (k:=2) hz) h) hz h,fun hn=>hp (Kl (k:=9) hn rfl),fun O=>fun hn=>ho (Kl (k:=10) hn rfl)⟩
 |not a ia=>exact fun h=>Low.via hg (Yd hg ((ia h.2).K3 (.inr h.1))) (.inl ⟨rfl,.inl rfl⟩) rfl
 | «lazy» an a b ia ib=>exact fun h=>Low.via hg (Ov hg (ia h.2.1).into (ib h.2.2).into) (.inl ⟨rfl,.inr (.inl rfl)⟩) rfl
 |O1 u e a b ie ia ib=>exact fun h=>Low.via hg (Ye hg (ie h.2.1).into (ia h.2.2.1).into (ib h.2.2.2).into) (.inr (.inr (.inr (.inl ⟨rfl,rfl⟩)))) rfl
 |bin op a b ia ib=>exact fun h=>Low.via hg (Yc hg ((ia h.2.1).yU hg (.inl h.1.1) h.2.2) ((ib h.2.2).OD hg (.inl h.1.2)) h.1.1) (.inl ⟨rfl,.inr (.inr rfl)⟩) rfl
 |pair a b ia ib=>exact fun h=>Low.via hg (Te hg ((ia h.2.1).yU hg (.inl h.1.1) h.2.2) ((ib h.2.2).OD hg (.inl h.1.2))) (.inr (.inl ⟨rfl,rfl⟩)) rfl
 |seq d e id_ ie=>exact fun h=>Low.via hg (Yh hg (id_ h.2.1).into h.1 (ie h.2.2).into) (.inr (.inr (.inr (.inr ⟨rfl,rfl⟩)))) rfl
 |unit d id_=>exact fun h=>Low.via hg (Tj hg (id_ h.2).into h.1) (.inr (.inr (.inr (.inr ⟨rfl,rfl⟩)))) rfl
 |print a ia=>exact fun h=>Low.via hg (Ow hg ((ia h.2).K3 (.inl h.1))) (.inr (.inr (.inl ⟨rfl,.inl rfl⟩))) rfl
 |assign i a ia=>exact fun h=>Low.via hg (Ti hg hfu ((ia h.2).yU hg (h.1.2▸HD i) (a:=.loc i) h.1.1)) (.inr (.inr (.inl ⟨rfl,.inr (.inl rfl)⟩))) rfl
 |update op i a ia=>exact fun h=>Low.via hg (Yg hg hfu ((ia h.2).yU hg (.inl h.1.2.2) (a:=.loc i) (Nat.lt_trans h.1.2.1 (by decide))) h.1.2.1) (.inr (.inr (.inl ⟨rfl,.inr (.inr rfl)⟩))) rfl
end
structure St(H₀ H:AH)(K:List (Addr×q7)):Prop where
 keep:Ext H₀ H
 mem:∀x∈K,H x.1=some x.2
 nd:(K.map (·.1)).Nodup
 fresh:∀x∈K,H₀ x.1=none
noncomputable def chg:List (Addr×q7)→Nat→q7→List (Addr×q7)
 | [],_,_=>[]
 |x::r,k,o=>match k with
  |0=>(x.1,o)::r
  |k+1=>x::chg r k o
section
variable{H₀ H:AH}{K:List (Addr×q7)}{b:Addr}{o o':q7}
theorem St.nil(H:AH):St H H []:=⟨.refl,fun O h=>(List.not_mem_nil h).elim,.nil,fun O h=>(List.not_mem_nil h).elim⟩
theorem St.at(s:St H₀ H K)(i:Nat){x:Addr×q7}(e:K[i]? = some x):H x.1=some x.2:=s.mem _ (List.mem_of_getElem? e)
theorem St.new(s:St H₀ H K)(h:H b=none)(o:q7):St H₀ (upd H b o) ((b,o)::K):=by
 have h0:H₀ b=none:=by
  cases e:H₀ b with
  |none=>rfl
  |some o=>exact nomatch h.symm.trans (s.keep b o e)
 have ne:∀x∈K,x.1≠b:=fun x hx e=>by rw [← e,s.mem x hx] at h;cases h
 refine⟨s.keep.trans (Ext.new h),fun x hx=>?_,List.nodup_cons.mpr ⟨fun hm=>?_,s.nd⟩,fun x hx=>?_⟩
 ·rcases List.mem_cons.mp hx with rfl|hx
  ·exact c7 ..
  ·rw [d9 (ne x hx)];exact s.mem x hx
 ·obtain⟨x,hx,e⟩:=List.mem_map.mp hm
  exact ne x hx e
 ·rcases List.mem_cons.mp hx with rfl|hx
  ·exact h0
  ·exact s.fresh x hx
theorem HS:∀(K:List (Addr×q7)) (i:Nat) (o:q7),(chg K i o).map (·.1)=K.map (·.1)
 | [],_,_=>rfl
 |_::_,0,_=>rfl
 |x::r,i+1,o=>congrArg (x.1 :: ·) (HS r i o)
theorem yV:∀{K:List (Addr×q7)} {i:Nat} {x y:Addr×q7},(K.map (·.1)).Nodup→K[i]? = some y→x∈chg K i o'→x=(y.1,o')∨x∈K∧x.1≠y.1
 | [],_,_,_,_,e,_=>nomatch e
 |z::r,0,x,y,nd,e,h=>by
  cases e
  rcases List.mem_cons.mp h with h|h
  ·exact .inl h
  ·exact .inr ⟨.tail _ h,fun q=>(List.nodup_cons.mp nd).1 (List.mem_map.mpr ⟨x,h,q⟩)⟩
 |z::r,i+1,x,y,nd,e,h=>by
  have e:r[i]? = some y:=e
  rcases List.mem_cons.mp h with rfl|h
  ·exact .inr ⟨.head _,fun q=>(List.nodup_cons.mp nd).1 (List.mem_map.mpr ⟨y,List.mem_of_getElem? e,q.symm⟩)⟩
  ·exact(yV (List.nodup_cons.mp nd).2 e h).imp id fun q=>⟨.tail _ q.1,q.2⟩
theorem St.put(s:St H₀ H K)(i:Nat){x:Addr×q7}(e:K[i]? = some x)(o':q7):St H₀ (upd H x.1 o') (chg K i o'):=by
 refine⟨Ext.upd (s.fresh x (List.mem_of_getElem? e)) s.keep,fun y hy=>?_,by rw [HS];exact s.nd,fun y hy=>?_⟩
 ·rcases yV s.nd e hy with rfl|⟨q,ne⟩
  ·exact c7 ..
  ·rw [d9 ne];exact s.mem y q
 ·rcases yV s.nd e hy with rfl|⟨q,_⟩
  ·exact s.fresh x (List.mem_of_getElem? e)
  ·exact s.fresh y q
theorem St.app{H':AH}{K':List (Addr×q7)}(s:St H₀ H K)(t:St H H' K'):St H₀ H' (K'++K):=by
 refine⟨s.keep.trans t.keep,fun x hx=>?_,?_,fun x hx=>?_⟩
 ·exact(List.mem_append.mp hx).elim (t.mem x) fun h=>t.keep _ _ (s.mem x h)
 ·rw [List.map_append]
  refine List.nodup_append.mpr ⟨t.nd,s.nd,fun a ha b hb e=>?_⟩
  obtain⟨x,hx,rfl⟩:=List.mem_map.mp ha
  obtain⟨y,hy,rfl⟩:=List.mem_map.mp hb
  have:=t.fresh x hx
  rw [e,s.mem y hy] at this
  cases this
 ·refine(List.mem_append.mp hx).elim (fun h=>?_) (s.fresh x)
  cases e:H₀ x.1 with
  |none=>rfl
  |some o=>exact nomatch (t.fresh x h).symm.trans (s.keep _ _ e)
theorem Tn{H':AH}{p:PV}{l:List PV}(E:Ext H H')(e:v7 H p=some l):v7 H' p=some l:=by
 rcases u9 e with rfl|⟨a,rfl,h⟩
 ·rfl
 ·exact I3 (E _ _ h)
end
section
variable{P:Params}{g:G (s7 P).T}(hg:v8 g){n:Nat}{H₀ H:AH}{Q:PV→AH→Prop}{K:List (Addr×q7)}{W:AH→Prop}
theorem St.attr(s:St H₀ H K)(i j:Nat){a C dx x:Addr}{l:List (Nat×PV)}{q:PV}(e1:K[i]? = some (a,.inst C dx))(e2:K[j]? = some (dx,.attrs l))(hf:(s7 P).T.fld C x=true)(hl:l.lookup x=some q)(h:Q q H):j6 g x Q (.obj a) H:=.mk (s.at i e1) (s.at j e2) hf hl h
theorem St.set(s:St H₀ H K)(i j:Nat){a C dx x:Addr}{l:List (Nat×PV)}{q:PV}(e1:K[i]? = some (a,.inst C dx))(e2:K[j]? = some (dx,.attrs l))(hf:(s7 P).T.fld C x=true)(hl:Nat.blt l.length 900=true)(h:∀H',St H₀ H' (chg K j (.attrs (j8 x q l)))→W H'):jX g x q W (.obj a) H:=
 .mk (s.at i e1) (s.at j e2) hf (Nat.le_of_ble_eq_true hl) (h _ (s.put j e2 _))
theorem dB:jt (s7 P).T fK 4 [.none,.none]:=jt.of (fd:=_) (ps:=_) rfl [.none,.none] rfl fun vs h S=>by
 obtain⟨a,r,e1,h1⟩:=O6 h
 obtain⟨b,r',e2,h2⟩:=O6 h1
 obtain⟨c,d,e3⟩:=len2 h2
 rw [e1,e2,e3];rfl
theorem aF.Yi{τ:T}{g:G τ}{n k:Nat}{H:AH}{Q:PV→AH→Prop}{f:Addr}{ps:List Nat}{body:List S}{l ds:List PV}(o:aF τ f ps body)(hg:v8 g)(hd:jt τ f l.length ds)(hl:l.length+ds.length=ps.length)(hn:k+1≤n)(h:∀n,k≤n→K4 g n body (ps.zip (l++ds)) H (IV Q)):Dl g n (.obj f) l H Q:=by
 cases n with
 |zero=>exact absurd hn (Nat.not_succ_le_zero k)
 |succ n=>exact o.Vi hg hd hl (h n (Nat.le_of_succ_le_succ hn))
include hg
theorem make{k:Nat}{C f:Addr}{l:List PV}(hi:(s7 P).T.init C=some f)(hn:k+1≤n)(h:∀n a dx H',k≤n→St H H' [(a,.inst C dx),(dx,.attrs [])]→Dl g n (.obj f) (.obj a::l) H' fun r H'=>r = .none∧Q (.obj a) H'):Cl g n (.obj C) l H Q:=by
 cases n with
 |zero=>exact absurd hn (Nat.not_succ_le_zero k)
 |succ n=>exact QW hg hi fun a dx ha hdx ne=>h n a dx _ (Nat.le_of_succ_le_succ hn) (((St.nil H).new hdx _).new (by rw [d9 ne];exact ha) _)
theorem JK{nm many:PV}{p:PV}{rows:List PV}(hr:v7 H p=some rows)(hz:rows.length≤sizeLine)(hn:2≤n)(h:∀b N5 locs blks spots H',St H H' [(spots,.w7 []),(blks,.list []),(locs,.list rows),(b,.inst dH N5),(N5,.attrs [(40,nm),(71,many),(75,.obj locs),(73,.obj blks),(74,.obj spots)])]→Q (.obj b) H'):
  Cl g n (.obj dH) [nm,many,p] H Q:=
 make hg rfl hn fun n b N5 H' hn s=>(lF P).Yi hg dB rfl hn fun n O=>s.set 0 1 rfl rfl rfl rfl fun H' s=>s.set 0 1 rfl rfl rfl rfl fun H' s=>xP (.inr (Tn s.keep hr)) hz (.inr fun locs hl=>(s.new hl _).set 1 2 rfl rfl rfl rfl fun H' s=>
  fun blks hb=>(s.new hb _).set 2 3 rfl rfl rfl rfl fun H' s=>fun spots hs=>(s.new hs _).set 3 4 rfl rfl rfl rfl fun H' s=>And.intro rfl (h _ _ _ _ _ _ s))
end
section
variable{P:Params}{g:G (s7 P).T}(hg:v8 g){n:Nat}{m:Loc}{H₀ H:AH}{Q:PV→AH→Prop}{K:List (Addr×q7)}
theorem St.me(s:St H₀ H K)(i j:Nat){a C dx x f:Addr}{l:List (Nat×PV)}{k:Addr→Addr→AH→Prop}(e1:K[i]? = some (a,.inst C dx))(e2:K[j]? = some (dx,.attrs l))(hf:(s7 P).T.meth C x=some f)(hl:l.lookup x=none)(h:k a f H):MethP g x k (.obj a) H:=.mk (s.at i e1) (s.at j e2) hf hl h
theorem ad6{a:Addr}{l:List (Nat×PV)}{k:Nat}{C:Bool→Prop}(e:H a=some (.w5 l))(h:C (m8 k l).isSome):rC .In (.str k) (.obj a) H C:=.mem (.os e h)
noncomputable abbrev OJ(r:PV×PV×PV):PV:=.tup [r.1,r.2.1,r.2.2]
noncomputable abbrev yW(r:PV×PV×PV):PV:=.tup [r.2.1,r.2.2,r.1]
theorem JL{rows:List (PV×PV×PV)}(hl:rows.length≤sizeLine){m:Loc}{fin:List PV→AH→Prop}(h:fin (rows.map yW) H):
  qZ m [] (.many [40,6,80]) (Xc g n []) (fun m H Q=>(X.tup [.loc 6,.loc 80,.loc 40]).wE g n m H Q) fin (.lst (rows.map OJ)) H:=fun D hD=>
 kj (ct:=.many [40,6,80]) (f:=OJ) (w:=yW) (fun m'=>m'=[]∨∃x y z,m'=[(40,x),(6,y),(80,z)]) (fun r=>[(40,r.1),(6,r.2.1),(80,r.2.2)]) rows
  (fun a O o m' hm=>⟨by rcases hm with rfl|⟨x,y,z,rfl⟩<;>rfl,.inr ⟨_,_,_,rfl⟩⟩) (fun a O o K k=>k) (fun O=>rfl) [] _ (.inl (wC m)) (by rw [List.length_nil,Nat.zero_add];exact hl) (by
   rw [List.nil_append,dj hD];exact h)
include hg
theorem yX{tf YL w Tp sg:Addr}{body path res:PV}{wl:List (Nat×PV)}{rows:List (PV×PV×PV)}{pn:Nat}(hp:path = .str pn)(hl:rows.length≤100)(t1:H tf=some (.inst gP YL))(t2:H YL=some (.attrs [(119,path),(75,.lst (rows.map OJ)),(39,.tup []),(122,res),(92,body)]))
  (w1:H w=some (.inst qw Tp)) (w2:H Tp=some (.attrs wl)) (w3:wl.lookup 121=some (.obj sg)) (w4:H sg=some (.w5 [])) (hn:5≤n) (h:∀a dx b N5 lc bl sp fr al d1 d2 rw st0 Pa H',St H H' [(d2,.m6 []),(Pa,.list [.obj st0,.none]),(st0,.list []),(fr,.list []),(al,.m6 []),(sp,.w7 []),(bl,.list [.obj Pa]),(lc,.list (.tup [res,.bool true,.none]::rows.map yW)),(b,.inst dH N5),(N5,.attrs [(40,path),(71,.int 0),(75,.obj lc),(73,.obj bl),(74,.obj sp)]),(rw,.list (.tup [res,.bool true,.none]::rows.map yW)),(d1,.w5 []),(a,.inst J8 dx),(dx,.attrs [(37,.obj w),(38,.obj d1),(115,.lst []),(116,.int 1),(92,.obj b),(3,.int 0),(117,.obj al),(118,.obj fr),(64,.int 0),(225,.obj d2)])]→Q (.obj a) H'):Cl g n (.obj J8) [.obj tf,.obj w] H Q:=by
 subst hp
 refine make hg rfl hn fun n a dx H' hn s=>(iJ P).clC hg rfl hn fun n hn=>⟨_,_,rfl,rfl,(tH P).cl hg rfl hn fun n hn=>s.set 0 1 rfl rfl rfl rfl fun H1 s=>?_⟩
 refine j6.mk (s.keep _ _ t1) (s.keep _ _ t2) rfl rfl (j6.mk (s.keep _ _ w1) (s.keep _ _ w2) rfl w3 (ad6 (s.keep _ _ w4) fun d1 h1=>(s.new h1 _).set 1 2 rfl rfl rfl rfl fun H1 s=>?_))
 refine j6.mk (s.keep _ _ t1) (s.keep _ _ t2) rfl rfl (j6.mk (s.keep _ _ t1) (s.keep _ _ t2) rfl rfl ?_)
 refine cI (f:=id) (w:=id) [] (Nat.zero_le _) (fun a ha=>nomatch ha) (Af.mk rfl rfl (Y6 rfl) fun rw h2=>?_)
 have s:=s.new h2 (.list [.tup [res,.bool true,.none]])
 refine V5 (k:=1) (len_list (s.at 0 rfl)) (Nat.le_of_ble_eq_true rfl) (Jb (DQ ⟨by decide,by decide,by decide,by decide⟩ (Nat.le_of_ble_eq_true rfl) (.inl (s.set 2 3 rfl rfl rfl rfl fun H1 s=>?_))))
 refine V5 (k:=1) (len_list (s.at 0 rfl)) (Nat.le_of_ble_eq_true rfl) (s.set 2 3 rfl rfl rfl rfl fun H1 s=>?_)
 refine G4 (s.at 0 rfl) (j6.mk (s.keep _ _ t1) (s.keep _ _ t2) rfl rfl (JL (Nat.le_trans hl (Y6 rfl)) ?_))
 refine nq (s.at 0 rfl) (.inr rfl) (Nat.le_trans (Nat.add_le_add_left (by rw [List.length_map];exact hl) 1) (Y6 rfl)) ?_
 have s:=s.put 0 rfl (.list ([.tup [res,.bool true,.none]]++rows.map yW))
 refine j6.mk (s.keep _ _ t1) (s.keep _ _ t2) rfl rfl (s.attr 2 3 rfl rfl rfl rfl (V5 (k:=0) rfl (Nat.le_of_ble_eq_true rfl) ?_))
 refine JK hg (I3 (s.at 0 rfl)) (Nat.le_trans (Nat.le_of_eq (List.length_append.trans (congrArg (1 + ·) (List.length_map _)))) (Nat.le_trans (Nat.add_le_add_left hl 1) (Y6 rfl))) (leB hn rfl) fun b N5 lc bl sp H1 t=>?_
 have s:=s.app t
 refine s.set 7 8 rfl rfl rfl rfl fun H1 s=>s.set 7 8 rfl rfl rfl rfl fun H1 s=>fun al h3=>(s.new h3 _).set 8 9 rfl rfl rfl rfl fun H1 s=>fun fr h4=>(s.new h4 _).set 9 10 rfl rfl rfl rfl fun H1 s=>s.me 9 10 rfl rfl rfl rfl ?_
 refine(Y9 P).cl hg rfl hn fun n O=>s.attr 9 10 rfl rfl rfl rfl (s.attr 5 6 rfl rfl rfl rfl (G4 (s.at 3 rfl) fun st0 h5 Pa h6=>?_))
 have s:=(s.new h5 (.list [])).new h6 (.list [.obj st0,.none])
 refine z6 (s.at 5 rfl) (Y6 rfl) ?_
 have s:=s.put 5 rfl (.list [.obj Pa])
 refine s.attr 11 12 rfl rfl rfl rfl (s.attr 7 8 rfl rfl rfl rfl (V5 (k:=1) (len_list (s.at 5 rfl)) (Nat.le_of_ble_eq_true rfl) ?_))
 refine s.set 11 12 rfl rfl rfl rfl fun H1 s=>fun d2 h7=>(s.new h7 _).set 12 13 rfl rfl rfl rfl fun H1 s=>And.intro rfl (h a dx b N5 lc bl sp fr al d1 d2 rw st0 Pa H1 s)
end
section
variable{H R:AH}{K:List (Addr×q7)}
theorem St.off(s:St R H K){z:Addr}(h:z∈K.map (·.1)):R z=none:=by
 obtain⟨x,hx,rfl⟩:=List.mem_map.mp h
 exact s.fresh x hx
noncomputable def rIx:Role→Nat
 |.self=>12 | .dx=>13 | .body=>8 | .N5=>9 | .locs=>7 | .blks=>6 | .spots=>5 | .frs=>3 | .alias=>4 | .bl _=>1 | .st _=>2 | .fr _=>0
noncomputable def ixR:Nat→Role
 |12=>.self|13=>.dx|8=>.body|9=>.N5|7=>.locs|6=>.blks|5=>.spots|3=>.frs|4=>.alias|1=>.bl 0|2=>.st 0|_=>.fr 0
noncomputable def Y4(tys:List PV):Mem:=⟨tys,[([],.none)],0,[],200⟩
theorem rows_of(rows:List (PV×PV×PV)):R7 (rows.map fun r=>r.2.1) (rows.map yW):=by
 induction rows with
 |nil=>exact .nil
 |cons r rows ih=>exact .cons ih
theorem Tq{tys:List PV}(hl:tys.length≤200)(hs:∀t∈tys,Simple t):lR (Y4 tys):=
 ⟨hl,Nat.le_of_ble_eq_true rfl,fun b h=>(List.mem_singleton.mp h▸Nat.zero_le _),Nat.zero_le _,fun O h=>(nomatch h),Nat.lt_succ_self 0,hs,fun O h=>(nomatch h)⟩
set_option tactic.hygienic true in
theorem Yj{a dx b N5 lc bl sp fr al d1 d2 rw st0 Pa:Addr}{path world res:PV}{rows:List (PV×PV×PV)}(hl:rows.length≤100)(hs:∀t∈res::rows.map (fun r=>r.2.1),Simple t)
  (s:St R H [(d2,.m6 []),(Pa,.list [.obj st0,.none]),(st0,.list []),(fr,.list []),(al,.m6 []),(sp,.w7 []),(bl,.list [.obj Pa]),(lc,.list (.tup [res,.bool true,.none]::rows.map yW)),(b,.inst dH N5),(N5,.attrs [(40,path),(71,.int 0),(75,.obj lc),(73,.obj bl),(74,.obj sp)]),(rw,.list (.tup [res,.bool true,.none]::rows.map yW)),(d1,.w5 []),(a,.inst J8 dx),(dx,.attrs [(37,world),(38,.obj d1),(115,.lst []),(116,.int 1),(92,.obj b),(3,.int 0),(117,.obj al),(118,.obj fr),(64,.int 0),(225,.obj d2)])]):
  n6 ⟨world,.obj d1,.lst [],1,path,.int 0,.obj d2⟩ a (Y4 (res::rows.map fun r=>r.2.1)) R H:=by
 let L:Role→Addr:=fun
  |.self=>a | .dx=>dx | .body=>b | .N5=>N5 | .locs=>lc | .blks=>bl | .spots=>sp | .frs=>fr | .alias=>al | .bl _=>Pa | .st _=>st0 | .fr _=>d2
 let x:vL:=⟨.int 0,[],.tup [res,.bool true,.none]::rows.map yW⟩
 let c:Fix:=⟨world,.obj d1,.lst [],1,path,.int 0,.obj d2⟩
 let M:=Y4 (res::rows.map fun r=>r.2.1)
 have back:∀r,U7 c M L x r≠none→ixR (rIx r)=r:=fun r h=>by
  cases r<;>try rfl
  case bl i=>cases i<;>first|rfl|exact absurd rfl h
  case st i=>cases i<;>first|rfl|exact absurd rfl h
  case fr i=>exact absurd rfl h
 have at_:∀r o,U7 c M L x r=some o→H (L r)=some o:=fun r o h=>by
  cases r
  case self=>cases h;exact s.at 12 rfl
  case dx=>cases h;exact s.at 13 rfl
  case body=>cases h;exact s.at 8 rfl
  case N5=>cases h;exact s.at 9 rfl
  case locs=>cases h;exact s.at 7 rfl
  case blks=>cases h;exact s.at 6 rfl
  case spots=>cases h;exact s.at 5 rfl
  case frs=>cases h;exact s.at 3 rfl
  case alias=>cases h;exact s.at 4 rfl
  case bl i=>cases i<;>cases h;exact s.at 1 rfl
  case st i=>cases i<;>cases h;exact s.at 2 rfl
  case fr i=>cases h
 let A:List Addr:=[d2,Pa,st0,fr,al,sp,bl,lc,b,N5,rw,d1,a,dx]
 have ix:∀r,A[rIx r]? = some (L r):=fun r=>by cases r<;>rfl
 have nd:A.Nodup:=s.nd
 have off:∀z∈A,R z=none:=fun z hz=>s.off hz
 refine⟨L,x,rfl,⟨fun r r' h h' e=>?_,at_,.cons (rows_of rows),Nat.zero_le _,Tq (by rw [List.length_cons,List.length_map];exact Nat.le_trans (Nat.succ_le_succ hl) (by decide)) hs⟩,fun y o e=>⟨s.keep y o e,fun r h z=>?_⟩⟩
 ·have z:rIx r=rIx r':=(List.getElem?_inj (List.getElem?_eq_some_iff.mp (ix r)).1 nd).mp ((ix r).trans ((congrArg some e).trans (ix r').symm))
  exact(back r h).symm.trans ((congrArg ixR z).trans (back r' h'))
 ·have q:=off (L r) (List.mem_of_getElem? (ix r))
  rw [z,e] at q
  cases q
end
section
variable{P:Params}{g:G (s7 P).T}(hg:v8 g){n:Nat}{m:Loc}{c:Fix}(hfu:c.fu=1){M M':Mem}{H R:AH}{Q:PV→AH→Prop}{self:Addr}{i:Nat}{e:E}
noncomputable abbrev Cq(k:PV)(i:Nat):PV:=.tup [.str 177,k,.int (i:Int),.str 143,.none]
theorem aq0(i:Nat):(1:Int)+(i:Int)=((1+i:Nat):Int):=by lia
include hg
theorem pY{k:PV}(hn:1≤n)(h:Q (.lst [Cq k i]) H):Cl g n (.obj fM) [Cq k i] H Q:=(pR P).cl hg rfl hn fun n O=>h
theorem Cr{k p:PV}(hn:1≤n)(h:Q (.lst []) H):Cl g n (.obj sH) [Cq k i,p] H Q:=(Bu P).cl hg rfl hn fun n O=>h
theorem Cu{k p:PV}(hn:3≤n)(h:∀D bd N5 H',St H H' [(D,.list [.obj bd]),(bd,.inst Jv N5),(N5,.attrs [(77,.int (i:Int)),(170,.str 143),(111,p)])]→Q (.obj D) H'):Cl g n (.obj jd) [Cq k i,p] H Q:=
 (tO P).cl hg rfl hn fun n hn=>make hg rfl hn fun n bd N5 H' hn s=>(pQ P).clC hg rfl hn fun n O=>s.set 0 1 rfl rfl rfl rfl fun H' s=>s.set 0 1 rfl rfl rfl rfl fun H' s=>s.set 0 1 rfl rfl rfl rfl fun H' s=>And.intro rfl fun D hD=>
  Cr hg (leB ‹2≤_› rfl) (h D bd N5 _ (s.new hD _))
theorem HW(B:n6 c self M R H)(hfu:c.fu=1)(hn:1≤n)(h:Q (.int ((1+i:Nat):Int)) H):Cl g n (.obj bT) [.obj self,.int (i:Int)] H Q:=Hu hg B hn (by rw [hfu,aq0];exact h)
omit hg
theorem n6.aq1{D:Addr}{o:q7}{H':AH}(B:n6 c self M R H)(E:Ext H H')(h0:H D=none)(h1:H' D=some o):n6 c self M (upd R D o) H':=by
 obtain⟨L,x,e,B,F⟩:=B
 refine⟨L,x,e,B.ext E,fun b q z=>?_⟩
 by_cases k:b=D
 ·subst k
  rw [c7] at z
  cases z
  exact⟨h1,fun r hr w=>by
   cases i:U7 c M L x r with
   |none=>exact hr i
   |some o'=>rw [← w,B.at_ r o' i] at h0;cases h0⟩
 ·rw [d9 k] at z
  exact⟨E _ _ (F b q z).1,(F b q z).2⟩
noncomputable def Cv(i:Nat)(e:E)(M:Mem):Mem:=((low e).into (I8 (1+i)) (((M.tick.put (.tup [.str 129,.int ((1+i:Nat):Int)])).add (1+i,true)).push)).pop
include hg
theorem Tt{l:List PV}(hn:1≤n)(h:Q (.bool false) H):Cl g n (.obj dJ) [.tup (.str 156::l)] H Q:=(vH P).cl hg rfl hn fun n O=>h
theorem Pb{k:PV}(hn:1≤n)(h:Q (.bool true) H):Cl g n (.obj eG) [Cq k i] H Q:=(nZ P).cl hg rfl hn fun n O=>h
include hfu
theorem Yk{k:PV}(he:J5 g c e)(ht:e.tag=156)(hi:1+i<M.tys.length)(B:n6 c self M R H)(hf:M.frs≠[])(hz:(Cv i e M).sz≤sizeLine)(hn:e.W+1≤n)(h:∀H',n6 c self (Cv i e M) R H'→Q .none H'):Cl g n (.obj Q9) [.obj self,Cq k i,e.typ] H Q:=by
 refine(aX P).cl hg rfl hn fun n hn=>?_
 have nn:=Nat.le_trans (fj e) hn
 have gr:=qD e (I8 (1+i)) ((M.tick.put (.tup [.str 129,.int ((1+i:Nat):Int)])).add (1+i,true))
 have h3:=Nat.le_trans (aP _) hz
 have h2:=gr.fits h3
 refine pY hg (leB nn rfl) (Cu hg (leB nn rfl) fun D bd N5 H1 s=>?_)
 have hR:=B.ac7 (s.fresh (D,.list [.obj bd]) (.head _))
 have B:=B.aq1 s.keep (s.fresh (D,.list [.obj bd]) (.head _)) (s.at 0 rfl)
 refine d8 (I3 (s.at 0 rfl)) (B.me rfl rfl (B.me rfl rfl (s.attr 1 2 rfl rfl rfl rfl (HW hg B hfu (leB nn rfl) (uq hg B hi hf (Nat.le_of_succ_le h2) (leB nn rfl) fun H2 B=>And.intro (I3 B.inR) ?_)))))
 have B:=B.ap8 hR
 have key:∀t,t=156→Cl g n (.obj dJ) [.tup (.str t::e.ty :: .int 0::e.rest)] H2 fun p H'=>p = .bool false∧H'=H2:=fun t ht=>by rw [ht];exact Tt hg (leB nn rfl) ⟨rfl,rfl⟩
 refine(key _ ht).mono fun p H3 z=>?_
 obtain⟨rfl,rfl⟩:=z
 exact B.me rfl rfl (W5 hg B h2 (leB nn rfl) fun H B=>Pb hg (leB nn rfl) (B.me rfl rfl (B.me rfl rfl (HW hg B hfu (leB nn rfl) (he (p:=I8 (1+i)) hn B nofun h3 fun H B=>B.me rfl rfl (cj hg B gr hz (leB nn rfl) h))))))
end
end Mine.Internal
namespace Mine.Internal
open PySem PySem.W PySem.Calls PyProof.Rows
inductive Sm where
 |bind (i:Nat) (e:E)|deed (d:E)
noncomputable def Sm.typ:Sm→PV
 |.bind i e=>.tup [.str 286,.int 0,Cq e.ty i,e.typ]
 |.deed d=>.tup [.str 349,.int 0,d.typ]
noncomputable def Sm.run:Sm→Mem→Mem
 |.bind i e,M=>Cv i e M
 |.deed d,M=>zF (low d).into M
noncomputable def runs:List Sm→Mem→Mem
 | [],M=>M
 |s::ss,M=>runs ss (s.run M)
noncomputable def Sm.ok:Sm→Prop
 |.bind i e=>i<5∧e.tag=156∧e.ok
 |.deed d=>d.k = .u∧d.ok
noncomputable def Sm.W:Sm→Nat
 |.bind _ e=>e.W
 |.deed d=>d.W
noncomputable def Sm.cost:Sm→Nat
 |.bind _ e=>e.cost+10
 |.deed d=>d.cost+7
section
variable{P:Params}{g:G (s7 P).T}(hg:v8 g){n w:Nat}{m:Loc}{c:Fix}(hfu:c.fu=1){M M':Mem}{H R:AH}{Q:PV→AH→Prop}{self:Addr}{i:Nat}{e:E}{p:PV}
theorem Yl(h:M.frs≠[]):Gr M (Cv i e M) (e.cost+10):=by
 have h1:Gr M ((M.tick.put (.tup [.str 129,.int ((1+i:Nat):Int)])).add (1+i,true)) 5:=by
  obtain⟨f,fs,e⟩:=List.exists_cons_of_ne_nil h
  have e2:((M.tick.put (.tup [.str 129,.int ((1+i:Nat):Int)])).add (1+i,true)).frs=(f++[(1+i,true)])::fs:=by
   show(match M.frs with|f::fs=>(f++[(1+i,true)])::fs | []=>[])=_
   rw [e]
  refine⟨fun f' fs' e'=>?_,yP _,by show _≤(M.blks.modify _ _).length;rw [List.length_modify];exact Nat.le_refl _,Nat.le_add_right _ 3,?_⟩
  ·rw [e] at e'
   cases e'
   exact⟨_,e2⟩
  ·show M.sz+1+1+1+2*lV _≤M.sz+2*lV M+5
   unfold lV
   rw [e2,e]
   simp only [List.map_cons,List.sum_cons,List.length_append,List.length_singleton]
   lia
 exact(h1.trans (uz (qD e (I8 (1+i)) _))).le (by lia)
theorem Sm.gr(s:Sm)(h:M.frs≠[]):Gr M (s.run M) s.cost:=by
 cases s with
 |bind i e=>exact Yl h
 |deed d=>exact Ce (o9 d).into
noncomputable def costs(ss:List Sm):Nat:=(ss.map Sm.cost).sum
theorem qF(ss:List Sm):∀{M:Mem},M.frs≠[]→Gr M (runs ss M) (costs ss):=by
 induction ss with
 |nil=>exact fun O=>Gr.refl
 |cons s ss ih=>exact fun h=>(s.gr h).trans (ih ((s.gr h).ne h))
include hg hfu
theorem Ym{s:Sm}(ho:s.ok)(ht:5<M.tys.length)(B:n6 c self M R H)(hf:M.frs≠[])(hz:(s.run M).sz≤sizeLine)(hn:s.W+2≤n)(h:∀H',n6 c self (s.run M) R H'→Q .none H'):Cl g n (.obj I6) [.obj self,s.typ] H Q:=by
 cases s with
 |bind i e=>exact(K9 P).cl hg rfl hn fun n hn=>B.spot fun q=>B.bJ fun H B=>B.me rfl rfl (Yk hg hfu (Fq hg hfu e ho.2.2).into ho.2.1 (Nat.lt_of_lt_of_le (Nat.add_lt_add_left ho.1 1) ht) B hf hz hn fun H B=>B.bJ (h · ·))
 |deed d=>exact Ox hg (Fq hg hfu d ho.2).into ho.1 (Nat.le_of_succ_le hn) B hz h
theorem Tv{l0:List PV}{p e0:PV}{Q':Out→Loc→AH→Prop}(fin:∀m' H',n6 c self M' R H'→(∀q,j8 125 q m'=j8 125 q [(1,.obj self),(111,p),(145,e0)])→Q' .next m' H') (hz:M'.sz≤sizeLine):∀(ss:List Sm) (M:Mem) (H:AH) (m':Loc),(∀q,j8 125 q m'=j8 125 q [(1,.obj self),(111,p),(145,e0)])→(∀s∈ss,s.ok∧s.W+2≤n)→5<M.tys.length→n6 c self M R H→M.frs≠[]→runs ss M=M'→
  Ef (fun q m H Q=>(Tg.name 125).w g n q m H Q) (fun m H Q=>K4 g n [.expr (.meth (.loc 1) 284 [.loc 125])] m H Q) (.tup l0) l0 Q' (ss.map Sm.typ) m' H:=by
 intro ss
 induction ss with
 |nil=>exact fun M H m' hm O O B O e=>fin m' H (e▸B) hm
 |cons s ss ih=>
  intro M H m' hm ho ht B hf e
  have o:=ho s (.head _)
  have gr:=s.gr hf
  have hf':=gr.ne hf
  show K4 g n _ (j8 125 s.typ m') _ _
  rw [hm]
  refine B.me rfl rfl (Ym hg hfu o.1 ht B hf ((qF ss hf').fits (e▸hz)) o.2 fun H B=>ih _ _ _ (fun q=>ak ..) (fun s hs=>ho s (.tail _ hs)) ?_ B hf' e)
  obtain⟨l,el⟩:=gr.tys
  rw [el,List.length_append]
  exact Nat.lt_of_lt_of_le ht (Nat.le_add_right ..)
noncomputable def uE(ss:List Sm)(e:E)(p:PV)(M:Mem):Mem:=((low e).into p (runs ss M.push)).pop
noncomputable def Tw(ss:List Sm)(e:E):PV:=.tup [.str 78,e.ty,.int 0,.tup (ss.map Sm.typ),e.typ]
theorem JM{ss:List Sm}(ho:∀s∈ss,s.ok∧s.W≤w)(he:e.ok)(we:e.W≤w)(hl:ss.length≤100)(ht:5<M.tys.length)(hn:w+4≤n)(B:n6 c self M R H)(hf:M.frs≠[])(hz:(uE ss e p M).sz≤sizeLine)(h:∀H',n6 c self (uE ss e p M) R H'→Q .none H'):Cl g n (.obj I9) [.obj self,p,Tw ss e] H Q:=by
 have g1:=qF ss (M:=M.push) nofun
 have gi:=(o9 e).into _ p (g1.ne nofun)
 have h3:=Nat.le_trans (aP _) hz
 have h2:=gi.fits h3
 refine Cg hg (f:=q9) (w:=w+3) (.inr (.inr (.inr (.inr ⟨rfl,rfl⟩)))) hn B (fun hw B h=>(J3 P).cl hg rfl hw fun n hn=>?_) h
 have nn:=Nat.le_trans (fj e) (Nat.le_trans we (Jp hn (Nat.le_refl _)))
 refine B.me rfl rfl (W5 hg B (g1.fits h2) (leB nn rfl) fun H B=>?_)
 refine Tv hg hfu (fun m' H' B hm=>?_) h2 ss M.push _ _ (fun O=>rfl) (fun s hs=>⟨(ho s hs).1,Nat.le_trans (Nat.add_le_add_right (ho s hs).2 2) hn⟩) ht B nofun rfl
 have lk:∀{y:Nat} {q:PV},y≠125→([(1,.obj self),(111,p),(145,Tw ss e)]:Loc).lookup y=some q→m'.lookup y=some q:=fun{y q} ne h=>by
  have z:=congrArg (List.lookup y) (hm .none)
  rw [s6,s6,if_neg ne,if_neg ne] at z
  exact z.trans h
 have l1:=lk (y:=1) (by decide) rfl
 have le:=lk (y:=145) (by decide) rfl
 refine d8 le (d8 l1 (B.me rfl rfl (d8 (lk (y:=111) (by decide) rfl) (d8 le ((Fq hg hfu e he).into (p:=p) (Nat.le_trans we (Jp hn (Nat.le_refl _))) B (g1.ne nofun) h3 fun H B=>d8 l1 (B.me rfl rfl (cj hg (M:=M) B (g1.trans gi) hz (leB nn rfl) (h _))))))))
end
noncomputable def dX(b:List PV×PV):List PV×PV:=(b.1,if isNone b.2 then .tup [.str 139] else b.2)
noncomputable def Mem.S8(M:Mem)(i:Nat):Mem:={M with blks:=M.blks.modify i dX}
noncomputable def Mem.Cx:Nat→Nat→Mem→Mem
 |_,0,M=>M
 |i,k+1,M=>Mem.Cx (i+1) k (M.S8 i)
theorem wV:∀(k i:Nat) (M:Mem) (j:Nat),(M.Cx i k).blks[j]? = if i≤j∧j<i+k then M.blks[j]?.map dX else M.blks[j]?
 |0,i,M,j=>by rw [if_neg (by lia)];rfl
 |k+1,i,M,j=>by
  show(Mem.Cx (i+1) k (M.S8 i)).blks[j]? = _
  rw [wV k (i+1) (M.S8 i) j,show(M.S8 i).blks=M.blks.modify i dX from rfl,get_modify]
  by_cases h:i=j
  ·rw [if_pos h,if_neg (by lia),if_pos (by lia)]
  ·rw [if_neg h]
   by_cases q:i+1≤j∧j<i+1+k
   ·rw [if_pos q,if_pos (by lia)]
   ·rw [if_neg q,if_neg (by lia)]
noncomputable def Mem.fix(M:Mem):Mem:=M.Cx 0 M.blks.length
theorem uF(M:Mem):M.fix.blks=M.blks.map dX:=List.ext_getElem? fun j=>by
 rw [Mem.fix,wV,List.getElem?_map]
 by_cases h:j<M.blks.length
 ·rw [if_pos ⟨Nat.zero_le _,by exact Nat.le_trans ‹_› (Nat.le_add_left ..)⟩]
 ·rw [if_neg (by lia),List.getElem?_eq_none (Nat.le_of_not_lt h)];rfl
section
variable{P:Params}{g:G (s7 P).T}(hg:v8 g){n w:Nat}{m:Loc}{c:Fix}{M M':Mem}{L:Role→Addr}{x:vL}{H R:AH}{Q:PV→AH→Prop}{self:Addr}
theorem lR.S8(o:lR M)(i:Nat):lR (M.S8 i):=by
 have e:(M.blks.modify i dX).length=M.blks.length:=List.length_modify ..
 refine⟨o.tys,by show(M.blks.modify i dX).length≤_;rw [e];exact o.blks,fun b hb=>?_,o.frs,o.Jz,by show _<(M.blks.modify i dX).length;rw [e];exact o.here,o.simple,o.Km⟩
 obtain⟨j,hj⟩:=List.mem_iff_getElem?.mp hb
 rw [show(M.S8 i).blks=M.blks.modify i dX from rfl,get_modify] at hj
 by_cases h:i=j
 ·rw [if_pos h] at hj
  obtain⟨b',e,rfl⟩:=Option.map_eq_some_iff.mp hj
  exact o.sts b' (List.mem_of_getElem? e)
 ·rw [if_neg h] at hj
  exact o.sts b (List.mem_of_getElem? hj)
set_option tactic.hygienic true in
theorem Yn(B:u0 c M L x H)(F:Framed c M L x R H){i:Nat}{b:List PV×PV}(e:M.blks[i]? = some b):u0 c (M.S8 i) L x (upd H (L (.bl i)) (.list [.obj (L (.st i)),(dX b).2]))∧Framed c (M.S8 i) L x R (upd H (L (.bl i)) (.list [.obj (L (.st i)),(dX b).2])):=by
 have h0:U7 c M L x (.bl i)≠none:=by rw [U7,e];exact nofun
 have h1:U7 c (M.S8 i) L x (.bl i)=some (.list [.obj (L (.st i)),(dX b).2]):=by
  show Option.map _ (M.blks.modify i dX)[i]? = _
  rw [get_modify,if_pos rfl,e];rfl
 have h2:∀r,r≠.bl i→U7 c (M.S8 i) L x r=U7 c M L x r∨U7 c (M.S8 i) L x r=none:=fun r ne=>.inl (by
  cases r<;>try rfl
  case blks=>show some (q7.list (U6 L 0 (M.blks.modify i dX).length))=_;rw [List.length_modify];rfl
  case bl j=>
   show Option.map _ (M.blks.modify i dX)[j]? = _
   rw [get_modify,if_neg fun h=>ne (congrArg Role.bl h.symm)];rfl
  case st j=>
   show Option.map _ (M.blks.modify i dX)[j]? = _
   rw [get_modify]
   by_cases h:i=j
   ·rw [if_pos h,Option.map_map];rfl
   ·rw [if_neg h];rfl)
 exact⟨B.turn (r0:=.bl i) h0 h1 h2 B.rows B.sp (B.ok.S8 i),F.turn (r0:=.bl i) h0 h1 h2⟩
theorem Ft{i:Nat}{b:List PV×PV}(e:M.blks[i]? = some b)(h:isNone b.2=false):M.S8 i=M:=by
 have:M.blks.modify i dX=M.blks:=List.ext_getElem? fun j=>by
  rw [get_modify]
  by_cases q:i=j
  ·rw [if_pos q,← q,e]
   show some (b.1,if isNone b.2 then _ else b.2)=_
   rw [h];rfl
  ·rw [if_neg q]
 show{M with blks:=M.blks.modify i dX}=M
 rw [this]
include hg
theorem JN{Q':Out→Loc→AH→Prop}{l0:List PV}(fin:∀m' H',u0 c M' L x H'→Framed c M' L x R H'→(∀q,j8 78 q m'=j8 78 q [(1,.obj (L .self))])→Q' .next m' H'):∀(k i:Nat) (M:Mem) (H:AH) (m':Loc),(∀q,j8 78 q m'=j8 78 q [(1,.obj (L .self))])→i+k=M.blks.length→l0=U6 L 0 M.blks.length→u0 c M L x H→Framed c M L x R H→M.Cx i k=M'→
  Ef (fun q m H Q=>(Tg.name 78).w g n q m H Q) (fun m H Q=>K4 g n [.iff (.cmp .Is (.at (.loc 78) 1) .none) [.asg (.sub (.loc 78) (.int 1)) (.tup [.str 139])] []] m H Q) (.obj (L .blks)) l0 Q' (U6 L i k) m' H:=by
 intro k
 induction k with
 |zero=>exact fun i M H m' hm O O B F e=>fin m' H (e▸B) (e▸F) hm
 |succ k ih=>
  intro i M H m' hm hk hl B F e
  obtain⟨b,eb⟩:∃b,M.blks[i]? = some b:=⟨_,List.getElem?_eq_getElem (by exact Mine.Internal.eqs ‹_›)⟩
  have z:=Yn B F eb
  have hl':(M.S8 i).blks.length=M.blks.length:=List.length_modify ..
  have next:∀{H},u0 c (M.S8 i) L x H→Framed c (M.S8 i) L x R H→itemsOf H (.obj (L .blks))=some l0∧Ef (fun q m H Q=>(Tg.name 78).w g n q m H Q) (fun m H Q=>K4 g n [.iff (.cmp .Is (.at (.loc 78) 1) .none) [.asg (.sub (.loc 78) (.int 1)) (.tup [.str 139])] []] m H Q) (.obj (L .blks)) l0 Q' (U6 L (i+1) k) (j8 78 (.obj (L (.bl i))) [(1,.obj (L .self))]) H:=fun B F=>
   ⟨by rw [hl,← hl'];exact I3 (B.at_ .blks _ rfl),ih (i+1) (M.S8 i) _ _ (fun q=>ak ..) (by rw [hl'];exact Mine.Internal.eqt ‹_›) (by rw [hl'];exact hl) B F e⟩
  show K4 g n _ (j8 78 (.obj (L (.bl i))) m') _ _
  rw [hm]
  refine V6 (i:=1) (B.bl eb) (Nat.le_of_ble_eq_true rfl) rfl ?_
  cases hb:isNone b.2 with
  |true=>
   rw [show(dX b).2 = .tup [.str 139] from if_pos hb] at z
   exact V3 hb (set_list (i:=1) (B.bl eb) (Nat.lt_succ_self 1) (Y6 rfl) (next z.1 z.2))
  |false=>
   rw [Ft eb hb] at next
   exact cA hb (next B F)
end
end Mine.Internal
namespace Mine.Internal
open PySem PySem.W PySem.Calls PyProof.Rows
inductive Tm where
 |goto (i:Nat)|sw (o:PV) (no yes:Nat)|fB (o x t:PV) (i:Nat)|ret|Yo
noncomputable def Tm.v:Tm→PV
 |.goto i=>.tup [.str 84,.int (i:Int)]
 |.sw o no yes=>.tup [.str 85,o,.tup [.tup [.bool false,.int (no:Int)]],.int (yes:Int)]
 |.fB o x t i=>.tup [.str 88,o,x,t,.int (i:Int)]
 |.ret=>.tup [.str 247]
 |.Yo=>.tup [.str 139]
noncomputable def Tm.succ:Tm→List Nat
 |.goto i=>[i]
 |.sw _ no yes=>[no,yes]
 |.fB _ _ _ i=>[i]
 |_=>[]
noncomputable def Tm.fine(N:Nat)(t:Tm):Prop:=(∀j∈t.succ,j<N)∧t.succ.Nodup
theorem HX{a b:List Nat}:iW (a++b)=iW a++iW b:=List.map_append
theorem Pg(l:List Nat):PV.eV (iW l)=true:=by
 induction l with
 |nil=>rfl
 |cons x l ih=>exact ih
theorem Fv(l:List Nat):PV.depths (iW l)=0:=by
 induction l with
 |nil=>rfl
 |cons x l ih=>exact(Nat.max_eq_right (Nat.zero_le _)).trans ih
theorem Ph(l:List Nat)(i:Nat):((iW l).any fun y=>y.eqv (.int (i:Int)))=l.elem i:=by
 induction l with
 |nil=>rfl
 |cons x l ih=>
  show(((x:Int)==(i:Int))||_)=_
  rw [ih,List.elem_cons]
  by_cases h:i=x
  ·rw [h,beq_self_eq_true,beq_self_eq_true];rfl
  ·rw [show(i==x)=false from beq_eq_false_iff_ne.mpr h,show((x:Int)==(i:Int))=false from beq_eq_false_iff_ne.mpr fun z=>h (Int.ofNat.inj z).symm];rfl
section
variable{P:Params}{g:G (s7 P).T}(hg:v8 g){n w:Nat}{m:Loc}{H R:AH}{Q:PV→AH→Prop}{C:Bool→Prop}
theorem fZ{a:Addr}{l:List Nat}{i:Nat}(e:H a=some (.list (iW l))) (h:C (!l.elem i)):rC .NotIn (.int (i:Int)) (.obj a) H C:=
 .nmem (fun a' l' z k=>by cases z;rw [e] at k;cases k) (.ol e ⟨rfl,Pg l,.inl (by rw [Fv];exact Nat.zero_le _)⟩ (by show C (!((iW l).any fun y=>y.eqv (.int (i:Int))));rw [Ph];exact h))
theorem Cy{p q:PV}{l k:List PV}(np:p.int? = none)(e1:v7 H p=some l)(e2:v7 H q=some k)(hz:l.length+k.length≤sizeLine)(h:Q (.lst (l++k)) H):Ec g .Add p q H Q:=.seq e1 e2 hz h
theorem nd2{a b:Nat}(h:[a,b].Nodup):[a].elem b=false:=by
 have:a≠b:=fun e=>(List.nodup_cons.mp h).1 (e▸.head _)
 rw [List.elem_cons,show(b==a)=false from beq_eq_false_iff_ne.mpr fun e=>this e.symm];rfl
include hg
theorem Tz{t:Tm}(nd:t.succ.Nodup)(hn:1≤n)(h:∀F,H F=none→Q (.obj F) (upd H F (.list (iW t.succ)))):Cl g n (.obj kW) [t.v] H Q:=by
 refine(vB P).cl hg rfl hn fun n O=>?_
 cases t with
 |goto i=>exact fun F hF=>fZ (l:=[]) (c7 ..) (G4 (c7 ..) (z6 (c7 ..) (Y6 rfl) (by have z:=h F hF;rw [← gF H F (.list [])] at z;exact z)))
 |sw o no yes=>
  have e:=nd2 nd
  refine fun D hD=>kj (ct:=.many [89,78]) (f:=fun r:PV×PV=>.tup [r.1,r.2]) (w:=fun r=>r.2) (fun m'=>m'=[]∨∃x y,m'=[(89,x),(78,y)]) (fun r=>[(89,r.1),(78,r.2)]) [(PV.bool false,PV.int (no:Int))] (fun a O o m' hm=>⟨by rcases hm with rfl|⟨x,y,rfl⟩<;>rfl,.inr ⟨_,_,rfl⟩⟩) (fun a O o K k=>k) (fun O=>rfl) [] _ (.inl (wC _)) (Y6 rfl) ?_
  rw [List.nil_append,dj hD]
  refine Cy rfl rfl rfl (Y6 rfl) fun F hF=>fZ (l:=[]) (c7 ..) (G4 (c7 ..) (z6 (c7 ..) (Y6 rfl) (fZ (l:=[no]) (c7 ..) (V3 (by rw [e];rfl) (G4 (c7 ..) (z6 (c7 ..) (Y6 rfl) ?_))))))
  have z:Q (.obj F) (upd (upd (upd H F (.list [])) F (.list [.int (no:Int)])) F (.list [.int (no:Int),.int (yes:Int)])):=by rw [gF,gF];exact h F hF
  exact z
 |fB o x t i=>exact fun F hF=>fZ (l:=[]) (c7 ..) (G4 (c7 ..) (z6 (c7 ..) (Y6 rfl) (by have z:=h F hF;rw [← gF H F (.list [])] at z;exact z)))
 |ret=>exact fun F hF=>h F hF
 |Yo=>exact fun F hF=>h F hF
omit hg
noncomputable def TF(M:Mem)(t:Nat→Tm):Prop := ∀i b,M.blks[i]? = some b→b.2=(t i).v∧(t i).fine M.blks.length
include hg
theorem vP{c:Fix}{M:Mem}{L:Role→Addr}{x:vL}(B:u0 c M L x H){i:Nat}{b:List PV×PV}(e:M.blks[i]? = some b)(hi:M.sz≤sizeLine)(hn:1≤n)(h:Q b.2 H):Cl g n (.obj T7) [.obj (L .body),.int i] H Q:=
 (aN P).cl hg rfl hn fun n hn=>j6.mk B.body B.N5 rfl rfl (qx B (List.getElem?_eq_some_iff.mp e).1 hi (V6 (i:=1) (B.bl e) (Nat.le_of_ble_eq_true rfl) rfl h))
structure Qw(t:Nat→Tm)(N:Nat)(f w:List Nat):Prop where
 nd:f.Nodup
 lf:∀i∈f,i<N
 lw:∀i∈w,i<N
 cl:∀i∈f,∀j∈(t i).succ,j∈f∨j∈w
 z:f=[]∧w=[0]∨f.head? = some 0
omit hg
theorem Qw.skip{t:Nat→Tm}{N b:Nat}{f w:List Nat}(d:Qw t N f (w++[b]))(hb:b∈f):Qw t N f w:=by
 refine⟨d.nd,d.lf,fun i hi=>d.lw i (List.mem_append_left _ hi),fun i hi j hj=>?_,?_⟩
 ·rcases d.cl i hi j hj with h|h
  ·exact .inl h
  ·rcases List.mem_append.mp h with h|h
   ·exact .inr h
   ·exact .inl (List.mem_singleton.mp h▸hb)
 ·rcases d.z with⟨rfl,_⟩|h
  ·cases hb
  ·exact .inr h
theorem Qw.meet{t:Nat→Tm}{N b:Nat}{f w:List Nat}(d:Qw t N f (w++[b]))(hb:b∉f)(fine:(t b).fine N):Qw t N (f++[b]) (w++(t b).succ.reverse):=by
 have lb:b<N:=d.lw b (List.mem_append_right _ (.head _))
 refine⟨List.nodup_append.mpr ⟨d.nd,List.nodup_cons.mpr ⟨List.not_mem_nil,.nil⟩,fun x hx y hy e=>hb (by rw [← List.mem_singleton.mp hy,← e];exact hx)⟩,fun i hi=>?_,fun i hi=>?_,fun i hi j hj=>?_,?_⟩
 ·rcases List.mem_append.mp hi with h|h
  ·exact d.lf i h
  ·rw [List.mem_singleton.mp h];exact lb
 ·rcases List.mem_append.mp hi with h|h
  ·exact d.lw i (List.mem_append_left _ h)
  ·exact fine.1 i (List.mem_reverse.mp h)
 ·rcases List.mem_append.mp hi with h|h
  ·rcases d.cl i h j hj with q|q
   ·exact .inl (List.mem_append_left _ q)
   ·rcases List.mem_append.mp q with q|q
    ·exact .inr (List.mem_append_left _ q)
    ·exact .inl (List.mem_append_right _ q)
  ·rw [List.mem_singleton.mp h] at hj
   exact .inr (List.mem_append_right _ (List.mem_reverse.mpr hj))
 ·rcases d.z with⟨rfl,h⟩|h
  ·have:b=0:=by
    have z:=congrArg List.getLast? h
    rw [List.getLast?_append] at z
    exact Option.some.inj z
   exact .inr (by rw [this];rfl)
  ·refine .inr ?_
   cases f with
   |nil=>cases h
   |cons x f=>exact h
theorem Qw.len{t:Nat→Tm}{N:Nat}{f w:List Nat}(d:Qw t N f w):f.length≤N:=by
 have:=List.Nodup.length_le_of_subset (l₂:=List.range N) d.nd fun i hi=>List.mem_range.mpr (d.lf i hi)
 rwa [List.length_range] at this
include hg
omit hg
inductive ad7(t:Nat→Tm)(N:Nat)(m0:Loc)(F W:Addr)(H:AH)(j:Nat)(m':Loc)(H':AH):Prop
 |mk (f w:List Nat) (hm:m'=m0∨∃q,m'=m0++[(78,q)]) (e1:H' F=some (.list (iW f))) (e2:H' W=some (.list (iW w))) (d:Qw t N f w) (hj:3*(N-f.length)+w.length≤j) (hj2:j≤3*N+1) (E:Ext H H'):ad7 t N m0 F W H j m' H'
include hg
theorem Pj{c:Fix}{M:Mem}{L:Role→Addr}{x:vL}{t:Nat→Tm}(B:u0 c M L x H)(T:TF M t)(hp:0<M.blks.length)(hl:4*M.blks.length+10≤sizeLine)(hi:M.sz≤sizeLine)(hn:2≤n)(h:∀F H' f,Ext H H'→H' F=some (.list (iW f))→Qw t M.blks.length f []→Q (.obj F) H'):Cl g n (.obj oV) [.obj (L .body)] H Q:=by
 refine(yD P).cl hg rfl hn fun n hn F hF W hW=>?_
 have ne:W≠F:=fun z=>by rw [z,c7] at hW;cases hW
 have hW':H W=none:=by rw [← hW,d9 ne]
 let m0:Loc:=[(92,.obj (L .body)),(93,.obj W),(83,.obj F)]
 refine xW.mk (ad7 t M.blks.length m0 F W H) (3*M.blks.length+1)
  ⟨[],[0],.inl rfl,(d9 ne.symm).trans (c7 ..),c7 ..,⟨.nil,fun O h=>(nomatch h),fun i hi=>List.mem_singleton.mp hi▸hp,fun O h=>(nomatch h),.inl ⟨rfl,rfl⟩⟩,by show 3*(M.blks.length-0)+1≤3*M.blks.length+1;exact Nat.le_refl _,Nat.le_refl _,Ext.upd hW' (Ext.new hF)⟩ ?_
 intro j m' H' z
 obtain⟨f,w,hm,e1,e2,d,hj,hj2,E⟩:=z
 have lw:m'.lookup 93=some (.obj W):=by rcases hm with rfl|⟨q,rfl⟩<;>rfl
 have lf:m'.lookup 83=some (.obj F):=by rcases hm with rfl|⟨q,rfl⟩<;>rfl
 refine d8 lw (Vl e2 (Pg w) ?_)
 rcases List.eq_nil_or_concat w with rfl|⟨w,b,rfl⟩
 ·exact d8 lf (h F H' f E e1 d)
 rw [List.concat_eq_append] at *
 have e2':H' W=some (.list (iW w++[.int (b:Int)])):=e2.trans (congrArg (fun l=>some (q7.list l)) List.map_append)
 have fl:=d.len
 rw [List.length_append,List.length_singleton] at hj
 refine V3 (by cases w<;>rfl) (d8 lw (G4 e2 (DN e2' (by rw [List.length_map];lia) ?_)))
 have m2:j8 78 (.int (b:Int)) m'=m0++[(78,.int (b:Int))]:=by rcases hm with rfl|⟨q,rfl⟩<;>rfl
 show K4 g n _ (j8 78 (.int (b:Int)) m') _ _
 rw [m2]
 have e1':upd H' W (.list (iW w)) F=some (.list (iW f)):=(d9 ne.symm).trans e1
 have E':Ext H (upd H' W (.list (iW w))):=Ext.upd hW' E
 refine fZ e1' ?_
 cases hb:f.elem b with
 |true=>exact⟨j-1,by exact Mine.Internal.qh1 ‹_›,f,w,.inr ⟨_,rfl⟩,e1',c7 ..,d.skip (List.elem_iff.mp hb),by exact Mine.Internal.qh2 ‹_›,by exact Nat.le_trans (Nat.sub_le ..) ‹_›,E'⟩
 |false=>
  have nb:b∉f:=fun h=>nomatch (List.elem_iff.mpr h).symm.trans hb
  obtain⟨bl,eb⟩:∃bl,M.blks[b]? = some bl:=⟨_,List.getElem?_eq_getElem (d.lw b (List.mem_append_right _ (.head _)))⟩
  obtain⟨tv,fine⟩:=T b bl eb
  have d':=d.meet nb fine
  have fl':=d'.len
  rw [List.length_append,List.length_singleton] at fl'
  have s2:(t b).succ.length≤2:=by cases t b<;>exact Nat.le_of_ble_eq_true rfl
  refine G4 e1' (z6 e1' (by rw [List.length_map];lia) ?_)
  have E2:=Ext.upd hF E' (o:=.list (iW f++[.int (b:Int)]))
  have B2:=B.ext E2
  have eW:upd (upd H' W (.list (iW w))) F (.list (iW f++[.int (b:Int)])) W=some (.list (iW w)):=(d9 ne).trans (c7 ..)
  refine G4 eW (MethP.mk B2.body B2.N5 rfl rfl (vP hg B2 eb hi hn ?_))
  rw [tv]
  refine Tz hg fine.2 hn fun S hS=>d8 (I3 (c7 ..)) (V3 (Nat.ble_eq_true_of_le (by rw [List.length_map];exact Nat.le_trans ‹_› (by decide))) ?_)
  have nS:W≠S:=fun z=>by rw [← z,eW] at hS;cases hS
  have nF:F≠S:=fun z=>by rw [← z,c7] at hS;cases hS
  have hS':H S=none:=by
   cases q:H S with
   |none=>rfl
   |some o=>rw [E2 _ _ q] at hS;cases hS
  refine nq ((d9 nS).trans eW) (.inr rfl) (by rw [List.length_reverse,List.length_map,List.length_map];lia) ?_
  refine⟨j-1,by exact Mine.Internal.qh1 ‹_›,f++[b],w++(t b).succ.reverse,.inr ⟨_,rfl⟩,?_,?_,d',?_,by exact Nat.le_trans (Nat.sub_le ..) ‹_›,Ext.upd hW' (Ext.upd hS' E2)⟩
  ·rw [d9 ne.symm,d9 nF,c7];exact congrArg (fun l=>some (q7.list l)) (HX (a:=f) (b:=[b])).symm
  ·rw [c7,← List.map_reverse];exact congrArg (fun l=>some (q7.list l)) (HX (a:=w)).symm
  ·rw [List.length_append,List.length_append,List.length_reverse,List.length_singleton];lia
end
end Mine.Internal
namespace Mine.Internal
open PySem PySem.W PySem.Calls PyProof.Rows
noncomputable def Tm.map(ρ:Nat→Nat):Tm→Tm
 |.goto i=>.goto (ρ i)
 |.sw o no yes=>.sw o (ρ no) (ρ yes)
 |.fB o x t i=>.fB o x t (ρ i)
 |.ret=>.ret
 |.Yo=>.Yo
noncomputable def Turns{τ:T}(g:G τ)(p:PV)(D:Addr)(l:List (Int×PV))(ρ:Nat→Nat)(js:List Nat):Prop:=Plain g p∧∀(k j:Nat) (H':AH) (Q':PV→AH→Prop),1≤k→j∈js→H' D=some (.m6 l)→Q' (.int ((ρ j:Nat):Int)) H'→Cl g k p [.int (j:Int)] H' Q'
section
variable{P:Params}{g:G (s7 P).T}(hg:v8 g){n w:Nat}{m:Loc}{H R:AH}{Q:PV→AH→Prop}{C:Bool→Prop}
include hg
theorem vQ{t:Tm}{p:PV}{ρ:Nat→Nat}{D:Addr}{l:List (Int×PV)}(K:Turns g p D l ρ t.succ)(e:H D=some (.m6 l))(hn:2≤n)(h:Q (t.map ρ).v H):Cl g n (.obj kY) [t.v,p] H Q:=by
 refine(vC P).cl hg rfl hn fun n hn=>?_
 cases t with
 |goto i=>exact⟨K.1,K.2 n i H _ hn (.head _) e h⟩
 |sw o no yes=>
  refine fun A hA=>?_
  have ne:D≠A:=fun z=>by rw [z,hA] at e;cases e
  refine kj (ct:=.many [89,78]) (f:=fun r:PV×PV=>.tup [r.1,r.2]) (w:=fun O=>.tup [.bool false,.int ((ρ no:Nat):Int)]) (fun m'=>m'=[(90,p)]∨∃x y,m'=[(90,p),(89,x),(78,y)]) (fun r=>[(90,p),(89,r.1),(78,r.2)]) [(PV.bool false,PV.int (no:Int))]
   (fun a O o m' hm=>⟨by rcases hm with rfl|⟨x,y,rfl⟩<;>rfl,.inr ⟨_,_,rfl⟩⟩) (fun a ha o k kk=>?_) (fun O=>rfl) [] _ (.inl rfl) (Y6 rfl) ?_
  ·cases List.mem_singleton.mp ha
   exact⟨K.1,K.2 n no _ _ hn (.head _) ((d9 ne).trans e) kk⟩
  ·rw [List.nil_append,dj hA]
   exact cD (.inr rfl) (Y6 rfl) ⟨K.1,K.2 n yes H _ hn (.tail _ (.head _)) e h⟩
 |fB o x t i=>exact Rb.mk ⟨⟨by decide,by show(4:Int)<5;decide,Y6 rfl⟩,K.1,K.2 n i H _ hn (.head _) e (Vm (Y6 rfl) h)⟩
 |ret=>exact h
 |Yo=>exact h
end
end Mine.Internal
namespace Mine.Internal
open PySem PySem.W PySem.Calls PyProof.Rows
theorem W6{x y:Nat}{p q:PV}{m:Loc}(ne:x≠y)(h:m.lookup x=some p):(j8 y q m).lookup x=some p:=by rw [s6,if_neg ne];exact h
theorem V0{y:Nat}{q:PV}{m:Loc}:(j8 y q m).lookup y=some q:=by rw [s6,if_pos rfl]
theorem Cz{K:Type} [DecidableEq K]{k:K}{v:PV}:∀{l:List (K×PV)},m8 k l=some v→(k,v)∈l
 | [],h=>nomatch h
 |x::r,h=>by
  unfold m8 at h
  by_cases e:x.1=k
  ·rw [if_pos e] at h;cases h;rw [← e];exact .head _
  ·rw [if_neg e] at h;exact .tail _ (Cz h)
theorem wW{α:Type}{p q:α→Bool}(le:∀e,p e=true→q e=true):∀{l:List α},(∃e∈l,q e=true∧p e=false)→l.countP p+1≤l.countP q
 | [],h=>by obtain⟨_,h,_⟩:=h;cases h
 |x::r,h=>by
  rw [List.countP_cons,List.countP_cons]
  have mono:r.countP p≤r.countP q:=List.countP_mono_left fun e O=>le e
  have up:=fun h=>wW (p:=p) (q:=q) le (l:=r) h
  obtain⟨e,he,h1,h2⟩:=h
  rcases List.mem_cons.mp he with rfl|he
  ·rw [h1,h2];simp;omega
  ·have:=up ⟨e,he,h1,h2⟩
   cases a:p x with
   |true=>rw [le x a];simp;omega
   |false=>simp only [Bool.false_eq_true,if_false];exact Nat.le_trans ‹_› (Nat.le_add_right ..)
noncomputable def cd(dn:List Nat)(e:(Int×Int)×PV):Bool:=dn.any fun i=>decide (e.1.1=(i:Int))
noncomputable def cp(dn:List Nat)(b J:Nat)(e:(Int×Int)×PV):Bool:=cd dn e||(decide (e.1.1=(b:Int))&&decide (e.1.2<(J:Int)))
theorem HY{dn:List Nat}{b J:Nat}{e:(Int×Int)×PV}(h:cp dn b J e=true):cp dn b (J+1) e=true:=by
 simp only [cp,Bool.or_eq_true,Bool.and_eq_true,decide_eq_true_eq] at h ⊢
 exact h.imp id fun h=>⟨h.1,by have:=h.2;lia⟩
theorem TG{dn:List Nat}{b J:Nat}{e:(Int×Int)×PV}(h:cp dn b J e=true):cd (dn++[b]) e=true:=by
 simp only [cp,cd,Bool.or_eq_true,Bool.and_eq_true,decide_eq_true_eq,List.any_append,List.any_cons,List.any_nil,Bool.or_false] at h ⊢
 exact h.imp id fun h=>h.1
noncomputable def Fw:Nat→List Nat→List (Int×PV)
 |_,[]=>[]
 |i,b::r=>((b:Int),.int (i:Int))::Fw (i+1) r
theorem qG:∀(l:List Nat) (i:Nat),(Fw i l).length=l.length
 | [],_=>rfl
 |_::r,i=>congrArg (·+ 1) (qG r (i+1))
theorem Ie{b:Nat}:∀(l:List Nat) (i:Nat),b∉l→N8 (b:Int) (.int ((i+l.length:Nat):Int)) (Fw i l)=Fw i (l++[b])
 | [],i,_=>rfl
 |c::r,i,h=>by
  have ne:¬((c:Int)=(b:Int)):=fun e=>h (Int.ofNat.inj e▸.head _)
  show N8 _ _ (((c:Int),PV.int (i:Int))::Fw (i+1) r)=_
  rw [jP (q:=((c:Int),PV.int (i:Int))) ne,List.length_cons,show i+(r.length+1)=i+1+r.length by lia,Ie r (i+1) fun h'=>h (.tail _ h')];rfl
noncomputable def cZ(j:Nat):List Nat→Nat
 | []=>0
 |c::r=>if c=j then 0 else cZ j r+1
theorem CG{j:Nat}:∀{l:List Nat},j∈l→l[cZ j l]? = some j
 | [],h=>nomatch h
 |c::r,h=>by
  show(c::r)[if c=j then 0 else cZ j r+1]? = _
  by_cases e:c=j
  ·rw [if_pos e,e];rfl
  ·rw [if_neg e,List.getElem?_cons_succ]
   exact CG ((List.mem_cons.mp h).resolve_left fun z=>e z.symm)
theorem yZ{j:Nat}:∀(l:List Nat) (i:Nat),j∈l→m8 (j:Int) (Fw i l)=some (.int ((i+cZ j l:Nat):Int))
 | [],_,h=>nomatch h
 |c::r,i,h=>by
  show(if(c:Int)=(j:Int) then some (PV.int (i:Int)) else m8 (j:Int) (Fw (i+1) r))=some (.int ((i+(if c=j then 0 else cZ j r+1):Nat):Int))
  by_cases e:c=j
  ·rw [if_pos (show(c:Int)=(j:Int) from congrArg Int.ofNat e),if_pos e];rfl
  ·rw [if_neg (show ¬(c:Int)=(j:Int) from fun z=>e (Int.ofNat.inj z)),if_neg e,yZ r (i+1) ((List.mem_cons.mp h).resolve_left fun z=>e z.symm)]
   congr 3;exact Nat.add_right_comm ..
section
variable{P:Params}{g:G (s7 P).T}(hg:v8 g){n w:Nat}{m:Loc}{H R:AH}{Q:PV→AH→Prop}{C:Bool→Prop}
theorem ad8{a:Addr}{l:List ((Int×Int)×PV)} {i j:Int} (e:H a=some (.w7 l)) (h:C (m8 (i,j) l).isSome):rC .In (.tup [.int i,.int j]) (.obj a) H C:=.mem (.ot e h)
theorem JQ{a:Addr}{l:List ((Int×Int)×PV)} {i j:Int} {r:PV} (o:H a=some (.w7 l)) (e:m8 (i,j) l=some r) (h:Q r H):SubL g (.obj a) (.tup [.int i,.int j]) H Q:=.ot o e h
structure WM(m:Loc)(bd kp:PV)(D Bl Sp:Addr):Prop where
 body:m.lookup 92=some bd
 kept:m.lookup 95=some kp
 places:m.lookup 96=some (.obj D)
 blocks:m.lookup 73=some (.obj Bl)
 spots:m.lookup 74=some (.obj Sp)
theorem WM.set{bd kp:PV}{D Bl Sp:Addr}{y:Nat}{q:PV}(h:WM m bd kp D Bl Sp)(e:[92,95,96,73,74].elem y=false):WM (j8 y q m) bd kp D Bl Sp:=by
 have ne:∀x,[92,95,96,73,74].elem x=true→x≠y:=fun x hx z=>by rw [z,e] at hx;cases hx
 exact⟨W6 (ne _ rfl) h.body,W6 (ne _ rfl) h.kept,W6 (ne _ rfl) h.places,W6 (ne _ rfl) h.blocks,W6 (ne _ rfl) h.spots⟩
theorem CJ{c:Fix}{M:Mem}{L:Role→Addr}{x:vL}(B:u0 c M L x H){kp:PV}{D Bl Sp:Addr}{b N1:Nat}{dn f:List Nat}{done l0:List PV}(hb:b∈f)(hnb:b∉dn)(hz:M.sz+1≤sizeLine){Q':Out→Loc→AH→Prop}
  (fin:∀m' H' pZ,WM m' (.obj (L .body)) kp D Bl Sp→St H H' [(Sp,.w7 pZ),(Bl,.list done),(D,.m6 (Fw 0 f))]→pZ.length≤x.sp.countP (cd (dn++[b]))→Q' .next m' H'):∀(k i:Nat) (m:Loc) (H1:AH) (pZ:List ((Int×Int)×PV)),
  WM m (.obj (L .body)) kp D Bl Sp→m.lookup 78=some (.int (b:Int))→St H H1 [(Sp,.w7 pZ),(Bl,.list done),(D,.m6 (Fw 0 f))]→pZ.length≤x.sp.countP (cp dn b i)→
  Ef (fun q m H Q=>(Tg.name 97).w g n q m H Q) (fun m H Q=>K4 g n [.iff (.cmp .In (.tup [.loc 78,.loc 97]) (.attr (.loc 92) 74)) [.asg (.sub (.loc 74) (.tup [.sub (.loc 96) (.loc 78),.loc 97])) (.sub (.attr (.loc 92) 74) (.tup [.loc 78,.loc 97]))] []] m H Q) (.rng 0 (N1:Int)) l0 Q' (J2 (i:Int) k) m H1:=by
 intro k
 induction k with
 |zero=>exact fun i m H1 pZ wm O s hs=>fin m H1 pZ wm s (Nat.le_trans hs (List.countP_mono_left fun e O=>TG))
 |succ k ih=>
  intro i m H1 pZ wm hbk s hs
  have Vw:=wm.set (y:=97) (q:=.int (i:Int)) rfl
  have TJ:(j8 97 (.int (i:Int)) m).lookup 78=some (.int (b:Int)):=W6 (by decide) hbk
  have B1:=B.ext s.keep
  have next:∀pZ H2,St H H2 [(Sp,.w7 pZ),(Bl,.list done),(D,.m6 (Fw 0 f))]→pZ.length≤x.sp.countP (cp dn b (i+1))→_:=fun pZ H2 s2 h2=>ih (i+1) (j8 97 (.int (i:Int)) m) H2 pZ Vw TJ s2 h2
  show lk _ _
  refine d8 TJ (d8 V0 (d8 Vw.body (j6.mk B1.body B1.N5 rfl rfl (ad8 (B1.at_ .spots _ rfl) ?_))))
  cases e:m8 ((b:Int),(i:Int)) x.sp with
  |none=>exact next pZ H1 s (Nat.le_trans hs (List.countP_mono_left fun e O=>HY))
  |some v=>
   have up:pZ.length+1≤x.sp.countP (cp dn b (i+1)):=by
    refine Nat.le_trans (Nat.succ_le_succ hs) (wW (fun e h=>HY h) ⟨_,Cz e,?_,?_⟩)
    ·exact Bool.or_eq_true_iff.mpr (.inr (Bool.and_eq_true_iff.mpr ⟨decide_eq_true rfl,decide_eq_true (by show(i:Int)<((i+1:Nat):Int);exact Int.le_refl _)⟩))
    ·refine Bool.or_eq_false_iff.mpr ⟨List.any_eq_false.mpr fun j hj=>?_,Bool.and_eq_false_iff.mpr (.inr (decide_eq_false (Int.lt_irrefl _)))⟩
     rw [decide_eq_true_eq]
     exact fun z=>hnb (Int.ofNat.inj z▸hj)
   refine d8 Vw.body (j6.mk B1.body B1.N5 rfl rfl (d8 TJ (d8 V0 (JQ (B1.at_ .spots _ rfl) e ?_))))
   refine d8 Vw.spots (d8 Vw.places (d8 TJ (gK (s.at 2 rfl) (yZ f 0 hb) (d8 V0 (wB (s.at 0 rfl) rfl ?_ ?_)))))
   ·exact Nat.le_trans (Nat.le_of_succ_le (Nat.le_trans up List.countP_le_length)) (Nat.le_trans B.sp (Nat.le_of_succ_le hz))
   ·exact next _ _ (s.put 0 rfl _) (Nat.le_trans (oN _ _ _) up)
end
end Mine.Internal
namespace Mine.Internal
open PySem PySem.W PySem.Calls PyProof.Rows
section
variable{P:Params}{g:G (s7 P).T}(hg:v8 g){n w:Nat}{m:Loc}{H R:AH}{Q:PV→AH→Prop}{C:Bool→Prop}
theorem ad9{ns:List (Str×NameKind)}{c:Addr}{q:Str}(e:(s7 P).T.lam ns=some (c,I4,q)):q=eX:=by
 obtain⟨path,e⟩:=MF e
 have e':some ([25],223,219,eX)=some (path,c,I4,q):=e
 cases e'
 rfl
theorem dB6:jt (s7 P).T fK 6 []:=jt.of (fd:=_) (ps:=_) rfl [] rfl fun vs h S=>by
 obtain⟨a,r,e1,h1⟩:=O6 h
 obtain⟨b,r',e2,h2⟩:=O6 h1
 obtain⟨c,r2,e3,h3⟩:=O6 h2
 obtain⟨d,r3,e4,h4⟩:=O6 h3
 obtain⟨e,f,e5⟩:=len2 h4
 rw [e1,e2,e3,e4,e5];rfl
include hg
theorem za{bd kp:PV}{D:Addr}{f:List Nat}(nd:f.Nodup)(hz:f.length≤sizeLine){l0:List PV}{Q':Out→Loc→AH→Prop}
  (fin:∀m' H',m'.lookup 92=some bd→m'.lookup 95=some kp→m'.lookup 96=some (.obj D)→St H H' [(D,.m6 (Fw 0 f))]→Q' .next m' H'):∀(r pre:List Nat) (m:Loc) (H1:AH),
  m.lookup 92=some bd→m.lookup 95=some kp→m.lookup 96=some (.obj D)→St H H1 [(D,.m6 (Fw 0 pre))]→f=pre++r→
  Ef (fun q m H Q=>(Tg.name 78).w g n q m H Q) (fun m H Q=>K4 g n [.asg (.sub (.loc 96) (.loc 78)) (.call 31 [.loc 96])] m H Q) (.lst l0) l0 Q' (iW r) m H1:=by
 intro r
 induction r with
 |nil=>exact fun pre m H1 e1 e2 e3 s e=>fin m H1 e1 e2 e3 (by rw [e,List.append_nil];exact s)
 |cons b r ih=>
  intro pre m H1 e1 e2 e3 s e
  have hl:pre.length+(r.length+1)=f.length:=by rw [e,List.length_append,List.length_cons]
  have nb:b∉pre:=fun h=>by
   rw [e] at nd
   exact(List.nodup_append.mp nd).2.2 b h b (.head _) rfl
  have e3':(j8 78 (.int (b:Int)) m).lookup 96=some (.obj D):=W6 (by decide) e3
  have z:=Ie pre 0 nb
  rw [Nat.zero_add] at z
  refine d8 e3' (RB hg (s.at 0 rfl) (by rw [qG];rw [sizeLine_eq] at hz;lia) (d8 e3' (d8 V0 (gO (s.at 0 rfl) (by rw [qG];lia) ?_))))
  rw [qG,z]
  exact ih (pre++[b]) _ _ (W6 (by decide) e1) (W6 (by decide) e2) e3' (s.put 0 rfl _) (by rw [e,List.append_assoc];rfl)
noncomputable def oE(M:Mem)(t:Nat→Tm)(f:List Nat)(b:Nat):PV:=.lst [.lst ((M.blks[b]?.map (·.1)).getD []),((t b).map fun j=>cZ j f).v]
theorem zc{c:Fix}{M:Mem}{L:Role→Addr}{x:vL}{t:Nat→Tm}(B:u0 c M L x H)(T:TF M t)(hP:H I4=some (.code eX)){kp:PV}{D Bl Sp:Addr}{f:List Nat}(nd:f.Nodup)(lf:∀i∈f,i<M.blks.length)(cl:∀i∈f,∀j∈(t i).succ,j∈f)
  (hz:M.sz+1≤sizeLine) (hfz:f.length≤sizeLine) (hn:3≤n) {l0:List PV} {Q':Out→Loc→AH→Prop}
  (fin:∀m' H' pZ,WM m' (.obj (L .body)) kp D Bl Sp→St H H' [(Sp,.w7 pZ),(Bl,.list (f.map (oE M t f))),(D,.m6 (Fw 0 f))]→Q' .next m' H'):∀(r pre:List Nat) (m:Loc) (H1:AH) (pZ:List ((Int×Int)×PV)),
  WM m (.obj (L .body)) kp D Bl Sp→St H H1 [(Sp,.w7 pZ),(Bl,.list (pre.map (oE M t f))),(D,.m6 (Fw 0 f))]→pZ.length≤x.sp.countP (cd pre)→f=pre++r→
  Ef (fun q m H Q=>(Tg.name 78).w g n q m H Q) (fun m H Q=>K4 g n [.asg (.tup [.name 99,.name 81]) (.sub (.attr (.loc 92) 73) (.loc 78)),.Mj 73 67 (.call 76 [.loc 99]) 81 96 101 100 I4,.for (.name 97) (.call 69 [.bin .Add (.call 31 [.loc 99]) (.int 1)]) [.iff (.cmp .In (.tup [.loc 78,.loc 97]) (.attr (.loc 92) 74)) [.asg (.sub (.loc 74) (.tup [.sub (.loc 96) (.loc 78),.loc 97])) (.sub (.attr (.loc 92) 74) (.tup [.loc 78,.loc 97]))] []]] m H Q) (.lst l0) l0 Q' (iW r) m H1:=by
 intro r
 induction r with
 |nil=>exact fun pre m H1 pZ wm s hs e=>fin m H1 pZ wm (by rw [show f.map (oE M t f)=pre.map (oE M t f) from congrArg (List.map (oE M t f)) (e.trans (List.append_nil _))];exact s)
 |cons b r ih=>
  intro pre m H1 pZ wm s hs e
  have bf:b∈f:=by rw [e];exact List.mem_append_right _ (.head _)
  have nb:b∉pre:=fun h=>by
   rw [e] at nd
   exact(List.nodup_append.mp nd).2.2 b h b (.head _) rfl
  obtain⟨bl,eb⟩:∃bl,M.blks[b]? = some bl:=⟨_,List.getElem?_eq_getElem (lf b bf)⟩
  obtain⟨tv,fine⟩:=T b bl eb
  have B1:=B.ext s.keep
  have hsz:=Nat.le_of_succ_le hz
  have Vw:=wm.set (y:=78) (q:=.int (b:Int)) rfl
  refine d8 Vw.body (j6.mk B1.body B1.N5 rfl rfl (d8 V0 (qx B1 (lf b bf) hsz ?_)))
  show lk _ _
  refine d8 (I3 (B1.bl eb)) (V3 rfl ?_)
  have wm2:=(Vw.set (y:=99) (q:=.obj (L (.st b))) rfl).set (y:=81) (q:=bl.2) rfl
  have ls:=B.ok.sts bl (List.mem_of_getElem? eb)
  refine d8 wm2.blocks (G4 (s.at 1 rfl) (d8 (W6 (by decide) V0) (xP (.inr (I3 (B1.st eb))) (Nat.le_trans ls hsz) (.inl ?_))))
  refine Jj.mk V0 wm2.places rfl (fun ns cc q el=>?_) fun g' hg' F pl K=>?_
  ·rw [ad9 el];exact s.keep _ _ hP
  rw [tv]
  refine vQ hg' (D:=D) (l:=Fw 0 f) (ρ:=fun j=>cZ j f) ⟨pl,fun k j H' Q' k1 hj e q=>K k j _ _ H' Q' k1 e (yZ f 0 (cl b bf j hj)) (by rw [Nat.zero_add];exact q)⟩ (s.at 2 rfl) (leB hn rfl) ?_
  refine z6 (s.at 1 rfl) ?_ ?_
  ·rw [List.length_map]
   have:f.length=pre.length+(r.length+1):=by rw [e,List.length_append,List.length_cons]
   lia
  have s2:=s.put 1 rfl (.list (pre.map (oE M t f)++[.lst [.lst bl.1,((t b).map fun j=>cZ j f).v]]))
  have B2:=B.ext s2.keep
  refine d8 (W6 (by decide) V0) (V5 (len_list (B2.st eb)) (by rw [sizeLine_eq] at hsz;lia) (gA ?_))
  rw [sizeLine_eq] at hsz
  refine And.intro ⟨by decide,by decide,by lia,by lia⟩ (d8 (x:=J2 ((0:Nat):Int) (bl.1.length+1)) (congrArg (fun k=>some (J2 0 k)) (by lia)) ?_)
  refine CJ B (kp:=kp) (N1:=bl.1.length+1) (dn:=pre) bf nb hz (fun m' H' aq3 wm3 s3 hs3=>ih (pre++[b]) m' H' aq3 wm3 ?_ hs3 (by rw [e,List.append_assoc];rfl)) (bl.1.length+1) 0 _ _ pZ (tv▸wm2) (W6 (by decide) (W6 (by decide) V0)) s2 (Nat.le_trans hs (List.countP_mono_left fun e O h=>Bool.or_eq_true_iff.mpr (.inl h)))
  rw [List.map_append,show [b].map (oE M t f)=[.lst [.lst bl.1,((t b).map fun j=>cZ j f).v]] from congrArg (fun z=>[z]) (by unfold oE;rw [eb];rfl)]
  exact s3
theorem uG{c:Fix}{M:Mem}{L:Role→Addr}{x:vL}{t:Nat→Tm}(B:u0 c M L x H)(T:TF M t)(hP:H I4=some (.code eX)){f:List Nat}(nd:f.Nodup)(lf:∀i∈f,i<M.blks.length)(cl:∀i∈f,∀j∈(t i).succ,j∈f)
  (hz:M.sz+1≤sizeLine) (hn:4≤n) (h:∀b N5 bl H' a1 a2 a3 a5,Ext H H'→H' b=some (.inst dH N5)→H' N5=some (.attrs [(40,a1),(71,a2),(75,a3),(73,.obj bl),(74,a5)])→H' bl=some (.list (f.map (oE M t f)))→Q (.obj b) H'):
  Cl g n (.obj iY) [.obj (L .body),.lst (iW f)] H Q:=by
 have fl:f.length≤M.blks.length:=by
  have:=List.Nodup.length_le_of_subset (l₂:=List.range M.blks.length) nd fun i hi=>List.mem_range.mpr (lf i hi)
  rwa [List.length_range] at this
 have fz:f.length≤sizeLine:=Nat.le_trans fl (Nat.le_trans B.ok.blks (Nat.le_of_succ_le hz))
 refine(tG P).cl hg rfl hn fun n hn=>fun D hD=>?_
 refine za hg nd fz (bd:=.obj (L .body)) (kp:=.lst (iW f)) (fun m' H1 e1 e2 e3 s=>?_) f [] _ _ rfl rfl rfl ((St.nil H).new hD (.m6 [])) rfl
 refine fun Bl hBl Sp hSp=>?_
 have s2:=(s.new hBl (.list [])).new hSp (.w7 [])
 have wm0:WM (j8 73 (.obj Bl) (j8 74 (.obj Sp) m')) (.obj (L .body)) (.lst (iW f)) D Bl Sp:=⟨W6 (by decide) (W6 (by decide) e1),W6 (by decide) (W6 (by decide) e2),W6 (by decide) (W6 (by decide) e3),V0,W6 (by decide) V0⟩
 have se:jU ([73,74]:List Nat).reverse [PV.obj Bl,PV.obj Sp].reverse m'=j8 73 (.obj Bl) (j8 74 (.obj Sp) m'):=rfl
 show lk (List.lookup 95 (jU ([73,74]:List Nat).reverse [PV.obj Bl,PV.obj Sp].reverse m')) _
 rw [se]
 refine d8 (x:=.lst (iW f)) wm0.kept ?_
 refine zc hg B T hP nd lf cl hz fz hn (kp:=.lst (iW f)) (D:=D) (Bl:=Bl) (Sp:=Sp) (fun m2 H2 pZ wm s=>?_) f [] _ _ [] wm0 s2 (Nat.zero_le _) rfl
 have B2:=B.ext s.keep
 refine d8 wm.body (j6.mk B2.body B2.N5 rfl rfl (d8 wm.body (j6.mk B2.body B2.N5 rfl rfl (d8 wm.body (j6.mk B2.body B2.N5 rfl rfl (d8 wm.blocks (d8 wm.spots ?_)))))))
 refine make hg rfl hn fun n b N5 H' hn u=>(lF P).Yi hg dB6 rfl hn fun n O=>u.set 0 1 rfl rfl rfl rfl fun H' u=>u.set 0 1 rfl rfl rfl rfl fun H' u=>xP (.inr (I3 ((B2.ext u.keep).at_ .locs _ rfl))) ?_ (.inl (u.set 0 1 rfl rfl rfl rfl fun H' u=>u.set 0 1 rfl rfl rfl rfl fun H' u=>u.set 0 1 rfl rfl rfl rfl fun H' u=>And.intro rfl (h b N5 Bl H' _ _ _ _ (s.keep.trans u.keep) (u.at 0 rfl) (u.at 1 rfl) (u.keep _ _ (s.at 1 rfl)))))
 rw [B.rows.length]
 exact Nat.le_trans B.ok.tys (Nat.le_of_succ_le hz)
end
end Mine.Internal
namespace Mine.Internal
open PySem PySem.W PySem.Calls PyProof.Rows
structure Done(M:Mem)(t:Nat→Tm)(f:List Nat)(R:AH)(b:Addr)(H':AH):Prop where
 nd:f.Nodup
 lf:∀i∈f,i<M.blks.length
 cl:∀i∈f,∀j∈(t i).succ,j∈f
 z:f[0]? = some 0
 ty:M.tys.length≤M.sz
 bk:M.blks.length≤M.sz
 keep:∀y o,R y=some o→H' y=some o
 ob:∃N5 bl a1 a2 a3 a5,H' b=some (.inst dH N5)∧H' N5=some (.attrs [(40,a1),(71,a2),(75,a3),(73,.obj bl),(74,a5)])∧H' bl=some (.list (f.map (oE M t f)))
section
variable{P:Params}{g:G (s7 P).T}(hg:v8 g){n w:Nat}{m:Loc}{c:Fix}(hfu:c.fu=1){M M':Mem}{H R:AH}{Q:PV→AH→Prop}{self:Addr}{i:Nat}{e:E}{p:PV}
theorem Ig:∀(k i:Nat) (M:Mem),(M.Cx i k).sz=M.sz
 |0,_,_=>rfl
 |k+1,i,M=>Ig k (i+1) (M.S8 i)
include hg
theorem CK{t:Nat→Tm}(B:n6 c self M R H)(T:TF M.fix t)(hp:0<M.blks.length)(hz:4*M.sz+10≤sizeLine)(hP:R I4=some (.code eX))(hn:6≤n)(h:∀f b H',Done M.fix t f R b H'→Q (.obj b) H'):Cl g n (.obj bF) [.obj self] H Q:=by
 refine(jE P).cl hg rfl hn fun n hn=>?_
 obtain⟨L,x,rfl,B,F⟩:=B
 refine j6.mk B.self B.dx rfl rfl (j6.mk B.body B.N5 rfl rfl (d8 (I3 (B.at_ .blks _ rfl)) ?_))
 have fb:M.fix.blks.length=M.blks.length:=by rw [uF,List.length_map]
 refine JN hg (l0:=U6 L 0 M.blks.length) (M':=M.fix) (fun m' H1 B1 F1 hm=>?_) M.blks.length 0 M H _ (fun O=>rfl) (Nat.zero_add _) rfl B F rfl
 have ls:m'.lookup 1=some (.obj (L .self)):=by
  have z:=congrArg (List.lookup 1) (hm .none)
  rw [s6,if_neg (by decide),s6,if_neg (by decide)] at z
  exact z
 have sz:M.fix.sz=M.sz:=Ig _ _ _
 have lb:=B1.ok.blks
 rw [sz] at lb
 refine d8 ls (j6.mk B1.self B1.dx rfl rfl (d8 ls (j6.mk B1.self B1.dx rfl rfl (Pj hg B1 T (by rw [fb];exact hp) (by lia) (by rw [sz];lia) (leB hn rfl) fun F' H2 f E e d=>?_))))
 obtain⟨l,rfl⟩:∃l,f=0::l:=by
  rcases d.z with⟨_,z⟩|z
  ·cases z
  ·cases f with
   |nil=>cases z
   |cons y l=>cases z;exact⟨l,rfl⟩
 have fl:=d.len
 rw [List.length_cons] at fl
 refine Ju e d.nd (by lia) fun l' pm=>?_
 have mm:∀i,i∈0::l' ↔ i∈0::l:=fun i=>pm.mem_iff
 have B2:=B1.ext E
 have cl:∀i∈0::l',∀j∈(t i).succ,j∈0::l':=fun i hi j hj=>(mm j).mpr ((d.cl i ((mm i).mp hi) j hj).resolve_right List.not_mem_nil)
 refine uG hg B2 T (E _ _ (F1 _ _ hP).1) (pm.nodup_iff.mpr d.nd) (fun i hi=>d.lf i ((mm i).mp hi)) cl (by rw [sz];lia) (leB hn rfl) fun b N5 bl H' a1 a2 a3 a5 E2 e1 e2 e3=>?_
 exact h _ b H' ⟨pm.nodup_iff.mpr d.nd,fun i hi=>d.lf i ((mm i).mp hi),cl,rfl,B2.ok.tys,B2.ok.blks,fun y o z=>E2 _ _ (E _ _ (F1 y o z).1),N5,bl,a1,a2,a3,a5,e1,e2,e3⟩
omit hg
theorem n6.keep(B:n6 c self M R H){y:Addr}{o:q7}(e:R y=some o):H y=some o:=by
 obtain⟨L,x,_,_,F⟩:=B
 exact(F y o e).1
theorem n6.pos(B:n6 c self M R H):0<M.blks.length:=by
 obtain⟨L,x,_,B,_⟩:=B
 exact Nat.lt_of_le_of_lt (Nat.zero_le _) B.ok.here
noncomputable def JR(ss:List Sm)(e:E)(tys:List PV):Mem:=((uE ss e (I8 0) (Y4 tys).push.push).pop.pop).tick.close (.tup [.str 247])
theorem Pk(ss:List Sm)(e:E)(p:PV)(M:Mem):Gr M (uE ss e p M) (costs ss+e.cost+1):=X7 ((qF ss (M:=M.push) nofun).trans ((o9 e).into _ p ((qF ss (M:=M.push) nofun).ne nofun)))
include hg
theorem TP(hn:1≤n)(h:Q .none H):Cl g n (.obj O5) [.obj self,.tup []] H Q:=(Z8 P).cl hg rfl hn fun n O=>h
theorem Pn{tf YL w Tp sg:Addr}{pn:Nat}{res:PV}{wl:List (Nat×PV)}{rows:List (PV×PV×PV)}{ss:List Sm}{e:E}{t:Nat→Tm}{W:Nat}(hl:rows.length≤100)(h5:5≤rows.length)(hs:∀t∈res::rows.map (fun r=>r.2.1),Simple t)(t1:H tf=some (.inst gP YL))
  (t2:H YL=some (.attrs [(119,.str pn),(75,.lst (rows.map OJ)),(39,.tup []),(122,res),(92,Tw ss e)])) (w1:H w=some (.inst qw Tp)) (w2:H Tp=some (.attrs wl)) (w3:wl.lookup 121=some (.obj sg)) (w4:H sg=some (.w5 []))
  (ho:∀s∈ss,s.ok∧s.W≤W) (he:e.ok) (we:e.W≤W) (hss:ss.length≤100) (T:TF (JR ss e (res::rows.map fun r=>r.2.1)).fix t) (hz:4*(JR ss e (res::rows.map fun r=>r.2.1)).sz+10≤sizeLine) (hP:H I4=some (.code eX)) (hn:W+8≤n) (hW:20≤W)
  (h:∀f b H',Done (JR ss e (res::rows.map fun r=>r.2.1)).fix t f H b H'→Q (.obj b) H'):Cl g n (.obj Ho) [.obj tf,.obj w] H Q:=by
 refine(Nr P).cl hg rfl hn fun n hn=>?_
 refine yX hg rfl hl t1 t2 w1 w2 w3 w4 (by lia) fun a dx b N5 lc bl sp fr al d1 d2 rw st0 Pa H1 s=>?_
 have B:=Yj hl hs s
 have gB:=Pk ss e (I8 0) (Y4 (res::rows.map fun r=>r.2.1)).push.push
 have z1:=X7 gB
 have z0:(uE ss e (I8 0) (Y4 (res::rows.map fun r=>r.2.1)).push.push).pop.pop.sz+2≤(JR ss e (res::rows.map fun r=>r.2.1)).sz:=Nat.le_refl _
 have p1:=aP (uE ss e (I8 0) (Y4 (res::rows.map fun r=>r.2.1)).push.push)
 have p2:=aP (uE ss e (I8 0) (Y4 (res::rows.map fun r=>r.2.1)).push.push).pop
 have hz1:(JR ss e (res::rows.map fun r=>r.2.1)).sz≤sizeLine:=by lia
 have s0:=gB.sz
 have s1:(Y4 (res::rows.map fun r=>r.2.1)).push.sz+1≤(Y4 (res::rows.map fun r=>r.2.1)).push.push.sz:=Nat.le_refl _
 refine B.me rfl rfl (W5 hg B (by lia) (by lia) fun H2 B=>B.attr rfl fun O O O O O=>⟨_,rfl,?_⟩)
 refine B.me rfl rfl (W5 hg B (by lia) (by lia) fun H3 B=>B.me rfl rfl (j6.mk (B.keep t1) (B.keep t2) rfl rfl (TP hg (by lia) ?_)))
 refine B.me rfl rfl (j6.mk (B.keep t1) (B.keep t2) rfl rfl (JM hg rfl (p:=I8 0) (w:=W) ho he we hss (by show 5<(res::rows.map fun r=>r.2.1).length;rw [List.length_cons,List.length_map];lia) (by lia) B nofun (by lia) fun H4 B=>?_))
 refine B.me rfl rfl (cj hg B gB (by lia) (by lia) fun H5 B=>B.me rfl rfl (cj hg B z1 (by lia) (by lia) fun H6 B=>B.me rfl rfl (cX hg B hz1 (by lia) fun H7 B=>B.me rfl rfl ?_)))
 exact CK hg B T B.pos hz hP (by lia) fun f b H' d=>h f b H' d
end
end Mine.Internal
namespace Mine.Internal
open PySem PySem.W PySem.Calls PyProof.Rows
noncomputable def E.raw:E→PV
 |.num i=>.tup [.str 156,.int i]
 |.O2 b=>.tup [.str 276,.bool b]
 |.loc i=>.tup [.str 77,.int (i:Int)]
 |.not a=>.tup [.str 324,a.raw]
 |.lazy an a b=>.tup [.str 235,.str (if an then 277 else 278),a.raw,b.raw]
 |.O1 u c a b=>if u then .tup [.str 274,c.raw,.lst [a.raw],.lst [b.raw]] else .tup [.str 315,c.raw,a.raw,b.raw]
 |.bin op a b=>.tup [.str (if op.ar then 316 else 323),.str op.s,a.raw,b.raw]
 |.pair a b=>.tup [a.raw,b.raw]
 |.fld k q=>match q.raw with
  |.tup [x,y]=>.tup [.str 261,.int (k:Int),x,y]
  |_=>.none
 |.seq d e=>.tup [.str 78,d.raw,e.raw]
 |.unit d=>d.raw
 |.print a=>.tup [.str 242,a.raw]
 |.assign i a=>.tup [.str 159,.int (i:Int),a.raw]
 |.update op i a=>.tup [.str 241,.int (i:Int),.str op.s,a.raw]
inductive Wf:Bool→E→Prop
 |num {i:Int}:i.natAbs≤70000→Wf false (.num i)
 |O2 (b:Bool):Wf false (.O2 b)
 |loc {i:Nat}:i<5→Wf false (.loc i)
 |not {a:E}:Wf false a→Wf false (.not a)
 |lazy (an:Bool) {a b:E}:Wf false a→Wf false b→Wf false (.lazy an a b)
 |O1 {c a b:E}:Wf false c→Wf false a→Wf false b→Wf false (.O1 false c a b)
 |bin (op:Op) {a b:E}:Wf false a→Wf false b→Wf false (.bin op a b)
 |pair {k:Nat} {a b:E}:k<2→Wf false a→Wf false b→Wf false (.fld k (.pair a b))
 |seq {d e:E}:Wf true d→Wf false e→Wf false (.seq d e)
 |print {a:E}:Wf false a→Wf true (.print a)
 |assign {i:Nat} {a:E}:i<5→Wf false a→Wf true (.assign i a)
 |update (op:Op) {i:Nat} {a:E}:i<5→Wf false a→Wf true (.update op i a)
 |asked {c a b:E}:Wf false c→Wf true a→Wf true b→Wf true (.O1 true c (.unit a) (.unit b))
theorem CN{α:Type}{f w:α→PV}{x:Nat}{caps:List Nat}{we:Loc→AH→(PV→AH→Prop)→Prop}{m:Loc}{H:AH}{fin:List PV→AH→Prop}(xs:List α)(hl:xs.length≤sizeLine)
  (he:∀a∈xs,∀D o K,H D=none→K (w a) (upd H D o)→we (j8 x (f a) (W7 caps m)) (upd H D o) K) (h:fin (xs.map w) H):qZ m caps (.one x) (fun m H K=>K true H) we fin (.lst (xs.map f)) H:=fun D hD=>
 kj (ct:=.one x) (f:=f) (w:=w) (fun m' => ∀q,j8 x q m'=j8 x q (W7 caps m)) (fun a=>j8 x (f a) (W7 caps m)) xs (fun a O o m' hm=>⟨congrArg some (hm _),fun q=>ak ..⟩) (fun a ha o K k=>he a ha D o K hD k) (fun O=>rfl) [] _ (fun O=>rfl) (by rw [List.length_nil,Nat.zero_add];exact hl) (by
  rw [List.nil_append,dj hD];exact h)
section
variable{P:Params}{g:G (s7 P).T}(hg:v8 g){n w:Nat}{m:Loc}{H:AH}{Q:PV→AH→Prop}
include hg
theorem mD{i:Nat}(hn:1≤n)(h:Q (E.loc i).typ H):Cl g n (.obj lq) [.int (i:Int)] H Q:=by
 refine(vJ P).cl hg rfl hn fun n O=>?_
 by_cases c:i<3
 ·have z:h=h:=rfl
  refine V3 (decide_eq_true (by exact Int.ofNat_lt.mpr ‹_›)) ?_
  have e:(E.loc i).typ = .tup [.str 77,cY,.int 0,.int (i:Int)]:=congrArg (fun k=>PV.tup [.str 77,Ko k,.int 0,.int (i:Int)]) (show(if i<3 then Kd.n else Kd.t) = .n from if_pos c)
  rw [e] at h;exact h
 ·refine cA (decide_eq_false (by lia)) ?_
  have e:(E.loc i).typ = .tup [.str 77,N6,.int 0,.int (i:Int)]:=congrArg (fun k=>PV.tup [.str 77,Ko k,.int 0,.int (i:Int)]) (show(if i<3 then Kd.n else Kd.t) = .t from if_neg c)
  rw [e] at h;exact h
theorem Pq{f:Bool}{e:E}(w:Wf f e):∀{n:Nat} {H:AH} {Q:PV→AH→Prop},e.W≤n→Q e.typ H→Cl g n (.obj (if f then sU else lA)) [e.raw] H Q:=by
 induction w with
 |num hi=>exact fun hn h=>(G7 P).cl hg rfl (k:=0) (leB hn rfl) fun n O=>h
 |O2 b=>exact fun hn h=>(G7 P).cl hg rfl (k:=0) (leB hn rfl) fun n O=>h
 |loc hi=>exact fun hn h=>(G7 P).cl hg rfl (k:=1) (leB hn rfl) fun n hn=>mD hg hn h
 |@not a wa ih=>exact fun hn h=>(G7 P).cl hg rfl (k:=a.W) (Nat.le_trans (Nat.add_le_add_left (Nat.le_of_ble_eq_true rfl) _) hn) fun n hn=>ih hn h
 |@lazy an a b wa wb iha ihb=>
  intro n H Q hn h
  have hn:max a.W b.W+8≤n:=hn
  cases an<;>exact(G7 P).cl hg rfl (k:=max a.W b.W) (MP hn) fun n hn=>iha (uU hn) (ihb (iB hn) h)
 |@O1 c a b wc wa wb ihc iha ihb=>
  intro n H Q hn h
  have hn:max c.W (max a.W b.W)+8≤n:=hn
  exact(G7 P).cl hg rfl (k:=max c.W (max a.W b.W)) (MP hn) fun n hn=>ihc (uU hn) (iha (uU (iB hn)) (ihb (iB (iB hn)) h))
 |@bin op a b wa wb iha ihb=>
  intro n H Q hn h
  have hn:max a.W b.W+8≤n:=hn
  cases op<;>exact(G7 P).cl hg rfl (k:=max a.W b.W) (MP hn) fun n hn=>iha (uU hn) (ihb (iB hn) h)
 |@pair k a b hk wa wb iha ihb=>
  intro n H Q hn h
  have hn:max a.W b.W+8+8≤n:=hn
  exact(G7 P).cl hg rfl (k:=max a.W b.W) (aa8 hn) fun n hn=>iha (uU hn) (ihb (iB hn) h)
 |@seq d e wd we ihd Pu=>
  intro n H Q hn h
  have hn:max d.W e.W+8≤n:=hn
  exact(G7 P).cl hg rfl (k:=max d.W e.W) (MP hn) fun n hn=>Pu (iB hn) (ihd (uU hn) h)
 |@print a wa ih=>exact fun hn h=>(bG P).cl hg rfl (k:=a.W) (Nat.le_trans (Nat.add_le_add_left (Nat.le_of_ble_eq_true rfl) _) hn) fun n hn=>ih hn h
 |@assign i a hi wa ih=>exact fun hn h=>(bG P).cl hg rfl (k:=a.W) (Nat.le_trans (Nat.add_le_add_left (Nat.le_of_ble_eq_true rfl) _) hn) fun n hn=>mD hg (Nat.le_trans (Nat.le_of_ble_eq_true rfl) (Nat.le_trans (fj a) hn)) (ih hn h)
 |@update op i a hi wa ih=>exact fun hn h=>(bG P).cl hg rfl (k:=a.W) (Nat.le_trans (Nat.add_le_add_left (Nat.le_of_ble_eq_true rfl) _) hn) fun n hn=>mD hg (Nat.le_trans (Nat.le_of_ble_eq_true rfl) (Nat.le_trans (fj a) hn)) (ih hn h)
 |@asked c a b wc wa wb ihc iha ihb=>
  intro n H Q hn h
  have hn:max c.W (max (a.W+8) (b.W+8))+8≤n:=hn
  refine(bG P).cl hg rfl (k:=max c.W (max (a.W+8) (b.W+8))) (MP hn) fun n hn=>?_
  refine Rb.mk ⟨⟨by decide,by show(2:Int)≤4;decide,Y6 rfl⟩,?_⟩
  have one:∀d∈[a,b],∀(H':AH) (K:PV→AH→Prop),K (E.unit d).typ H'→zB g n [.str 78,.glob 351,.int 0,.call 9 [.comp [] (.one 28) (.tup [.str 349,.int 0,.call 350 [.loc 28]]) (.loc 26) [] [(446,.local),(28,.local),(350,.globalImplicit)]],.none] [(26,.lst [d.raw])] H' fun l H'=>K (.tup l) H':=fun d hd H' K k=>?_
  ·refine cI (f:=fun d:E=>.lst [d.raw]) (w:=fun d=>(E.unit d).typ) [a,b] (Y6 rfl) (fun d hd D o K O k=>one d hd _ _ k) (ihc (uU hn) h)
  ·refine CN (f:=E.raw) (w:=fun d=>.tup [.str 349,.int 0,d.typ]) [d] (Y6 rfl) (fun x hx D o K O k=>?_) (cD (.inr rfl) (Y6 rfl) k)
   cases List.mem_singleton.mp hx
   rcases List.mem_cons.mp hd with rfl|hd
   ·exact iha (Uv (uU (iB hn))) k
   ·cases List.mem_singleton.mp hd
    exact ihb (Uv (iB (iB hn))) k
end
end Mine.Internal
namespace Mine.Internal
open PySem PySem.W PySem.Calls PyProof.Rows
noncomputable def SrcAt(a:Addr)(H:AH):Prop := ∃x y:Int,H a=some (.list [.int x,.int y])∧0≤y∧y<2147483647
structure V1(a:Addr)(H H':AH):Prop where
 at_:SrcAt a H'
 keep:∀b,b≠a→H' b=H b
theorem V1.trans{a:Addr}{H H' mU:AH}(s:V1 a H H')(t:V1 a H' mU):V1 a H mU:=⟨t.at_,fun b ne=>(t.keep b ne).trans (s.keep b ne)⟩
theorem V1.put{a:Addr}{H:AH}{x y:Int}(h:0≤y∧y<2147483647):V1 a H (upd H a (.list [.int x,.int y])):=⟨⟨x,y,c7 ..,h⟩,fun b ne=>d9 ne⟩
theorem fm{x:Int}{k:Nat}(h:0<k):∃d:Nat,d<k∧x.fmod (k:Int)=(d:Int):=by
 have a:=Int.fmod_nonneg_of_pos x (b:=(k:Int)) (by omega)
 have b:=Int.fmod_lt_of_pos x (b:=(k:Int)) (by exact Int.ofNat_lt.mpr ‹_›)
 exact⟨(x.fmod k).toNat,by omega,by omega⟩
theorem ae0{a b:Int}(h:b≠0):mY .Mod a b=some (a.fmod b):=if_neg h
theorem aq4{a b:Int}(h:b≠0∧b.natAbs<1073741824):mY .FloorDiv a b=some (a.fdiv b):=if_pos h
theorem Px{a b:Int}(h:a.natAbs<2 ^ 62∨b.natAbs<2 ^ 62):mY .Mult a b=some (a*b):=if_pos h
section
variable{P:Params}{g:G (s7 P).T}(hg:v8 g){n w:Nat}{m:Loc}{H:AH}{Q:PV→AH→Prop}{src:Addr}
include hg
theorem I7{top:Nat}(S:SrcAt src H)(ht:0<top)(ht2:top<1073741824)(hn:1≤n)(h:∀(d:Nat) H',d<top→V1 src H H'→Q (.int (d:Int)) H'):Cl g n (.obj oY) [.obj src,.int (top:Int)] H Q:=by
 obtain⟨x,y,e,y0,y1⟩:=S
 refine(yG P).cl hg rfl hn fun n O=>?_
 have t0:¬((top:Int)=0):=by lia
 refine V6 (i:=0) e (by decide) rfl ?_
 by_cases hx:0<x
 ·obtain⟨d,hd,ed⟩:=fm (x:=x) ht
  refine V3 (decide_eq_true hx) (V6 (i:=0) e (by decide) rfl (gC (d8 (ae0 t0) ?_)))
  refine V6 (i:=0) e (by decide) rfl (d8 (aq4 ⟨t0,by show((top:Int)).natAbs<_;assumption⟩) (set_list (i:=0) e (by show 0<2;decide) (Y6 rfl) ?_))
  show Q (.int (x.fmod top)) _
  rw [ed]
  exact h d _ hd (.put ⟨y0,y1⟩)
 ·refine cA (decide_eq_false hx) (V6 (i:=1) e (by decide) rfl (d8 (Px (b:=39373) (.inr (by decide))) (gC (set_list (i:=1) e (by show 1<2;decide) (Y6 rfl) ?_))))
  obtain⟨y',hy,ey⟩:=fm (x:=y*39373+7) (k:=2147483647) (by decide)
  have e2:upd H src (.list [.int x,.int (y':Int)]) src=some (.list [.int x,.int (y':Int)]):=c7 ..
  show K4 g n _ _ (upd H src (.list [.int x,.int ((y*39373+7).fmod 2147483647)])) _
  rw [show(y*39373+7).fmod 2147483647=(y':Int) from ey]
  refine V6 (i:=1) e2 (by decide) rfl (V6 (i:=1) e2 (by decide) rfl (d8 (Px (.inl (by exact Nat.le_trans ‹_› (by decide)))) (gC (d8 (ae0 t0) ?_))))
  obtain⟨d,hd,ed⟩:=fm (x:=((y':Int)*(y':Int)).fmod 2147483629 |>.fdiv 32) ht
  show Q (.int ((((y':Int)*(y':Int)).fmod 2147483629).fdiv 32 |>.fmod (top:Int))) _
  rw [ed]
  exact h d _ hd (.put (by lia))
end
end Mine.Internal
namespace Mine.Internal
open PySem PySem.W PySem.Calls PyProof.Rows
noncomputable def E.tn:E→Nat
 |.num _=>0 | .O2 _=>0 | .loc _=>0 | .not a=>a.tn | .lazy _ a b=>a.tn+b.tn+3 | .O1 _ c a b=>c.tn+a.tn+b.tn+3 | .bin _ a b=>a.tn+b.tn+1 | .pair a b=>a.tn+b.tn | .fld _ q=>q.tn
 |.seq d e=>d.tn+e.tn | .unit d=>d.tn | .print a=>a.tn | .assign _ a=>a.tn | .update _ _ a=>a.tn+1
noncomputable def cB:Nat→Nat
 |0=>10
 |d+1=>3*cB d+61
noncomputable def tB:Nat→Nat
 |0=>0
 |d+1=>3*tB d+3
structure Gd(k:Kd)(d:Nat)(e:E):Prop where
 wf:Wf false e
 ok:e.ok
 kd:e.k=k
 w:e.W≤28+16*d
 c:e.cost≤cB d
 t:e.tn≤tB d
structure Dd(d:E):Prop where
 wf:Wf true d
 ok:d.ok
 kd:d.k = .u
 w:d.W≤28
 c:d.cost≤40
 t:d.tn=0
theorem zf:∀d,10≤cB d
 |0=>Nat.le_refl _
 |d+1=>by have:=zf d;show 10≤3*cB d+61;exact Nat.le_add_left ..
theorem Fx{i:Nat}:(E.loc i).k=if i<3 then .n else .t:=rfl
section
variable{k:Kd}{d:Nat}{a b c e:E}
theorem Gd.w'(h:Gd k d a):a.W+16≤28+16*(d+1):=by have:=h.w;exact Nat.add_le_add_right ‹_› _
theorem g_num{i:Int}(h:i.natAbs≤70000):Gd .n d (.num i):=⟨.num h,trivial,rfl,by show 20≤_;lia,zf d,Nat.zero_le _⟩
theorem Vx(x:Bool):Gd .t d (.O2 x):=⟨.O2 x,trivial,rfl,by show 20≤_;lia,zf d,Nat.zero_le _⟩
theorem Py{i:Nat}(h:i<5)(e:(E.loc i).k=k):Gd k d (.loc i):=⟨.loc h,h,e,by show 20≤_;lia,zf d,Nat.zero_le _⟩
theorem w8{a N:Nat}(h:a+16≤N):a+8≤N:=Nat.le_trans (Nat.add_le_add_left (Nat.le_of_ble_eq_true rfl) a) h
theorem c1{x c k:Nat}(h:x≤c)(e:Nat.ble k 61=true):x+k≤3*c+61:=by have:=Nat.le_of_ble_eq_true e;lia
theorem c2{x y c k:Nat}(h:x≤c)(q:y≤c)(e:Nat.ble k 61=true):x+y+k≤3*c+61:=by have:=Nat.le_of_ble_eq_true e;lia
theorem t2{x y c k:Nat}(h:x≤c)(q:y≤c)(e:Nat.ble k 3=true):x+y+k≤3*c+3:=by have:=Nat.le_of_ble_eq_true e;lia
theorem ae1(h:Gd .t d a):Gd .t (d+1) (.not a):=⟨.not h.wf,⟨h.kd,h.ok⟩,rfl,w8 h.w',c1 h.c rfl,by have:=h.t;show a.tn≤3*tB d+3;lia⟩
theorem Yp(an:Bool)(h:Gd .t d a)(q:Gd .t d b):Gd .t (d+1) (.lazy an a b):=⟨.lazy an h.wf q.wf,⟨⟨h.kd,q.kd⟩,h.ok,q.ok⟩,rfl,YJ (w8 h.w') (w8 q.w'),c2 h.c q.c rfl,t2 h.t q.t rfl⟩
theorem ae2(u:Gd .t d c)(h:Gd .n d a)(q:Gd .n d b):Gd .n (d+1) (.O1 false c a b):=⟨.O1 u.wf h.wf q.wf,⟨⟨u.kd,h.kd,q.kd⟩,u.ok,h.ok,q.ok⟩,rfl,YJ (w8 u.w') (Nat.le_trans (Nat.add_le_add_right (Nat.max_le.mpr ⟨Nat.le_trans (Nat.le_add_right _ 8) (Nat.le_max_left ..),Nat.le_trans (Nat.le_add_right _ 8) (Nat.le_max_right ..)⟩) 8) (YJ (a:=a.W+8) (b:=b.W+8) (k:=8) h.w' q.w')),by have:=u.c;have:=h.c;have:=q.c;show c.cost+a.cost+b.cost+40≤3*cB d+61;lia,by have:=u.t;have:=h.t;have:=q.t;show c.tn+a.tn+b.tn+3≤3*tB d+3;lia⟩
theorem Vy(op:Op)(h:Gd .n d a)(q:Gd .n d b):Gd (if op.ar then .n else .t) (d+1) (.bin op a b):=⟨.bin op h.wf q.wf,⟨⟨h.kd,q.kd⟩,h.ok,q.ok⟩,rfl,YJ (w8 h.w') (w8 q.w'),c2 h.c q.c rfl,t2 h.t q.t rfl⟩
theorem Yq{i:Nat}(hi:i<2)(h:Gd .n d a)(q:Gd .n d b):Gd .n (d+1) (.fld i (.pair a b)):=⟨.pair hi h.wf q.wf,⟨⟨hi,rfl⟩,⟨h.kd,q.kd⟩,h.ok,q.ok⟩,rfl,YJ (k:=16) h.w' q.w',c2 (k:=61) h.c q.c rfl,t2 (k:=0) h.t q.t rfl⟩
theorem Vz{x:E}(h:Dd x)(q:Gd k d e):Gd k (d+1) (.seq x e):=⟨.seq h.wf q.wf,⟨h.kd,h.ok,q.ok⟩,q.kd,YJ (Nat.le_trans (Nat.add_le_add_right h.w 8) (Nat.le_trans (Nat.le_of_ble_eq_true rfl) (Nat.add_le_add_left (Nat.le_mul_of_pos_right 16 (Nat.succ_pos d)) 28))) (w8 q.w'),by have:=h.c;have:=q.c;show x.cost+e.cost+20≤3*cB d+61;lia,by have:=h.t;have:=q.t;show x.tn+e.tn≤3*tB d+3;lia⟩
end
section
variable{P:Params}{g:G (s7 P).T}(hg:v8 g){n w:Nat}{m:Loc}{H:AH}{Q:PV→AH→Prop}{src:Addr}
omit hg
theorem consts{H0:AH}{d:Nat}(h:∀e H',Gd .n d e→V1 src H0 H'→Q e.raw H'){x:PV}(hx:x∈[PV.int 0,.int 1,.int 5,.int 70000])(s:V1 src H0 H):Q (.tup [.str 156,x]) H:=by
 have:∃i:Int,x = .int i∧i.natAbs≤70000:=by
  simp only [List.mem_cons,List.not_mem_nil,or_false] at hx
  rcases hx with rfl|rfl|rfl|rfl<;>exact⟨_,rfl,by decide⟩
 obtain⟨i,rfl,hi⟩:=this
 exact h (.num i) H (g_num hi) s
theorem truth{j:Nat}(hj:j<2)(h:∀x:Bool,Q (.tup [.str 276,.bool x]) H):rE .Eq (.int (j:Int)) (.int 0) H fun c=>Q (.tup [.str 276,.bool c]) H:=h _
theorem VB{H0:AH}{d j:Nat}(h:∀e H',Gd .t d e→V1 src H0 H'→Q e.raw H')(hj:j<2)(s:V1 src H0 H):Q (.tup [.str 77,.int (3+(j:Int))]) H:=by
 have z:=h (.loc (3+j)) H (Py (by exact Nat.add_le_add_left ‹_› _) (if_neg (by lia))) s
 rw [show(3:Int)+(j:Int)=((3+j:Nat):Int) by rfl]
 exact z
include hg
theorem oF{l:List PV}(S:SrcAt src H)(h0:0<l.length)(h1:l.length<1000)(hn:2≤n)(h:∀x∈l,∀H',V1 src H H'→Q x H'):Cl g n (.obj V9) [.obj src,.lst l] H Q:=by
 refine(Bv P).cl hg rfl hn fun n hn=>V5 (k:=l.length) rfl (by exact Nat.le_trans ‹_› (by decide)) (I7 hg S h0 (by exact Nat.le_trans ‹_› (by decide)) hn fun d H' hd s=>?_)
 exact Z4 rfl ((gG (by lia)).trans (List.getElem?_eq_getElem hd)) (h _ (List.getElem_mem hd) H' s)
theorem qH{i:Int}(S:SrcAt src H)(hn:2≤n)(h:∀d H',Dd d→V1 src H H'→Q d.raw H'):Cl g n (.obj fO) [.obj src,.int i] H Q:=by
 refine(yH P).cl hg rfl hn fun n hn=>I7 hg S (top:=2) (by decide) (by decide) hn fun d H' hd s=>?_
 refine VP hd ?_ ?_
 ·exact I7 hg s.at_ (top:=40) (by decide) (by decide) hn fun k mU hk t=>h (.print (.num (1+(k:Int)))) mU ⟨.print (.num (by lia)),⟨rfl,trivial⟩,rfl,Nat.le_refl _,Nat.le_of_ble_eq_true rfl,rfl⟩ (s.trans t)
 ·exact I7 hg s.at_ (top:=3) (by decide) (by decide) hn fun i H2 hi t=>I7 hg t.at_ (top:=60) (by decide) (by decide) hn fun k H3 hk u=>h (.assign i (.num (k:Int))) H3 ⟨.assign (by exact Nat.le_trans ‹_› (by decide)) (.num (by lia)),⟨⟨by exact Nat.le_trans ‹_› (by decide),by rw [Fx,if_pos hi];rfl⟩,trivial⟩,rfl,Nat.le_refl _,Nat.le_refl _,rfl⟩ ((s.trans t).trans u)
theorem mF:∀(d:Nat) {n:Nat} {H:AH} {Q:PV→AH→Prop} {i:Int},i=(d:Int)→SrcAt src H→d+3≤n→
  ((∀e H',Gd .n d e→V1 src H H'→Q e.raw H')→Cl g n (.obj G5) [.obj src,.int i] H Q)∧((∀e H',Gd .t d e→V1 src H H'→Q e.raw H')→Cl g n (.obj O8) [.obj src,.int i] H Q):=by
 intro d
 induction d with
 |zero=>
  intro n H Q i hi S hn
  refine⟨fun h=>(fX P).cl hg rfl hn fun n hn=>cA (decide_eq_false (by lia)) (I7 hg S (top:=2) (by decide) (by decide) (leB hn rfl) fun d H' hd s=>?_),fun h=>(jf P).cl hg rfl hn fun n hn=>cA (decide_eq_false (by lia)) (I7 hg S (top:=2) (by decide) (by decide) (leB hn rfl) fun d H' hd s=>?_)⟩
  ·refine VP hd ?_ ?_
   ·exact oF hg s.at_ (by decide) (by decide) (leB hn rfl) fun x hx H2 t=>consts h hx (s.trans t)
   ·exact I7 hg s.at_ (top:=3) (by decide) (by decide) (leB hn rfl) fun j H2 hj t=>h (.loc j) H2 (Py (by exact Nat.le_trans ‹_› (by decide)) (if_pos hj)) (s.trans t)
  ·refine VP hd ?_ ?_
   ·exact I7 hg s.at_ (top:=2) (by decide) (by decide) (leB hn rfl) fun j H2 hj t=>(truth hj (fun x=>h (.O2 x) H2 (Vx x) (s.trans t)))
   ·exact I7 hg s.at_ (top:=2) (by decide) (by decide) (leB hn rfl) fun j H2 hj t=>VB h hj (s.trans t)
 |succ d ih=>
  intro n H Q i hi S hn
  have num:∀{n:Nat} {H:AH} {Q:PV→AH→Prop},d+3≤n→SrcAt src H→(∀e H',Gd .n d e→V1 src H H'→Q e.raw H')→Cl g n (.obj G5) [.obj src,.int (i-1)] H Q:=fun hn S h=>(ih (by lia) S hn).1 h
  have O2:∀{n:Nat} {H:AH} {Q:PV→AH→Prop},d+3≤n→SrcAt src H→(∀e H',Gd .t d e→V1 src H H'→Q e.raw H')→Cl g n (.obj O8) [.obj src,.int (i-1)] H Q:=fun hn S h=>(ih (by lia) S hn).2 h
  have hn:d+3+1≤n:=by exact Nat.succ_le_of_lt ‹_›
  refine⟨fun h=>(fX P).cl hg rfl hn fun n hn=>V3 (decide_eq_true (by lia)) (I7 hg S (top:=9) (by decide) (by decide) (by exact Mine.Internal.Gg ‹_› rfl) fun w H1 hw s=>?_),fun h=>(jf P).cl hg rfl hn fun n hn=>V3 (decide_eq_true (by lia)) (I7 hg S (top:=8) (by decide) (by decide) (by exact Mine.Internal.Gg ‹_› rfl) fun w H1 hw s=>?_)⟩
  ·have sum:∀w,w=2∨w=3→Cl g n (.obj V9) [.obj src,.lst [.str 321,.str 260,.str 322]] H1 fun p H'=>Cl g n (.obj G5) [.obj src,.int (i-1)] H' fun q mU=>Cl g n (.obj G5) [.obj src,.int (i-1)] mU fun r H3=>Q (.tup [.str 316,p,q,r]) H3:=fun O O=>
    oF hg s.at_ (by decide) (by decide) (by exact Mine.Internal.Gg ‹_› rfl) fun x hx H2 t=>num hn t.at_ fun a H3 ga u=>num hn u.at_ fun b H4 gb v=>by
     have z:∀op:Op,op.ar=true→Q (E.bin op a b).raw H4:=fun op ho=>h (.bin op a b) H4 (by have:=Vy op ga gb;rw [ho] at this;exact this) (((s.trans t).trans u).trans v)
     simp only [List.mem_cons,List.not_mem_nil,or_false] at hx
     rcases hx with rfl|rfl|rfl
     ·exact z .add rfl
     ·exact z .sub rfl
     ·exact z .mul rfl
   have blk:Cl g n (.obj fO) [.obj src,.int i] H1 fun p H'=>Cl g n (.obj G5) [.obj src,.int (i-1)] H' fun q mU=>Q (.tup [.str 78,p,q]) mU:=
    qH hg s.at_ (by exact Mine.Internal.Gg ‹_› rfl) fun x H2 dx t=>num hn t.at_ fun a H3 ga u=>h (.seq x a) H3 (Vz dx ga) ((s.trans t).trans u)
   refine lt9 hw ?_ ?_ ?_ ?_ ?_ ?_ ?_ ?_ ?_
   ·exact oF hg s.at_ (by decide) (by decide) (by exact Mine.Internal.Gg ‹_› rfl) fun x hx H2 t=>consts h hx (s.trans t)
   ·exact I7 hg s.at_ (top:=3) (by decide) (by decide) (by exact Mine.Internal.Gg ‹_› rfl) fun j H2 hj t=>h (.loc j) H2 (Py (by exact Nat.le_trans ‹_› (by decide)) (if_pos hj)) (s.trans t)
   ·exact sum 2 (.inl rfl)
   ·exact sum 3 (.inr rfl)
   ·exact blk
   ·exact blk
   ·exact blk
   ·exact I7 hg s.at_ (top:=2) (by decide) (by decide) (by exact Mine.Internal.Gg ‹_› rfl) fun j H2 hj t=>num hn t.at_ fun a H3 ga u=>num hn u.at_ fun b H4 gb v=>h (.fld j (.pair a b)) H4 (Yq hj ga gb) (((s.trans t).trans u).trans v)
   ·exact O2 hn s.at_ fun c H2 gc t=>num hn t.at_ fun a H3 ga u=>num hn u.at_ fun b H4 gb v=>h (.O1 false c a b) H4 (ae2 gc ga gb) (((s.trans t).trans u).trans v)
  ·have laz:Cl g n (.obj V9) [.obj src,.lst [.str 277,.str 278]] H1 fun p H'=>Cl g n (.obj O8) [.obj src,.int (i-1)] H' fun q mU=>Cl g n (.obj O8) [.obj src,.int (i-1)] mU fun r H3=>Q (.tup [.str 235,p,q,r]) H3:=
    oF hg s.at_ (by decide) (by decide) (by exact Mine.Internal.Gg ‹_› rfl) fun x hx H2 t=>O2 hn t.at_ fun a H3 ga u=>O2 hn u.at_ fun b H4 gb v=>by
     have z:∀an:Bool,Q (E.lazy an a b).raw H4:=fun an=>h (.lazy an a b) H4 (Yp an ga gb) (((s.trans t).trans u).trans v)
     simp only [List.mem_cons,List.not_mem_nil,or_false] at hx
     rcases hx with rfl|rfl
     ·exact z true
     ·exact z false
   have cmp:Cl g n (.obj V9) [.obj src,.lst [.str 161,.str 196,.str 269]] H1 fun p H'=>Cl g n (.obj G5) [.obj src,.int (i-1)] H' fun q mU=>Cl g n (.obj G5) [.obj src,.int (i-1)] mU fun r H3=>Q (.tup [.str 323,p,q,r]) H3:=
    oF hg s.at_ (by decide) (by decide) (by exact Mine.Internal.Gg ‹_› rfl) fun x hx H2 t=>num hn t.at_ fun a H3 ga u=>num hn u.at_ fun b H4 gb v=>by
     have z:∀op:Op,op.ar=false→Q (E.bin op a b).raw H4:=fun op ho=>h (.bin op a b) H4 (by have:=Vy op ga gb;rw [ho] at this;exact this) (((s.trans t).trans u).trans v)
     simp only [List.mem_cons,List.not_mem_nil,or_false] at hx
     rcases hx with rfl|rfl|rfl
     ·exact z .lt rfl
     ·exact z .ge rfl
     ·exact z .eq rfl
   refine lt8 hw ?_ ?_ ?_ ?_ ?_ ?_ ?_ ?_
   ·exact I7 hg s.at_ (top:=2) (by decide) (by decide) (by exact Mine.Internal.Gg ‹_› rfl) fun j H2 hj t=>(truth hj (fun x=>h (.O2 x) H2 (Vx x) (s.trans t)))
   ·exact I7 hg s.at_ (top:=2) (by decide) (by decide) (by exact Mine.Internal.Gg ‹_› rfl) fun j H2 hj t=>VB h hj (s.trans t)
   ·exact laz
   ·exact laz
   ·exact laz
   ·exact O2 hn s.at_ fun a H2 ga t=>h (.not a) H2 (ae1 ga) (s.trans t)
   ·exact qH hg s.at_ (by exact Mine.Internal.Gg ‹_› rfl) fun x H2 dx t=>O2 hn t.at_ fun a H3 ga u=>h (.seq x a) H3 (Vz dx ga) ((s.trans t).trans u)
   ·exact cmp
end
end Mine.Internal
namespace Mine.Internal
open PySem PySem.W PySem.Calls PyProof.Rows
structure Rw(r:E):Prop where
 wf:Wf true r
 ok:r.ok
 kd:r.k = .u
 w:r.W≤100
 c:r.cost≤1400
 t:r.tn≤50
section
variable{P:Params}{g:G (s7 P).T}(hg:v8 g){n w:Nat}{m:Loc}{H:AH}{Q:PV→AH→Prop}{src:Addr}{a b c:E}{k:Kd}{d:Nat}
theorem cB3:cB 3=1063:=rfl
theorem tB3:tB 3=39:=rfl
theorem cB2:cB 2=334:=rfl
theorem tB2:tB 2=12:=rfl
theorem TQ(h:Gd .n 2 a):Rw (.print a):=⟨.print h.wf,⟨h.kd,h.ok⟩,rfl,by have:=h.w;show a.W+8≤_;lia,by have:=h.c;rw [cB2] at this;show a.cost+20≤_;lia,by have:=h.t;rw [tB2] at this;show a.tn≤_;exact Nat.le_trans ‹_› (by decide)⟩
theorem CP{i:Nat}(hi:i<5)(e:a.k=(E.loc i).k)(h:Gd k 3 a):Rw (.assign i a):=⟨.assign hi h.wf,⟨⟨hi,e⟩,h.ok⟩,rfl,by have:=h.w;show a.W+8≤_;lia,by have:=h.c;rw [cB3] at this;show a.cost+30≤_;lia,by have:=h.t;rw [tB3] at this;show a.tn≤_;exact Nat.le_trans ‹_› (by decide)⟩
theorem Pz{i:Nat}(op:Op)(ho:op.ar=true)(hi:i<3)(h:Gd .n 2 a):Rw (.update op i a):=⟨.update op (by exact Nat.le_trans ‹_› (Nat.le_add_left ..)) h.wf,⟨⟨ho,hi,h.kd⟩,h.ok⟩,rfl,by have:=h.w;show a.W+8≤_;lia,by have:=h.c;rw [cB2] at this;show a.cost+40≤_;lia,by have:=h.t;rw [tB2] at this;show a.tn+1≤_;exact Nat.lt_of_le_of_lt ‹_› (by decide)⟩
theorem TV(h:Gd .t 3 c)(p:Dd a)(q:Dd b):Rw (.O1 true c (.unit a) (.unit b)):=⟨.asked h.wf p.wf q.wf,⟨⟨h.kd,rfl,rfl⟩,h.ok,⟨p.kd,p.ok⟩,q.kd,q.ok⟩,rfl,by have:=h.w;have:=p.w;have:=q.w;show max c.W (max (a.W+8) (b.W+8))+8≤_;lia,by have:=h.c;rw [cB3] at this;have:=p.c;have:=q.c;show c.cost+(a.cost+20)+(b.cost+20)+40≤_;lia,by have:=h.t;rw [tB3] at this;have:=p.t;have:=q.t;show c.tn+a.tn+b.tn+3≤_;lia⟩
include hg
theorem zj(S:SrcAt src H)(hn:7≤n)(h:∀r H',Rw r→V1 src H H'→Q r.raw H'):Cl g n (.obj cN) [.obj src] H Q:=by
 refine(lM P).cl hg rfl hn fun n hn=>I7 hg S (top:=5) (by decide) (by decide) (leB hn rfl) fun w H1 hw s=>I7 hg s.at_ (top:=3) (by decide) (by decide) (leB hn rfl) fun p H2 hp t=>?_
 have st:=s.trans t
 have upd:Cl g n (.obj V9) [.obj src,.lst [.str 321,.str 260,.str 322]] H2 fun x H'=>Cl g n (.obj G5) [.obj src,.int 2] H' fun q mU=>Q (.tup [.str 241,.int (p:Int),x,q]) mU:=
  oF hg t.at_ (by decide) (by decide) (leB hn rfl) fun x hx H3 u=>(mF hg 2 rfl u.at_ (leB hn rfl)).1 fun a H4 ga v=>by
   have z:∀op:Op,op.ar=true→Q (E.update op p a).raw H4:=fun op ho=>h (.update op p a) H4 (Pz op ho hp ga) ((st.trans u).trans v)
   simp only [List.mem_cons,List.not_mem_nil,or_false] at hx
   rcases hx with rfl|rfl|rfl
   ·exact z .add rfl
   ·exact z .sub rfl
   ·exact z .mul rfl
 have O2:∀i,i=3+p % 2→Cl g n (.obj O8) [.obj src,.int 3] H2 fun q H'=>Q (.tup [.str 159,.int (i:Int),q]) H':=fun i hi=>
  (mF hg 3 rfl t.at_ (leB hn rfl)).2 fun a H4 ga v=>h (.assign i a) H4 (CP (by lia) (by rw [ga.kd,Fx,if_neg (by lia)]) ga) (st.trans v)
 refine YQ hw ?_ ?_ ?_ ?_ ?_
 ·exact(mF hg 2 rfl t.at_ (leB hn rfl)).1 fun a H4 ga v=>h (.print a) H4 (TQ ga) (st.trans v)
 ·exact(mF hg 3 rfl t.at_ (leB hn rfl)).1 fun a H4 ga v=>h (.assign p a) H4 (CP (by exact Nat.le_trans ‹_› (by decide)) (by rw [ga.kd,Fx,if_pos hp]) ga) (st.trans v)
 ·exact upd
 ·revert O2
  exact lt3 hp (fun O2=>O2 3 rfl) (fun O2=>O2 4 rfl) fun O2=>O2 3 rfl
 ·exact(mF hg 3 rfl t.at_ (leB hn rfl)).2 fun c H3 gc u=>qH hg u.at_ (leB hn rfl) fun a H4 ga v=>qH hg v.at_ (leB hn rfl) fun b H5 gb x=>h (.O1 true c (.unit a) (.unit b)) H5 (TV gc ga gb) (((st.trans u).trans v).trans x)
end
end Mine.Internal
namespace Mine.Internal
open PySem PySem.W PySem.Calls PyProof.Rows
section
variable{P:Params}{g:G (s7 P).T}(hg:v8 g){n w:Nat}{m:Loc}{H:AH}{Q:PV→AH→Prop}{src:Addr}
theorem JT(b:Bool):(if b then 1 else 0:Int).natAbs<2 ^ 62:=by cases b<;>decide
include hg
theorem TX{xs:List Int}(hx:xs.length≤63)(hn:1≤n)(h:∀a o,H a=none→V1 a H (upd H a o)→Q (.obj a) (upd H a o)):Cl g n (.obj oX) [.lst (xs.map .int)] H Q:=by
 refine(yF P).cl hg rfl hn fun n O=>?_
 have fin:∀c:Int,K4 g n [.asg (.name 306) (.call 307 [.call 32 [.loc 305],.call 32 [.bin .Sub (.neg (.int 1)) (.loc 305)]]),.ret (.bR [.bin .Mult (.loc 306) (.call 32 [.cmp .GtE (.loc 306) (.bin .Pow (.int 10) (.int 18))]),.bin .Mod (.call 32 [.bin .Mult (.bin .Add (.bin .Mod (.loc 306) (.int 2147483629)) (.int 17)) (.int 48271)]) (.int 2147483647)])] [(304,.lst (xs.map .int)),(305,.int c)] H (IV Q):=fun c=>by
  refine gC (gC (Ww ?_))
  generalize (if -1-c > c then -1-c else c)=L
  refine QS (d8 (Px (.inr (JT _))) (d8 (Px (b:=48271) (.inr (by decide))) (gC fun a ha=>?_)))
  obtain⟨y,hy,ey⟩:=fm (x:=(L.fmod 2147483629+17)*48271) (k:=2147483647) (by decide)
  have z:=h a (.list [.int (L*(if(decide ((10:Int) ^ 18≤L)) then 1 else 0)),.int (y:Int)]) ha (.put (by omega))
  rw [← ey] at z
  exact z
 cases xs with
 |nil=>exact V5 (k:=0) rfl (by decide) (fin 0)
 |cons x xs=>exact V5 (k:=xs.length+1) (congrArg (fun k=>some k) (congrArg (·+ 1) (List.length_map _))) (by rw [List.length_cons] at hx;exact Nat.lt_of_le_of_lt ‹_› (by decide)) (V3 (decide_eq_true (by show(0:Int)<((xs.length+1:Nat):Int);lia)) (fin x))
end
end Mine.Internal
namespace Mine.Internal
open PySem PySem.W PySem.Calls PyProof.Rows
noncomputable def Op.f:Op→Int→Int→Int
 |.add,a,b=>a+b
 |.sub,a,b=>a-b
 |_,a,b=>a*b
noncomputable def Op.q:Op→Int→Int→Bool
 |.lt,a,b=>decide (a<b)
 |.ge,a,b=>decide (b≤a)
 |_,a,b=>a==b
noncomputable def wrap(i:Int):Int:=(i-(-2147483648)).fmod 4294967296+(-2147483648)
noncomputable def over(i:Int):Bool := !(decide (-2147483648≤i)&&decide (i<2147483648))
noncomputable def PB(i:Int):Prop := -2147483648≤i∧i<2147483648
theorem TY(i:Int):PB (wrap i):=by
 have a:=Int.fmod_nonneg_of_pos (i-(-2147483648)) (b:=4294967296) (by decide)
 have b:=Int.fmod_lt_of_pos (i-(-2147483648)) (b:=4294967296) (by decide)
 unfold wrap PB;lia
section
variable{P:Params}{g:G (s7 P).T}(hg:v8 g){n w:Nat}{m:Loc}{H:AH}{Q:PV→AH→Prop}{src:Addr}
include hg
theorem uH{op:Op}{a b:Int}(ho:op.ar=true)(ha:PB a)(hn:1≤n)(h:Q (.tup [.int (wrap (op.f a b)),.bool (over (op.f a b))]) H):Cl g n (.obj U3) [.str 449,.str op.s,.int a,.int b] H Q:=by
 refine(eO P).cl hg rfl hn fun n O=>?_
 have fin:∀i:Int,Q (.tup [.int (wrap i),.bool (over i)]) H→K4 g n [.asg (.tup [.name 354,.name 153]) (.O1 (.cmp .Eq (.loc 7) (.str 355)) (.tup [.int 0,.int 256]) (.tup [.bin .Sub (.int 0) (.bin .Pow (.int 2) (.int 31)),.bin .Pow (.int 2) (.int 32)])),.ret (.tup [.bin .Add (.bin .Mod (.bin .Sub (.loc 353) (.loc 354)) (.loc 153)) (.loc 354),.not (.QK .Lt (.loc 354) (.loc 353) (.bin .Add (.loc 354) (.loc 153)))])] [(7,.str 449),(194,.str op.s),(326,.int a),(327,.int b),(353,.int i)] H (IV Q):=fun i k=>by
  unfold over at k
  show sel _ _ _
  by_cases c : -2147483648≤i
  ·rw [decide_eq_true c,Bool.true_and] at k
   exact V3 (decide_eq_true c) k
  ·rw [decide_eq_false c,Bool.false_and] at k
   exact cA (decide_eq_false c) k
 cases op with
 |add=>exact fin _ h
 |sub=>exact fin _ h
 |mul=>exact d8 (Px (.inl (by unfold PB at ha;lia))) (fin _ h)
 |_=>cases ho
theorem pF{op:Op}{a b:Int}(ho:op.ar=false)(hn:1≤n)(h:Q (.tup [.bool (op.q a b),.bool false]) H):Cl g n (.obj U3) [.str 449,.str op.s,.int a,.int b] H Q:=by
 refine(eO P).cl hg rfl hn fun n O=>?_
 cases op with
 |lt=>exact h
 |ge=>exact h
 |eq=>exact h
 |_=>cases ho
end
end Mine.Internal
namespace Mine.Internal
open PySem PySem.W PySem.Calls PyProof.Rows
structure Ps where
 v:Nat→PV
 pr:List PV
noncomputable def Ps.set(s:Ps)(i:Nat)(x:PV):Ps:={s with v:=fun j=>if j=i then x else s.v j}
inductive Rs where
 |ok (x:PV) (s:Ps)
 |iR (t:Nat) (s:Ps)
noncomputable def Rs.bind:Rs→(PV→Ps→Rs)→Rs
 |.ok x s,k=>k x s
 |.iR t s,_=>.iR t s
noncomputable def PV.tr:PV→Bool
 |.bool b=>b
 |_=>false
noncomputable def PV.num:PV→Int
 |.int i=>i
 |_=>0
noncomputable def Op.run(op:Op)(x y:PV)(s:Ps):Rs:=
 if op.ar then(if over (op.f x.num y.num) then .iR op.msg s else .ok (.int (wrap (op.f x.num y.num))) s) else .ok (.bool (op.q x.num y.num)) s
noncomputable def PV.part(k:Nat):PV→PV
 |.tup l=>(l[k]?).getD .none
 |_=>.none
noncomputable def E.ev:E→Ps→Rs
 |.num i,s=>.ok (.int i) s
 |.O2 b,s=>.ok (.bool b) s
 |.loc i,s=>.ok (s.v i) s
 |.not a,s=>(a.ev s).bind fun x s=>.ok (.bool (!x.tr)) s
 |.lazy an a b,s=>(a.ev s).bind fun x s=>if x.tr=an then b.ev s else .ok x s
 |.O1 _ c a b,s=>(c.ev s).bind fun x s=>if x.tr then a.ev s else b.ev s
 |.bin op a b,s=>(a.ev s).bind fun x s=>(b.ev s).bind fun y s=>op.run x y s
 |.pair a b,s=>(a.ev s).bind fun x s=>(b.ev s).bind fun y s=>.ok (.tup [x,y]) s
 |.fld k q,s=>(q.ev s).bind fun x s=>.ok (x.part k) s
 |.seq d e,s=>(d.ev s).bind fun O s=>e.ev s
 |.unit d,s=>(d.ev s).bind fun O s=>.ok (.tup []) s
 |.print a,s=>(a.ev s).bind fun x s=>.ok (.tup []) {s with pr:=s.pr++[x]}
 |.assign i a,s=>(a.ev s).bind fun x s=>.ok (.tup []) (s.set i x)
 |.update op i a,s=>(a.ev s).bind fun x s=>(op.run (s.v i) x s).bind fun y s=>.ok (.tup []) (s.set i y)
noncomputable def VT:Kd→PV→Prop
 |.n,x => ∃i,x = .int i∧PB i
 |.t,x => ∃b,x = .bool b
 |_,_=>True
noncomputable def SV(s:Ps):Prop := ∀i,i<5→VT (E.loc i).k (s.v i)
noncomputable def Rs.fine(k:Kd)(n:Nat):Rs→Prop
 |.ok x s=>VT k x∧SV s∧s.pr.length≤n
 |.iR _ s=>SV s∧s.pr.length≤n
theorem Rs.fine.bind{k k':Kd}{n n':Nat}{r:Rs}{f:PV→Ps→Rs}(h:r.fine k n)(le:n≤n')(q:∀x s,VT k x→SV s→s.pr.length≤n→(f x s).fine k' n'):(r.bind f).fine k' n':=by
 cases r with
 |ok x s=>exact q x s h.1 h.2.1 h.2.2
 |iR t s=>exact⟨h.1,Nat.le_trans h.2 le⟩
theorem SV.set{s:Ps}{i:Nat}{x:PV}(h:SV s)(q:VT (E.loc i).k x):SV (s.set i x):=fun j hj=>by
 show VT _ (if j=i then x else s.v j)
 by_cases e:j=i
 ·rw [if_pos e,e];exact q
 ·rw [if_neg e];exact h j hj
theorem uJ{op:Op}{x y:PV}{s:Ps}{n:Nat}(hs:SV s)(hl:s.pr.length≤n):(op.run x y s).fine (if op.ar then .n else .t) n:=by
 unfold Op.run
 cases op.ar with
 |true=>
  cases over (op.f x.num y.num) with
  |true=>exact⟨hs,hl⟩
  |false=>exact⟨⟨_,rfl,TY _⟩,hs,hl⟩
 |false=>exact⟨⟨_,rfl⟩,hs,hl⟩
theorem Rs.fine.mono{k:Kd}{n n':Nat}{r:Rs}(h:r.fine k n)(le:n≤n'):r.fine k n':=by
 cases r with
 |ok x s=>exact⟨h.1,h.2.1,Nat.le_trans h.2.2 le⟩
 |iR t s=>exact⟨h.1,Nat.le_trans h.2 le⟩
theorem K7{f:Bool}{e:E}(w:Wf f e):e.ok→∀{s:Ps} {n:Nat},SV s→s.pr.length≤n→(e.ev s).fine e.k (n+e.cost):=by
 induction w with
 |num hi=>exact fun O s n hs hl=>⟨⟨_,rfl,by unfold PB;lia⟩,hs,Nat.le_trans hl (Nat.le_add_right ..)⟩
 |O2 b=>exact fun O s n hs hl=>⟨⟨_,rfl⟩,hs,Nat.le_trans hl (Nat.le_add_right ..)⟩
 |loc hi=>exact fun O s n hs hl=>⟨hs _ hi,hs,Nat.le_trans hl (Nat.le_add_right ..)⟩
 |@not a wa ih=>exact fun o s n hs hl=>(ih o.2 hs hl).bind (by show n+a.cost≤n+(a.cost+10);lia) fun x s hx hs hl=>⟨⟨_,rfl⟩,hs,by show _≤n+(a.cost+10);lia⟩
 |@lazy an a b wa wb iha ihb=>
  intro o s n hs hl
  refine(iha o.2.1 hs hl).bind (n':=n+(a.cost+b.cost+40)) (by lia) fun x s hx hs hl=>?_
  by_cases c:x.tr=an
  ·rw [if_pos c,show(E.lazy an a b).k=b.k from o.1.2.symm];exact(ihb o.2.2 hs hl).mono (by lia)
  ·rw [if_neg c,show(E.lazy an a b).k=a.k from o.1.1.symm];exact⟨hx,hs,by lia⟩
 |@O1 c a b wc wa wb ihc iha ihb=>
  intro o s n hs hl
  refine(ihc o.2.1 hs hl).bind (n':=n+(c.cost+a.cost+b.cost+40)) (by lia) fun x s hx hs hl=>?_
  by_cases q:x.tr=true
  ·rw [if_pos q,show(E.O1 false c a b).k=a.k from o.1.2.1.symm];exact(iha o.2.2.1 hs hl).mono (by lia)
  ·rw [if_neg q,show(E.O1 false c a b).k=b.k from o.1.2.2.symm];exact(ihb o.2.2.2 hs hl).mono (by lia)
 |@bin op a b wa wb iha ihb=>
  intro o s n hs hl
  exact(iha o.2.1 hs hl).bind (n':=n+(a.cost+b.cost+41)) (by lia) fun x s hx hs hl=>(ihb o.2.2 hs hl).bind (by lia) fun y s hy hs hl=>uJ hs (by lia)
 |@pair k a b hk wa wb iha ihb=>
  intro o s n hs hl
  have o:(a.k = .n∧b.k = .n)∧a.ok∧b.ok:=o.2
  have z:∀x y:PV,VT .n x→VT .n y→VT .n ((PV.tup [x,y]).part k):=fun x y hx hy=>by
   refine VP hk ?_ ?_
   ·exact hx
   ·exact hy
  have e:(E.fld k (.pair a b)).ev s=(a.ev s).bind fun x s=>(b.ev s).bind fun y s=>.ok ((PV.tup [x,y]).part k) s:=by
   show((a.ev s).bind _).bind _=_
   cases a.ev s with
   |iR t s=>rfl
   |ok x s=>
    show((b.ev s).bind _).bind _=(b.ev s).bind _
    cases b.ev s<;>rfl
  rw [e]
  exact(iha o.2.1 hs hl).bind (n':=n+(a.cost+b.cost+41+20)) (by lia) fun x s hx hs hl=>(ihb o.2.2 hs hl).bind (by lia) fun y s hy hs hl=>⟨z x y (o.1.1▸hx) (o.1.2▸hy),hs,by lia⟩
 |@seq d e wd we ihd Pu=>
  intro o s n hs hl
  exact(ihd o.2.1 hs hl).bind (n':=n+(d.cost+e.cost+20)) (by lia) fun x s hx hs hl=>(Pu o.2.2 hs hl).mono (by lia)
 |@print a wa ih=>
  intro o s n hs hl
  exact(ih o.2 hs hl).bind (n':=n+(a.cost+20)) (by lia) fun x s hx hs hl=>⟨trivial,hs,by show(s.pr++[x]).length≤_;rw [List.length_append,List.length_singleton];lia⟩
 |@assign i a hi wa ih=>
  intro o s n hs hl
  exact(ih o.2 hs hl).bind (n':=n+(a.cost+30)) (by lia) fun x s hx hs hl=>⟨trivial,hs.set (o.1.2▸hx),by show s.pr.length≤_;lia⟩
 |@update op i a hi wa ih=>
  intro o s n hs hl
  refine(ih o.2 hs hl).bind (n':=n+(a.cost+40)) (by lia) fun x s hx hs hl=>(uJ (op:=op) (x:=s.v i) (y:=x) hs hl).bind (by lia) fun y s hy hs hl=>⟨trivial,hs.set ?_,by show s.pr.length≤_;lia⟩
  rw [o.1.1] at hy
  rw [show(E.loc i).k = .n from if_pos o.1.2.1]
  exact hy
 |@asked c a b wc wa wb ihc iha ihb=>
  intro o s n hs hl
  refine(ihc o.2.1 hs hl).bind (n':=n+(c.cost+(a.cost+20)+(b.cost+20)+40)) (by lia) fun x s hx hs hl=>?_
  by_cases q:x.tr=true
  ·rw [if_pos q];exact(iha o.2.2.1.2 hs hl).bind (by lia) fun O s O hs hl=>⟨trivial,hs,by lia⟩
  ·rw [if_neg q];exact(ihb o.2.2.2.2 hs hl).bind (by lia) fun O s O hs hl=>⟨trivial,hs,by lia⟩
end Mine.Internal
namespace Mine.Internal
open PySem PySem.W PySem.Calls PyProof.Rows
structure Run(R:AH)(r C Pr:Addr)(pn:PV)(s:Ps)(H:AH):Prop where
 er:H r=some (.w5 [(338,.obj C),(340,.obj Pr),(248,pn)])
 ec:H C=some (.m6 [(0,s.v 0),(1,s.v 1),(2,s.v 2),(3,s.v 3),(4,s.v 4)])
 ep:H Pr=some (.list s.pr)
 n1:r≠C
 n2:r≠Pr
 n3:C≠Pr
 o1:R r=none
 o2:R C=none
 o3:R Pr=none
 keep:∀b o,R b=some o→H b=some o
section
variable{R H H':AH}{r C Pr:Addr}{pn:PV}{s:Ps}
theorem Run.ext(u:Run R r C Pr pn s H)(E:Ext H H'):Run R r C Pr pn s H':=⟨E _ _ u.er,E _ _ u.ec,E _ _ u.ep,u.n1,u.n2,u.n3,u.o1,u.o2,u.o3,fun b o e=>E _ _ (u.keep b o e)⟩
theorem Run.sep{b:Addr}{o:q7}{H:AH}{a:Addr}{q:q7}(e:H b=some o)(ne:b≠a):upd H a q b=some o:=(d9 ne).trans e
theorem Run.kp(u:Run R r C Pr pn s H){a:Addr}{q:q7}(h:R a=none):∀b o,R b=some o→upd H a q b=some o:=fun b o e=>(d9 fun z=>by rw [z,h] at e;cases e).trans (u.keep b o e)
theorem Run.panic(u:Run R r C Pr pn s H)(q:PV):Run R r C Pr q s (upd H r (.w5 [(338,.obj C),(340,.obj Pr),(248,q)])):=
 ⟨c7 ..,Run.sep u.ec u.n1.symm,Run.sep u.ep u.n2.symm,u.n1,u.n2,u.n3,u.o1,u.o2,u.o3,u.kp u.o1⟩
theorem Run.print(u:Run R r C Pr pn s H)(q:PV):Run R r C Pr pn {s with pr:=s.pr++[q]} (upd H Pr (.list (s.pr++[q]))):=
 ⟨Run.sep u.er u.n2,Run.sep u.ec u.n3,c7 ..,u.n1,u.n2,u.n3,u.o1,u.o2,u.o3,u.kp u.o3⟩
theorem Run.set(u:Run R r C Pr pn s H){i:Nat}(hi:i<5)(q:PV):Run R r C Pr pn (s.set i q) (upd H C (.m6 (N8 (i:Int) q [(0,s.v 0),(1,s.v 1),(2,s.v 2),(3,s.v 3),(4,s.v 4)]))):=by
 refine⟨Run.sep u.er u.n1,?_,Run.sep u.ep u.n3.symm,u.n1,u.n2,u.n3,u.o1,u.o2,u.o3,u.kp u.o2⟩
 rw [c7]
 refine YQ hi ?_ ?_ ?_ ?_ ?_
 ·rfl
 ·rfl
 ·rfl
 ·rfl
 ·rfl
theorem Run.cell{i:Nat}(s:Ps)(hi:i<5):m8 (i:Int) [((0:Int),s.v 0),(1,s.v 1),(2,s.v 2),(3,s.v 3),(4,s.v 4)]=some (s.v i):=by
 refine YQ hi ?_ ?_ ?_ ?_ ?_
 ·rfl
 ·rfl
 ·rfl
 ·rfl
 ·rfl
end
noncomputable def IB(x:PV):Prop:=(∃i,x = .int i)∨∃b,x = .bool b
noncomputable def After(f:Bool)(R:AH)(r C Pr:Addr)(q:Rs)(y:PV)(H:AH):Prop:=match q with
 |.ok x s=>y=(if f then .none else x)∧Run R r C Pr .none s H
 |.iR t s=>(if f then y = .none else IB y)∧Run R r C Pr (.str t) s H
section
variable{P:Params}{g:G (s7 P).T}(hg:v8 g){n w:Nat}{m:Loc}{H R:AH}{Q:PV→AH→Prop}{r C Pr:Addr}{s:Ps}{t:Nat}{pn:PV}
theorem Run.get(u:Run R r C Pr pn s H)(h:Q pn H):SubL g (.obj r) (.str 248) H Q:=M5 u.er rfl h
include hg
theorem aQ{f:Bool}{e:E}(w:Wf f e)(u:Run R r C Pr (.str t) s H)(hn:1≤n)(h:Q (if f then .none else .int 0) H):Cl g n (.obj (if f then X4 else G6)) [.obj r,e.raw] H Q:=by
 have W:∀a l,Q (.int 0) H→Cl g n (.obj G6) [.obj r,.tup (a::l)] H Q:=fun a l h=>(w6 P).cl hg rfl hn fun n O=>u.get h
 have D:∀a l,Q .none H→Cl g n (.obj X4) [.obj r,.tup (a::l)] H Q:=fun a l h=>(U4 P).cl hg rfl hn fun n O=>u.get h
 cases w<;>first|exact W _ _ h|exact D _ _ h
theorem PJ{op:Op}{x y:PV}(ho:op.ar=true)(hx:VT .n x)(hy:VT .n y)(u:Run R r C Pr .none s H)(hn:2≤n)(h:∀z H',After false R r C Pr (op.run x y s) z H'→Q z H'):Cl g n (.obj jw) [.obj r,.str op.s,x,y] H Q:=by
 obtain⟨a,rfl,ha⟩:=hx
 obtain⟨b,rfl,_⟩:=hy
 have e:op.run (.int a) (.int b) s=if over (op.f a b) then .iR op.msg s else .ok (.int (wrap (op.f a b))) s:=by
  unfold Op.run;rw [ho];rfl
 rw [e] at h
 refine(Bw P).cl hg rfl hn fun n hn=>uH hg ho ha hn ?_
 cases c:over (op.f a b) with
 |false=>
  rw [c] at h
  exact h _ H ⟨rfl,u⟩
 |true=>
  rw [c] at h
  refine u.get fun D hD=>?_
  have E:=Ext.new hD (o:=.w5 [(321,.str 331),(260,.str 332),(322,.str 333)])
  have u2:=u.ext E
  obtain⟨v,j,k1,k2,k3,k4,k5,k6,k7⟩:=ad0 P op ho
  have kv:m8 op.s [(321,PV.str 331),(260,.str 332),(322,.str 333)]=some (.str v):=by
   cases op<;>first|exact k1|(cases ho;done)
  refine M5 (c7 ..) kv (GX k2 ⟨k4,Nat.le_trans k6 (Y6 rfl)⟩ (GX k3 ⟨k5,Nat.le_trans k7 (Y6 rfl)⟩ (Jo u2.er (Y6 rfl) ?_)))
  exact h _ _ ⟨.inl ⟨_,rfl⟩,u2.panic _⟩
end
end Mine.Internal
namespace Mine.Internal
open PySem PySem.W PySem.Calls PyProof.Rows
section
variable{P:Params}{g:G (s7 P).T}(hg:v8 g){n w:Nat}{m:Loc}{H R:AH}{Q:PV→AH→Prop}{r C Pr:Addr}{s:Ps}{t:Nat}{pn:PV}
theorem Ua{b:Bool}{P R:Prop}(h:P)(k:R):sel b P R:=by cases b<;>assumption
theorem PK{k:Nat}{a b:E}{s:Ps}:(E.fld k (.pair a b)).ev s=(a.ev s).bind fun x s=>(b.ev s).bind fun y s=>.ok ((PV.tup [x,y]).part k) s:=by
 show((a.ev s).bind _).bind _=_
 cases a.ev s with
 |iR t s=>rfl
 |ok x s=>
  show((b.ev s).bind _).bind _=(b.ev s).bind _
  cases b.ev s<;>rfl
noncomputable def mG(f:Bool)(R:AH)(r C Pr:Addr)(q:Rs)(Q:PV→AH→Prop):Prop:=match q with
 |.ok x s => ∀H,Run R r C Pr .none s H→Q (if f then .none else x) H
 |.iR t s => ∀y H,(if f then y = .none else IB y)→Run R r C Pr (.str t) s H→Q y H
theorem mG.to{f:Bool}{q:Rs}(h:mG f R r C Pr q Q)(y:PV)(H':AH)(z:After f R r C Pr q y H'):Q y H':=by
 cases q with
 |ok x s=>exact z.1.symm▸h H' z.2
 |iR t s=>exact h y H' z.1 z.2
theorem mG.of{f:Bool}{q:Rs}(h:∀y H',After f R r C Pr q y H'→Q y H'):mG f R r C Pr q Q:=by
 cases q with
 |ok x s=>exact fun H u=>h _ H ⟨rfl,u⟩
 |iR t s=>exact fun y H e u=>h y H ⟨e,u⟩
noncomputable abbrev Pan(f:Bool)(R:AH)(r C Pr:Addr)(t:Nat)(s:Ps)(Q:PV→AH→Prop):Prop := ∀y H,(if f then y = .none else IB y)→Run R r C Pr (.str t) s H→Q y H
theorem mG.bind{f f':Bool}{q:Rs}{k:PV→Ps→Rs}{κ:Kd}{N:Nat}{G:PV→AH→Prop}(fq:q.fine κ N)(h:mG f R r C Pr (q.bind k) Q)
  (ok:∀x s H,VT κ x→SV s→s.pr.length≤N→Run R r C Pr .none s H→mG f R r C Pr (k x s) Q→G (if f' then .none else x) H) (iR:∀t s y H,(if f' then y = .none else IB y)→Run R r C Pr (.str t) s H→Pan f R r C Pr t s Q→G y H):mG f' R r C Pr q G:=by
 cases q with
 |ok x s=>exact fun H u=>ok x s H fq.1 fq.2.1 fq.2.2 u h
 |iR t s=>exact fun y H e u=>iR t s y H e u h
theorem Pan.num(h:Pan false R r C Pr t s Q)(u:Run R r C Pr (.str t) s H):Q (.int 0) H:=h _ H (.inl ⟨_,rfl⟩) u
include hg
theorem Ub{f:Bool}{e:E}(w:Wf f e):∀{n:Nat} {R H:AH} {r C Pr:Addr} {s:Ps} {Q:PV→AH→Prop},e.ok→Run R r C Pr .none s H→SV s→s.pr.length+e.cost≤sizeLine→e.W≤n→mG f R r C Pr (e.ev s) Q→
  Cl g n (.obj (if f then X4 else G6)) [.obj r,e.raw] H Q:=by
 induction w with
 |num hi=>exact fun O u O O hn h=>(w6 P).cl hg rfl (k:=0) (leB hn rfl) fun n O=>u.get (h _ u)
 |O2 b=>exact fun O u O O hn h=>(w6 P).cl hg rfl (k:=0) (leB hn rfl) fun n O=>u.get (h _ u)
 |@loc i hi=>exact fun O u O O hn h=>(w6 P).cl hg rfl (k:=0) (leB hn rfl) fun n O=>u.get (M5 u.er rfl (gK u.ec (Run.cell _ hi) (h _ u)))
 |@not a wa ih=>
  intro n R H r C Pr s Q o u sv hz hn h
  have hz:s.pr.length+(a.cost+10)≤sizeLine:=hz
  refine(w6 P).cl hg rfl (k:=a.W) (Nat.le_trans (Nat.add_le_add_left (Nat.le_of_ble_eq_true rfl) _) hn) fun n hn=>u.get (ih o.2 u sv (by exact Mine.Internal.Dn ‹_›) hn (mG.bind (k:=fun x s=>.ok (.bool (!x.tr)) s) (f':=false) (K7 wa o.2 sv (Nat.le_refl s.pr.length)) h (fun x s' H' vx O O u' k=>?_) fun t s' y H' iy u' k=>?_))
  ·rw [o.1] at vx
   obtain⟨b,rfl⟩:=vx
   exact k _ u'
  ·rcases iy with⟨i,rfl⟩|⟨b,rfl⟩
   ·exact k _ _ (.inr ⟨_,rfl⟩) u'
   ·exact k _ _ (.inr ⟨_,rfl⟩) u'
 |@seq d e wd we ihd Pu=>
  intro n R H r C Pr s Q o u sv hz hn h
  have hz:s.pr.length+(d.cost+e.cost+20)≤sizeLine:=hz
  have hn:max d.W e.W+8≤n:=hn
  exact(w6 P).cl hg rfl (k:=max d.W e.W) (MP hn) fun n hn=>u.get (ihd o.2.1 u sv (by exact Mine.Internal.YM ‹_›) (uU hn) (mG.bind (k:=fun O s=>e.ev s) (f':=true) (K7 wd o.2.1 sv (Nat.le_refl s.pr.length)) h
   (fun x s' H' O sv' l u' k=>Pu o.2.2 u' sv' (by exact Mine.Internal.sy2 ‹_› ‹_›) (iB hn) k) fun t s' y H' iy u' k=>aQ hg we u' (leB (Nat.le_trans (fj e) (iB hn)) rfl) (k.num u')))
 |@lazy an a b wa wb iha ihb=>
  intro n R H r C Pr s Q o u sv hz hn h
  have hz:s.pr.length+(a.cost+b.cost+40)≤sizeLine:=hz
  have hn:max a.W b.W+8≤n:=hn
  have go:∀n,max a.W b.W≤n→mG false R r C Pr (a.ev s) fun y H'=>sel (Ae y (.bool an)) (sel (y.eqv (.bool an)) (Cl g n (.obj G6) [.obj r,b.raw] H' Q) (Q y H')) (rC .Eq y (.bool an) H' fun c=>sel c (Cl g n (.obj G6) [.obj r,b.raw] H' Q) (Q y H')):=fun n hn=>by
   refine mG.bind (k:=fun x s=>if x.tr=an then b.ev s else .ok x s) (f':=false) (K7 wa o.2.1 sv (Nat.le_refl s.pr.length)) h (fun x s' H' vx sv' l u' k=>?_) fun t s' y H' iy u' k=>?_
   ·rw [o.1.1] at vx
    obtain⟨x,rfl⟩:=vx
    have k:mG false R r C Pr (if x=an then b.ev s' else .ok (.bool x) s') Q:=k
    by_cases c:x=an
    ·rw [if_pos c] at k
     exact V3 rfl (V3 (by rw [c];exact beq_self_eq_true an) (ihb o.2.2 u' sv' (by exact Mine.Internal.sy2 ‹_› ‹_›) (iB hn) k))
    ·rw [if_neg c] at k
     exact V3 rfl (cA (beq_eq_false_iff_ne.mpr c) (k _ u'))
   ·exact V3 (by rcases iy with⟨i,rfl⟩|⟨b,rfl⟩<;>rfl) (Ua (aQ hg wb u' (leB (Nat.le_trans (fj b) (iB hn)) rfl) (k.num u')) (k _ _ iy u'))
  cases an<;>exact(w6 P).cl hg rfl (k:=max a.W b.W) (MP hn) fun n hn=>u.get (iha o.2.1 u sv (by exact Mine.Internal.YM ‹_›) (uU hn) (go n hn))
 |@O1 c a b wc wa wb ihc iha ihb=>
  intro n R H r C Pr s Q o u sv hz hn h
  have hz:s.pr.length+(c.cost+a.cost+b.cost+40)≤sizeLine:=hz
  have hn:max c.W (max a.W b.W)+8≤n:=hn
  refine(w6 P).cl hg rfl (k:=max c.W (max a.W b.W)) (MP hn) fun n hn=>u.get (ihc o.2.1 u sv (by exact Mine.Internal.sz3 ‹_›) (uU hn) (mG.bind (k:=fun x s=>if x.tr then a.ev s else b.ev s) (f':=false) (K7 wc o.2.1 sv (Nat.le_refl s.pr.length)) h (fun x s' H' vx sv' l u' k=>?_) fun t s' y H' iy u' k=>?_))
  ·rw [o.1.1] at vx
   obtain⟨x,rfl⟩:=vx
   cases x with
   |true=>exact iha o.2.2.1 u' sv' (by exact Mine.Internal.sy3 ‹_› ‹_›) (uU (iB hn)) k
   |false=>exact ihb o.2.2.2 u' sv' (by exact Mine.Internal.sx3 ‹_› ‹_›) (iB (iB hn)) k
  ·have both:∀x:Bool,sel x (Cl g n (.obj G6) [.obj r,a.raw] H' Q) (Cl g n (.obj G6) [.obj r,b.raw] H' Q):=fun x=>Ua (aQ hg wa u' (leB (Nat.le_trans (fj a) (uU (iB hn))) rfl) (k.num u')) (aQ hg wb u' (leB (Nat.le_trans (fj b) (iB (iB hn))) rfl) (k.num u'))
   rcases iy with⟨i,rfl⟩|⟨b,rfl⟩
   ·exact both _
   ·exact both _
 |@bin op a b wa wb iha ihb=>
  intro n R H r C Pr s Q o u sv hz hn h
  have hz:s.pr.length+(a.cost+b.cost+41)≤sizeLine:=hz
  have hn:max a.W b.W+8≤n:=hn
  have w0:=fj b
  have go:∀n,max a.W b.W≤n→mG false R r C Pr (a.ev s) fun x H1=>Cl g n (.obj G6) [.obj r,b.raw] H1 fun y H2=>SubL g (.obj r) (.str 248) H2 fun p H'=>sel (!isNone p) (Q (.int 0) H') (if op.ar then Cl g n (.obj jw) [.obj r,.str op.s,x,y] H' Q else Cl g n (.obj U3) [.str 449,.str op.s,x,y] H' fun z H3=>UL g z 0 H3 Q):=fun n hn=>
   mG.bind (k:=fun x s=>(b.ev s).bind fun y s=>op.run x y s) (f':=false) (K7 wa o.2.1 sv (Nat.le_refl s.pr.length)) h (fun x s' H' vx sv' l u' k=>ihb o.2.2 u' sv' (by lia) (iB hn)
    (mG.bind (k:=fun y s=>op.run x y s) (f':=false) (K7 wb o.2.2 sv' (Nat.le_refl s'.pr.length)) k (fun y s2 H2 vy sv2 l2 u2 k=>u2.get (by
     rw [o.1.1] at vx
     rw [o.1.2] at vy
     show if op.ar then _ else _
     cases ho:op.ar with
     |true=>exact PJ hg ho vx vy u2 (leB (Nat.le_trans w0 (iB hn)) rfl) k.to
     |false=>
      obtain⟨i,rfl,_⟩:=vx
      obtain⟨j,rfl,_⟩:=vy
      rw [show op.run (.int i) (.int j) s2 = .ok (.bool (op.q i j)) s2 by unfold Op.run;rw [ho];rfl] at k
      exact pF hg ho (leB (Nat.le_trans w0 (iB hn)) rfl) (k _ u2))) fun t s' y H' iy u' k=>u'.get (k.num u'))) fun t s' y H' iy u' k=>aQ hg wb u' (leB (Nat.le_trans w0 (iB hn)) rfl) (u'.get (k.num u'))
  cases op<;>exact(w6 P).cl hg rfl (k:=max a.W b.W) (MP hn) fun n hn=>u.get (iha o.2.1 u sv (by lia) (uU hn) (go n hn))
 |@pair k a b hk wa wb iha ihb=>
  intro n R H r C Pr s Q o u sv hz hn h
  have hz:s.pr.length+(a.cost+b.cost+41+20)≤sizeLine:=hz
  have hn:max a.W b.W+8+8≤n:=hn
  have w0:=fj b
  have o:(a.k = .n∧b.k = .n)∧a.ok∧b.ok:=o.2
  rw [PK] at h
  refine(w6 P).cl hg rfl (k:=max a.W b.W) (aa8 hn) fun n hn=>u.get (iha o.2.1 u sv (by exact Mine.Internal.sz3 ‹_›) (uU hn) (mG.bind (k:=fun x s=>(b.ev s).bind fun y s=>.ok ((PV.tup [x,y]).part k) s) (f':=false) (K7 wa o.2.1 sv (Nat.le_refl s.pr.length)) h (fun x s' H' vx sv' l u' h=>ihb o.2.2 u' sv' (by lia) (iB hn)
   (mG.bind (k:=fun y s=>.ok ((PV.tup [x,y]).part k) s) (f':=false) (K7 wb o.2.2 sv' (Nat.le_refl s'.pr.length)) h (fun y s2 H2 vy sv2 l2 u2 h=>u2.get ?_) fun t s' y H' iy u' k=>u'.get (k.num u'))) fun t s' y H' iy u' k=>aQ hg wb u' (leB (Nat.le_trans w0 (iB hn)) rfl) (u'.get (k.num u'))))
  have h:=h _ u2
  revert h
  exact VP hk (fun h=>Z4 rfl (gG (i:=0) (by decide)) h) fun h=>Z4 rfl (gG (i:=1) (by decide)) h
 |@print a wa ih=>
  intro n R H r C Pr s Q o u sv hz hn h
  have hz:s.pr.length+(a.cost+20)≤sizeLine:=hz
  exact(U4 P).cl hg rfl (k:=a.W) (Nat.le_trans (Nat.add_le_add_left (Nat.le_of_ble_eq_true rfl) _) hn) fun n hn=>u.get (Z4 (i := -1) rfl rfl (ih o.2 u sv (by exact Mine.Internal.Dn ‹_›) hn (mG.bind (k:=fun x s=>.ok (.tup []) {s with pr:=s.pr++[x]}) (f':=false) (K7 wa o.2 sv (Nat.le_refl s.pr.length)) h
   (fun x s' H' O O l u' k=>u'.get (M5 u'.er rfl (G4 u'.ep (z6 u'.ep (by lia) (k _ (u'.print _)))))) fun t s' y H' iy u' k=>u'.get (k _ _ rfl u'))))
 |@assign i a hi wa ih=>
  intro n R H r C Pr s Q o u sv hz hn h
  have hz:s.pr.length+(a.cost+30)≤sizeLine:=hz
  exact(U4 P).cl hg rfl (k:=a.W) (Nat.le_trans (Nat.add_le_add_left (Nat.le_of_ble_eq_true rfl) _) hn) fun n hn=>u.get (Z4 (i := -1) rfl rfl (ih o.2 u sv (by exact Mine.Internal.Dn ‹_›) hn (mG.bind (k:=fun x s=>.ok (.tup []) (s.set i x)) (f':=false) (K7 wa o.2 sv (Nat.le_refl s.pr.length)) h
   (fun x s' H' O O l u' k=>u'.get (M5 u'.er rfl (gO u'.ec (Y6 rfl) (k _ (u'.set hi _))))) fun t s' y H' iy u' k=>u'.get (k _ _ rfl u'))))
 |@update op i a hi wa ih=>
  intro n R H r C Pr s Q o u sv hz hn h
  have hz:s.pr.length+(a.cost+40)≤sizeLine:=hz
  have w0:=fj a
  refine(U4 P).cl hg rfl (k:=a.W) (Nat.le_trans (Nat.add_le_add_left (Nat.le_of_ble_eq_true rfl) _) hn) fun n hn=>u.get (Z4 (i := -1) rfl rfl (ih o.2 u sv (by exact Mine.Internal.Dn ‹_›) hn (mG.bind (k:=fun x s=>(op.run (s.v i) x s).bind fun y s=>.ok (.tup []) (s.set i y)) (f':=false) (K7 wa o.2 sv (Nat.le_refl s.pr.length)) h
   (fun x s' H' vx sv' l u' k=>?_) fun t s' y H' iy u' k=>u'.get (u'.get (k _ _ rfl u')))))
  rw [o.1.2.2] at vx
  have hv:=sv' i hi
  rw [show(E.loc i).k = .n from if_pos o.1.2.1] at hv
  refine u'.get (M5 u'.er rfl (gK u'.ec (Run.cell _ hi) (PJ hg o.1.1 hv vx u' (leB (Nat.le_trans w0 hn) rfl) (mG.to (f:=false) (mG.bind (k:=fun y s=>.ok (.tup []) (s.set i y)) (f':=false) (uJ (n:=s'.pr.length) sv' (Nat.le_refl _)) k
   (fun y s2 H2 O O O u2 k=>u2.get (M5 u2.er rfl (gO u2.ec (Y6 rfl) (k _ (u2.set hi _))))) fun t s2 y H2 iy u2 k=>u2.get (k _ _ rfl u2))))))
 |@asked c a b wc wa wb ihc iha ihb=>
  intro n R H r C Pr s Q o u sv hz hn h
  have hz:s.pr.length+(c.cost+(a.cost+20)+(b.cost+20)+40)≤sizeLine:=hz
  have hn:max c.W (max (a.W+8) (b.W+8))+8≤n:=hn
  have un:∀(q:Rs),mG true R r C Pr (q.bind fun O s=>.ok (.tup []) s) Q→mG true R r C Pr q fun O H'=>Q .none H':=fun q k=>by
   cases q with
   |ok x s2=>exact k
   |iR t s2=>exact fun y H e u=>k .none H rfl u
  refine(U4 P).cl hg rfl (k:=max c.W (max (a.W+8) (b.W+8))) (MP hn) fun n hn=>u.get (ihc o.2.1 u sv (by exact Mine.Internal.sz3 ‹_›) (uU hn) (mG.bind (k:=fun x s=>if x.tr then(a.ev s).bind fun O s=>.ok (.tup []) s else(b.ev s).bind fun O s=>.ok (.tup []) s) (f':=false) (K7 wc o.2.1 sv (Nat.le_refl s.pr.length)) h (fun x s' H' vx sv' l u' k=>?_) fun t s' y H' iy u' k=>?_))
  ·rw [o.1.1] at vx
   obtain⟨x,rfl⟩:=vx
   cases x with
   |true=>exact iha o.2.2.1.2 u' sv' (by lia) (Uv (uU (iB hn))) (un _ k)
   |false=>exact ihb o.2.2.2.2 u' sv' (by lia) (Uv (iB (iB hn))) (un _ k)
  ·have k:=k .none H' rfl u'
   rcases iy with⟨i,rfl⟩|⟨x,rfl⟩
   ·exact Ua (aQ hg wa u' (leB (Nat.le_trans (fj a) (Uv (uU (iB hn)))) rfl) k) (aQ hg wb u' (leB (Nat.le_trans (fj a) (Uv (uU (iB hn)))) rfl) k)
   ·exact Ua (aQ hg wa u' (leB (Nat.le_trans (fj a) (Uv (uU (iB hn)))) rfl) k) (aQ hg wb u' (leB (Nat.le_trans (fj a) (Uv (uU (iB hn)))) rfl) k)
theorem Yr{f:Bool}{e:E}(w:Wf f e){n:Nat}{R H:AH}{r C Pr:Addr}{s:Ps}{Q:PV→AH→Prop}(o:e.ok)(u:Run R r C Pr .none s H)(sv:SV s)(hz:s.pr.length+e.cost≤sizeLine)(hn:e.W≤n)(h:∀y H',After f R r C Pr (e.ev s) y H'→Q y H'):
  Cl g n (.obj (if f then X4 else G6)) [.obj r,e.raw] H Q:=Ub hg w o u sv hz hn (mG.of h)
end
end Mine.Internal
namespace Mine.Internal
open PySem PySem.W PySem.Calls PyProof.Rows
noncomputable def evs:List E→Ps→Rs
 | [],s=>.ok .none s
 |e::r,s=>(e.ev s).bind fun O s=>evs r s
noncomputable def zG:Ps:=⟨fun i=>match i with|0=>.int 3|1=>.int 11|2=>.int 0|3=>.bool true|_=>.bool false,[]⟩
theorem sv0:SV zG:=fun i hi=>by
 refine YQ hi ?_ ?_ ?_ ?_ ?_
 ·exact⟨3,rfl,by unfold PB;decide⟩
 ·exact⟨11,rfl,by unfold PB;decide⟩
 ·exact⟨0,rfl,by unfold PB;decide⟩
 ·exact⟨true,rfl⟩
 ·exact⟨false,rfl⟩
noncomputable def zm:Rs→PV×List PV
 |.ok _ s=>(.tup [.str 341,s.v 0],s.pr)
 |.iR t s=>(.tup [.str 248,.str t],s.pr)
section
variable{P:Params}{g:G (s7 P).T}(hg:v8 g){n w:Nat}{m:Loc}{H R:AH}{Q:PV→AH→Prop}{r C Pr:Addr}{s:Ps}{t:Nat}{pn:PV}
include hg
theorem Fy{m0:Loc}(hr:m0.lookup 325=some (.obj r)){l0:List PV}{Q':Out→Loc→AH→Prop}(hn:100≤n):∀(rs:List E) (q:Rs) (m:Loc) (H:AH),(∀x,j8 36 x m=j8 36 x m0)→(∀e∈rs,Rw e)→
  (∃y,After true R r C Pr q y H)→(q.fine .u (sizeLine-1400*rs.length))→1400*rs.length≤sizeLine→
  (∀m' H' y,(∀x,j8 36 x m'=j8 36 x m0)→After true R r C Pr (q.bind fun O s=>evs rs s) y H'→Q' .next m' H')→
  Ef (fun q m H Q=>(Tg.name 36).w g n q m H Q) (fun m H Q=>K4 g n [.expr (.call 336 [.loc 325,.loc 36])] m H Q) (.lst l0) l0 Q' (rs.map E.raw) m H:=by
 intro rs
 induction rs with
 |nil=>
  intro q m H hm _ z _ _ h
  obtain⟨y,z⟩:=z
  cases q with
  |ok x s=>exact h m H .none hm ⟨rfl,z.2⟩
  |iR t s=>exact h m H y hm z
 |cons e rs ih=>
  intro q m H hm ho z fq hz h
  have ro:=ho e (.head _)
  rw [List.length_cons] at hz fq
  have lr:(j8 36 e.raw m).lookup 325=some (.obj r):=by rw [hm];exact W6 (by decide) hr
  refine d8 lr (d8 V0 ?_)
  obtain⟨y,z⟩:=z
  cases q with
  |iR t s=>
   obtain⟨rfl,u⟩:=z
   exact aQ hg ro.wf u (leB hn rfl) (ih (.iR t s) _ H (fun x=>(ak ..).trans (hm x)) (fun e he=>ho e (.tail _ he)) ⟨.none,rfl,u⟩ ⟨fq.1,Nat.le_trans fq.2 (by omega)⟩ (by exact Nat.le_trans (Nat.le_add_right ..) ‹_›) h)
  |ok x s=>
   obtain⟨_,u⟩:=z
   have cc:=ro.c
   have fl:=fq.2.2
   have fe:=K7 ro.wf ro.ok fq.2.1 fl
   rw [ro.kd] at fe
   exact Yr hg ro.wf ro.ok u fq.2.1 (by lia) (Nat.le_trans ro.w hn) fun y H' z=>ih (e.ev s) _ H' (fun x=>(ak ..).trans (hm x)) (fun e he=>ho e (.tail _ he)) ⟨y,z⟩ (fe.mono (by lia)) (by exact Nat.le_trans (Nat.le_add_right ..) ‹_›) h
theorem Ys{rs:List E}(ho:∀e∈rs,Rw e)(hl:rs.length≤10)(hn:101≤n)(h:∀Pr H',Ext H H'→H' Pr=some (.list (zm (evs rs zG)).2)→Q (.tup [(zm (evs rs zG)).1,.obj Pr]) H'):Cl g n (.obj sS) [.lst (rs.map E.raw)] H Q:=by
 refine(Bx P).cl hg rfl hn fun n hn=>fun C hC Pr hPr r hr=>?_
 have n1:r≠C:=fun z=>by rw [z,d9 (fun k=>by rw [← k,c7] at hPr;cases hPr),c7] at hr;cases hr
 have n2:r≠Pr:=fun z=>by rw [z,c7] at hr;cases hr
 have n3:C≠Pr:=fun z=>by rw [← z,c7] at hPr;cases hPr
 have ae6:H Pr=none:=by rw [← hPr,d9 n3.symm]
 have hr':H r=none:=by rw [← hr,d9 n2,d9 n1]
 have E1:=Ext.new hC (o:=.m6 [(0,.int 3),(1,.int 11),(2,.int 0),(3,.bool true),(4,.bool false)])
 have E2:=Ext.upd ae6 E1 (o:=.list [])
 have E3:=Ext.upd hr' E2 (o:=.w5 [(338,.obj C),(340,.obj Pr),(248,.none)])
 have u:Run H r C Pr .none zG (upd (upd (upd H C (.m6 [(0,.int 3),(1,.int 11),(2,.int 0),(3,.bool true),(4,.bool false)])) Pr (.list [])) r (.w5 [(338,.obj C),(340,.obj Pr),(248,.none)])):=
  ⟨c7 ..,(d9 n1.symm).trans ((d9 n3).trans (c7 ..)),(d9 n2.symm).trans (c7 ..),n1,n2,n3,hr',hC,ae6,E3⟩
 refine Fy hg (m0:=[(26,.lst (rs.map E.raw)),(325,.obj r)]) rfl (leB hn rfl) rs (.ok .none zG) _ _ (fun O=>rfl) ho ⟨.none,rfl,u⟩ ⟨trivial,sv0,Nat.zero_le _⟩ (by rw [sizeLine_eq];lia) fun m' H' y hm z=>?_
 have lr:m'.lookup 325=some (.obj r):=by
  have z:=congrArg (List.lookup 325) (hm .none)
  rw [s6,if_neg (by decide),s6,if_neg (by decide)] at z
  exact z
 have z:After true H r C Pr (evs rs zG) y H':=z
 cases q:evs rs zG with
 |ok x s=>
  rw [q] at z h
  obtain⟨_,u⟩:=z
  exact d8 lr (u.get (d8 lr (M5 u.er rfl (gK u.ec rfl (d8 lr (M5 u.er rfl (h Pr H' u.keep u.ep)))))))
 |iR t s=>
  rw [q] at z h
  obtain⟨_,u⟩:=z
  exact d8 lr (u.get (d8 lr (u.get (d8 lr (M5 u.er rfl (h Pr H' u.keep u.ep))))))
end
end Mine.Internal
namespace Mine.Internal
open PySem PySem.W PySem.Calls PyProof.Rows
inductive Vk:PV→Prop
 |int (i:Int):Vk (.int i)
 |bool (b:Bool):Vk (.bool b)
 |unit:Vk (.tup [])
 |two {x y:PV}:IB x→IB y→Vk (.tup [x,y])
theorem Vk.ill{x:PV}(h:Vk x):Ae x (.str 352)=true∧x.eqv (.str 352)=false:=by
 cases h with
 |int i=>exact⟨rfl,rfl⟩
 |bool b=>exact⟨rfl,rfl⟩
 |unit=>exact⟨rfl,rfl⟩
 |two a b=>rcases a with⟨i,rfl⟩|⟨i,rfl⟩<;>rcases b with⟨j,rfl⟩|⟨j,rfl⟩<;>exact⟨rfl,rfl⟩
noncomputable abbrev Cs:=List (Int×PV)
inductive Rd(l:Cs):PV→PV→Prop
 |cst (t:PV) {x:PV}:Vk x→Rd l (uw t x) x
 |cp {i:Nat} {x:PV}:m8 (i:Int) l=some x→Vk x→Rd l (z7 (I8 i)) x
 |fld {i k:Nat} {x y z:PV}:m8 (i:Int) l=some (.tup [x,y])→Vk (.tup [x,y])→[x,y][k]? = some z→IB z→Rd l (z7 (SQ i k)) z
inductive Rv(l:Cs):PV→PV→Prop
 |use {o x:PV}:Rd l o x→Vk x→Rv l (bw o) x
 |unit:Rv l J7 (.tup [])
 |two {o p x y:PV}:Rd l o x→Rd l p y→IB x→IB y→Rv l (.tup [.str 9,.tup [o,p]]) (.tup [x,y])
 |not {o:PV} {b:Bool}:Rd l o (.bool b)→Rv l (.tup [.str 236,.str 347,o]) (.bool (!b))
 |chk {o p:PV} {op:Op} {a b:Int}:op.ar=true→PB a→Rd l o (.int a)→Rd l p (.int b)→Rv l (.tup [.str 267,.str op.s,o,p]) (.tup [.int (wrap (op.f a b)),.bool (over (op.f a b))])
 |cmp {o p:PV} {op:Op} {a b:Int}:op.ar=false→Rd l o (.int a)→Rd l p (.int b)→Rv l (.tup [.str 160,.str op.s,o,p]) (.bool (op.q a b))
section
variable{P:Params}{g:G (s7 P).T}(hg:v8 g){n w:Nat}{m:Loc}{H R:AH}{Q:PV→AH→Prop}{Cw Pw:Addr}{l:Cs}{o x:PV}
omit hg
theorem VD{a:Addr}{l:Cs}{i:Nat}{d x:PV}(hg:v8 g)(o:H a=some (.m6 l))(k:m8 (i:Int) l=some x)(h:Q x H):Cl g n (.blt "dict.get") [.obj a,.int (i:Int),d] H Q:=
 QL hg o (by rw [k];exact h)
include hg
theorem O9(e:H Cw=some (.m6 l))(rd:Rd l o x)(hn:1≤n)(h:Q x H):Cl g n (.obj oZ) [.obj Cw,o] H Q:=by
 refine(yI P).cl hg rfl hn fun n O=>?_
 cases rd with
 |cst t v=>exact h
 |@cp i _ k v=>exact rM e (VD hg e k h)
 |@fld i j x y z k v q b=>
  refine rM e (VD hg e k ?_)
  obtain⟨z1,z2⟩:=v.ill
  have hj:j<2:=(List.getElem?_eq_some_iff.mp q).1
  exact V3 z1 (Z4 rfl ((gG (by exact Nat.le_trans ‹_› (by decide))).trans q) h)
omit hg
theorem ibv{x:PV}(h:IB x):Vk x:=by rcases h with⟨i,rfl⟩|⟨b,rfl⟩<;>constructor
include hg
theorem Uc{body:PV}{rv:PV}(e:H Cw=some (.m6 l))(rd:Rv l rv x)(hn:2≤n)(h:Q x H):Cl g n (.obj pq) [body,.obj Cw,rv] H Q:=by
 refine(yJ P).cl hg rfl hn fun n hn=>?_
 cases rd with
 |use k v=>exact O9 hg e k hn h
 |unit=>exact cI (f:=id) (w:=id) [] (Y6 rfl) (fun a ha=>nomatch ha) (cD (.inr rfl) (Y6 rfl) h)
 |@two o p x y k q a b=>
  refine cI (f:=fun r:PV×PV=>r.1) (w:=fun r=>r.2) [(o,x),(p,y)] (Y6 rfl) (fun r hr D o' K hD kk=>?_) ?_
  ·have ne:Cw≠D:=fun z=>by rw [z,hD] at e;cases e
   rcases List.mem_cons.mp hr with rfl|hr
   ·exact O9 hg ((d9 ne).trans e) k hn kk
   ·cases List.mem_singleton.mp hr
    exact O9 hg ((d9 ne).trans e) q hn kk
  ·have z1:okIn (.str 352) [x,y]=true:=by rcases a with⟨i,rfl⟩|⟨i,rfl⟩<;>rcases b with⟨j,rfl⟩|⟨j,rfl⟩<;>rfl
   have z2:([x,y].any fun z=>z.eqv (.str 352))=false:=by rcases a with⟨i,rfl⟩|⟨i,rfl⟩<;>rcases b with⟨j,rfl⟩|⟨j,rfl⟩<;>rfl
   exact V3 z1 (cA z2 (cD (.inr rfl) (Y6 rfl) h))
 |not k=>exact O9 hg e k hn h
 |@chk o p op a b ho ia k q=>
  exact O9 hg e k hn (O9 hg e q hn (uH hg ho ia hn h))
 |@cmp o p op a b ho k q=>exact O9 hg e k hn (O9 hg e q hn (pF hg ho hn h))
end
end Mine.Internal
namespace Mine.Internal
open PySem PySem.W PySem.Calls PyProof.Rows
theorem Rd.vk{l:Cs}{o x:PV}(h:Rd l o x):Vk x:=by
 cases h with
 |cst t v=>exact v
 |cp k v=>exact v
 |fld k v q b=>exact ibv b
theorem Rv.vk{l:Cs}{o x:PV}(h:Rv l o x):Vk x:=by
 cases h with
 |use k v=>exact v
 |unit=>exact .unit
 |two k q a b=>exact .two a b
 |not k=>exact .bool _
 |chk ho ia k q=>exact .two (.inl ⟨_,rfl⟩) (.inr ⟨_,rfl⟩)
 |cmp ho k q=>exact .bool _
inductive Ud(N:Nat):PV→Cs→List PV→Cs→List PV→Prop
 |live {l:Cs} {pr:List PV} (i:Nat):Ud N (.tup [.str 129,.int (i:Int)]) l pr l pr
 |dead {l:Cs} {pr:List PV} (i:Nat):Ud N (.tup [.str 134,.int (i:Int)]) l pr (iD (i:Int) l) pr
 |print {l:Cs} {pr:List PV} {o x:PV}:pr.length<sizeLine→Rd l o x→Ud N (.tup [.str 242,o]) l pr l (pr++[x])
 |asg {l:Cs} {pr:List PV} {rv x:PV} (i:Nat):i<N→Rv l rv x→Ud N (.tup [.str 159,I8 i,rv]) l pr (N8 (i:Int) x l) pr
theorem PL{l:List PV}{x:PV}:DK (l++[x]) (-1)=some x:=by
 unfold DK
 rw [if_neg (by decide),if_pos ⟨by rw [List.length_append,List.length_singleton];lia,by decide⟩,List.length_append,List.length_singleton,show(-1+((l.length+1:Nat):Int)).toNat=l.length by lia,List.getElem?_concat_length]
section
variable{P:Params}{g:G (s7 P).T}(hg:v8 g){n w:Nat}{m:Loc}{H R:AH}{Q:PV→AH→Prop}{Cw Pw:Addr}{l l':Cs}{pr jL:List PV}{o x body st:PV}{N:Nat}
include hg
theorem Fz(eC:H Cw=some (.m6 l))(eP:H Pw=some (.list pr))(ne:Cw≠Pw)(s:Ud N st l pr l' jL)(zl:l.length≤sizeLine)(hn:3≤n)(h:∀H',H' Cw=some (.m6 l')→H' Pw=some (.list jL)→(∀b,b≠Cw→b≠Pw→H' b=H b)→Q (.bool true) H'):
  Cl g n (.obj fP) [body,.obj Cw,.obj Pw,st] H Q:=by
 refine(pW P).cl hg rfl hn fun n hn=>?_
 cases s with
 |live i=>exact h H eC eP fun O O O=>rfl
 |dead i=>exact rM eC (QM hg eC zl (h _ (c7 ..) ((d9 ne.symm).trans eP) fun b n1 n2=>d9 n1))
 |print hz rd=>
  obtain⟨z1,z2⟩:=rd.vk.ill
  refine G4 eP (O9 hg eC rd (leB hn rfl) (z6 eP (Nat.le_of_lt hz) (kh (c7 ..) PL (V3 z1 ?_))))
  rw [z2]
  exact h _ ((d9 ne).trans eC) (c7 ..) fun b n1 n2=>d9 n2
 |asg i hi rv=>
  obtain⟨z1,z2⟩:=rv.vk.ill
  exact Uc hg eC rv hn (V3 z1 (cA z2 (gO eC zl (h _ (c7 ..) ((d9 ne.symm).trans eP) fun b n1 n2=>d9 n1))))
end
end Mine.Internal
namespace Mine.Internal
open PySem PySem.W PySem.Calls PyProof.Rows
section
variable{K:Type} [DecidableEq K]
theorem CQ(k k':K)(x:PV)(l:List (K×PV)):m8 k' (N8 k x l)=if k=k' then some x else m8 k' l:=by
 induction l with
 |nil=>rfl
 |cons q r ih=>
  unfold N8
  by_cases e:q.1=k
  ·rw [if_pos e]
   show(if k=k' then some x else m8 k' r)=if k=k' then some x else(if q.1=k' then some q.2 else m8 k' r)
   by_cases z:k=k'
   ·rw [if_pos z,if_pos z]
   ·rw [if_neg z,if_neg z,if_neg (fun w=>z (e.symm.trans w))]
  ·rw [if_neg e]
   show(if q.1=k' then some q.2 else m8 k' (N8 k x r))=if k=k' then some x else(if q.1=k' then some q.2 else m8 k' r)
   by_cases z:q.1=k'
   ·rw [if_pos z,if_pos z,if_neg (fun w=>e (z.trans w.symm))]
   ·rw [if_neg z,if_neg z,ih]
theorem PN{k k':K}(ne:k≠k')(l:List (K×PV)):m8 k' (iD k l)=m8 k' l:=by
 induction l with
 |nil=>rfl
 |cons q r ih=>
  unfold iD
  by_cases e:q.1=k
  ·rw [if_pos e]
   show m8 k' r=if q.1=k' then some q.2 else m8 k' r
   rw [if_neg (fun w=>ne (e.symm.trans w))]
  ·rw [if_neg e]
   show(if q.1=k' then some q.2 else m8 k' (iD k r))=if q.1=k' then some q.2 else m8 k' r
   rw [ih]
theorem CV{k:K}{x:PV}{l:List (K×PV)}{y:K}(h:y∈(N8 k x l).map (·.1)):y=k∨y∈l.map (·.1):=by
 induction l with
 |nil=>exact .inl (List.mem_singleton.mp h)
 |cons q r ih=>
  unfold N8 at h
  by_cases e:q.1=k
  ·rw [if_pos e] at h
   exact(List.mem_cons.mp h).imp id (.tail _)
  ·rw [if_neg e] at h
   rcases List.mem_cons.mp h with z|z
   ·exact .inr (z▸.head _)
   ·exact(ih z).imp id (.tail _)
theorem CW{k:K}{l:List (K×PV)}{y:K}(h:y∈(iD k l).map (·.1)):y∈l.map (·.1):=by
 induction l with
 |nil=>exact h
 |cons q r ih=>
  unfold iD at h
  by_cases e:q.1=k
  ·rw [if_pos e] at h;exact .tail _ h
  ·rw [if_neg e] at h
   rcases List.mem_cons.mp h with z|z
   ·exact z▸.head _
   ·exact .tail _ (ih z)
theorem Ue{k:K}{x:PV}{l:List (K×PV)}(h:(l.map (·.1)).Nodup):((N8 k x l).map (·.1)).Nodup:=by
 induction l with
 |nil=>exact List.nodup_cons.mpr ⟨List.not_mem_nil,.nil⟩
 |cons q r ih=>
  obtain⟨a,b⟩:=List.nodup_cons.mp h
  unfold N8
  by_cases e:q.1=k
  ·rw [if_pos e];exact List.nodup_cons.mpr ⟨e▸a,b⟩
  ·rw [if_neg e];exact List.nodup_cons.mpr ⟨fun z=>(CV z).elim e a,ih b⟩
theorem Ug{k:K}{l:List (K×PV)}(h:(l.map (·.1)).Nodup):((iD k l).map (·.1)).Nodup:=by
 induction l with
 |nil=>exact h
 |cons q r ih=>
  obtain⟨a,b⟩:=List.nodup_cons.mp h
  unfold iD
  by_cases e:q.1=k
  ·rw [if_pos e];exact b
  ·rw [if_neg e];exact List.nodup_cons.mpr ⟨fun z=>a (CW z),ih b⟩
end
structure Qx(N:Nat)(l:Cs):Prop where
 nd:(l.map (·.1)).Nodup
 lt:∀k∈l.map (·.1),∃i:Nat,k=(i:Int)∧i<N
theorem Qx.len{N:Nat}{l:Cs}(h:Qx N l):l.length≤N:=by
 have:=List.Nodup.length_le_of_subset (l₂:=(List.range N).map Int.ofNat) h.nd fun k hk=>by
  obtain⟨i,rfl,hi⟩:=h.lt k hk
  exact List.mem_map.mpr ⟨i,List.mem_range.mpr hi,rfl⟩
 rwa [List.length_map,List.length_map,List.length_range] at this
theorem Qx.step{N:Nat}{l l':Cs}{pr jL:List PV}{st:PV}(h:Qx N l)(s:Ud N st l pr l' jL):Qx N l':=by
 cases s with
 |live i=>exact h
 |dead i=>exact⟨Ug h.nd,fun k hk=>h.lt k (CW hk)⟩
 |print a b=>exact h
 |asg i hi rv=>exact⟨Ue h.nd,fun k hk=>(CV hk).elim (fun e=>⟨i,e,hi⟩) (h.lt k)⟩
inductive Go(B:Nat→Option (List PV×Tm))(N:Nat):Nat→List PV→Tm→Cs→List PV→PV×List PV→Prop
 |st {n:Nat} {s:PV} {ss:List PV} {t:Tm} {l l':Cs} {pr jL:List PV} {r:PV×List PV}:Ud N s l pr l' jL→Go B N n ss t l' jL r→Go B N n (s::ss) t l pr r
 |ret {n:Nat} {l:Cs} {pr:List PV} {x:PV}:m8 0 l=some x→Vk x→Go B N (n+1) [] .ret l pr (.tup [.str 341,x],pr)
 |goto {n j:Nat} {ss:List PV} {t:Tm} {l:Cs} {pr:List PV} {r:PV×List PV}:B j=some (ss,t)→Go B N n ss t l pr r→Go B N (n+1) [] (.goto j) l pr r
 |sw {n no yes:Nat} {b:Bool} {o:PV} {ss:List PV} {t:Tm} {l:Cs} {pr:List PV} {r:PV×List PV}:Rd l o (.bool b)→B (if b then yes else no)=some (ss,t)→Go B N n ss t l pr r→Go B N (n+1) [] (.sw o no yes) l pr r
 |fB {n j:Nat} {o x:PV} {ss:List PV} {t:Tm} {l:Cs} {pr:List PV} {r:PV×List PV}:Rd l o (.bool false)→B j=some (ss,t)→Go B N n ss t l pr r→Go B N (n+1) [] (.fB o (.bool false) x j) l pr r
 |fail {n j w:Nat} {o:PV} {l:Cs} {pr:List PV}:Rd l o (.bool true)→Go B N (n+1) [] (.fB o (.bool false) (.str w) j) l pr (.tup [.str 248,.str w],pr)
theorem Go.mono{B:Nat→Option (List PV×Tm)}{N n n':Nat}{ss:List PV}{t:Tm}{l:Cs}{pr:List PV}{r:PV×List PV}(h:Go B N n ss t l pr r):n≤n'→Go B N n' ss t l pr r:=by
 have up:∀{k n':Nat},k+1≤n'→∃j,n'=j+1∧k≤j:=fun{k n'} h=>⟨n'-1,by lia,by exact Mine.Internal.qh2 ‹_›⟩
 induction h generalizing n' with
 |st s _ ih=>exact fun le=>.st s (ih le)
 |ret a b=>intro le;obtain⟨j,rfl,_⟩:=up le;exact .ret a b
 |goto a _ ih=>intro le;obtain⟨j,rfl,h⟩:=up le;exact .goto a (ih h)
 |sw a b _ ih=>intro le;obtain⟨j,rfl,h⟩:=up le;exact .sw a b (ih h)
 |fB a b _ ih=>intro le;obtain⟨j,rfl,h⟩:=up le;exact .fB a b (ih h)
 |fail a=>intro le;obtain⟨j,rfl,_⟩:=up le;exact .fail a
theorem Go.pos{B:Nat→Option (List PV×Tm)}{N n:Nat}{ss:List PV}{t:Tm}{l:Cs}{pr:List PV}{r:PV×List PV}(h:Go B N n ss t l pr r):0<n:=by
 induction h with
 |st _ _ ih=>exact ih
 |_=>exact Nat.succ_pos _
end Mine.Internal
namespace Mine.Internal
open PySem PySem.W PySem.Calls PyProof.Rows
theorem W0{caps:List Nat}{x:Nat}(hx:caps.contains x=true){p:PV}:∀{m:Loc},m.lookup x=some p→(W7 caps m).lookup x=some p
 | [],h=>h
 |q::r,h=>by
  obtain⟨q1,q2⟩:=q
  unfold W7
  rw [List.filter_cons]
  by_cases e:x=q1
  ·subst e
   rw [if_pos hx,List.lookup_cons,beq_self_eq_true]
   rw [List.lookup_cons,beq_self_eq_true] at h
   exact h
  ·have hb:(x==q1)=false:=beq_eq_false_iff_ne.mpr e
   rw [List.lookup_cons,hb] at h
   split
   ·rw [List.lookup_cons,hb];exact W0 hx h
   ·exact W0 hx h
structure Yt(bl:List PV)(b N5 la:Addr)(H:AH):Prop where
 b:H b=some (.inst dH N5)
 x:∃a1 a2 a3 a5,H N5=some (.attrs [(40,a1),(71,a2),(75,a3),(73,.obj la),(74,a5)])
 l:H la=some (.list bl)
theorem Yt.ext{bl:List PV}{b N5 la:Addr}{H H':AH}(y:Yt bl b N5 la H)(E:Ext H H'):Yt bl b N5 la H':=⟨E _ _ y.b,y.x.imp fun a1 ⟨a2,a3,a5,e⟩=>⟨a2,a3,a5,E _ _ e⟩,E _ _ y.l⟩
structure Wk(R:AH)(Cw Pw:Addr)(l:Cs)(pr:List PV)(H:AH):Prop where
 kp:Ext R H
 ec:H Cw=some (.m6 l)
 ep:H Pw=some (.list pr)
 ne:Cw≠Pw
 r1:R Cw=none
 r2:R Pw=none
theorem Wk.go{R:AH}{Cw Pw:Addr}{l l':Cs}{pr jL:List PV}{H H':AH}(w:Wk R Cw Pw l pr H)(e1:H' Cw=some (.m6 l'))(e2:H' Pw=some (.list jL))(k:∀y,y≠Cw→y≠Pw→H' y=H y):Wk R Cw Pw l' jL H':=
 ⟨fun y o e=>(k y (fun z=>by rw [z,w.r1] at e;cases e) (fun z=>by rw [z,w.r2] at e;cases e)).trans (w.kp y o e),e1,e2,w.ne,w.r1,w.r2⟩
theorem Wk.put{R:AH}{Cw Pw D:Addr}{l:Cs}{pr:List PV}{H:AH}{o:q7}(w:Wk R Cw Pw l pr H)(h:H D=none):Wk R Cw Pw l pr (upd H D o)∧R D=none∧D≠Cw∧D≠Pw:=
 have r:R D=none:=by
  cases q:R D with
  |none=>rfl
  |some o=>rw [w.kp _ _ q] at h;cases h
 have n1:D≠Cw:=fun z=>by rw [z,w.ec] at h;cases h
 have n2:D≠Pw:=fun z=>by rw [z,w.ep] at h;cases h
 ⟨⟨Ext.upd r w.kp,(d9 n1.symm).trans w.ec,(d9 n2.symm).trans w.ep,w.ne,w.r1,w.r2⟩,r,n1,n2⟩
theorem Wk.del{R:AH}{Cw Pw D:Addr}{l:Cs}{pr:List PV}{H:AH}(w:Wk R Cw Pw l pr H)(h:R D=none)(n1:D≠Cw)(n2:D≠Pw):Wk R Cw Pw l pr (del H D):=
 ⟨fun y o e=>(qT fun z=>by rw [z,h] at e;cases e).trans (w.kp y o e),(qT n1.symm).trans w.ec,(qT n2.symm).trans w.ep,w.ne,w.r1,w.r2⟩
theorem Go.cons{B:Nat→Option (List PV×Tm)}{N n:Nat}{s:PV}{ss:List PV}{t:Tm}{l:Cs}{pr:List PV}{r:PV×List PV}(h:Go B N n (s::ss) t l pr r):∃l' jL,Ud N s l pr l' jL∧Go B N n ss t l' jL r:=by
 cases h with
 |st a b=>exact⟨_,_,a,b⟩
section
variable{P:Params}{g:G (s7 P).T}(hg:v8 g){n w:Nat}{m:Loc}{H R:AH}{Q:PV→AH→Prop}{Cw Pw b N5 la:Addr}{l l':Cs}{pr jL bl:List PV}{o x body st:PV}{N:Nat}{B:Nat→Option (List PV×Tm)}
include hg
theorem Ih{i:Nat}{ss t:PV}(y:Yt bl b N5 la H)(e:bl[i]? = some (.lst [ss,t]))(hz:bl.length≤sizeLine)(hn:1≤n):(Q ss H→Cl g n (.obj T6) [.obj b,.int (i:Int)] H Q)∧(Q t H→Cl g n (.obj T7) [.obj b,.int (i:Int)] H Q):=by
 obtain⟨a1,a2,a3,a5,ex⟩:=y.x
 have hi:i<2 ^ 62:=Nat.lt_trans (List.getElem?_eq_some_iff.mp e).1 (uh hz)
 exact⟨fun h=>(aM P).cl hg rfl hn fun n hn=>j6.mk y.b ex rfl rfl (V6 y.l hi e h),fun h=>(aN P).cl hg rfl hn fun n hn=>j6.mk y.b ex rfl rfl (V6 y.l hi e h)⟩
theorem CX{F:List PV→AH→Prop}{D:Addr}{all:List PV}{t:Tm}{r:PV×List PV}{k:Nat}(hD:D≠Cw∧D≠Pw)(hN:N≤sizeLine)(hn:3≤n)
  (fin:∀H' l' jL,Wk R Cw Pw l' jL H'→Qx N l'→Go B N k [] t l' jL r→H' D=some (.list [])→F [] H'):∀(ss:List PV) (m:Loc) (H:AH) (l:Cs) (pr:List PV),m.lookup 92=some (.obj b)→m.lookup 338=some (.obj Cw)→m.lookup 340=some (.obj Pw)→Wk R Cw Pw l pr H→Qx N l→Go B N k ss t l pr r→H D=some (.list [])→
  WC (.one 28) (Xc g n [.not (.call 360 [.loc 92,.loc 338,.loc 340,.loc 28])]) (fun m H Q=>X.wE (.loc 28) g n m H Q) (.lst all) all D F ss [] m H:=by
 intro ss
 induction ss with
 |nil=>exact fun m H l pr O O O w c go e=>fin H l pr w c go e
 |cons s ss ih=>
  intro m H l pr e1 e2 e3 w c go e
  obtain⟨l',jL,s1,go⟩:=go.cons
  refine d8 (W6 (by decide) e1) (d8 (W6 (by decide) e2) (d8 (W6 (by decide) e3) (d8 V0 (Fz hg w.ec w.ep w.ne s1 (Nat.le_trans c.len hN) hn fun H' a1 a2 a3=>?_))))
  have e':H' D=some (.list []):=(a3 D hD.1 hD.2).trans e
  exact And.intro ⟨e',rfl⟩ (ih _ H' l' jL (W6 (by decide) e1) (W6 (by decide) e2) (W6 (by decide) e3) (w.go a1 a2 a3) (c.step s1) go e')
noncomputable abbrev walk1:S:=.iff (.cmp .NotEq (.comp [92,338,340] (.one 28) (.loc 28) (.meth (.loc 92) 99 [.loc 64]) [.not (.call 360 [.loc 92,.loc 338,.loc 340,.loc 28])] [(446,.local),(28,.local),(360,.globalImplicit),(92,.free),(338,.free),(340,.free)]) (.lst [])) [.ret .none] []
noncomputable abbrev walk2:List S:=[.asg (.name 282) (.meth (.loc 92) 81 [.loc 64]),.iff (.cmp .Eq (.at (.loc 282) 0) (.str 247)) [.ret (.tup [.tup [.str 341,.call 357 [.loc 338,.tup [.str 143,.tup [.int 0,.tup []]]]],.loc 340])] [],.iff (.cmp .Eq (.at (.loc 282) 0) (.str 84)) [.asg (.name 64) (.at (.loc 282) 1)] [.iff (.cmp .Eq (.at (.loc 282) 0) (.str 88)) [.asg (.name 89) (.call 357 [.loc 338,.at (.loc 282) 1]),.iff (.or [.cmp .Eq (.loc 89) (.str 352),.cmp .NotEq (.loc 89) (.at (.loc 282) 2)]) [.ret (.O1 (.cmp .Eq (.loc 89) (.str 352)) .none (.tup [.tup [.str 248,.at (.loc 282) 3],.loc 340]))] [],.asg (.name 64) (.at (.loc 282) 4)] [.iff (.cmp .Eq (.at (.loc 282) 0) (.str 85)) [.asg (.name 89) (.call 357 [.loc 338,.at (.loc 282) 1]),.asg (.name 91) (.bin .Add (.comp [89] (.many [361,78]) (.loc 78) (.at (.loc 282) 2) [.cmp .Eq (.loc 361) (.loc 89)] [(446,.local),(361,.local),(78,.local),(89,.free)]) (.lst [.at (.loc 282) 3])),.asg (.name 64) (.at (.loc 91) 0)] [.ret .none]]]]
structure Wn(m:Loc)(b Cw Pw:Addr):Prop where
 body:m.lookup 92=some (.obj b)
 cells:m.lookup 338=some (.obj Cw)
 prints:m.lookup 340=some (.obj Pw)
omit hg in
theorem Wn.set{y:Nat}{q:PV}(h:Wn m b Cw Pw)(e:[92,338,340].elem y=false):Wn (j8 y q m) b Cw Pw:=by
 have ne:∀x,[92,338,340].elem x=true→x≠y:=fun x hx z=>by rw [z,e] at hx;cases hx
 exact⟨W6 (ne _ rfl) h.body,W6 (ne _ rfl) h.cells,W6 (ne _ rfl) h.prints⟩
theorem FJ{r:PV×List PV}{ss:List PV}{tm:Tm}{i n':Nat}{t:PV}{K:Out→Loc→AH→Prop}(hN:N≤sizeLine)(hz:bl.length≤sizeLine)(hn:4≤n)(Y:Yt bl b N5 la R)(e:bl[i]? = some (.lst [.lst ss,t]))(go:Go B N n' ss tm l pr r)(wn:Wn m b Cw Pw)(hh:m.lookup 64=some (.int (i:Int)))
  (w:Wk R Cw Pw l pr H) (c:Qx N l) (fin:∀H' l' jL,Wk R Cw Pw l' jL H'→Qx N l'→Go B N n' [] tm l' jL r→K .next m H'):walk1.w g n m H K:=by
 have bound:nH m [92,338,340]=true:=by unfold nH;rw [List.all_cons,List.all_cons,List.all_cons,wn.body,wn.cells,wn.prints];rfl
 have Y1:=Y.ext w.kp
 obtain⟨a1,a2,a3,a5,ex⟩:=Y1.x
 refine V3 bound (d8 wn.body (MethP.mk Y1.b ex rfl rfl (d8 hh ((Ih hg Y1 e hz (leB hn rfl)).1 fun D hD=>?_))))
 obtain⟨wD,rD,n1,n2⟩:=w.put (o:=.list []) hD
 exact CX hg ⟨n1,n2⟩ hN (leB hn rfl) (fun H' l' jL w' c' go' e'=>fin _ l' jL (w'.del rD n1 n2) c' go') ss _ _ l pr (W0 rfl wn.body) (W0 rfl wn.cells) (W0 rfl wn.prints) wD c go (c7 ..)
theorem JV{r:PV×List PV}{tm:Tm}{i n':Nat}{ss:PV}{f:List Nat}{K:Out→Loc→AH→Prop}(hz:bl.length≤sizeLine)(hn:4≤n)(Y:Yt bl b N5 la R)(e:bl[i]? = some (.lst [ss,(tm.map fun j=>cZ j f).v])) (go:Go B N (n'+1) [] tm l pr r) (wn:Wn m b Cw Pw) (hh:m.lookup 64=some (.int (i:Int)))
  (w:Wk R Cw Pw l pr H) (fin:∀m' H',Ext R H'→H' Pw=some (.list r.2)→K (.ret (.tup [r.1,.obj Pw])) m' H')
  (next:∀m' ss tm' j,j∈tm.succ→B j=some (ss,tm')→Go B N n' ss tm' l pr r→Wn m' b Cw Pw→m'.lookup 64=some (.int ((cZ j f:Nat):Int))→K .next m' H):K4 g n walk2 m H K:=by
 have Y1:=Y.ext w.kp
 obtain⟨a1,a2,a3,a5,ex⟩:=Y1.x
 refine d8 wn.body (MethP.mk Y1.b ex rfl rfl (d8 hh ((Ih hg Y1 e hz (leB hn rfl)).2 ?_)))
 have we:∀q,Wn (j8 282 q m) b Cw Pw:=fun q=>wn.set rfl
 have wv:∀q v,Wn (j8 89 v (j8 282 q m)) b Cw Pw:=fun q v=>(we q).set rfl
 cases go with
 |ret k v=>exact d8 V0 ((d8 (we _).cells (O9 hg w.ec (.cp (i:=0) k v) (leB hn rfl) (d8 (we _).prints (fin _ _ w.kp w.ep)))))
 |goto k go=>exact d8 V0 (d8 V0 (d8 V0 (next _ _ _ _ (.head _) k go ((we _).set rfl) V0)))
 |@sw _ no yes c o ss t _ _ _ rd k go=>
  refine d8 V0 (d8 V0 (d8 V0 (d8 V0 (d8 (we _).cells (d8 V0 (O9 hg w.ec rd (leB hn rfl) ?_))))))
  generalize eq:((Tm.sw o no yes).map fun j=>cZ j f).v=q at *
  have bound:nH (j8 89 (.bool c) (j8 282 q m)) [89]=true:=by unfold nH;rw [List.all_cons,V0];rfl
  have go':∀j,j=(if c then yes else no)→∀z,K4 g n [.asg (.name 64) (.at (.loc 91) 0)] (j8 91 (.lst (.int ((cZ j f:Nat):Int)::z)) (j8 89 (.bool c) (j8 282 q m))) H K:=fun j e z=>by
   subst e
   exact d8 V0 (next _ _ _ _ (by cases c<;>first|exact .head _|exact .tail _ (.head _)) k go ((wv _ _).set rfl |>.set rfl) V0)
  subst eq
  refine V3 bound (d8 (W6 (by decide) V0) fun D hD=>?_)
  have lv:(W7 [89] (j8 89 (.bool c) (j8 282 ((Tm.sw o no yes).map fun j=>cZ j f).v m))).lookup 89=some (.bool c):=W0 rfl V0
  have lv2:∀x y,(jU [361,78] [x,y] (W7 [89] (j8 89 (.bool c) (j8 282 ((Tm.sw o no yes).map fun j=>cZ j f).v m)))).lookup 89=some (.bool c):=fun x y=>by
   show(j8 78 y (j8 361 x _)).lookup 89=_
   exact W6 (by decide) (W6 (by decide) lv)
  refine d8 (x:=.bool false) (W6 (by decide) V0) ?_
  refine d8 (x:=.bool c) (lv2 _ _) ?_
  cases c with
  |true=>
   refine And.intro ⟨c7 ..,rfl⟩ ?_
   show lk _ _
   rw [dj hD]
   exact d8 (W6 (by decide) V0) (Cy rfl rfl rfl (Y6 rfl) (go' _ rfl []))
  |false=>
   refine d8 V0 ⟨⟨c7 ..,Nat.lt_of_lt_of_le (Nat.zero_lt_one) (Y6 rfl),rfl⟩,?_⟩
   show lk _ _
   rw [gF,dj hD]
   exact d8 (W6 (by decide) V0) (Cy rfl rfl rfl (Y6 rfl) (go' _ rfl _))
 |fB rd k go=>exact d8 V0 (d8 V0 (d8 V0 (d8 (we _).cells (d8 V0 (O9 hg w.ec rd (leB hn rfl) (d8 V0 (d8 V0 (d8 (W6 (by decide) V0) (d8 (W6 (by decide) V0) (next _ _ _ _ (.head _) k go ((wv _ _).set rfl) V0))))))))))
 |fail rd=>exact d8 V0 (d8 V0 (d8 V0 (d8 (we _).cells (d8 V0 (O9 hg w.ec rd (leB hn rfl) (d8 V0 (d8 V0 (d8 (W6 (by decide) V0) (d8 V0 (d8 (W6 (by decide) V0) (d8 (wv _ _).prints (fin _ _ w.kp w.ep))))))))))))
end
end Mine.Internal
namespace Mine.Internal
open PySem PySem.W PySem.Calls PyProof.Rows
section
variable{P:Params}{g:G (s7 P).T}(hg:v8 g){n w:Nat}{m:Loc}{H R:AH}{Q:PV→AH→Prop}{Cw Pw b N5 la:Addr}{l l':Cs}{pr jL bl:List PV}{o x body st:PV}{N:Nat}{B:Nat→Option (List PV×Tm)}
include hg
theorem FN{r:PV×List PV}{f:List Nat}{L0:List PV}{Q':Out→Loc→AH→Prop}(hN:N≤sizeLine)(hz:bl.length≤sizeLine)(hn:4≤n)(Y:Yt bl b N5 la R)
  (hbl:∀i∈f,∀ss tm,B i=some (ss,tm)→bl[cZ i f]? = some (.lst [.lst ss,(tm.map fun j=>cZ j f).v])∧∀j∈tm.succ,j∈f)
  (fin:∀m' H',Ext R H'→H' Pw=some (.list r.2)→Q' (.ret (.tup [r.1,.obj Pw])) m' H'):∀(k:Nat) (i:Int) (j:Nat) (m:Loc) (H:AH) (l:Cs) (pr ss:List PV) (tm:Tm) (n':Nat),n'≤k→j∈f→B j=some (ss,tm)→Go B N n' ss tm l pr r→
   Wn m b Cw Pw→m.lookup 64=some (.int ((cZ j f:Nat):Int))→Wk R Cw Pw l pr H→Qx N l→Ef (fun q m H Q=>(Tg.name 359).w g n q m H Q) (fun m H Q=>K4 g n (walk1::walk2) m H Q) (.rng 0 900) L0 Q' (J2 i k) m H:=by
 intro k
 induction k with
 |zero=>exact fun i j m H l pr ss tm n' hk O O go=>absurd go.pos (by exact Nat.not_lt.mpr ‹_›)
 |succ k ih=>
  intro i j m H l pr ss tm n' hk hj hB go wn hh w c
  obtain⟨e,cl⟩:=hbl j hj ss tm hB
  obtain⟨n',rfl⟩:∃k,n'=k+1:=⟨n'-1,by have:=go.pos;lia⟩
  have hh1:(j8 359 (.int i) m).lookup 64=some (.int ((cZ j f:Nat):Int)):=W6 (by decide) hh
  refine FJ hg hN hz hn Y e go (wn.set (y:=359) (q:=.int i) rfl) hh1 w c fun H' l' jL w' c' go'=>?_
  exact JV hg hz hn Y e go' (wn.set (y:=359) (q:=.int i) rfl) hh1 w' fin fun m' ss tm' j' hj' hB' go2 wn2 hh2=>ih (i+1) j' m' H' l' jL ss tm' n' (by exact Nat.le_of_succ_le_succ ‹_›) (cl j' hj') hB' go2 wn2 hh2 w' c'
theorem JW{M:Mem}{t:Nat→Tm}{f:List Nat}{R0:AH}{r:PV×List PV}{ss:List PV}{tm:Tm}(hN:N≤sizeLine)(hz:f.length≤sizeLine)(hn:5≤n)(d:Done M t f R0 b H)(e0:M.blks[0]?.map (fun b=>(b.1,t 0))=some (ss,tm)) (go:Go (fun i=>M.blks[i]?.map fun b=>(b.1,t i)) N 900 ss tm [] [] r)
  (h:∀Pw H',Ext H H'→H' Pw=some (.list r.2)→Q (.tup [r.1,.obj Pw]) H'):Cl g n (.obj je) [.obj b] H Q:=by
 obtain⟨N5,la,a1,a2,a3,a5,o1,o2,o3⟩:=d.ob
 refine(tQ P).cl hg rfl hn fun n hn=>fun Cw hC Pw hP=>?_
 have ne:Cw≠Pw:=fun z=>by rw [← z,c7] at hP;cases hP
 have hP':H Pw=none:=by rw [← hP,d9 ne.symm]
 have w:Wk H Cw Pw [] [] (upd (upd H Cw (.m6 [])) Pw (.list [])):=⟨Ext.upd hP' (Ext.new hC),(d9 ne).trans (c7 ..),c7 ..,ne,hC,hP'⟩
 have f0:0∈f:=List.mem_of_getElem? d.z
 have i0:cZ 0 f=0:=by
  have z:=d.z
  cases f with
  |nil=>cases z
  |cons x f=>cases z;rfl
 refine gA (And.intro ⟨by decide,by decide,by decide,by decide⟩ (d8 (x:=J2 0 900) rfl ?_))
 refine FN hg hN (bl:=f.map (oE M t f)) (by rw [List.length_map];exact hz) hn (R:=H) ⟨o1,⟨a1,a2,a3,a5,o2⟩,o3⟩ (f:=f) (B:=fun i=>M.blks[i]?.map fun b=>(b.1,t i)) (fun i hi ss tm e=>?_) (fun m' H' E e=>h Pw H' E e) 900 0 0 _ _ [] [] ss tm 900 (Nat.le_refl _) f0 e0 go ⟨rfl,rfl,rfl⟩ (by rw [i0];rfl) w ⟨.nil,fun O h=>nomatch h⟩
 obtain⟨bb,eb,ee⟩:=Option.map_eq_some_iff.mp e
 cases ee
 refine⟨?_,d.cl i hi⟩
 rw [List.getElem?_map,CG hi]
 show some (oE M t f i)=_
 unfold oE
 rw [eb];rfl
end
end Mine.Internal
namespace Mine.Internal
open PySem PySem.W PySem.Calls PyProof.Rows
set_option tactic.hygienic true in
theorem qI{i j:Nat}(h:(PV.int (i:Int)) = .int (j:Int)):i=j:=Int.ofNat.inj (PV.int.inj h)
set_option tactic.hygienic true in
theorem Tm.ae8{a b:Tm}(h:a.v=b.v):a=b:=by
 have hd:∀{x y:PV} {l k:List PV},PV.tup (x::l) = .tup (y::k)→x=y∧l=k:=fun h=>⟨(List.cons.inj (PV.tup.inj h)).1,(List.cons.inj (PV.tup.inj h)).2⟩
 cases a<;>cases b<;>first|rfl|exact absurd (PV.str.inj (hd h).1) (by decide)|skip
 case goto.goto i j=>rw [qI (List.cons.inj (hd h).2).1]
 case sw.sw o n y o' n' y'=>
  obtain⟨e1,h1⟩:=List.cons.inj (hd h).2
  obtain⟨e2,h2⟩:=List.cons.inj h1
  obtain⟨e3,_⟩:=List.cons.inj h2
  have e4:=(hd (List.cons.inj (PV.tup.inj e2)).1).2
  rw [e1,qI e3,qI (List.cons.inj e4).1]
 case fB.fB o x t i o' x' t' i'=>
  obtain⟨e1,h1⟩:=List.cons.inj (hd h).2
  obtain⟨e2,h2⟩:=List.cons.inj h1
  obtain⟨e3,h3⟩:=List.cons.inj h2
  rw [e1,e2,e3,qI (List.cons.inj h3).1]
theorem Tm.Yu(t:Tm):isNone t.v=false:=by cases t<;>rfl
noncomputable def M7(M:Mem):Prop := ∃c,M.blks[M.here]? = some (c,.none)
noncomputable def TmI(M:Mem):Prop := ∀(i:Nat) ss t,M.blks[i]? = some (ss,t)→isNone t=true∨∃tm:Tm,t=tm.v∧tm.fine M.blks.length
structure TrB(M M':Mem):Prop where
 gw:∀(i:Nat) ss t,M.blks[i]? = some (ss,t)→∃ss' t',M'.blks[i]? = some (ss++ss',t')∧(isNone t=false→ss'=[]∧t'=t)
 len:M.blks.length≤M'.blks.length
 fr:∀i,i<M.blks.length→i≠M.here→M'.blks[i]? = M.blks[i]?
 hr:M'.here=M.here∨M.blks.length≤M'.here
 ti:TmI M→TmI M'
structure Tr(T:Nat)(M M':Mem):Prop extends TrB M M' where
 fs:∀f fs,M.frs=f::fs→∃l,M'.frs=(f++l)::fs∧∀y∈l,T≤y.1
 ty:∃l,M'.tys=M.tys++l
section
variable{M M' M'' X Y:Mem}{T T':Nat}{i j:Nat}{s p rv t:PV}{tm:Tm}
theorem gw0(M:Mem):∀(i:Nat) ss t,M.blks[i]? = some (ss,t)→∃ss' t',M.blks[i]? = some (ss++ss',t')∧(isNone t=false→ss'=[]∧t'=t):=fun i ss t e=>⟨[],t,by rw [List.append_nil];exact e,fun O=>⟨rfl,rfl⟩⟩
theorem TrB.refl:TrB M M:=⟨gw0 M,Nat.le_refl _,fun O O O=>rfl,.inl rfl,id⟩
theorem TrB.trans(a:TrB M M')(b:TrB M' M''):TrB M M'':=by
 refine⟨fun i ss t e=>?_,Nat.le_trans a.len b.len,fun i hi ne=>?_,?_,fun h=>b.ti (a.ti h)⟩
 ·obtain⟨s1,t1,e1,h1⟩:=a.gw i ss t e
  obtain⟨s2,t2,e2,h2⟩:=b.gw i _ t1 e1
  refine⟨s1++s2,t2,by rw [← List.append_assoc];exact e2,fun h=>?_⟩
  obtain⟨rfl,rfl⟩:=h1 h
  obtain⟨rfl,rfl⟩:=h2 h
  exact⟨rfl,rfl⟩
 ·rw [b.fr i (Nat.lt_of_lt_of_le hi a.len) (fun z=>a.hr.elim (fun w=>ne (z.trans w)) fun w=>by lia)]
  exact a.fr i hi ne
 ·rcases b.hr with h|h
  ·rw [h];exact a.hr
  ·exact .inr (Nat.le_trans a.len h)
theorem Tr.refl:Tr T M M:=⟨.refl,fun f fs e=>⟨[],by rw [List.append_nil];exact e,fun O h=>nomatch h⟩,yP _⟩
theorem Tr.trans(a:Tr T M M')(b:Tr T M' M''):Tr T M M'':=by
 refine⟨a.toTrB.trans b.toTrB,fun f fs e=>?_,?_⟩
 ·obtain⟨l,e1,h1⟩:=a.fs f fs e
  obtain⟨k,e2,h2⟩:=b.fs _ _ e1
  exact⟨l++k,by rw [← List.append_assoc];exact e2,fun y hy=>(List.mem_append.mp hy).elim (h1 y) (h2 y)⟩
 ·obtain⟨l,e1⟩:=a.ty
  obtain⟨k,e2⟩:=b.ty
  exact⟨l++k,by rw [e2,e1,List.append_assoc]⟩
theorem Tr.le(a:Tr T M M')(h:T'≤T):Tr T' M M':=⟨a.toTrB,fun f fs e=>(a.fs f fs e).imp fun l z=>⟨z.1,fun y hy=>Nat.le_trans h (z.2 y hy)⟩,a.ty⟩
theorem Tr.tl(a:Tr T M M'):M.tys.length≤M'.tys.length:=by
 obtain⟨l,e⟩:=a.ty
 rw [e,List.length_append];exact Nat.le_add_right ..
theorem Ii{f:List PV×PV→List PV×PV}{c ss':List PV}{t':PV}(h:M.blks[M.here]? = some (c,.none))(e:f (c,.none)=(c++ss',t'))(ht:isNone t'=true∨∃tm:Tm,t'=tm.v∧tm.fine M.blks.length)(eb:M'.blks=M.blks.modify M.here f)(eh:M'.here=M.here):TrB M M':=by
 have el:M'.blks.length=M.blks.length:=by rw [eb,List.length_modify]
 refine⟨fun i ss t z=>?_,Nat.le_of_eq el.symm,fun i hi ne=>?_,.inl eh,fun h1 i ss t z=>?_⟩
 ·rw [eb,get_modify]
  by_cases q:M.here=i
  ·subst q
   rw [h] at z
   cases z
   rw [if_pos rfl,h]
   exact⟨ss',t',congrArg some e,fun z=>nomatch z⟩
  ·rw [if_neg q];exact gw0 M i ss t z
 ·rw [eb,get_modify,if_neg ne.symm]
 ·rw [el]
  rw [eb,get_modify] at z
  by_cases q:M.here=i
  ·subst q
   rw [if_pos rfl,h] at z
   have z2:=(Option.some.inj z).symm.trans e
   cases z2
   exact ht
  ·rw [if_neg q] at z;exact h1 i ss t z
theorem M7.put(h:M7 M):M7 (M.tick.put s):=by
 obtain⟨c,h⟩:=h
 exact⟨c++[s],by show(M.blks.modify M.here _)[M.here]? = _;rw [get_modify,if_pos rfl,h];rfl⟩
theorem zp(h:M7 M):TrB M (M.tick.put s):=h.elim fun c h=>Ii (ss':=[s]) (t':=.none) h rfl (.inl rfl) rfl rfl
theorem gY(h:M7 M)(ft:tm.fine M.blks.length):TrB M (M.cls tm.v):=h.elim fun c h=>Ii (ss':=[]) (t':=tm.v) h (by rw [List.append_nil]) (.inr ⟨tm,rfl,ft⟩) rfl rfl
theorem Tr.same(b:TrB M M')(e:M'.frs=M.frs)(t:M'.tys=M.tys):Tr T M M':=⟨b,fun f fs z=>⟨[],by rw [List.append_nil,e];exact z,fun O h=>nomatch h⟩,by rw [t];exact yP _⟩
theorem Yv(h:M7 M):Tr T M (M.tick.put s):=.same (zp h) rfl rfl
theorem zq(h:M7 M)(ft:tm.fine M.blks.length):Tr T M (M.cls tm.v):=.same (gY h ft) rfl rfl
theorem M7.o8(h:M7 M):M7 M.o8:=h.imp fun c h=>by
 show(M.blks++[_])[M.here]? = _
 rw [List.getElem?_append_left (List.getElem?_eq_some_iff.mp h).1];exact h
theorem oG(M:Mem):M.o8.blks[M.blks.length]? = some ([],.none):=by
 show(M.blks++[_])[M.blks.length]? = _
 rw [List.getElem?_append_right (Nat.le_refl _),Nat.sub_self];rfl
theorem aR{i:Nat}(h:i<M.blks.length):M.o8.blks[i]? = M.blks[i]? := List.getElem?_append_left h
theorem V2(M:Mem):M.o8.blks.length=M.blks.length+1:=List.length_append
theorem oH{N N':Nat}{t:Tm}(h:t.fine N)(le:N≤N'):t.fine N':=⟨fun j hj=>Nat.lt_of_lt_of_le (h.1 j hj) le,h.2⟩
theorem dY:Tr T M M.o8:=by
 refine .same ⟨fun i ss t e=>?_,by rw [V2];exact Nat.le_succ _,fun i hi O=>aR hi,.inl rfl,fun h i ss t e=>?_⟩ rfl rfl
 ·rw [aR (List.getElem?_eq_some_iff.mp e).1];exact gw0 M i ss t e
 ·rw [V2]
  have hi:=(List.getElem?_eq_some_iff.mp e).1
  rw [V2] at hi
  by_cases q:i=M.blks.length
  ·rw [q,oG] at e;cases e;exact .inl rfl
  ·rw [aR (by lia)] at e
   exact(h i ss t e).imp id fun⟨tm,a,b⟩=>⟨tm,a,oH b (Nat.le_succ _)⟩
theorem Ij(h:X.blks.length≤j)(a:Tr T X M):Tr T X (M.to j):=⟨⟨a.gw,a.len,a.fr,.inr h,a.ti⟩,a.fs,a.ty⟩
theorem mH:∀(l:List (Nat×Bool)) {M:Mem},M7 M→TrB M (M.fin l)∧M7 (M.fin l)
 | [],M,h=>⟨.refl,h⟩
 | (i,true)::r,M,h=>have z:=mH r (h.put (s:=.tup [.str 134,.int (i:Int)]));⟨(zp h).trans z.1,z.2⟩
 | (_,false)::r,M,h=>mH r h
theorem Yw(a:Tr T M.push X)(h:M7 X):Tr T M X.pop∧M7 X.pop:=by
 obtain⟨l,e,_⟩:=a.fs [] M.frs rfl
 obtain⟨s1,s2,s3⟩:=ao e
 have z:=mH (X.frs.headD []).reverse h
 have b:TrB M.push X.pop:=a.toTrB.trans ⟨z.1.gw,z.1.len,z.1.fr,z.1.hr,z.1.ti⟩
 exact⟨⟨⟨b.gw,b.len,b.fr,b.hr,b.ti⟩,fun f fs z=>⟨[],by rw [s1,z,List.append_nil],fun O h=>nomatch h⟩,by rw [s2];exact a.ty⟩,z.2⟩
theorem Uh(h:M7 M)(hT:T≤M.tys.length):Tr T M (M.temp t)∧M7 (M.temp t):=by
 have y:=zp (M:=M) (s:=.tup [.str 129,.int (M.tys.length:Int)]) h
 have z:TrB M (M.temp t):=⟨y.gw,y.len,y.fr,y.hr,y.ti⟩
 refine⟨⟨z,fun f fs e=>⟨[(M.tys.length,true)],?_,fun y hy=>List.mem_singleton.mp hy▸hT⟩,⟨[t],rfl⟩⟩,h.put⟩
 show(match M.frs with|f::fs=>(f++[(M.tys.length,true)])::fs | []=>[])=_
 rw [e]
end
end Mine.Internal
namespace Mine.Internal
open PySem PySem.W PySem.Calls PyProof.Rows
structure TO(T:Nat)(M X:Mem):Prop where
 le:T≤M.tys.length
 tr:Tr T M X
 op:M7 X
section
variable{M M1 X X1 X3 Y:Mem}{T T':Nat}{i j b1 b2:Nat}{s p rv t o x:PV}{tm:Tm}
theorem TO.refl(h:M7 M):TO M.tys.length M M:=⟨Nat.le_refl _,.refl,h⟩
theorem TO.call(h:TO T M X)(k:TO X.tys.length X Y):TO T M Y:=⟨h.le,h.tr.trans (k.tr.le (Nat.le_trans h.le h.tr.tl)),k.op⟩
theorem TO.put(h:TO T M X):TO T M (X.tick.put s):=⟨h.le,h.tr.trans (Yv h.op),h.op.put⟩
theorem TO.asg(h:TO T M X):TO T M (X.asg p rv):=h.put
theorem TO.temp(h:TO T M X):TO T M (X.temp t):=have z:=Uh (t:=t) h.op (Nat.le_trans h.le h.tr.tl);⟨h.le,h.tr.trans z.1,z.2⟩
theorem mJ(k:TO M.tys.length M.push X):TO M.tys.length M X.pop:=have z:=Yw k.tr k.op;⟨Nat.le_refl _,z.1,z.2⟩
theorem M7.lt(h:M7 M):M.here<M.blks.length:=h.elim fun O e=>(List.getElem?_eq_some_iff.mp e).1
theorem uK(ne:j≠M.here):(M.cls t).blks[j]? = M.blks[j]? := by
 show(M.blks.modify M.here _)[j]? = _
 rw [get_modify,if_neg ne.symm]
theorem mK:(M.cls t).blks.length=M.blks.length:=List.length_modify ..
theorem TO.must(h:TO T M X):TO T M (lW X o x t):=by
 have f:(Tm.fB o x t X.blks.length).fine X.o8.blks.length:=⟨fun j hj=>by rw [List.mem_singleton.mp hj,V2];exact Nat.lt_succ_self _,List.nodup_cons.mpr ⟨List.not_mem_nil,.nil⟩⟩
 refine⟨h.le,Ij h.tr.len ((h.tr.trans dY).trans (zq (tm:=.fB o x t X.blks.length) h.op.o8 f)),[],?_⟩
 show(X.o8.cls _).blks[X.blks.length]? = _
 rw [uK (M:=X.o8) (Nat.ne_of_gt h.op.lt),oG]
theorem TO.J4(h:TO T M X)(op:Op)(a b:PV):TO T M (J4 p op a b X):=by
 unfold Mine.Internal.J4
 split
 ·exact h.temp.asg.must.asg
 ·exact h.asg
theorem VF{f:PV→Mem→Mem}(h:TO M.push.tys.length M.push (f p M.push)):TO M.tys.length M (inScope f p M):=mJ h
theorem jJ{f:PV→Mem→Mem}(k:∀M p,M7 M→TO M.tys.length M (f p M))(o:M7 M):TO M.tys.length M (inScope f p M):=VF (k M.push p o)
theorem TO.truth{f:PV→Mem→Mem}(h:TO T M X)(k:∀M p,M7 M→TO M.tys.length M (f p M)):TO T M (n8 f X):=h.temp.call (VF (k _ _ h.temp.op))
theorem jK(M:Mem):(G9 i M).blks.length=M.blks.length+2:=by rw [G9,mK,V2,V2]
theorem PX(h:M7 M)(h1:M.blks.length≤j)(h2:j<M.blks.length+3):(G9 i M).o8.blks[j]? = some ([],.none):=by
 by_cases e:j=M.blks.length+2
 ·rw [e,← jK (i:=i)];exact oG _
 ·rw [aR (by rw [jK];lia)]
  show(M.o8.o8.cls _).blks[j]? = _
  rw [uK (M:=M.o8.o8) (Nat.ne_of_gt (Nat.lt_of_lt_of_le h.lt h1))]
  by_cases q:j=M.blks.length+1
  ·rw [q,← V2];exact oG _
  ·rw [aR (by rw [V2];lia),show j=M.blks.length by lia];exact oG _
theorem Ik(h:M7 M):(Tm.sw (z7 (I8 i)) (M.blks.length+1) M.blks.length).fine M.o8.o8.blks.length:=by
 rw [V2,V2]
 refine⟨fun j hj=>?_,List.nodup_cons.mpr ⟨fun z=>Nat.succ_ne_self _ (List.mem_singleton.mp z),List.nodup_cons.mpr ⟨List.not_mem_nil,.nil⟩⟩⟩
 rcases List.mem_cons.mp hj with e|e
 ·lia
 ·have:=List.mem_singleton.mp e;lia
theorem Ui(h:TO T M M1):Tr T M (G9 i M1).o8:=((h.tr.trans (dY.trans dY)).trans (zq (tm:=.sw (z7 (I8 i)) (M1.blks.length+1) M1.blks.length) h.op.o8.o8 (Ik h.op))).trans dY
structure Two(M1:Mem)(b1 b2:Nat):Prop where
 h1:M1.blks.length≤b1
 h2:M1.blks.length≤b2
 l1:b1<M1.blks.length+2
 l2:b2<M1.blks.length+2
 ne:b1≠b2
theorem two(an:Bool):Two M1 (if an then M1.blks.length+1 else M1.blks.length) (if an then M1.blks.length else M1.blks.length+1):=by cases an<;>constructor<;>simp
theorem Qa(h:M7 M1)(w:Two M1 b1 b2):M7 ((G9 i M1).o8.to b1):=⟨[],PX h w.h1 (Nat.lt_succ_of_lt w.l1)⟩
theorem Il(h:M7 M1)(w:Two M1 b1 b2)(k:TO T ((G9 i M1).o8.to b1) X1) (hj:M1.blks.length≤j) (hj2:j<M1.blks.length+3) (ne:j≠b1):(X1.cls t).blks[j]? = some ([],.none)∧j<X1.blks.length:=by
 have l3:(G9 i M1).o8.blks.length=M1.blks.length+3:=by rw [V2,jK]
 have ln:M1.blks.length+3≤X1.blks.length:=by rw [← l3];exact k.tr.len
 have hh:j≠X1.here:=fun z=>k.tr.hr.elim (fun w=>ne (z.trans w)) fun w=>by
  have:(G9 i M1).o8.blks.length≤X1.here:=w
  lia
 exact⟨by rw [uK hh,k.tr.fr j (by show j<(G9 i M1).o8.blks.length;lia) ne];exact PX h hj hj2,by exact Nat.le_trans ‹_› ‹_›⟩
theorem VG(h:TO T M M1)(w:Two M1 b1 b2)(k1:TO T ((G9 i M1).o8.to b1) X1) (k2:TO T ((X1.cls (Q6 (M1.blks.length+2))).to b2) X3):TO T M (X3.Hy (M1.blks.length+2))∧(X3.Hy (M1.blks.length+2)).blks[M1.blks.length+2]? = some ([],.none):=by
 have l1:=w.l1
 have l2:=w.l2
 obtain⟨e1,e2⟩:=Il (t:=Q6 (M1.blks.length+2)) (j:=M1.blks.length+2) h.op w k1 (by exact Nat.le_add_right ..) (by exact Nat.le_refl _) (by exact Nat.ne_of_gt ‹_›)
 have g1:(Tm.goto (M1.blks.length+2)).fine X1.blks.length:=⟨fun j hj=>by rw [List.mem_singleton.mp hj];exact e2,List.nodup_cons.mpr ⟨List.not_mem_nil,.nil⟩⟩
 have ln:X1.blks.length≤X3.blks.length:=Nat.le_trans (Nat.le_of_eq mK.symm) k2.tr.len
 have g2:=oH g1 ln
 have hl:=h.tr.len
 have t1:=(Ij (j:=b1) (Nat.le_trans hl w.h1) (Ui (i:=i) h)).trans k1.tr
 have t2:=(Ij (j:=b2) (Nat.le_trans hl w.h2) (t1.trans (zq (tm:=.goto (M1.blks.length+2)) k1.op g1))).trans k2.tr
 have t3:=Ij (j:=M1.blks.length+2) (by exact Nat.le_trans ‹_› (Nat.le_add_right ..)) (t2.trans (zq (tm:=.goto (M1.blks.length+2)) k2.op g2))
 have hh:M1.blks.length+2≠X3.here:=fun z=>k2.tr.hr.elim (fun w=>by rw [← z] at w;have:M1.blks.length+2=b2:=w;lia) fun w=>by
  have w:(X1.cls (Q6 (M1.blks.length+2))).blks.length≤X3.here:=w
  rw [mK] at w
  lia
 have e3:(X3.Hy (M1.blks.length+2)).blks[M1.blks.length+2]? = some ([],.none):=by
  show(X3.cls _).blks[_]? = _
  rw [uK hh,k2.tr.fr _ (by show _<(X1.cls _).blks.length;rw [mK];exact e2) (show M1.blks.length+2≠b2 by exact Nat.ne_of_gt ‹_›)]
  exact e1
 exact⟨⟨h.le,t3,[],e3⟩,e3⟩
end
structure zu(L:Lw):Prop where
 into:∀M p,M7 M→TO M.tys.length M (L.into p M)
 place:∀M,M7 M→TO M.tys.length M (L.place M).1
theorem zu.def_{f:PV→Mem→Mem}(h:∀M p,M7 M→TO M.tys.length M (f p M))(t:PV):zu ⟨f,U9 t f⟩:=⟨h,fun M o=>((TO.refl o).temp).call (h _ _ (TO.refl o).temp.op)⟩
theorem zu.K3{L:Lw}(h:zu L)(e:E){M:Mem}(o:M7 M):TO M.tys.length M (K3 e L M).1:=by
 cases e<;>first|exact h.place M o|exact TO.refl o
theorem zu.ahead{L:Lw}(h:zu L)(e:E)(q:Bool){M:Mem}(o:M7 M):TO M.tys.length M (ahead e L q M).1:=by
 unfold Mine.Internal.ahead
 split
 ·exact(h.K3 e o).temp.asg
 ·exact h.K3 e o
theorem TO.le'{T T':Nat}{M X:Mem}(h:TO T M X)(l:T'≤T):TO T' M X:=⟨Nat.le_trans l h.le,h.tr.le l,h.op⟩
theorem wX{c:PV→Mem→Mem}{M X1 X3:Mem}{b1 b2:Nat}(hm:M7 M)(hc:∀M p,M7 M→TO M.tys.length M (c p M))(w:Two (n8 c M) b1 b2)(k1:M7 ((G9 M.tys.length (n8 c M)).o8.to b1)→TO (n8 c M).tys.length ((G9 M.tys.length (n8 c M)).o8.to b1) X1)
  (k2:M7 ((X1.cls (Q6 ((n8 c M).blks.length+2))).to b2)→TO X1.tys.length ((X1.cls (Q6 ((n8 c M).blks.length+2))).to b2) X3):TO M.tys.length M (X3.Hy ((n8 c M).blks.length+2)):=by
 have h:=(TO.refl hm).truth hc
 have l:=h.tr.tl
 have k1:=k1 (Qa h.op w)
 have l2:=w.l2
 have k2:=k2 ⟨[],(Il h.op w k1 w.h2 (by lia) w.ne.symm).1⟩
 have l1:(n8 c M).tys.length≤X1.tys.length:=k1.tr.tl
 exact(VG h w (k1.le' l) (k2.le' (Nat.le_trans l l1))).1
theorem Uj{c b:PV→Mem→Mem}{an:Bool}{p:PV}{M:Mem}(hm:M7 M)(hc:∀M p,M7 M→TO M.tys.length M (c p M))(hb:∀M p,M7 M→TO M.tys.length M (b p M)):TO M.tys.length M (mq an c b p M):=by
 have e:(G9 M.tys.length (n8 c M)).blks.length=(n8 c M).blks.length+2:=jK _
 unfold mq
 dsimp only
 rw [e]
 exact wX hm hc (two an) (fun o=>(TO.refl o).asg) fun o=>jJ hb o
theorem ae9{c a b:PV→Mem→Mem}{p:PV}{M:Mem}(hm:M7 M)(hc:∀M p,M7 M→TO M.tys.length M (c p M))(ha:∀M p,M7 M→TO M.tys.length M (a p M))(hb:∀M p,M7 M→TO M.tys.length M (b p M)):TO M.tys.length M (Vt c a b p M):=by
 have e:(G9 M.tys.length (n8 c M)).blks.length=(n8 c M).blks.length+2:=jK _
 unfold Vt
 dsimp only
 rw [e]
 exact wX hm hc (show Two (n8 c M) (n8 c M).blks.length ((n8 c M).blks.length+1) from two false) (fun o=>jJ ha o) fun o=>jJ hb o
theorem wY{d:PV→Mem→Mem}{M:Mem}(hd:∀M p,M7 M→TO M.tys.length M (d p M))(o:M7 M):TO M.tys.length M (zF d M):=have h:TO M.push.tys.length M.push (M.push.temp J7):=(TO.refl (M:=M.push) o).temp;mJ (h.call (hd _ _ h.op))
theorem j9:∀e:E,zu (low e)
 |.num i=>zu.def_ (fun M p o=>(TO.refl o).asg) _
 |.O2 b=>zu.def_ (fun M p o=>(TO.refl o).asg) _
 |.loc i=>⟨fun M p o=>(TO.refl o).asg,fun M o=>TO.refl o⟩
 |.not a=>zu.def_ (fun M p o=>((j9 a).K3 a o).asg) _
 |.lazy an a b=>zu.def_ (fun M p o=>Uj o (j9 a).into (j9 b).into) _
 |.O1 u c a b=>zu.def_ (fun M p o=>ae9 o (j9 c).into (j9 a).into (j9 b).into) _
 |.bin op a b=>zu.def_ (fun M p o=>have h1:=(j9 a).ahead a b.quiet o;(h1.call ((j9 b).ahead b true h1.op)).J4 op _ _) _
 |.pair a b=>zu.def_ (fun M p o=>have h1:=(j9 a).ahead a b.quiet o;(h1.call ((j9 b).ahead b true h1.op)).asg) _
 |.fld k q=>⟨fun M p o=>have h1:=(TO.refl o).temp;(h1.call ((j9 q).into _ _ h1.op)).asg,fun M o=>have h1:=(TO.refl o).temp;h1.call ((j9 q).into _ _ h1.op)⟩
 |.seq d e=>zu.def_ (fun M p o=>have h1:=wY (M:=M.push) (j9 d).into o;mJ (h1.call ((j9 e).into _ p h1.op))) _
 |.unit d=>zu.def_ (fun M p o=>mJ (wY (M:=M.push) (j9 d).into o).asg) _
 |.print a=>zu.def_ (fun M p o=>((j9 a).K3 a o).put.asg) _
 |.assign i a=>zu.def_ (fun M p o=>((j9 a).K3 a o).asg.asg) _
 |.update op i a=>zu.def_ (fun M p o=>(((j9 a).K3 a o).J4 op _ _).asg) _
end Mine.Internal
namespace Mine.Internal
open PySem PySem.W PySem.Calls PyProof.Rows
noncomputable abbrev Bk:=Nat→Option (List PV×Tm)
noncomputable def fC(M:Mem)(B:Bk):Prop := ∀(i:Nat) ss t,M.blks[i]? = some (ss,t)→∃ss' tm,B i=some (ss++ss',tm)∧(isNone t=false→ss'=[]∧tm.v=t)
theorem fC.back{M M':Mem}{B:Bk}(h:fC M' B)(a:∀(i:Nat) ss t,M.blks[i]? = some (ss,t)→∃ss' t',M'.blks[i]? = some (ss++ss',t')∧(isNone t=false→ss'=[]∧t'=t)):fC M B:=fun i ss t e=>by
 obtain⟨s1,t1,e1,h1⟩:=a i ss t e
 obtain⟨s2,tm,e2,h2⟩:=h i _ t1 e1
 refine⟨s1++s2,tm,by rw [← List.append_assoc];exact e2,fun h=>?_⟩
 obtain⟨rfl,rfl⟩:=h1 h
 obtain⟨rfl,z⟩:=h2 h
 exact⟨rfl,z⟩
noncomputable def u6(B:Bk)(N:Nat)(M:Mem)(n:Nat)(l:Cs)(pr:List PV)(r:PV×List PV):Prop := ∃c ss tm,M.blks[M.here]? = some (c,.none)∧B M.here=some (c++ss,tm)∧Go B N n ss tm l pr r
section
variable{B:Bk}{N n n':Nat}{M X:Mem}{l l':Cs}{pr jL:List PV}{r:PV×List PV}{s p rv x o t:PV}{i j y:Nat}
theorem u6.mono(h:u6 B N M n l pr r)(le:n≤n'):u6 B N M n' l pr r:=h.imp fun c ⟨ss,tm,a,b,k⟩=>⟨ss,tm,a,b,k.mono le⟩
theorem uL(o:M7 M)(st:Ud N s l pr l' jL)(k:u6 B N (M.tick.put s) n l' jL r):u6 B N M n l pr r:=by
 obtain⟨c,e⟩:=o
 obtain⟨c',ss,tm,e1,e2,k⟩:=k
 have e0:(M.tick.put s).blks[M.here]? = some (c++[s],.none):=by
  show(M.blks.modify M.here _)[M.here]? = _
  rw [get_modify,if_pos rfl,e];rfl
 have z:=e0.symm.trans e1
 cases z
 exact⟨c,s::ss,tm,e,(show B M.here=_ from e2).trans (congrArg (fun z=>some (z,tm)) (List.append_assoc ..)),.st st k⟩
theorem O7(o:M7 M)(hj:j<N)(h:Rv l rv x)(k:u6 B N (M.asg (I8 j) rv) n (N8 (j:Int) x l) pr r):u6 B N M n l pr r:=uL o (.asg j hj h) k
theorem iu(o:M7 M)(k:u6 B N (M.temp t) n l pr r):u6 B N M n l pr r:=uL o (.live M.tys.length) k
theorem Qc{c:List PV}(e:M.blks[M.here]? = some (c,.none)):(M.cls t).blks[M.here]? = some (c,t):=by
 show(M.blks.modify M.here _)[M.here]? = _
 rw [get_modify,if_pos rfl,e];rfl
theorem closed(o:M7 M){tm:Tm}(L:fC (M.cls tm.v) B):∃c,M.blks[M.here]? = some (c,.none)∧B M.here=some (c++[],tm):=by
 obtain⟨c,e⟩:=o
 obtain⟨ss,tm',e1,h⟩:=L _ _ _ (Qc e)
 obtain⟨rfl,z⟩:=h tm.Yu
 exact⟨c,e,by rw [e1,Tm.ae8 z]⟩
theorem u6.start(k:u6 B N X n l pr r)(e:X.blks[X.here]? = some ([],.none)):∃ss tm,B X.here=some (ss,tm)∧Go B N n ss tm l pr r:=by
 obtain⟨c,ss,tm,e1,e2,k⟩:=k
 have z:=e.symm.trans e1
 cases z
 exact⟨ss,tm,e2,k⟩
theorem Im(o:M7 M)(L:fC (M.cls (Q6 X.here)) B) (e:X.blks[X.here]? = some ([],.none)) (k:u6 B N X n l pr r):u6 B N M (n+1) l pr r:=by
 obtain⟨c,e1,e2⟩:=closed (tm:=.goto X.here) o L
 obtain⟨ss,tm,e3,k⟩:=k.start e
 exact⟨c,[],_,e1,e2,.goto e3 k⟩
theorem VH{v:Bool}(o:M7 M)(L:fC (M.cls (Hx i y)) B) (rd:m8 (i:Int) l=some (.bool v)) (eh:X.here=if v then y else y+1) (e:X.blks[X.here]? = some ([],.none)) (k:u6 B N X n l pr r):u6 B N M (n+1) l pr r:=by
 obtain⟨c,e1,e2⟩:=closed (tm:=.sw (z7 (I8 i)) (y+1) y) o L
 obtain⟨ss,tm,e3,k⟩:=k.start e
 rw [eh] at e3
 exact⟨c,[],_,e1,e2,.sw (.cp rd (.bool v)) e3 k⟩
theorem Uk{v:Bool}{w:Nat}(q:M7 M)(L:fC (lW M o (.bool false) (.str w)) B) (rd:Rd l o (.bool v)) (k:if v then r=(.tup [.str 248,.str w],pr) else u6 B N (lW M o (.bool false) (.str w)) n l pr r):u6 B N M (n+1) l pr r:=by
 obtain⟨c,e1,e2⟩:=closed (M:=M.o8) (tm:=.fB o (.bool false) (.str w) M.blks.length) q.o8 L
 have e1':M.blks[M.here]? = some (c,.none):=by rw [← aR q.lt];exact e1
 cases v with
 |true=>have k:r=(.tup [.str 248,.str w],pr):=k;subst k;exact⟨c,[],_,e1',e2,.fail rd⟩
 |false=>
  have k:u6 B N (lW M o (.bool false) (.str w)) n l pr r:=k
  obtain⟨ss,tm,e3,k⟩:=k.start (by
   show(M.o8.cls _).blks[M.blks.length]? = _
   rw [uK (M:=M.o8) (Nat.ne_of_gt q.lt),oG])
  exact⟨c,[],_,e1',e2,.fB rd e3 k⟩
theorem FP:∀(L:List (Nat×Bool)) {M:Mem} {l:Cs},M7 M→(∀l',(∀i:Nat,(∀y∈L,y.1≠i)→m8 (i:Int) l'=m8 (i:Int) l)→u6 B N (M.fin L) n l' pr r)→u6 B N M n l pr r
 | [],M,l,o,k=>k l fun O O=>rfl
 | (i,true)::L,M,l,o,k=>uL o (.dead i) (FP L o.put fun l' h=>k l' fun j hj=>(h j fun y hy=>hj y (.tail _ hy)).trans (PN (fun z=>hj _ (.head _) (Int.ofNat.inj z)) l))
 | (i,false)::L,M,l,o,k=>FP L o fun l' h=>k l' fun j hj=>h j fun y hy=>hj y (.tail _ hy)
theorem zx{f:List (Nat×Bool)}{fs:List (List (Nat×Bool))} (e:X.frs=f::fs) (o:M7 X) (k:∀l',(∀i:Nat,(∀y∈f,y.1≠i)→m8 (i:Int) l'=m8 (i:Int) l)→u6 B N X.pop n l' pr r):u6 B N X n l pr r:=
 FP (X.frs.headD []).reverse o fun l' h=>k l' fun i hi=>h i fun y hy=>hi y (by rw [e] at hy;exact List.mem_reverse.mp hy)
end
noncomputable def Post(r:PV×List PV)(q:Rs)(K:PV→Ps→Prop):Prop:=match q with
 |.ok x s=>K x s
 |.iR t s=>r=(.tup [.str 248,.str t],s.pr)
theorem Post.bind{r:PV×List PV}{q:Rs}{f:PV→Ps→Rs}{K:PV→Ps→Prop}(h:Post r (q.bind f) K):Post r q fun x s=>Post r (f x s) K:=by cases q<;>exact h
theorem Post.mono{r:PV×List PV}{q:Rs}{K K':PV→Ps→Prop}(h:Post r q K)(k:∀x s,q = .ok x s→K x s→K' x s):Post r q K':=by
 cases q with
 |ok x s=>exact k x s rfl h
 |iR t s=>exact h
noncomputable def Cells(s:Ps)(l:Cs):Prop := ∀i:Nat,i<5→m8 ((1+i:Nat):Int) l=some (s.v i)
noncomputable def Kp(T j:Nat)(l l':Cs):Prop := ∀k:Nat,6≤k→k<T→k≠j→m8 (k:Int) l'=m8 (k:Int) l
noncomputable def RdT(lo hi:Nat)(u:Bool)(l:Cs)(o x:PV):Prop := ∀l',(∀k:Nat,lo≤k→k<hi→m8 (k:Int) l'=m8 (k:Int) l)→(u=true→∀i:Nat,i<5→m8 ((1+i:Nat):Int) l'=m8 ((1+i:Nat):Int) l)→Rd l' o x
theorem RdT.now{lo hi:Nat}{u:Bool}{l:Cs}{o x:PV}(h:RdT lo hi u l o x):Rd l o x:=h l (fun O O O=>rfl) fun O O O=>rfl
section
variable{s s':Ps}{l l' l'':Cs}{T T' j k:Nat}{x:PV}
theorem ne_int{i j:Nat}(h:i≠j):(i:Int)≠(j:Int):=fun z=>h (Int.ofNat.inj z)
theorem get_set(h:j≠k):m8 (k:Int) (N8 (j:Int) x l)=m8 (k:Int) l:=by rw [CQ,if_neg (ne_int h)]
theorem J1:m8 (j:Int) (N8 (j:Int) x l)=some x:=by rw [CQ,if_pos rfl]
theorem Cells.tmp(c:Cells s l)(h:j=0∨6≤j):Cells s (N8 (j:Int) x l):=fun i hi=>(get_set (by lia)).trans (c i hi)
theorem Cells.set(c:Cells s l)(i:Nat):Cells (s.set i x) (N8 ((1+i:Nat):Int) x l):=fun m hm=>by
 show _=some (if m=i then x else s.v m)
 by_cases e:m=i
 ·rw [if_pos e,e];exact J1
 ·rw [if_neg e];exact(get_set (by lia)).trans (c m hm)
theorem Kp.tmp(h:Kp T 0 l l'):Kp T j l (N8 (j:Int) x l'):=fun k h1 h2 h3=>(get_set h3.symm).trans (h k h1 h2 (by lia))
theorem Kp.trans(h:Kp T j l l')(h':Kp T' j l' l'')(le:T≤T'):Kp T j l l'':=fun k h1 h2 h3=>(h' k h1 (Nat.lt_of_lt_of_le h2 le) h3).trans (h k h1 h2 h3)
theorem Kp.refl:Kp T j l l:=fun O O O O=>rfl
theorem Kp.le0(h:Kp T' j l l')(le:T≤T')(e:T≤j):Kp T 0 l l':=fun k h1 h2 h3=>h k h1 (Nat.lt_of_lt_of_le h2 le) (by lia)
end
end Mine.Internal
namespace Mine.Internal
open PySem PySem.W PySem.Calls PyProof.Rows
noncomputable def P0(e:E):Prop := ∀{B:Bk} {N n:Nat} {M:Mem} {l:Cs} {s:Ps} {j:Nat} {r:PV×List PV},M7 M→6≤M.tys.length→j<M.tys.length→(j=0∨6≤j)→fC ((low e).into (I8 j) M) B→((low e).into (I8 j) M).tys.length≤N→Cells s l→SV s→s.pr.length+e.cost≤sizeLine→
 Post r (e.ev s) (fun x s' => ∀l',Cells s' l'→Kp M.tys.length j l l'→m8 (j:Int) l'=some x→u6 B N ((low e).into (I8 j) M) n l' s'.pr r)→u6 B N M (n+e.tn) l s.pr r
noncomputable def gj(e:E)(u:Bool)(R:Mem→Mem×PV):Prop := ∀{B:Bk} {N n:Nat} {M:Mem} {l:Cs} {s:Ps} {r:PV×List PV},M7 M→6≤M.tys.length→fC (R M).1 B→(R M).1.tys.length≤N→Cells s l→SV s→s.pr.length+e.cost≤sizeLine→
 Post r (e.ev s) (fun x s' => ∀l',Cells s' l'→Kp M.tys.length 0 l l'→RdT M.tys.length (R M).1.tys.length u l' (R M).2 x→u6 B N (R M).1 n l' s'.pr r)→u6 B N M (n+e.tn) l s.pr r
noncomputable def Fin(e:E):Prop := ∀{s s':Ps} {x:PV},SV s→e.ev s = .ok x s'→VT e.k x∧SV s'∧s'.pr.length≤s.pr.length+e.cost
theorem Fin.of{f:Bool}{e:E}(w:Wf f e)(o:e.ok):Fin e:=fun{s s' x} sv q=>by
 have z:=K7 w o sv (Nat.le_refl s.pr.length)
 rw [q] at z
 exact z
theorem uM{e:E}{x:PV}(h:e.k = .n∨e.k = .t)(v:VT e.k x):Vk x:=by
 rcases h with h|h
 ·rw [h] at v;obtain⟨i,rfl,_⟩:=v;exact .int i
 ·rw [h] at v;obtain⟨b,rfl⟩:=v;exact .bool b
section
variable{B:Bk}{N n:Nat}{M X:Mem}{l:Cs}{s:Ps}{j:Nat}{r:PV×List PV}{e a b:E}{u:Bool}{R:Mem→Mem×PV}{t:PV}
theorem Q7{T:Nat}{M X:Mem}(L:fC X B)(h:TO T M X):fC M B:=L.back h.tr.gw
theorem bN{M X:Mem}(L:fC X B)(h:TrB M X):fC M B:=L.back h.gw
theorem dg(M:Mem):(M.temp t).tys.length=M.tys.length+1:=List.length_append
theorem wZ{c:PV}{x:PV}(ev:∀s,e.ev s = .ok x s)(h:∀l,Rd l c x):gj e u fun M=>(M,c):=fun{B N n M l s r} o h6 L hN c sv hz k=>by
 rw [ev s] at k
 exact(k l c Kp.refl fun l' O O=>h l').mono (Nat.le_add_right ..)
theorem Ul{i:Nat}(hi:i<5):gj (.loc i) true fun M=>(M,z7 (I8 (1+i))):=fun{B N n M l s r} o h6 L hN c sv hz k=>by
 refine k l c Kp.refl fun l' O z=>.cp ((z rfl i hi).trans (c i hi)) (uM (e:=.loc i) ?_ (sv i hi))
 show(if i<3 then Kd.n else Kd.t) = .n∨(if i<3 then Kd.n else Kd.t) = .t
 split
 ·exact .inl rfl
 ·exact .inr rfl
theorem Qd(F:Fin e)(hk:e.k = .n∨e.k = .t)(hR:∀M,M7 M→TO M.tys.length M (R M).1)(A:gj e true R):gj e false fun M=>keep (R M) t:=fun{B N n M l s r} o h6 L hN c sv hz k=>by
 have to:=hR M o
 have tl:=to.tr.tl
 have ht:((R M).1.temp t).tys.length=(R M).1.tys.length+1:=dg _
 have hN':(R M).1.tys.length+1≤N:=by rw [← ht];exact hN
 have LT:fC ((R M).1.temp t) B:=Q7 L (TO.refl to.temp.op).asg
 refine A o h6 (Q7 LT (TO.refl to.op).temp) (by exact Nat.le_of_lt ‹_›) c sv hz (k.mono fun x s' ex k l' c' k' rd=>?_)
 have vk:=uM hk (F sv ex).1
 refine iu (t:=t) to.op (O7 to.temp.op (j:=(R M).1.tys.length) (by assumption) (.use rd.now vk) (k _ (c'.tmp (.inr (by exact Nat.le_trans ‹_› ‹_›))) (fun i h1 h2 h3=>(get_set (by lia)).trans (k' i h1 h2 h3)) fun l2 h1 O=>.cp ((h1 _ tl ?_).trans J1) vk))
 show(R M).1.tys.length<((R M).1.temp t).tys.length
 lia
theorem Um(I:P0 e)(F:Fin e)(hk:e.k = .n∨e.k = .t):gj e u fun M=>((low e).into (I8 M.tys.length) (M.temp t),z7 (I8 M.tys.length)):=fun{B N n M l s r} o h6 L hN c sv hz k=>by
 have to:=(TO.refl (M:=M) o).temp (t:=t)
 have t2:=(j9 e).into (M.temp t) (I8 M.tys.length) to.op
 have ht:(M.temp t).tys.length=M.tys.length+1:=dg _
 refine iu (t:=t) o (I to.op (by exact Mine.Internal.vf2 ‹_› ‹_›) (by exact Mine.Internal.el2 ‹_›) (.inr h6) L hN c sv hz (k.mono fun x s' ex k l' c' k' g=>k l' c' (k'.le0 (by lia) (Nat.le_refl _)) fun l2 h1 O=>.cp ((h1 _ (Nat.le_refl _) ?_).trans g) (uM hk (F sv ex).1)))
 exact Nat.lt_of_lt_of_le (by exact Mine.Internal.el2 ‹_›) t2.tr.tl
theorem Qe{x:PV}{s':Ps}(h:b.quiet=true)(q:b.ev s = .ok x s'):s'=s:=by
 cases b<;>first|(cases h;done)|(cases q;rfl)
theorem Io(Fa:Fin a)(Fb:Fin b)(A:∀q,gj a q fun M=>ahead a (low a) q M)(Bq:gj b true fun M=>ahead b (low b) true M)(o:M7 M)(h6:6≤M.tys.length)(L:fC (ahead b (low b) true (ahead a (low a) b.quiet M).1).1 B) (hN:(ahead b (low b) true (ahead a (low a) b.quiet M).1).1.tys.length≤N) (c:Cells s l) (sv:SV s) (hz:s.pr.length+(a.cost+b.cost)≤sizeLine)
  (k:Post r (a.ev s) fun x s1=>Post r (b.ev s1) fun y s2 => ∀l',Cells s2 l'→Kp M.tys.length 0 l l'→VT a.k x→VT b.k y→SV s2→s2.pr.length≤s.pr.length+(a.cost+b.cost)→Rd l' (ahead a (low a) b.quiet M).2 x→Rd l' (ahead b (low b) true (ahead a (low a) b.quiet M).1).2 y→u6 B N (ahead b (low b) true (ahead a (low a) b.quiet M).1).1 n l' s2.pr r):u6 B N M (n+b.tn+a.tn) l s.pr r:=by
 have t1:=(j9 a).ahead a b.quiet o
 have t2:=(j9 b).ahead b true t1.op
 have l1:=t1.tr.tl
 have l2:=t2.tr.tl
 refine A b.quiet o h6 (Q7 L t2) (Nat.le_trans l2 hN) c sv (by exact Mine.Internal.Dn ‹_›) (k.mono fun x s1 ex k l1' c1 k1 rd1=>?_)
 obtain⟨vx,FQ,z1⟩:=Fa sv ex
 refine Bq t1.op (Nat.le_trans h6 l1) L hN c1 FQ (by lia) (k.mono fun y s2 ey k l2' c2 k2 rd2=>?_)
 obtain⟨vy,sv2,z2⟩:=Fb FQ ey
 refine k l2' c2 (k1.trans k2 l1) vx vy sv2 (by lia) (rd1 l2' (fun i h1 h2=>k2 i (by exact Nat.le_trans ‹_› ‹_›) h2 (by lia)) fun hq i hi=>?_) rd2.now
 rw [c2 i hi,c1 i hi,Qe hq ey]
theorem uN{op:Op}{oa ob:PV}{i1 i2:Int}(o:M7 X)(hj:j<X.tys.length)(L:fC (J4 (I8 j) op oa ob X) B) (hN:(J4 (I8 j) op oa ob X).tys.length≤N) (ia:PB i1) (ra:Rd l oa (.int i1)) (rb:Rd l ob (.int i2))
  (k:Post r (op.run (.int i1) (.int i2) s) fun x s' => ∀l',(∀i:Nat,i<X.tys.length→i≠j→m8 (i:Int) l'=m8 (i:Int) l)→m8 (j:Int) l'=some x→u6 B N (J4 (I8 j) op oa ob X) n l' s'.pr r):u6 B N X (n+1) l s.pr r:=by
 unfold Op.run at k
 unfold J4 at L hN k
 cases ho:op.ar with
 |false=>
  rw [ho] at L hN k
  exact(O7 o (Nat.lt_of_lt_of_le hj hN) (.cmp ho ra rb) (k _ (fun i O ne=>get_set ne.symm) J1)).mono (Nat.le_succ n)
 |true=>
  rw [ho] at L hN k
  have to:=(TO.refl o).temp (t:=ur) |>.asg (p:=I8 X.tys.length) (rv:=.tup [.str 267,.str op.s,oa,ob])
  have hN:X.tys.length+1≤N:=by rw [← dg (t:=ur)];exact hN
  have to2:=(TO.refl to.op).must (o:=z7 (SQ X.tys.length 1)) (x:=.bool false) (t:=.str op.msg)
  have L2:fC (lW ((X.temp ur).asg (I8 X.tys.length) (.tup [.str 267,.str op.s,oa,ob])) (z7 (SQ X.tys.length 1)) (.bool false) (.str op.msg)) B:=Q7 L (TO.refl to2.op).asg
  have two:Vk (.tup [.int (wrap (op.f i1 i2)),.bool (over (op.f i1 i2))]):=.two (.inl ⟨_,rfl⟩) (.inr ⟨_,rfl⟩)
  refine iu (t:=ur) o (O7 ((TO.refl o).temp (t:=ur)).op (j:=X.tys.length) (by exact Nat.succ_le_of_lt ‹_›) (.chk ho ia ra rb) (Uk to.op L2 (v:=over (op.f i1 i2)) (.fld (k:=1) J1 two rfl (.inr ⟨_,rfl⟩)) ?_))
  have k:Post r (if over (op.f i1 i2)=true then .iR op.msg s else .ok (.int (wrap (op.f i1 i2))) s) _:=k
  cases hv:over (op.f i1 i2) with
  |true=>rw [hv] at k;exact k
  |false=>
   rw [hv] at k
   exact O7 to2.op (j:=j) (by lia) (.use (.fld (k:=0) J1 (hv▸two) rfl (.inl ⟨_,rfl⟩)) (.int _)) (k _ (fun i hi ne=>(get_set ne.symm).trans (get_set (by exact Nat.ne_of_gt ‹_›))) J1)
end
end Mine.Internal
namespace Mine.Internal
open PySem PySem.W PySem.Calls PyProof.Rows
section
variable{B:Bk}{N n:Nat}{M M1 X X1 X3:Mem}{l:Cs}{s:Ps}{i j b1 b2 T:Nat}{r:PV×List PV}{e a b d:E}{pr:List PV}{v:Bool}
theorem Kp.any{l l':Cs}(h:Kp T 0 l l'):Kp T j l l':=fun k h1 h2 O=>h k h1 h2 (by lia)
theorem qJ(o:M7 X)(L:fC X.pop B):fC X B:=bN (X:=X.fin (X.frs.headD []).reverse) L (mH _ o).1
theorem mO(to:TO M.push.tys.length M.push X):X.pop.tys=X.tys:=by
 obtain⟨f,ef,_⟩:=to.tr.fs [] M.frs rfl
 exact(ao ef).2.1
theorem mQ(to:TO M.push.tys.length M.push X)(k:∀l',(∀i:Nat,i<M.tys.length→m8 (i:Int) l'=m8 (i:Int) l)→u6 B N X.pop n l' pr r):u6 B N X n l pr r:=by
 obtain⟨f,ef,hf⟩:=to.tr.fs [] M.frs rfl
 exact zx ef to.op fun l' h=>k l' fun i hi=>h i fun y hy z=>by
  have:M.tys.length≤y.1:=hf y hy
  lia
theorem iw(I:P0 e)(o:M7 M)(h6:6≤M.tys.length)(hj:j<M.tys.length)(hj0:j=0∨6≤j)(L:fC (inScope (low e).into (I8 j) M) B) (hN:(inScope (low e).into (I8 j) M).tys.length≤N) (c:Cells s l) (sv:SV s) (hz:s.pr.length+e.cost≤sizeLine)
  (k:Post r (e.ev s) fun x s' => ∀l',Cells s' l'→Kp M.tys.length j l l'→m8 (j:Int) l'=some x→u6 B N (inScope (low e).into (I8 j) M) n l' s'.pr r):u6 B N M (n+e.tn) l s.pr r:=by
 have to:TO M.push.tys.length M.push ((low e).into (I8 j) M.push):=(j9 e).into M.push _ o
 exact I (M:=M.push) o h6 hj hj0 (qJ to.op L) (by rw [← mO to];exact hN) c sv hz (k.mono fun x s' ex k l' c' k' g=>mQ (M:=M) to fun l2 h=>
  k l2 (fun i hi=>(h (1+i) (by exact Mine.Internal.vf1 ‹_› ‹_›)).trans (c' i hi)) (fun i h1 h2 h3=>(h i h2).trans (k' i h1 h2 h3)) ((h j hj).trans g))
theorem xg(I:P0 a)(o:M7 M)(h6:6≤M.tys.length)(L:fC (n8 (low a).into M) B) (hN:(n8 (low a).into M).tys.length≤N) (c:Cells s l) (sv:SV s) (hz:s.pr.length+a.cost≤sizeLine)
  (k:Post r (a.ev s) fun x s' => ∀l',Cells s' l'→Kp M.tys.length 0 l l'→m8 (M.tys.length:Int) l'=some x→u6 B N (n8 (low a).into M) n l' s'.pr r):u6 B N M (n+a.tn) l s.pr r:=by
 have to:=(TO.refl (M:=M) o).temp (t:=N6)
 have ht:(M.temp N6).tys.length=M.tys.length+1:=dg _
 exact iu (t:=N6) o (iw I to.op (by exact Mine.Internal.vf2 ‹_› ‹_›) (by exact Mine.Internal.el2 ‹_›) (.inr h6) L hN c sv hz (k.mono fun x s' ex k l' c' k' g=>k l' c' (k'.le0 (by lia) (Nat.le_refl _)) g))
theorem FT(I:P0 d)(o:M7 M)(h6:6≤M.tys.length)(L:fC (zF (low d).into M) B) (hN:(zF (low d).into M).tys.length≤N) (c:Cells s l) (sv:SV s) (hz:s.pr.length+d.cost≤sizeLine)
  (k:Post r (d.ev s) fun O s' => ∀l',Cells s' l'→Kp M.tys.length 0 l l'→u6 B N (zF (low d).into M) n l' s'.pr r):u6 B N M (n+d.tn) l s.pr r:=by
 have to:TO M.push.tys.length M.push (M.push.temp J7):=(TO.refl (M:=M.push) o).temp
 have ht:(M.push.temp J7).tys.length=M.tys.length+1:=dg _
 have t2:=to.call ((j9 d).into _ (I8 M.push.tys.length) to.op)
 refine iu (M:=M.push) (t:=J7) o (I (j:=M.push.tys.length) to.op (by exact Mine.Internal.vf2 ‹_› ‹_›) (show M.tys.length<_ by exact Mine.Internal.el2 ‹_›) (.inr h6) (qJ t2.op L) (by rw [← mO t2];exact hN) c sv hz (k.mono fun x s' ex k l' c' k' g=>mQ (M:=M) t2 fun l2 h=>
  k l2 (fun i hi=>(h (1+i) (by exact Mine.Internal.vf1 ‹_› ‹_›)).trans (c' i hi)) (fun i h1 h2 h3=>(h i h2).trans (k' i h1 (by lia) (show i≠M.tys.length by exact Nat.ne_of_lt ‹_›)))))
theorem u6.o8(o:M7 M)(k:u6 B N M.o8 n l pr r):u6 B N M n l pr r:=by
 obtain⟨c,ss,tm,e1,e2,k⟩:=k
 exact⟨c,ss,tm,(aR o.lt).symm.trans e1,e2,k⟩
structure Fk(B:Bk)(N:Nat)(M1:Mem)(i b1 b2:Nat)(X1 X3:Mem):Prop where
 l0:fC M1 B
 l1:fC X1 B
 l3:fC X3 B
 s1:∀{v:Bool} {n:Nat} {l:Cs} {pr:List PV} {r:PV×List PV},b1=(if v then M1.blks.length else M1.blks.length+1)→m8 (i:Int) l=some (.bool v)→u6 B N ((G9 i M1).o8.to b1) n l pr r→u6 B N M1 (n+1) l pr r
 s2:∀{v:Bool} {n:Nat} {l:Cs} {pr:List PV} {r:PV×List PV},b2=(if v then M1.blks.length else M1.blks.length+1)→m8 (i:Int) l=some (.bool v)→u6 B N ((X1.cls (Q6 (M1.blks.length+2))).to b2) n l pr r→u6 B N M1 (n+1) l pr r
 t1:∀{n:Nat} {l:Cs} {pr:List PV} {r:PV×List PV},u6 B N (X3.Hy (M1.blks.length+2)) n l pr r→u6 B N X1 (n+1) l pr r
 t3:∀{n:Nat} {l:Cs} {pr:List PV} {r:PV×List PV},u6 B N (X3.Hy (M1.blks.length+2)) n l pr r→u6 B N X3 (n+1) l pr r
 o1:M7 ((G9 i M1).o8.to b1)
 o2:M7 ((X1.cls (Q6 (M1.blks.length+2))).to b2)
theorem Fk.of(h:TO T M M1)(w:Two M1 b1 b2)(k1:TO T ((G9 i M1).o8.to b1) X1) (k2:M7 ((X1.cls (Q6 (M1.blks.length+2))).to b2)→TO T ((X1.cls (Q6 (M1.blks.length+2))).to b2) X3) (L:fC (X3.Hy (M1.blks.length+2)) B):Fk B N M1 i b1 b2 X1 X3:=by
 have l1:=w.l1
 have l2:=w.l2
 obtain⟨e2,_⟩:=Il (t:=Q6 (M1.blks.length+2)) (j:=b2) h.op w k1 w.h2 (by exact Nat.lt_succ_of_lt ‹_›) w.ne.symm
 have k2:=k2 ⟨[],e2⟩
 obtain⟨_,e3⟩:=VG h w k1 k2
 obtain⟨_,zl⟩:=Il (t:=Q6 (M1.blks.length+2)) (j:=M1.blks.length+2) h.op w k1 (by exact Nat.le_add_right ..) (by exact Nat.le_refl _) (by exact Nat.ne_of_gt ‹_›)
 have g1:(Tm.goto (M1.blks.length+2)).fine X1.blks.length:=⟨fun j hj=>by rw [List.mem_singleton.mp hj];exact zl,List.nodup_cons.mpr ⟨List.not_mem_nil,.nil⟩⟩
 have g2:=oH g1 (Nat.le_trans (Nat.le_of_eq mK.symm) k2.tr.len)
 have L3c:fC (X3.cls (Q6 (M1.blks.length+2))) B:=L
 have L3:fC X3 B:=bN L3c (gY (tm:=.goto (M1.blks.length+2)) k2.op g2)
 have L1c:fC (X1.cls (Q6 (M1.blks.length+2))) B:=L3.back k2.tr.gw
 have L1:fC X1 B:=bN L1c (gY (tm:=.goto (M1.blks.length+2)) k1.op g1)
 have LG:fC (G9 i M1).o8 B:=L1.back k1.tr.gw
 have LF:fC (G9 i M1) B:=LG.back (dY (T:=0)).gw
 have o0:=h.op.o8.o8
 have e1:((G9 i M1).o8.to b1).blks[b1]? = some ([],.none):=PX h.op w.h1 (by exact Nat.le_succ_of_le ‹_›)
 refine⟨(bN LF (gY (tm:=.sw (z7 (I8 i)) (M1.blks.length+1) M1.blks.length) o0 (Ik h.op))).back ((dY (T:=0)).trans dY).gw,L1,L3,fun hb g k=>?_,fun hb g k=>?_,fun k=>Im (X:=X3.Hy (M1.blks.length+2)) k1.op L1c e3 k,fun k=>Im (X:=X3.Hy (M1.blks.length+2)) k2.op L3c e3 k,⟨[],e1⟩,⟨[],e2⟩⟩
 ·exact u6.o8 h.op (u6.o8 h.op.o8 (VH o0 (X:=(G9 i M1).o8.to b1) LF g hb e1 k))
 ·exact u6.o8 h.op (u6.o8 h.op.o8 (VH o0 (X:=(X1.cls (Q6 (M1.blks.length+2))).to b2) LF g hb e2 k))
end
end Mine.Internal
namespace Mine.Internal
open PySem PySem.W PySem.Calls PyProof.Rows
section
variable{a b c d e:E}{op:Op}
theorem aU(e:E)(L:Lw)(M:Mem):ahead e L true M=K3 e L M:=if_neg (by rw [Bool.not_true,Bool.and_false];exact nofun)
theorem uO(h:e.vO=false)(L:Lw)(q:Bool)(M:Mem):ahead e L q M=K3 e L M:=if_neg (by rw [h,Bool.false_and];exact nofun)
theorem Qf(h:e.vO=true)(L:Lw)(M:Mem):ahead e L false M=keep (K3 e L M) e.ty:=if_pos (by rw [h];rfl)
noncomputable abbrev FW(e:E):Prop := ∀q,gj e q fun M=>ahead e (low e) q M
theorem mR{t:PV}(h:e.vO=false)(ho:∀M,K3 e (low e) M=((low e).into (I8 M.tys.length) (M.temp t),z7 (I8 M.tys.length))) (I:P0 e) (F:Fin e) (hk:e.k = .n∨e.k = .t):FW e:=fun q=>by
 rw [show(fun M=>ahead e (low e) q M)=fun M=>((low e).into (I8 M.tys.length) (M.temp t),z7 (I8 M.tys.length)) from funext fun M=>(uO h _ q M).trans (ho M)]
 exact Um I F hk
theorem Ip(h:e.vO=true)(A:gj e true fun M=>K3 e (low e) M)(F:Fin e)(hk:e.k = .n∨e.k = .t):FW e:=fun q=>by
 cases q with
 |true=>
  rw [show(fun M=>ahead e (low e) true M)=fun M=>K3 e (low e) M from funext fun M=>aU ..]
  exact A
 |false=>
  rw [show(fun M=>ahead e (low e) false M)=fun M=>keep (K3 e (low e) M) e.ty from funext fun M=>Qf h ..]
  exact Qd F hk (fun M o=>(j9 e).K3 e o) A
theorem Qg{i:Int}:P0 (.num i):=fun o h6 hj hj0 L hN c sv hz k=>O7 o (Nat.lt_of_lt_of_le hj hN) (.use (.cst _ (.int i)) (.int i)) (k _ (c.tmp hj0) Kp.refl.tmp J1)
theorem Qh{b:Bool}:P0 (.O2 b):=fun o h6 hj hj0 L hN c sv hz k=>O7 o (Nat.lt_of_lt_of_le hj hN) (.use (.cst _ (.bool b)) (.bool b)) (k _ (c.tmp hj0) Kp.refl.tmp J1)
theorem Qi{i:Nat}(hi:i<5)(F:Fin (.loc i))(hk:(E.loc i).k = .n∨(E.loc i).k = .t):P0 (.loc i):=fun{B N n M l s j r} o h6 hj hj0 L hN c sv hz k=>
 have vk:=uM hk (F (s:=s) (s':=s) (x:=s.v i) sv rfl).1
 O7 o (Nat.lt_of_lt_of_le hj hN) (.use (.cp (c i hi) vk) vk) (k _ (c.tmp hj0) Kp.refl.tmp J1)
theorem Qj(F:Fin a)(ka:a.k = .t)(A:gj a true fun M=>K3 a (low a) M):P0 (.not a):=fun{B N n M l s j r} o h6 hj hj0 L hN c sv hz k=>by
 have to:=(j9 a).K3 a o
 have hz:s.pr.length+(a.cost+10)≤sizeLine:=hz
 have tl:=to.tr.tl
 have hN:(K3 a (low a) M).1.tys.length≤N:=hN
 have k:Post r ((a.ev s).bind fun x s=>.ok (.bool (!x.tr)) s) _:=k
 refine A o h6 (Q7 L (TO.refl to.op).asg) hN c sv (by exact Mine.Internal.Dn ‹_›) (k.bind.mono fun x s' ex k l' c' k' rd=>?_)
 have vx:=(F sv ex).1
 rw [ka] at vx
 obtain⟨v,rfl⟩:=vx
 exact O7 to.op (by exact Mine.Internal.ltt ‹_› ‹_› ‹_›) (.not rd.now) (k _ (c'.tmp hj0) k'.tmp J1)
theorem JX(Fa:Fin a)(Fb:Fin b)(ka:a.k = .n)(kb:b.k = .n)(A:FW a)(Bq:FW b):P0 (.pair a b):=fun{B N n M l s j r} o h6 hj hj0 L hN c sv hz k=>by
 have t1:=(j9 a).ahead a b.quiet o
 have t2:=(j9 b).ahead b true t1.op
 have l1:=t1.tr.tl
 have l2:=t2.tr.tl
 have hz:s.pr.length+(a.cost+b.cost+41)≤sizeLine:=hz
 have hN:(ahead b (low b) true (ahead a (low a) b.quiet M).1).1.tys.length≤N:=hN
 have k:Post r ((a.ev s).bind fun x s=>(b.ev s).bind fun y s=>.ok (.tup [x,y]) s) _:=k
 refine(Io Fa Fb A (Bq true) o h6 (Q7 L (TO.refl t2.op).asg) hN c sv (by exact Mine.Internal.Dn ‹_›) (k.bind.mono fun x s1 ex k=>k.bind.mono fun y s2 ey k l' c' k' vx vy sv2 z2 r1 r2=>?_)).mono (show n+b.tn+a.tn≤n+(a.tn+b.tn) by lia)
 rw [ka] at vx
 rw [kb] at vy
 obtain⟨x,rfl,_⟩:=vx
 obtain⟨y,rfl,_⟩:=vy
 exact O7 t2.op (by lia) (.two r1 r2 (.inl ⟨_,rfl⟩) (.inl ⟨_,rfl⟩)) (k _ (c'.tmp hj0) k'.tmp J1)
theorem Qk(Fa:Fin a)(Fb:Fin b)(ka:a.k = .n)(kb:b.k = .n)(A:FW a)(Bq:FW b):P0 (.bin op a b):=fun{B N n M l s j r} o h6 hj hj0 L hN c sv hz k=>by
 have t1:=(j9 a).ahead a b.quiet o
 have t2:=(j9 b).ahead b true t1.op
 have l1:=t1.tr.tl
 have l2:=t2.tr.tl
 have t3:=(TO.refl t2.op).J4 (p:=I8 j) op (ahead a (low a) b.quiet M).2 (ahead b (low b) true (ahead a (low a) b.quiet M).1).2
 have l3:=t3.tr.tl
 have hz:s.pr.length+(a.cost+b.cost+41)≤sizeLine:=hz
 have hN:(J4 (I8 j) op (ahead a (low a) b.quiet M).2 (ahead b (low b) true (ahead a (low a) b.quiet M).1).2 (ahead b (low b) true (ahead a (low a) b.quiet M).1).1).tys.length≤N:=hN
 have k:Post r ((a.ev s).bind fun x s=>(b.ev s).bind fun y s=>op.run x y s) _:=k
 refine(Io (n:=n+1) Fa Fb A (Bq true) o h6 (Q7 L t3) (Nat.le_trans l3 hN) c sv (by exact Mine.Internal.Dn ‹_›) (k.bind.mono fun x s1 ex k=>k.bind.mono fun y s2 ey k l' c' k' vx vy sv2 z2 r1 r2=>?_)).mono (show n+1+b.tn+a.tn≤n+(a.tn+b.tn+1) by lia)
 rw [ka] at vx
 rw [kb] at vy
 obtain⟨x,rfl,ix⟩:=vx
 obtain⟨y,rfl,_⟩:=vy
 exact uN t2.op (by exact Mine.Internal.ltt ‹_› ‹_› ‹_›) L hN ix r1 r2 (k.mono fun z s3 ez k l2 h g=>k l2 (fun i hi=>by
  have:s3=s2:=by
   unfold Op.run at ez
   cases ho:op.ar with
   |true=>
    rw [ho] at ez
    have ez:(if over (op.f x y) then Rs.iR op.msg s2 else .ok (.int (wrap (op.f x y))) s2) = .ok z s3:=ez
    cases hv:over (op.f x y)<;>rw [hv] at ez<;>cases ez
    rfl
   |false=>rw [ho] at ez;cases ez;rfl
  rw [this,h (1+i) (by lia) (by lia)];exact c' i hi) (fun i h1 h2 h3=>(h i (by exact Mine.Internal.ltt ‹_› ‹_› ‹_›) h3).trans (k' i h1 h2 (by lia))) g)
theorem Ql{k:Nat}(hk:k<2)(o1:(E.pair a b).ok)(Fa:Fin a)(Fb:Fin b)(I:P0 (.pair a b)){u:Bool}:gj (.fld k (.pair a b)) u fun M=>((low (.pair a b)).into (I8 M.tys.length) (M.temp (E.pair a b).ty),z7 (SQ M.tys.length k)):=fun{B N n M l s r} o h6 L hN c sv hz q=>by
 have to:=(TO.refl (M:=M) o).temp (t:=(E.pair a b).ty)
 have t2:=(j9 (.pair a b)).into (M.temp (E.pair a b).ty) (I8 M.tys.length) to.op
 have ht:(M.temp (E.pair a b).ty).tys.length=M.tys.length+1:=dg _
 have hz:s.pr.length+((E.pair a b).cost+20)≤sizeLine:=hz
 have q:Post r (((E.pair a b).ev s).bind fun x s=>.ok (x.part k) s) _:=q
 refine iu o (I to.op (by exact Mine.Internal.vf2 ‹_› ‹_›) (by exact Mine.Internal.el2 ‹_›) (.inr h6) L hN c sv (by exact Mine.Internal.Dn ‹_›) (q.bind.mono fun x s' ex q l' c' k' g=>?_))
 obtain⟨i,j,rfl,_⟩:∃i j,x = .tup [.int i,.int j]∧True:=by
  have ex:((a.ev s).bind fun x s=>(b.ev s).bind fun y s=>.ok (.tup [x,y]) s) = .ok x s':=ex
  cases ea:a.ev s with
  |iR t s1=>rw [ea] at ex;cases ex
  |ok xa s1=>
   rw [ea] at ex
   obtain⟨v1,FQ,_⟩:=Fa sv ea
   have ex:((b.ev s1).bind fun y s=>Rs.ok (.tup [xa,y]) s) = .ok x s':=ex
   cases eb:b.ev s1 with
   |iR t s2=>rw [eb] at ex;cases ex
   |ok xb s2=>
    rw [eb] at ex
    obtain⟨v2,_,_⟩:=Fb FQ eb
    rw [o1.1.1] at v1
    rw [o1.1.2] at v2
    obtain⟨i,rfl,_⟩:=v1
    obtain⟨j,rfl,_⟩:=v2
    cases ex
    exact⟨i,j,rfl,trivial⟩
 refine q l' c' (k'.le0 (by lia) (Nat.le_refl _)) fun l2 h1 O=>.fld ((h1 _ (Nat.le_refl _) (Nat.lt_of_lt_of_le (by exact Mine.Internal.el2 ‹_›) t2.tr.tl)).trans g) (.two (.inl ⟨_,rfl⟩) (.inl ⟨_,rfl⟩)) ?_ ?_
 ·refine VP hk ?_ ?_
  ·rfl
  ·rfl
 ·refine VP hk ?_ ?_
  ·exact .inl ⟨_,rfl⟩
  ·exact .inl ⟨_,rfl⟩
theorem Qm{k:Nat}{q:E}(A:gj (.fld k q) true fun M=>K3 (.fld k q) (low (.fld k q)) M) (F:Fin (.fld k q)):P0 (.fld k q):=fun{B N n M l s j r} o h6 hj hj0 L hN c sv hz h=>by
 have to:=(j9 (.fld k q)).K3 (.fld k q) o
 have tl:=to.tr.tl
 have hN:(K3 (.fld k q) (low (.fld k q)) M).1.tys.length≤N:=hN
 exact A o h6 (Q7 (X:=(K3 (.fld k q) (low (.fld k q)) M).1.asg (I8 j) (bw (K3 (.fld k q) (low (.fld k q)) M).2)) L (TO.refl to.op).asg) hN c sv hz (h.mono fun x s' ex k l' c' k' rd=>
  O7 to.op (by exact Mine.Internal.ltt ‹_› ‹_› ‹_›) (.use rd.now (uM (.inl rfl) (F sv ex).1)) (k _ (c'.tmp hj0) k'.tmp J1))
theorem Qn(D:P0 d)(I:P0 e)(Fd:Fin d):P0 (.seq d e):=fun{B N n M l s j r} o h6 hj hj0 L hN c sv hz k=>by
 have t1:=wY (M:=M.push) (j9 d).into o
 have l1:=t1.tr.tl
 have t2:=t1.call ((j9 e).into _ (I8 j) t1.op)
 have hz:s.pr.length+(d.cost+e.cost+20)≤sizeLine:=hz
 have LX:fC ((low e).into (I8 j) (zF (low d).into M.push)) B:=qJ t2.op L
 have hN:((low e).into (I8 j) (zF (low d).into M.push)).tys.length≤N:=by rw [← mO (M:=M) t2];exact hN
 have l2:=((j9 e).into _ (I8 j) t1.op).tr.tl
 have k:Post r ((d.ev s).bind fun O s=>e.ev s) _:=k
 refine u6.mono (FT (M:=M.push) (n:=n+e.tn) D o h6 (Q7 LX ((j9 e).into _ (I8 j) t1.op)) (Nat.le_trans l2 hN) c sv (by exact Mine.Internal.YM ‹_›) (k.bind.mono fun x s1 ex k l1' c1 k1=>?_)) (show n+e.tn+d.tn≤n+(d.tn+e.tn) by lia)
 obtain⟨_,FQ,z1⟩:=Fd sv ex
 have l1:M.tys.length≤(zF (low d).into M.push).tys.length:=l1
 refine I t1.op (by exact Nat.le_trans ‹_› ‹_›) (by exact Nat.lt_of_lt_of_le ‹_› ‹_›) hj0 LX hN c1 FQ (by exact Mine.Internal.sy2 ‹_› ‹_›) (k.mono fun x s' ex k l2 c2 k2 g=>mQ (M:=M) t2 fun l3 h=>?_)
 exact k l3 (fun i hi=>(h (1+i) (by lia)).trans (c2 i hi)) (fun i h1 h2 h3=>(h i h2).trans ((Kp.any k1).trans k2 l1 i h1 h2 h3)) ((h j hj).trans g)
theorem xq(D:P0 d):P0 (.unit d):=fun{B N n M l s j r} o h6 hj hj0 L hN c sv hz k=>by
 have t1:=wY (M:=M.push) (j9 d).into o
 have l1:M.tys.length≤(zF (low d).into M.push).tys.length:=t1.tr.tl
 have t2:=t1.asg (p:=I8 j) (rv:=J7)
 have hz:s.pr.length+(d.cost+20)≤sizeLine:=hz
 have LX:fC ((zF (low d).into M.push).asg (I8 j) J7) B:=qJ t2.op L
 have hN:(zF (low d).into M.push).tys.length≤N:=by
  have:((zF (low d).into M.push).asg (I8 j) J7).tys.length≤N:=by rw [← mO (M:=M) t2];exact hN
  exact this
 have k:Post r ((d.ev s).bind fun O s=>.ok (.tup []) s) _:=k
 refine FT (M:=M.push) (d:=d) D o h6 (Q7 LX (TO.refl t1.op).asg) hN c sv (by exact Mine.Internal.Dn ‹_›) (k.bind.mono fun x s1 ex k l1' c1 k1=>?_)
 refine O7 t1.op (by lia) .unit (mQ (M:=M) t2 fun l3 h=>?_)
 exact k l3 (fun i hi=>(h (1+i) (by exact Mine.Internal.vf1 ‹_› ‹_›)).trans (c1.tmp hj0 i hi)) (fun i h1 h2 h3=>(h i h2).trans (Kp.tmp k1 i h1 h2 h3)) ((h j hj).trans J1)
theorem FZ(F:Fin a)(A:gj a true fun M=>K3 a (low a) M):P0 (.print a):=fun{B N n M l s j r} o h6 hj hj0 L hN c sv hz k=>by
 have to:=(j9 a).K3 a o
 have tl:=to.tr.tl
 have hz:s.pr.length+(a.cost+20)≤sizeLine:=hz
 have hN:(K3 a (low a) M).1.tys.length≤N:=hN
 have k:Post r ((a.ev s).bind fun x s=>.ok (.tup []) {s with pr:=s.pr++[x]}) _:=k
 refine A o h6 (Q7 L ((TO.refl to.op).put (s:=.tup [.str 242,(K3 a (low a) M).2])).asg) hN c sv (by lia) (k.bind.mono fun x s' ex k l' c' k' rd=>?_)
 have z:=(F sv ex).2.2
 exact uL to.op (.print (by lia) rd.now) (O7 to.op.put (by lia) .unit (k _ (c'.tmp hj0) k'.tmp J1))
theorem CZ{i:Nat}(hi:i<5)(F:Fin a)(hk:a.k = .n∨a.k = .t)(A:gj a true fun M=>K3 a (low a) M):P0 (.assign i a):=fun{B N n M l s j r} o h6 hj hj0 L hN c sv hz k=>by
 have to:=(j9 a).K3 a o
 have tl:=to.tr.tl
 have hz:s.pr.length+(a.cost+30)≤sizeLine:=hz
 have hN:(K3 a (low a) M).1.tys.length≤N:=hN
 have k:Post r ((a.ev s).bind fun x s=>.ok (.tup []) (s.set i x)) _:=k
 refine A o h6 (Q7 L ((TO.refl to.op).asg (p:=I8 (1+i)) (rv:=bw (K3 a (low a) M).2)).asg) hN c sv (by exact Mine.Internal.Dn ‹_›) (k.bind.mono fun x s' ex k l' c' k' rd=>?_)
 exact O7 to.op (j:=1+i) (by lia) (.use rd.now (uM hk (F sv ex).1)) (O7 to.op.put (by lia) .unit (k _ ((c'.set i).tmp hj0) (Kp.tmp fun m h1 h2 h3=>(get_set (by lia)).trans (k' m h1 h2 h3)) J1))
theorem Dc{i:Nat}(ho:op.ar=true)(hi:i<3)(F:Fin a)(ka:a.k = .n)(A:gj a true fun M=>K3 a (low a) M):P0 (.update op i a):=fun{B N n M l s j r} o h6 hj hj0 L hN c sv hz k=>by
 have to:=(j9 a).K3 a o
 have tl:=to.tr.tl
 have t2:=(TO.refl to.op).J4 (p:=I8 (1+i)) op (z7 (I8 (1+i))) (K3 a (low a) M).2
 have l2:=t2.tr.tl
 have hz:s.pr.length+(a.cost+40)≤sizeLine:=hz
 have hN:(J4 (I8 (1+i)) op (z7 (I8 (1+i))) (K3 a (low a) M).2 (K3 a (low a) M).1).tys.length≤N:=hN
 have L2:=Q7 L (TO.refl t2.op).asg
 have k:Post r ((a.ev s).bind fun x s=>(op.run (s.v i) x s).bind fun y s=>.ok (.tup []) (s.set i y)) _:=k
 refine u6.mono (A (n:=n+1) o h6 (Q7 L2 t2) (Nat.le_trans l2 hN) c sv (by exact Mine.Internal.Dn ‹_›) (k.bind.mono fun x s1 ex k l' c' k' rd=>?_)) (show n+1+a.tn≤n+(a.tn+1) by lia)
 obtain⟨vx,FQ,_⟩:=F sv ex
 rw [ka] at vx
 obtain⟨x,rfl,_⟩:=vx
 have vi:=FQ i (by exact Nat.le_trans ‹_› (by decide))
 rw [show(E.loc i).k = .n from if_pos hi] at vi
 obtain⟨y,ey,iy⟩:=vi
 have cy:=c' i (by lia)
 rw [ey] at cy
 have hx:1+i<(K3 a (low a) M).1.tys.length:=by lia
 have k2:=k.bind
 rw [ey] at k2
 refine uN to.op (j:=1+i) hx L2 hN iy (.cp cy (.int y)) rd.now (k2.mono fun z s3 ez k3 l2 h g=>?_)
 have:s3=s1:=by
  unfold Op.run at ez
  rw [ho] at ez
  have ez:(if over (op.f y x) then Rs.iR op.msg s1 else .ok (.int (wrap (op.f y x))) s1) = .ok z s3:=ez
  cases hv:over (op.f y x)<;>rw [hv] at ez<;>cases ez
  rfl
 subst this
 have h:∀m:Nat,m<(K3 a (low a) M).1.tys.length→m≠1+i→_:=h
 refine O7 t2.op (by lia) .unit (k3 _ (Cells.tmp (fun m hm=>?_) hj0) (Kp.tmp fun m h1 h2 h3=>(h m (by exact Nat.le_trans ‹_› ‹_›) (by lia)).trans (k' m h1 h2 h3)) J1)
 show _=some (if m=i then z else s3.v m)
 by_cases e:m=i
 ·rw [if_pos e,e];exact g
 ·rw [if_neg e];exact(h (1+m) (by lia) (by lia)).trans (c' m hm)
end
end Mine.Internal
namespace Mine.Internal
open PySem PySem.W PySem.Calls PyProof.Rows
theorem Un(an:Bool)(y:Nat):(if an then y+1 else y)=if(!an) then y else y+1:=by cases an<;>rfl
theorem VJ{p:Prop} [Decidable p]:(if p then Kd.n else Kd.t) = .n∨(if p then Kd.n else Kd.t) = .t:=by
 split
 ·exact .inl rfl
 ·exact .inr rfl
section
variable{a b c d e:E}{op:Op}
set_option maxHeartbeats 4000000 in
theorem JZ{an:Bool}(Fa:Fin a)(ka:a.k = .t)(Ia:P0 a)(Ib:P0 b):P0 (.lazy an a b):=fun{B N n M l s j r} o h6 hj hj0 L hN c sv hz k=>by
 let M1:=n8 (low a).into M
 let G:=(G9 M.tys.length M1).o8
 let y:=M1.blks.length
 let b1:=if an then y+1 else y
 let b2:=if an then y else y+1
 let X1:=(G.to b1).asg (I8 j) (bw (uw N6 (.bool (!an))))
 let X:=(X1.cls (Q6 (y+2))).to b2
 let X3:=inScope (low b).into (I8 j) X
 have e:(low (.lazy an a b)).into (I8 j) M=X3.Hy (y+2):=by
  show mq an (low a).into (low b).into (I8 j) M=_
  unfold mq
  dsimp only
  rw [jK]
 rw [e] at L hN k
 have h:=(TO.refl o).truth (f:=(low a).into) (j9 a).into
 have tl:M.tys.length≤M1.tys.length:=h.tr.tl
 have w:Two M1 b1 b2:=two an
 have k1:TO M1.tys.length (G.to b1) X1:=(TO.refl (M:=G.to b1) (Qa h.op w)).asg
 have k2:M7 X→TO X1.tys.length X X3:=fun o=>jJ (j9 b).into o
 have F:=Fk.of (B:=B) (N:=N) h w (k1.le' tl) (fun o=>(k2 o).le' tl) L
 have k2:=k2 F.o2
 have tl3:M1.tys.length≤X3.tys.length:=k2.tr.tl
 have Yx:X3.tys.length≤N:=hN
 have hz:s.pr.length+(a.cost+b.cost+40)≤sizeLine:=hz
 have k:Post r ((a.ev s).bind fun x s=>if x.tr=an then b.ev s else .ok x s) _:=k
 refine u6.mono (xg (n:=n+1+b.tn+1) Ia o h6 F.l0 (Nat.le_trans tl3 Yx) c sv (by exact Mine.Internal.YM ‹_›) (k.bind.mono fun x s1 ex k l1 c1 kp1 g1=>?_)) (show n+1+b.tn+1+a.tn≤n+(a.tn+b.tn+3) by lia)
 obtain⟨vx,FQ,z1⟩:=Fa sv ex
 rw [ka] at vx
 obtain⟨v,rfl⟩:=vx
 by_cases hv:v=an
 ·have k:Post r (if v=an then b.ev s1 else .ok (.bool v) s1) _:=k
  rw [if_pos hv] at k
  refine F.s2 (v:=v) (by rw [hv]) g1 (iw Ib F.o2 (Nat.le_trans h6 tl) (Nat.lt_of_lt_of_le hj tl) hj0 F.l3 Yx c1 FQ (by exact Mine.Internal.sy2 ‹_› ‹_›) (k.mono fun x s2 ex2 k l2 c2 kp2 g2=>F.t3 (k l2 c2 (kp1.any.trans kp2 tl) g2)))
 ·have k:Post r (if v=an then b.ev s1 else .ok (.bool v) s1) _:=k
  rw [if_neg hv] at k
  have ev:v = !an:=by cases v<;>cases an<;>first|rfl|exact absurd rfl hv
  refine u6.mono (F.s1 (v:=v) (by rw [ev];exact Un an y) g1 (O7 (M:=G.to b1) F.o1 (j:=j) (Nat.lt_of_lt_of_le hj (Nat.le_trans tl (Nat.le_trans tl3 Yx))) (.use (.cst _ (.bool (!an))) (.bool _)) (F.t1 (k _ (c1.tmp hj0) kp1.tmp (by rw [ev];exact J1))))) (show n+1+1≤n+1+b.tn+1 by lia)
theorem Df{u:Bool}(Fc:Fin c)(kc:c.k = .t)(Ic:P0 c)(Ia:P0 a)(Ib:P0 b):P0 (.O1 u c a b):=fun{B N n M l s j r} o h6 hj hj0 L hN ce sv hz k=>by
 let M1:=n8 (low c).into M
 let G:=(G9 M.tys.length M1).o8
 let y:=M1.blks.length
 let X1:=inScope (low a).into (I8 j) (G.to y)
 let X:=(X1.cls (Q6 (y+2))).to (y+1)
 let X3:=inScope (low b).into (I8 j) X
 have e:(low (.O1 u c a b)).into (I8 j) M=X3.Hy (y+2):=by
  show Vt (low c).into (low a).into (low b).into (I8 j) M=_
  unfold Vt
  dsimp only
  rw [jK]
 rw [e] at L hN k
 have h:=(TO.refl o).truth (f:=(low c).into) (j9 c).into
 have tl:M.tys.length≤M1.tys.length:=h.tr.tl
 have w:Two M1 y (y+1):=two false
 have k1:TO M1.tys.length (G.to y) X1:=jJ (j9 a).into (Qa h.op w)
 have tl1:M1.tys.length≤X1.tys.length:=k1.tr.tl
 have k2:M7 X→TO X1.tys.length X X3:=fun o=>jJ (j9 b).into o
 have F:=Fk.of (B:=B) (N:=N) h w (k1.le' tl) (fun o=>(k2 o).le' (Nat.le_trans tl tl1)) L
 have k2:=k2 F.o2
 have tl3:X1.tys.length≤X3.tys.length:=k2.tr.tl
 have Yx:X3.tys.length≤N:=hN
 have hz:s.pr.length+(c.cost+a.cost+b.cost+40)≤sizeLine:=hz
 have k:Post r ((c.ev s).bind fun x s=>if x.tr then a.ev s else b.ev s) _:=k
 refine u6.mono (xg (n:=n+1+(a.tn+b.tn)+1) Ic o h6 F.l0 (Nat.le_trans (Nat.le_trans tl1 tl3) Yx) ce sv (by exact Mine.Internal.sz3 ‹_›) (k.bind.mono fun x s1 ex k l1 c1 kp1 g1=>?_)) (show n+1+(a.tn+b.tn)+1+c.tn≤n+(c.tn+a.tn+b.tn+3) by lia)
 obtain⟨vx,FQ,z1⟩:=Fc sv ex
 rw [kc] at vx
 obtain⟨v,rfl⟩:=vx
 cases v with
 |true=>exact u6.mono (F.s1 (v:=true) rfl g1 (iw (n:=n+1) Ia F.o1 (Nat.le_trans h6 tl) (Nat.lt_of_lt_of_le hj tl) hj0 F.l1 (Nat.le_trans tl3 Yx) c1 FQ (by exact Mine.Internal.sy3 ‹_› ‹_›) (Post.mono (q:=a.ev s1) k fun x s2 ex2 k l2 c2 kp2 g2=>F.t1 (k l2 c2 (kp1.any.trans kp2 tl) g2)))) (show n+1+a.tn+1≤n+1+(a.tn+b.tn)+1 by lia)
 |false=>exact u6.mono (F.s2 (v:=false) rfl g1 (iw (n:=n+1) Ib F.o2 (Nat.le_trans h6 (Nat.le_trans tl tl1)) (Nat.lt_of_lt_of_le hj (Nat.le_trans tl tl1)) hj0 F.l3 Yx c1 FQ (by exact Mine.Internal.sx3 ‹_› ‹_›) (Post.mono (q:=b.ev s1) k fun x s2 ex2 k l2 c2 kp2 g2=>F.t3 (k l2 c2 (kp1.any.trans kp2 (Nat.le_trans tl tl1)) g2)))) (show n+1+b.tn+1≤n+1+(a.tn+b.tn)+1 by lia)
end
theorem Uo{f:Bool}{e:E}(w:Wf f e):f=false→e.k = .n∨e.k = .t:=by
 induction w with
 |num hi=>exact fun O=>.inl rfl
 |O2 b=>exact fun O=>.inr rfl
 |@loc i hi=>exact fun O=>VJ (p:=i<3)
 |not _ _=>exact fun O=>.inr rfl
 |lazy _ _ _ _ _=>exact fun O=>.inr rfl
 |O1 _ _ _ _ _ _=>exact fun O=>.inl rfl
 |@bin op _ _ _ _ _ _=>exact fun O=>VJ (p:=op.ar=true)
 |pair _ _ _ _ _=>exact fun O=>.inl rfl
 |seq _ _ _ Pu=>exact fun O=>Pu rfl
 |print _ _=>exact nofun
 |assign _ _ _=>exact nofun
 |update _ _ _ _=>exact nofun
 |asked _ _ _ _ _ _=>exact nofun
theorem sem{f:Bool}{e:E}(w:Wf f e):e.ok→P0 e∧(f=false→FW e):=by
 induction w with
 |@num i hi=>
  refine fun o=>⟨Qg,fun O q=>?_⟩
  ·rw [show(fun M=>ahead (.num i) (low (.num i)) q M)=fun M=>(M,uw cY (.int i)) from funext fun M=>uO rfl _ q M]
   exact wZ (fun s=>rfl) fun l=>.cst _ (.int i)
 |O2 b=>
  refine fun o=>⟨Qh,fun O q=>?_⟩
  ·rw [show(fun M=>ahead (.O2 b) (low (.O2 b)) q M)=fun M=>(M,uw N6 (.bool b)) from funext fun M=>uO rfl _ q M]
   exact wZ (fun s=>rfl) fun l=>.cst _ (.bool b)
 |@loc i hi=>exact fun o=>have F:Fin (.loc i):=Fin.of (.loc hi) o;have hk:=Uo (.loc hi) rfl;⟨Qi hi F hk,fun O=>Ip rfl (Ul hi) F hk⟩
 |@not a wa ih=>exact fun o=>have I:P0 (.not a):=Qj (Fin.of wa o.2) o.1 (show gj a true fun M=>K3 a (low a) M from(funext fun M=>aU a (low a) M)▸(ih o.2).2 rfl true);⟨I,fun O=>mR rfl (fun M=>rfl) I (Fin.of (.not wa) o) (.inr rfl)⟩
 |@lazy an a b wa wb iha ihb=>exact fun o=>have I:P0 (.lazy an a b):=JZ (Fin.of wa o.2.1) o.1.1 (iha o.2.1).1 (ihb o.2.2).1;⟨I,fun O=>mR rfl (fun M=>rfl) I (Fin.of (.lazy an wa wb) o) (.inr rfl)⟩
 |@O1 c a b wc wa wb ihc iha ihb=>exact fun o=>have I:P0 (.O1 false c a b):=Df (Fin.of wc o.2.1) o.1.1 (ihc o.2.1).1 (iha o.2.2.1).1 (ihb o.2.2.2).1;⟨I,fun O=>mR rfl (fun M=>rfl) I (Fin.of (.O1 wc wa wb) o) (.inl rfl)⟩
 |@bin op a b wa wb iha ihb=>exact fun o=>have I:P0 (.bin op a b):=Qk (op:=op) (Fin.of wa o.2.1) (Fin.of wb o.2.2) o.1.1 o.1.2 ((iha o.2.1).2 rfl) ((ihb o.2.2).2 rfl);⟨I,fun O=>mR rfl (fun M=>rfl) I (Fin.of (.bin op wa wb) o) (Uo (.bin op wa wb) rfl)⟩
 |@pair k a b hk wa wb iha ihb=>
   intro o
   have o2:(E.pair a b).ok:=o.2
   have F:Fin (.fld k (.pair a b)):=Fin.of (.pair hk wa wb) o
   have A:gj (.fld k (.pair a b)) true fun M=>K3 (.fld k (.pair a b)) (low (.fld k (.pair a b))) M:=Ql hk o2 (Fin.of wa o2.2.1) (Fin.of wb o2.2.2) (JX (Fin.of wa o2.2.1) (Fin.of wb o2.2.2) o2.1.1 o2.1.2 ((iha o2.2.1).2 rfl) ((ihb o2.2.2).2 rfl))
   exact⟨Qm A F,fun O=>Ip rfl A F (.inl rfl)⟩
 |@seq d e wd we ihd Pu=>exact fun o=>have I:P0 (.seq d e):=Qn (ihd o.2.1).1 (Pu o.2.2).1 (Fin.of wd o.2.1);⟨I,fun O=>mR rfl (fun M=>rfl) I (Fin.of (.seq wd we) o) (Uo (.seq wd we) rfl)⟩
 |@print a wa ih=>exact fun o=>⟨FZ (Fin.of wa o.2) ((funext fun M=>aU a (low a) M)▸(ih o.2).2 rfl true),nofun⟩
 |@assign i a hi wa ih=>exact fun o=>⟨CZ hi (Fin.of wa o.2) (Uo wa rfl) ((funext fun M=>aU a (low a) M)▸(ih o.2).2 rfl true),nofun⟩
 |@update op i a hi wa ih=>exact fun o=>⟨Dc o.1.1 o.1.2.1 (Fin.of wa o.2) o.1.2.2 ((funext fun M=>aU a (low a) M)▸(ih o.2).2 rfl true),nofun⟩
 |@asked c a b wc wa wb ihc iha ihb=>exact fun o=>⟨Df (Fin.of wc o.2.1) o.1.1 (ihc o.2.1).1 (xq (iha o.2.2.1.2).1) (xq (ihb o.2.2.2.2).1),nofun⟩
end Mine.Internal
namespace Mine.Internal
open PySem PySem.W PySem.Calls PyProof.Rows
theorem Yy{M:Mem}{y:Nat×Bool}{T:Nat}(h:T≤y.1):Tr T M (M.add y):=⟨⟨gw0 M,Nat.le_refl _,fun O O O=>rfl,.inl rfl,id⟩,fun f fs e=>⟨[y],by
 show(match M.frs with|f::fs=>(f++[y])::fs | []=>[])=_
 rw [e],fun z hz=>List.mem_singleton.mp hz▸h⟩,yP _⟩
theorem TO.add{T:Nat}{M X:Mem}{y:Nat×Bool}(h:TO T M X)(hy:T≤y.1):TO T M (X.add y):=⟨h.le,h.tr.trans (Yy hy),h.op⟩
section
variable{B:Bk}{N n:Nat}{M X:Mem}{l:Cs}{s:Ps}{i j T:Nat}{r:PV×List PV}{e:E}{pr:List PV}{x:PV}
theorem Qo(h:TO 1 M X):TO 1 M (Cv i e X):=(h.put.add (y:=(1+i,true)) (Nat.le_add_right ..)).call (jJ (j9 e).into (h.put.add (y:=(1+i,true)) (Nat.le_add_right ..)).op)
theorem TO.sm(h:TO 1 M X)(s:Sm):TO 1 M (s.run X):=by
 cases s with
 |bind i e=>exact Qo h
 |deed d=>exact h.call (wY (j9 d).into h.op)
theorem TO.runs:∀(ss:List Sm) {X:Mem},TO 1 M X→TO 1 M (runs ss X)
 | [],_,h=>h
 |s::ss,_,h=>TO.runs ss (h.sm s)
theorem Uq{c:PV}(he:∀p M,(low e).into p M=M.asg p (bw c))(hc:∀l,Rd l c x)(o:M7 M)(hi:1+i<M.tys.length)(hN:(Cv i e M).tys.length≤N)
  (k:∀l',m8 ((1+i:Nat):Int) l'=some x→(∀m:Nat,m<M.tys.length→m≠1+i→m8 (m:Int) l'=m8 (m:Int) l)→u6 B N (Cv i e M) n l' pr r):u6 B N M n l pr r:=by
 have t1:TO 1 M ((M.tick.put (.tup [.str 129,.int ((1+i:Nat):Int)])).add (1+i,true)):=((TO.refl o).le' (Nat.le_trans (Nat.le_add_right 1 i) (Nat.le_of_lt hi))).put.add (Nat.le_add_right ..)
 have t2:=(j9 e).into ((M.tick.put (.tup [.str 129,.int ((1+i:Nat):Int)])).add (1+i,true)).push (I8 (1+i)) t1.op
 have hN2:((low e).into (I8 (1+i)) ((M.tick.put (.tup [.str 129,.int ((1+i:Nat):Int)])).add (1+i,true)).push).tys.length≤N:=by
  rw [← mO (M:=(M.tick.put (.tup [.str 129,.int ((1+i:Nat):Int)])).add (1+i,true)) t2];exact hN
 have hl:M.tys.length≤_:=t2.tr.tl
 refine uL o (.live (1+i)) (O7 (M:=((M.tick.put (.tup [.str 129,.int ((1+i:Nat):Int)])).add (1+i,true)).push) t1.op (j:=1+i) (Nat.lt_of_lt_of_le hi (Nat.le_trans hl hN2)) (.use (hc l) (hc l).vk) ?_)
 rw [← he]
 exact mQ (M:=(M.tick.put (.tup [.str 129,.int ((1+i:Nat):Int)])).add (1+i,true)) t2 fun l' h=>k l' ((h _ hi).trans J1) fun m hm ne=>(h m hm).trans (get_set ne.symm)
noncomputable def Qp:List E→Nat
 | []=>0
 |e::r=>e.tn+Qp r
theorem Dg:∀(rs:List E) {n:Nat} {M:Mem} {l:Cs} {s:Ps},(∀e∈rs,Rw e)→M7 M→6≤M.tys.length→fC (runs (rs.map .deed) M) B→(runs (rs.map .deed) M).tys.length≤N→Cells s l→SV s→s.pr.length+1400*rs.length≤sizeLine→
  Post r (evs rs s) (fun O s'=>SV s'→∀l',Cells s' l'→u6 B N (runs (rs.map .deed) M) n l' s'.pr r)→u6 B N M (n+Qp rs) l s.pr r
 | [],n,M,l,s,_,_,_,_,_,c,sv,_,k=>k sv l c
 |e::rs,n,M,l,s,ho,o,h6,L,hN,c,sv,hz,k=>by
  have ro:=ho e (.head _)
  have t1:=wY (M:=M) (j9 e).into o
  have t2:=TO.runs (rs.map .deed) (TO.refl t1.op |>.le' (Nat.le_trans (Nat.le_trans (by decide) h6) t1.tr.tl))
  have l1:=t1.tr.tl
  have l2:=t2.tr.tl
  have hN:(runs (rs.map .deed) (zF (low e).into M)).tys.length≤N:=hN
  rw [List.length_cons] at hz
  have rc:=ro.c
  have k:Post r ((e.ev s).bind fun O s=>evs rs s) _:=k
  refine u6.mono (FT (n:=n+Qp rs) (sem ro.wf ro.ok).1 o h6 (Q7 L t2) (Nat.le_trans l2 hN) c sv (by lia) (k.bind.mono fun x s1 ex k l1' c1 k1=>?_)) (show n+Qp rs+e.tn≤n+(e.tn+Qp rs) by lia)
  obtain⟨_,FQ,z1⟩:=Fin.of ro.wf ro.ok sv ex
  exact Dg rs (fun e he=>ho e (.tail _ he)) t1.op (Nat.le_trans h6 l1) L hN c1 FQ (by lia) k
end
noncomputable def binds:List Sm:=[.bind 0 (.num 3),.bind 1 (.num 11),.bind 2 (.num 0),.bind 3 (.O2 true),.bind 4 (.O2 false)]
theorem uP{M:Mem}:∀(k i:Nat) (M:Mem),(M.Cx i k).tys=M.tys∧(M.Cx i k).sz=M.sz
 |0,_,_=>⟨rfl,rfl⟩
 |k+1,i,M=>uP (M:=M) k (i+1) (M.S8 i)
theorem Yz{M:Mem}(h:TmI M):∃t,TF M.fix t:=by
 have z:∀i:Nat,∃tm:Tm,∀b,M.fix.blks[i]? = some b→b.2=tm.v∧tm.fine M.fix.blks.length:=fun i=>by
  rw [uF,List.length_map,List.getElem?_map]
  cases e:M.blks[i]? with
  |none=>exact⟨.Yo,fun b h=>nomatch h⟩
  |some b=>
   obtain⟨ss,t⟩:=b
   cases ht:isNone t with
   |true=>exact⟨.Yo,fun b hb=>by cases hb;exact⟨if_pos ht,fun O h=>(nomatch h),.nil⟩⟩
   |false=>
    rcases h i ss t e with q|⟨tm,e1,f⟩
    ·rw [ht] at q;cases q
    ·exact⟨tm,fun b hb=>by cases hb;exact⟨(if_neg (by rw [ht];exact nofun)).trans e1,f⟩⟩
 exact⟨fun i=>(z i).choose,fun i b e=>(z i).choose_spec b e⟩
theorem Ur{M:Mem}{t:Nat→Tm}(T:TF M.fix t):fC M fun i=>M.fix.blks[i]?.map fun b=>(b.1,t i):=fun i ss tt e=>by
 have e1:M.fix.blks[i]? = some (dX (ss,tt)):=by rw [uF,List.getElem?_map,e];rfl
 refine⟨[],t i,by show Option.map _ M.fix.blks[i]? = _;rw [e1,List.append_nil];rfl,fun h=>⟨rfl,?_⟩⟩
 rw [← (T i _ e1).1]
 exact if_neg (by rw [h];exact nofun)
end Mine.Internal
namespace Mine.Internal
open PySem PySem.W PySem.Calls PyProof.Rows
noncomputable def lets:Nat→List E→List Sm
 |_,[]=>[]
 |i,e::r=>.bind i e::lets (i+1) r
noncomputable def E.val:E→PV
 |.num i=>.int i
 |.O2 b=>.bool b
 |_=>.none
noncomputable def E.isC:E→Bool
 |.num _=>true | .O2 _=>true|_=>false
noncomputable def iT:List PV:=[cY,cY,cY,cY,N6,N6]
section
variable{B:Bk}{N n:Nat}{M X:Mem}{l:Cs}{s:Ps}{i j T:Nat}{r:PV×List PV}{e:E}{pr:List PV}{x:PV}
theorem Dh:∀(es:List E) {i:Nat} {M:Mem} {l:Cs},(∀e∈es,e.isC=true)→i+es.length≤5→M7 M→6≤M.tys.length→(runs (lets i es) M).tys.length≤N→
  (∀l',(∀m:Nat,m<i→m8 ((1+m:Nat):Int) l'=m8 ((1+m:Nat):Int) l)→(∀m e,es[m]? = some e→m8 ((1+(i+m):Nat):Int) l'=some e.val)→u6 B N (runs (lets i es) M) n l' pr r)→u6 B N M n l pr r
 | [],i,M,l,_,_,_,_,_,k=>k l (fun O O=>rfl) fun O O h=>nomatch h
 |e::es,i,M,l,hc,hl,o,h6,hN,k=>by
  rw [List.length_cons] at hl
  have t1:TO 1 M (Cv i e M):=Qo ((TO.refl o).le' (Nat.le_trans (by decide) h6))
  have t2:=TO.runs (lets (i+1) es) (TO.refl t1.op |>.le' (Nat.le_trans (Nat.le_trans (by decide) h6) t1.tr.tl))
  obtain⟨c,h1,h2⟩:∃c,(∀p M,(low e).into p M=M.asg p (bw c))∧∀l,Rd l c e.val:=by
   have z:=hc e (.head _)
   cases e<;>first|(cases z;done)|exact⟨_,fun O O=>rfl,fun l=>.cst _ (.int _)⟩|exact⟨_,fun O O=>rfl,fun l=>.cst _ (.bool _)⟩
  refine Uq h1 h2 o (by lia) (Nat.le_trans t2.tr.tl hN) fun l1 g1 k1=>Dh es (fun e he=>hc e (.tail _ he)) (by lia) t1.op (Nat.le_trans h6 t1.tr.tl) hN fun l2 k2 g2=>k l2 (fun m hm=>(k2 m (by exact Nat.le_succ_of_le ‹_›)).trans (k1 (1+m) (by lia) (by lia))) fun m e' he=>?_
  cases m with
  |zero=>cases he;exact(k2 i (by exact Nat.le_refl _)).trans g1
  |succ m=>rw [show i+(m+1)=i+1+m by lia];exact g2 m e' he
theorem Qq(a b:List Sm):∀M:Mem,runs (a++b) M=runs b (runs a M):=by
 induction a with
 |nil=>exact fun O=>rfl
 |cons s a ih=>exact fun M=>ih (s.run M)
theorem iz(o:M7 X):TrB X X.pop∧M7 X.pop:=have z:=mH (X.frs.headD []).reverse o;⟨⟨z.1.gw,z.1.len,z.1.fr,z.1.hr,z.1.ti⟩,z.2⟩
theorem zy(X:Mem):X.pop.tys=X.tys:=(dU _ X).2.1
noncomputable abbrev cu(rs:List E):Mem:=JR (binds++rs.map .deed) (.loc 0) iT
noncomputable abbrev Ka(rs:List E):Mem:=runs (rs.map .deed) (runs binds (Y4 iT).push.push.push)
noncomputable abbrev Ga(rs:List E):Mem:=(low (.loc 0)).into (I8 0) (Ka rs)
theorem Qs(rs:List E):TO 1 (Y4 iT).push.push.push (Ka rs)∧TO 1 (Y4 iT).push.push.push (Ga rs):=by
 have t0:TO 1 (Y4 iT).push.push.push (Y4 iT).push.push.push:=⟨by decide,.refl,[],rfl⟩
 have t1:=TO.runs (rs.map .deed) (TO.runs binds t0)
 exact⟨t1,t1.asg⟩
theorem zA(rs:List E):cu rs=((Ga rs).pop.pop.pop).cls Tm.ret.v:=by
 show((uE _ _ _ _).pop.pop).tick.close _=_
 unfold uE
 rw [Qq];rfl
theorem uQ:∀(rs:List E) {s:Ps} {n:Nat},(∀e∈rs,Rw e)→SV s→s.pr.length≤n→(evs rs s).fine .u (n+1400*rs.length)
 | [],s,n,_,sv,h=>⟨trivial,sv,h⟩
 |e::rs,s,n,ho,sv,h=>by
  have ro:=ho e (.head _)
  have rc:=ro.c
  rw [List.length_cons]
  exact(K7 ro.wf ro.ok sv h).bind (by lia) fun x s hx sv h=>(uQ rs (fun e he=>ho e (.tail _ he)) sv h).mono (by lia)
theorem Di{N:Nat}:Tm.ret.fine N:=⟨fun O h=>(nomatch h),.nil⟩
theorem Us(rs:List E):∃t,TF (cu rs).fix t:=by
 have t:=(Qs rs).2
 have z1:=iz t.op
 have z2:=iz z1.2
 have z3:=iz z2.2
 refine Yz ?_
 rw [zA]
 refine(((t.tr.toTrB.trans z1.1).trans z2.1).trans (z3.1.trans (gY z3.2 Di))).ti fun i ss t e=>?_
 cases i with
 |zero=>cases e;exact .inl rfl
 |succ i=>cases e
theorem Kc{rs:List E}(hl:rs.length≤10)(ho:∀e∈rs,Rw e)(ht:Qp rs+1≤900){t:Nat→Tm}(T:TF (cu rs).fix t):
  ∃ss tm,(cu rs).fix.blks[0]?.map (fun b=>(b.1,t 0))=some (ss,tm)∧Go (fun i=>(cu rs).fix.blks[i]?.map fun b=>(b.1,t i)) (cu rs).fix.tys.length 900 ss tm [] [] (zm (evs rs zG)):=by
 have eN:(cu rs).fix.tys.length=(Ga rs).tys.length:=by
  rw [show(cu rs).fix.tys=(cu rs).tys from(uP (M:=cu rs) _ _ _).1,zA]
  show(Ga rs).pop.pop.pop.tys.length=_
  rw [zy,zy,zy]
 have L:=Ur T
 rw [eN]
 generalize hB:(fun i=>(cu rs).fix.blks[i]?.map fun b=>(b.1,t i))=B at *
 obtain⟨tX,tY⟩:=Qs rs
 have z1:=iz tY.op
 have z2:=iz z1.2
 have z3:=iz z2.2
 rw [zA] at L
 have LZ:=bN L (gY z3.2 Di)
 have LY:=bN (bN (bN LZ z3.1) z2.1) z1.1
 have LX:fC (Ka rs) B:=Q7 LY (TO.refl tX.op).asg
 have o0:M7 (Y4 iT).push.push.push:=⟨[],rfl⟩
 have t5:TO 1 (Y4 iT).push.push.push (runs binds (Y4 iT).push.push.push):=TO.runs binds ⟨by decide,.refl,o0⟩
 have l5:6≤(runs binds (Y4 iT).push.push.push).tys.length:=t5.tr.tl
 have lX:(runs binds (Y4 iT).push.push.push).tys.length≤(Ka rs).tys.length:=(TO.runs (rs.map .deed) ⟨by exact Nat.le_add_left ..,.refl,t5.op⟩).tr.tl
 have lY:(Ka rs).tys.length≤(Ga rs).tys.length:=Nat.le_refl _
 obtain⟨f,ef,hf⟩:=tY.tr.fs [] [[],[]] rfl
 have s1:=(ao ef).1
 have s2:=(ao s1).1
 have s3:=(ao s2).1
 have main:u6 B (Ga rs).tys.length (Y4 iT).push.push.push (1+Qp rs) [] [] (zm (evs rs zG)):=by
  refine Dh [.num 3,.num 11,.num 0,.O2 true,.O2 false] (i:=0) (fun e he=>?_) (by decide) o0 (by decide) (Nat.le_trans lX lY) fun l1 O g=>?_
  ·simp only [List.mem_cons,List.not_mem_nil,or_false] at he
   rcases he with rfl|rfl|rfl|rfl|rfl<;>rfl
  have c1:Cells zG l1:=fun i hi=>by
   refine YQ hi ?_ ?_ ?_ ?_ ?_
   ·exact g 0 _ rfl
   ·exact g 1 _ rfl
   ·exact g 2 _ rfl
   ·exact g 3 _ rfl
   ·exact g 4 _ rfl
  have fin:∀s':Ps,SV s'→s'.pr.length+10≤sizeLine→∀l',Cells s' l'→u6 B (Ga rs).tys.length (Ka rs) 1 l' s'.pr (.tup [.str 341,s'.v 0],s'.pr):=fun s' sv hz l' c'=>by
   refine(sem (.loc (i:=0) (by decide)) (show(0:Nat)<5 by decide)).1 (n:=1) tX.op (Nat.le_trans l5 lX) (Nat.lt_of_lt_of_le (by decide) (Nat.le_trans l5 lX)) (.inl rfl) LY lY c' sv hz ?_
   intro l2 c2 _ g2
   have off:∀y∈([]:List (Nat×Bool))++f,y.1≠0:=fun y hy=>Nat.ne_of_gt (hf y hy)
   refine zx ef tY.op fun l3 h3=>zx s1 z1.2 fun l4 h4=>zx s2 z2.2 fun l5 h5=>?_
   have g5:m8 (0:Int) l5=some (s'.v 0):=((h5 0 fun O h=>nomatch h).trans ((h4 0 fun O h=>nomatch h).trans (h3 0 off))).trans g2
   obtain⟨c,e1,e2⟩:=closed z3.2 L
   exact⟨c,[],.ret,e1,e2,.ret g5 (uM (e:=.loc 0) (.inl rfl) (sv 0 (by decide)))⟩
  refine Dg rs ho t5.op l5 LX (Nat.le_trans (Nat.le_refl _) lY) c1 sv0 (by rw [sizeLine_eq];show 0+_≤_;lia) ?_
  have fe:(evs rs zG).fine .u (14000):=(uQ rs (n:=0) ho sv0 (Nat.le_refl 0)).mono (by lia)
  cases q:evs rs zG with
  |ok x s'=>
   rw [q] at fe
   exact fun sv l' c'=>fin s' sv (by have:=fe.2.2;rw [sizeLine_eq];lia) l' c'
  |iR t s'=>rfl
 obtain⟨ss,tm,e,go⟩:=main.start rfl
 exact⟨ss,tm,by rw [← hB] at e;exact e,go.mono (by lia)⟩
end
end Mine.Internal
namespace Mine.Internal
open PySem PySem.W PySem.Calls PyProof.Rows
section
variable{P:Params}{g:G (s7 P).T}(hg:v8 g){n w:Nat}{m:Loc}{H R:AH}{Q:PV→AH→Prop}
theorem dW:jt (s7 P).T lg 1 [.none]:=jt.of (fd:=_) (ps:=_) rfl [.none] rfl fun vs h S=>by
 obtain⟨a,r,e1,h1⟩:=O6 h
 cases r with
 |nil=>rw [e1];rfl
 |cons _ _=>cases h1
include hg
theorem Gb{p q r t b:PV}(hn:2≤n)(h:∀a dx H',St H H' [(a,.inst gP dx),(dx,.attrs [(119,p),(75,q),(39,r),(122,t),(92,b)])]→Q (.obj a) H'):Cl g n (.obj gP) [p,q,r,t,b] H Q:=
 make hg rfl hn fun n a dx H' hn s=>(pU P).clC hg rfl hn fun n O=>s.set 0 1 rfl rfl rfl rfl fun H' s=>s.set 0 1 rfl rfl rfl rfl fun H' s=>s.set 0 1 rfl rfl rfl rfl fun H' s=>s.set 0 1 rfl rfl rfl rfl fun H' s=>s.set 0 1 rfl rfl rfl rfl fun H' s=>And.intro rfl (h a dx H' s)
theorem Ge(hn:2≤n)(h:∀w Tp wl sg H',Ext H H'→H' w=some (.inst qw Tp)→H' Tp=some (.attrs wl)→wl.lookup 121=some (.obj sg)→H' sg=some (.w5 [])→Q (.obj w) H'):Cl g n (.obj qw) [] H Q:=
 make hg rfl hn fun n a dx H' hn s=>(vI P).Yi hg dW rfl hn fun n O=>s.set 0 1 rfl rfl rfl rfl fun H' s=>fun a1 h1=>(s.new h1 _).set 1 2 rfl rfl rfl rfl fun H' s=>fun a2 h2=>(s.new h2 _).set 2 3 rfl rfl rfl rfl fun H' s=>fun a3 h3=>(s.new h3 _).set 3 4 rfl rfl rfl rfl fun H' s=>
  fun a4 h4=>(s.new h4 _).set 4 5 rfl rfl rfl rfl fun H' s=>fun a5 h5=>(s.new h5 _).set 5 6 rfl rfl rfl rfl fun H' s=>fun a6 h6=>(s.new h6 _).set 6 7 rfl rfl rfl rfl fun H' s=>fun a7 h7=>(s.new h7 _).set 7 8 rfl rfl rfl rfl fun H' s=>And.intro rfl (h a dx _ a3 H' s.keep (s.at 7 rfl) (s.at 8 rfl) rfl (s.at 4 rfl))
omit hg in
theorem VK{l:List PV}{k:Nat}(hz:l.length*k≤2 ^ 24)(hk:(k:Int)<2 ^ 63)(h:Q (.lst (KC l k)) H):Ec g .Mult (.lst l) (.int (k:Int)) H Q:=.rep rfl (by exact Int.natCast_nonneg _) hk hz h
noncomputable abbrev rows0:List (PV×PV×PV):=[(.str 123,cY,.bool true),(.str 123,cY,.bool true),(.str 123,cY,.bool true),(.str 367,N6,.bool true),(.str 367,N6,.bool true)]
noncomputable abbrev YB:S:=.asg (.name 7) (.O1 (.cmp .Lt (.loc 28) (.int 3)) (.glob 342) (.glob 343))
noncomputable abbrev Ut:S:=.expr (.Q0 (.loc 362) "list" 67 "list.append" [.tup [.str 286,.int 0,.tup [.str 177,.loc 7,.loc 28,.str 143,.none],.tup [.str 156,.loc 7,.int 0,.loc 89]]])
theorem Dj{a:Addr}{rows:PV}{l0:List PV}{Q':Out→Loc→AH→Prop}{full:List PV}(ha:H a=none)(fin:∀m' H',Ext H H'→H' a=some (.list full)→m'.lookup 26=some rows→m'.lookup 362=some (.obj a)→Q' .next m' H'):
  ∀(r:List (Nat×E)) (pre:List PV) (m:Loc) (H1:AH),m.lookup 26=some rows→m.lookup 362=some (.obj a)→Ext H H1→H1 a=some (.list pre)→(∀x∈r,x.2.typ = .tup [.str 156,(E.loc x.1).ty,.int 0,x.2.val]∧x.2.ty=(E.loc x.1).ty)→full=pre++r.map (fun x=>(Sm.bind x.1 x.2).typ)→full.length≤100→
  Ef (fun q m H Q=>(Tg.tup [.name 28,.name 89]).w g n q m H Q) (fun m H Q=>K4 g n [YB,Ut] m H Q) (.lst l0) l0 Q' (r.map fun x=>.tup [.int (x.1:Int),x.2.val]) m H1:=by
 intro r
 induction r with
 |nil=>exact fun pre m H1 e1 e2 E e O z O=>fin m H1 E (by rw [z,List.map_nil,List.append_nil];exact e) e1 e2
 |cons x r ih=>
  intro pre m H1 e1 e2 hE e hx z hl
  obtain⟨hx1,hx2⟩:=hx x (.head _)
  have hlen:pre.length≤100:=by rw [z,List.length_append] at hl;lia
  have rest:∀k,k=(E.loc x.1).ty→K4 g n [Ut] (j8 7 k (j8 89 x.2.val (j8 28 (.int (x.1:Int)) m))) H1 fun o m₂ H₂=>@Out.rec (fun O=>Prop) (Ef (fun q m H Q=>(Tg.tup [.name 28,.name 89]).w g n q m H Q) (fun m H Q=>K4 g n [YB,Ut] m H Q) (.lst l0) l0 Q' (r.map fun x=>.tup [.int (x.1:Int),x.2.val]) m₂ H₂) (Q' .next m₂ H₂) (Ef (fun q m H Q=>(Tg.tup [.name 28,.name 89]).w g n q m H Q) (fun m H Q=>K4 g n [YB,Ut] m H Q) (.lst l0) l0 Q' (r.map fun x=>.tup [.int (x.1:Int),x.2.val]) m₂ H₂) (fun x=>Q' (.ret x) m₂ H₂) o:=fun k hk=>by
   have b3:∀y q,y≠28→y≠89→y≠7→m.lookup y=some q→(j8 7 k (j8 89 x.2.val (j8 28 (.int (x.1:Int)) m))).lookup y=some q:=fun y q n1 n2 n3 h=>W6 n3 (W6 n2 (W6 n1 h))
   refine d8 (b3 _ _ (by decide) (by decide) (by decide) e2) (G4 e (d8 V0 (d8 (W6 (by decide) (W6 (by decide) V0)) (d8 V0 (d8 (W6 (by decide) V0) (z6 e (Nat.le_trans hlen (Y6 rfl)) ?_))))))
   refine ih (pre++[(Sm.bind x.1 x.2).typ]) _ _ (b3 _ _ (by decide) (by decide) (by decide) e1) (b3 _ _ (by decide) (by decide) (by decide) e2) (Ext.upd ha hE) ?_ (fun y hy=>hx y (.tail _ hy)) (by rw [z,List.append_assoc];rfl) hl
   rw [c7,hk]
   show _=some (q7.list (pre++[.tup [.str 286,.int 0,Cq x.2.ty x.1,x.2.typ]]))
   rw [hx1,hx2]
  by_cases c:x.1<3
  ·exact d8 (W6 (by decide) V0) (V3 (decide_eq_true (by exact Int.ofNat_le.mpr ‹_›)) (rest cY (by unfold E.ty E.k;rw [if_pos c];rfl)))
  ·exact d8 (W6 (by decide) V0) (cA (decide_eq_false (by lia)) (rest N6 (by unfold E.ty E.k;rw [if_neg c];rfl)))
end
end Mine.Internal
namespace Mine.Internal
open PySem PySem.W PySem.Calls PyProof.Rows
noncomputable def Ke(l:List PV):Prop := ∀x∈l,∃i,x = .int i
noncomputable def Rs.prs:Rs→List PV
 |.ok _ s=>s.pr
 |.iR _ s=>s.pr
theorem H8{q:Rs}{f:PV→Ps→Rs}(h:Ke q.prs)(k:∀x s,q = .ok x s→Ke s.pr→Ke (f x s).prs):Ke (q.bind f).prs:=by
 cases q with
 |ok x s=>exact k x s rfl h
 |iR t s=>exact h
theorem Ir{op:Op}{x y:PV}{s:Ps}(h:Ke s.pr):Ke (op.run x y s).prs:=by
 unfold Op.run
 cases op.ar with
 |true=>cases over (op.f x.num y.num)<;>exact h
 |false=>exact h
theorem YC{f:Bool}{e:E}(w:Wf f e):e.ok→∀{s:Ps},SV s→Ke s.pr→Ke (e.ev s).prs:=by
 induction w with
 |num hi=>exact fun O s sv h=>h
 |O2 b=>exact fun O s sv h=>h
 |loc hi=>exact fun O s sv h=>h
 |not wa ih=>exact fun o s sv h=>H8 (ih o.2 sv h) fun x s ex h=>h
 |@lazy an a b wa wb iha ihb=>
  exact fun o s sv h=>H8 (iha o.2.1 sv h) fun x s1 ex h=>by
   split
   ·exact ihb o.2.2 (Fin.of wa o.2.1 sv ex).2.1 h
   ·exact h
 |@O1 c a b wc wa wb ihc iha ihb=>
  exact fun o s sv h=>H8 (ihc o.2.1 sv h) fun x s1 ex h=>by
   split
   ·exact iha o.2.2.1 (Fin.of wc o.2.1 sv ex).2.1 h
   ·exact ihb o.2.2.2 (Fin.of wc o.2.1 sv ex).2.1 h
 |bin op wa wb iha ihb=>exact fun o s sv h=>H8 (iha o.2.1 sv h) fun x s1 ex h=>H8 (ihb o.2.2 (Fin.of wa o.2.1 sv ex).2.1 h) fun y s2 ey h=>Ir h
 |pair hk wa wb iha ihb=>
  intro o s sv h
  have o:(_∧_)∧_∧_:=o.2
  exact H8 (H8 (iha o.2.1 sv h) fun x s1 ex h=>H8 (ihb o.2.2 (Fin.of wa o.2.1 sv ex).2.1 h) fun y s2 ey h=>h) fun x s ex h=>h
 |seq wd we ihd Pu=>exact fun o s sv h=>H8 (ihd o.2.1 sv h) fun x s1 ex h=>Pu o.2.2 (Fin.of wd o.2.1 sv ex).2.1 h
 |@print a wa ih=>
  intro o s sv h
  refine H8 (ih o.2 sv h) fun x s1 ex h z hz=>?_
  rcases List.mem_append.mp hz with hz|hz
  ·exact h z hz
  ·have v:=(Fin.of wa o.2 sv ex).1
   rw [o.1] at v
   obtain⟨i,e,_⟩:=v
   exact⟨i,(List.mem_singleton.mp hz).trans e⟩
 |assign hi wa ih=>exact fun o s sv h=>H8 (ih o.2 sv h) fun x s ex h=>h
 |update op hi wa ih=>exact fun o s sv h=>H8 (ih o.2 sv h) fun x s ex h=>H8 (Ir h) fun y s ey h=>h
 |@asked c a b wc wa wb ihc iha ihb=>
  exact fun o s sv h=>H8 (ihc o.2.1 sv h) fun x s1 ex h=>by
   split
   ·exact H8 (iha o.2.2.1.2 (Fin.of wc o.2.1 sv ex).2.1 h) fun x s ex h=>h
   ·exact H8 (ihb o.2.2.2.2 (Fin.of wc o.2.1 sv ex).2.1 h) fun x s ex h=>h
theorem Iu:∀(rs:List E) {s:Ps},(∀e∈rs,Rw e)→SV s→Ke s.pr→Ke (evs rs s).prs
 | [],s,_,_,h=>h
 |e::rs,s,ho,sv,h=>H8 (YC (ho e (.head _)).wf (ho e (.head _)).ok sv h) fun x s1 ex h=>Iu rs (fun e he=>ho e (.tail _ he)) (Fin.of (ho e (.head _)).wf (ho e (.head _)).ok sv ex).2.1 h
theorem VL:∀{l:List PV},Ke l→PV.eV l=true∧PV.depths l=0∧PV.eqvs l l=true
 | [],_=>⟨rfl,rfl,rfl⟩
 |x::l,h=>by
  obtain⟨i,rfl⟩:=h x (.head _)
  obtain⟨a,b,c⟩:=VL fun y hy=>h y (.tail _ hy)
  refine⟨a,(Nat.max_eq_right (Nat.zero_le _)).trans b,?_⟩
  show((i==i)&&PV.eqvs l l)=true
  rw [c,beq_self_eq_true];rfl
theorem af4{rs:List E}(ho:∀e∈rs,Rw e):((zm (evs rs zG)).1.isD=true∧(zm (evs rs zG)).1.depth=1∧(zm (evs rs zG)).1.eqv (zm (evs rs zG)).1=true)∧Ke (zm (evs rs zG)).2:=by
 have h1:=uQ rs (n:=0) ho sv0 (Nat.le_refl 0)
 have h2:=Iu rs ho sv0 (fun x hx=>nomatch (show x∈[] from hx))
 cases e:evs rs zG with
 |ok x s=>
  rw [e] at h1 h2
  obtain⟨i,ei,_⟩:=h1.2.1 0 (by decide)
  refine⟨?_,h2⟩
  show(PV.tup [.str 341,s.v 0]).isD=true∧(PV.tup [.str 341,s.v 0]).depth=1∧(PV.tup [.str 341,s.v 0]).eqv (PV.tup [.str 341,s.v 0])=true
  rw [ei]
  refine⟨rfl,rfl,?_⟩
  show(Nat.beq 341 341&&((i==i)&&true))=true
  rw [beq_self_eq_true];rfl
 |iR t s=>
  rw [e] at h2
  refine⟨⟨rfl,rfl,?_⟩,h2⟩
  show(Nat.beq 248 248&&(Nat.beq t t&&true))=true
  rw [show Nat.beq t t=true from Nat.beq_refl t];rfl
theorem af5{p:PV}{a b:Addr}{l:List PV}{H:AH}{C:Bool→Prop}(hp:p.isD=true)(dp:p.depth=1)(ep:p.eqv p=true)(ha:H a=some (.list l))(hb:H b=some (.list l))(hl:Ke l)(h:C true):rE .Eq (.tup [p,.obj a]) (.tup [p,.obj b]) H C:=by
 obtain⟨d1,d2,d3⟩:=VL hl
 refine cA (by unfold Ae;rw [show(PV.tup [p,.obj a]).isD=false by show(p.isD&&(false&&true))=false;rw [Bool.false_and,Bool.and_false]];rfl) ?_
 have z:∀x,H x=some (.list l)→res H (.tup [p,.obj x]) = .tup [p,.lst l]:=fun x hx=>by
  show PV.tup [res H p,res H (.obj x)]=_
  rw [ql H p hp,qg,hx]
 have e1:(PV.tup [p,.lst l]).isD=true:=by show(p.isD&&(PV.eV l&&true))=true;rw [hp,d1];rfl
 refine .eq ?_ ?_
 ·unfold zO
  rw [z a ha,z b hb]
  refine⟨e1,e1,.inl ?_⟩
  show max p.depth (max (PV.depths l+1) 0)+1≤60
  rw [dp,d2];decide
 ·rw [z a ha,z b hb]
  have:(PV.tup [p,.lst l]).eqv (.tup [p,.lst l])=true:=by show(p.eqv p&&(PV.eqvs l l&&true))=true;rw [ep,d3];rfl
  rw [this];exact h
theorem Kf(a b:List Sm):costs (a++b)=costs a+costs b:=by unfold costs;rw [List.map_append,List.sum_append]
theorem uR:∀(rs:List E),(∀e∈rs,Rw e)→costs (rs.map .deed)≤1407*rs.length
 | [],_=>Nat.le_refl _
 |e::rs,ho=>by
  have c:=(ho e (.head _)).c
  have r:=uR rs fun e he=>ho e (.tail _ he)
  have z:costs ((e::rs).map .deed)=e.cost+7+costs (rs.map .deed):=rfl
  rw [z,List.length_cons];lia
theorem Qt{rs:List E}(ho:∀e∈rs,Rw e)(hl:rs.length≤10):4*(cu rs).sz+10≤sizeLine:=by
 have g0:=Pk (binds++rs.map .deed) (.loc 0) (I8 0) (Y4 iT).push.push
 have g1:=X7 (X7 g0)
 have p1:=g1.phi
 have p0:(Y4 iT).phi=200:=rfl
 have cb:costs binds=100:=rfl
 have cr:=uR rs ho
 rw [Kf,cb,p0] at p1
 have z:=XS (uE (binds++rs.map .deed) (.loc 0) (I8 0) (Y4 iT).push.push).pop.pop
 have e:(cu rs).sz=(uE (binds++rs.map .deed) (.loc 0) (I8 0) (Y4 iT).push.push).pop.pop.sz+2:=rfl
 have c0:(E.loc 0).cost=10:=rfl
 rw [c0] at p1
 rw [e,sizeLine_eq]
 lia
end Mine.Internal
namespace Mine.Internal
open PySem PySem.W PySem.Calls PyProof.Rows
section
variable{P:Params}{g:G (s7 P).T}(hg:v8 g){n w:Nat}{m:Loc}{H R:AH}{Q:PV→AH→Prop}
include hg
theorem Kg{rs:List E}(ho:∀e∈rs,Rw e)(hl:rs.length≤10)(ht:Qp rs+1≤900)(hP:H I4=some (.code eX))(hn:118≤n)(l1:m.lookup 26=some (.lst (rs.map E.raw))) (l2:m.lookup 91=some (.lst (rows0.map OJ))) (l3:m.lookup 363=some (Tw (binds++rs.map .deed) (.loc 0)))
  (h:∀H',Ext H H'→Q (.bool true) H'):K4 g n [.ret (.cmp .Eq (.call 364 [.call 366 [.call 368 [.str 369,.loc 91,.tup [],.glob 342,.loc 363],.call 370 []]]) (.call 365 [.loc 26]))] m H (IV Q):=by
 refine d8 l2 (d8 l3 (Gb hg (leB hn rfl) fun tf YL H1 s=>Ge hg (leB hn rfl) fun w Tp wl sg H2 E2 w1 w2 w3 w4=>?_))
 obtain⟨t,T⟩:=Us rs
 obtain⟨ss,tm,e0,go⟩:=Kc hl ho ht T
 obtain⟨⟨d1,d2,d3⟩,d4⟩:=af4 ho
 refine Pn hg (rows:=rows0) (W:=100) (by decide) (by decide) (fun t ht=>?_) (E2 _ _ (s.at 0 rfl)) (E2 _ _ (s.at 1 rfl)) w1 w2 w3 w4 (fun s hs=>?_) (show(0:Nat)<5 by decide) (show 20≤100 by decide) ?_ T (Qt ho hl) (E2 _ _ (s.keep _ _ hP)) (leB hn rfl) (by decide) fun f b H3 d=>?_
 ·simp only [List.map_cons,List.map_nil,List.mem_cons,List.not_mem_nil,or_false] at ht
  rcases ht with rfl|rfl|rfl|rfl|rfl|rfl
  all_goals first|exact .one (.int _)|exact .one .bool
 ·rcases List.mem_append.mp hs with hs|hs
  ·simp only [binds,List.mem_cons,List.not_mem_nil,or_false] at hs
   rcases hs with rfl|rfl|rfl|rfl|rfl<;>exact⟨⟨by decide,rfl,trivial⟩,by decide⟩
  ·obtain⟨e,he,rfl⟩:=List.mem_map.mp hs
   exact⟨⟨(ho e he).kd,(ho e he).ok⟩,(ho e he).w⟩
 ·rw [List.length_append,List.length_map]
  show 5+rs.length≤100
  lia
 ·have sz:=Qt ho hl
  have es:(cu rs).fix.sz=(cu rs).sz:=(uP (M:=cu rs) _ _ _).2
  have fl:f.length≤sizeLine:=by
   have:=List.Nodup.length_le_of_subset (l₂:=List.range (cu rs).fix.blks.length) d.nd fun i hi=>List.mem_range.mpr (d.lf i hi)
   rw [List.length_range] at this
   have:(cu rs).fix.blks.length≤(cu rs).fix.sz:=d.bk
   lia
  refine JW hg (by have:(cu rs).fix.tys.length≤(cu rs).fix.sz:=d.ty;lia) fl (leB hn rfl) d e0 go fun Pw H4 E4 p4=>d8 l1 (Ys hg ho hl (leB hn rfl) fun Pr H5 E5 p5=>?_)
  exact af5 d1 d2 d3 (E5 _ _ p4) p5 d4 (h _ fun y o e=>E5 _ _ (E4 _ _ (d.keep _ _ (E2 _ _ (s.keep _ _ e)))))
theorem Dk{rs:List E}(ho:∀e∈rs,Rw e)(hl:rs.length≤10)(ht:Qp rs+1≤900)(hP:H I4=some (.code eX))(hn:120≤n)(h:∀H',Ext H H'→Q (.bool true) H'):Cl g n (.obj eH) [.lst (rs.map E.raw)] H Q:=by
 refine(oh P).cl hg rfl hn fun n hn=>fun a ha=>?_
 refine Dj hg (rows:=.lst (rs.map E.raw)) ha (fun m' H1 E1 e1 l1 l2=>?_) [(0,.num 3),(1,.num 11),(2,.num 0),(3,.O2 true),(4,.O2 false)] [] [(26,.lst (rs.map E.raw)),(362,.obj a)] (upd H a (.list [])) rfl rfl (Ext.new ha) (c7 ..) (fun x hx=>?_) (full:=binds.map Sm.typ) rfl (by decide)
 ·refine VK (k:=3) (by decide) (by decide) (VK (k:=2) (by decide) (by decide) (Cy rfl rfl rfl (Y6 rfl) ?_))
  have l1':∀q,(j8 91 q m').lookup 26=some (.lst (rs.map E.raw)):=fun q=>W6 (by decide) l1
  refine d8 (W6 (by decide) l2) (V3 (R:=False) rfl (d8 (l1' _) ?_))
  refine CN (f:=E.raw) (w:=fun d=>.tup [.str 349,.int 0,d.typ]) rs (Nat.le_trans hl (Y6 rfl)) (fun e he D o K O k=>?_) ?_
  ·exact d8 V0 (Pq (f:=true) (Q:=fun p H'=>K (.tup [.str 349,.int 0,p]) H') hg (ho e he).wf (Nat.le_trans (ho e he).w (leB hn rfl)) k)
  ·refine Cy rfl (I3 e1) rfl (by rw [List.length_map,List.length_map];exact Nat.le_trans (Nat.add_le_add_left hl 5) (Y6 rfl)) ?_
   have e:binds.map Sm.typ++rs.map (fun d=>.tup [.str 349,.int 0,d.typ])=(binds++rs.map Sm.deed).map Sm.typ:=by rw [List.map_append,List.map_map];rfl
   rw [e]
   refine cD (.inr rfl) (by rw [List.length_map,List.length_append,List.length_map];exact Nat.le_trans (Nat.add_le_add_left hl 5) (Y6 rfl)) (mD hg (i:=0) (leB hn rfl) ?_)
   exact Kg hg ho hl ht (E1 _ _ hP) (leB hn rfl) (W6 (by decide) (l1' _)) (W6 (by decide) V0) V0 fun H' E'=>h H' fun y o z=>E' _ _ (E1 _ _ z)
 ·simp only [List.mem_cons,List.not_mem_nil,or_false] at hx
  rcases hx with rfl|rfl|rfl|rfl|rfl<;>exact⟨rfl,rfl⟩
end
end Mine.Internal
namespace Mine.Internal
open PySem PySem.W PySem.Calls PyProof.Rows
theorem Qu:∀(rs:List E),(∀e∈rs,Rw e)→Qp rs≤50*rs.length
 | [],_=>Nat.le_refl _
 |e::rs,ho=>by
  have t:=(ho e (.head _)).t
  have r:=Qu rs fun e he=>ho e (.tail _ he)
  show e.tn+Qp rs≤_
  rw [List.length_cons];lia
noncomputable def VN:E:=.assign 0 (.bin .add (.loc 0) (.seq (.assign 0 (.num 9)) (.num 1)))
theorem Qv:Rw VN:=⟨.assign (by decide) (.bin .add (.loc (by decide)) (.seq (.assign (by decide) (.num (by decide))) (.num (by decide)))),⟨⟨by decide,rfl⟩,⟨rfl,rfl⟩,show(0:Nat)<5 by decide,rfl,⟨⟨by decide,rfl⟩,trivial⟩,trivial⟩,rfl,by decide,by decide,by decide⟩
section
variable{P:Params}{g:G (s7 P).T}(hg:v8 g){n w:Nat}{m:Loc}{H R:AH}{Q:PV→AH→Prop}
include hg
theorem Gf{src D:Addr}{p:PV}{l0:List PV}{fin:List PV→AH→Prop}{N:Nat}(hn:7≤n)(hp:∀H,itemsOf H p=some l0)(nD:D≠src)(nT:D≠I4)(hN:N≤10)
  (k:∀(rs:List E) H',(∀e∈rs,Rw e)→rs.length=N→H' I4=some (.code eX)→fin (rs.map E.raw) H'):∀(l:List PV) (rs:List E) (m:Loc) (H:AH),m.lookup 308=some (.obj src)→SrcAt src H→H D=some (.list (rs.map E.raw))→H I4=some (.code eX)→(∀e∈rs,Rw e)→rs.length+l.length=N→
   WC (.one 359) (Xc g n []) (fun m H Q=>X.wE (.call 373 [.loc 308]) g n m H Q) p l0 D fin l (rs.map E.raw) m H:=by
 intro l
 induction l with
 |nil=>exact fun rs m H O O O hP ho hl=>k rs H ho hl hP
 |cons q l ih=>
  intro rs m H e1 S eD hP ho hl
  rw [List.length_cons] at hl
  have e1':(j8 359 q m).lookup 308=some (.obj src):=W6 (by decide) e1
  refine d8 e1' (zj hg S hn fun r H' hr s=>?_)
  have nS:I4≠src:=fun z=>by
   obtain⟨x,y,e,_⟩:=S
   rw [← z,hP] at e;cases e
  refine⟨⟨(s.keep D nD).trans eD,by rw [List.length_map];exact Nat.lt_of_lt_of_le (by lia) (Y6 (k:=10) rfl),hp _⟩,?_⟩
  have ea:rs.map E.raw++[r.raw]=(rs++[r]).map E.raw:=by rw [List.map_append];rfl
  rw [ea]
  refine ih (rs++[r]) _ _ e1' ?_ (c7 ..) ((d9 nT.symm).trans ((s.keep I4 nS).trans hP)) (fun e he=>(List.mem_append.mp he).elim (ho e) fun z=>List.mem_singleton.mp z▸hr) (by rw [List.length_append,List.length_singleton];exact Mine.Internal.eqt ‹_›)
  obtain⟨x,y,e,z⟩:=s.at_
  exact⟨x,y,(d9 nD.symm).trans e,z⟩
theorem YD{xs:List Int}(hx:xs.length≤63)(hP:H I4=some (.code eX))(hn:150≤n):Dl g n (.obj Bc) [.lst (xs.map .int)] H fun r H'=>r = .bool true∧H' I4=some (.code eX):=by
 refine(XH P).clC hg rfl hn fun n hn=>TX hg hx (leB hn rfl) fun a o ha s=>?_
 have hP1:upd H a o I4=some (.code eX):=(d9 fun z=>by rw [← z,hP] at ha;cases ha).trans hP
 refine Dk hg (rs:=[VN]) (fun e he=>List.mem_singleton.mp he▸Qv) (by decide) (by decide) hP1 (leB hn rfl) fun H1 E1=>?_
 have S1:SrcAt a H1:=by
  obtain⟨x,y,e,z⟩:=s.at_
  exact⟨x,y,E1 _ _ e,z⟩
 refine V3 (R:=False) rfl (I7 hg S1 (top:=4) (by decide) (by decide) (leB hn rfl) fun d H2 hd s2=>gA (And.intro ⟨by decide,by decide,by exact Int.natCast_nonneg _,by lia⟩ (d8 (x:=J2 ((0:Nat):Int) (2+d)) (congrArg (fun k=>some (J2 0 k)) (by exact Nat.add_assoc ..)) fun D hD=>?_)))
 have nA:I4≠a:=fun z=>by rw [← z,hP] at ha;cases ha
 have hP2:H2 I4=some (.code eX):=(s2.keep I4 nA).trans (E1 _ _ hP1)
 have nT:D≠I4:=fun z=>by rw [z,hP2] at hD;cases hD
 obtain⟨x,y,ea,z⟩:=s2.at_
 have nD:D≠a:=fun w=>by rw [w,ea] at hD;cases hD
 have lu:∀(k:Nat) (i:Int),(J2 i k).length=k:=fun k=>by
  induction k with
  |zero=>exact fun O=>rfl
  |succ k ih=>exact fun i=>congrArg (·+ 1) (ih _)
 refine Gf hg (src:=a) (p:=.rng 0 (2+(d:Int))) (l0:=J2 ((0:Nat):Int) (2+d)) (N:=2+d) (leB hn rfl) (fun H=>congrArg (fun k=>some (J2 0 k)) (show(2+(d:Int)-0).toNat=2+d by exact Nat.add_assoc ..)) nD nT (by lia) (fun rs H' ho hl hP'=>?_) _ [] _ _ rfl ⟨x,y,(d9 nD.symm).trans ea,z⟩ (c7 ..) ((d9 nT.symm).trans hP2) (fun O h=>nomatch h) (by rw [lu];exact Nat.zero_add _)
 exact Dk hg ho (by lia) (by have:=Qu rs ho;lia) ((qT nT.symm).trans hP') (leB hn rfl) fun H3 E3=>⟨rfl,E3 _ _ ((qT nT.symm).trans hP')⟩
end
end Mine.Internal
theorem PySem.Challenge.cw_ot0049_03_holds : PySem.Challenge.rw_ot0049_03.Holds := by
 exact Mine.Internal.Jy fun O O O hg O hx=>Mine.Internal.YD hg hx (Mine.Internal.c7 ..) (Nat.le_refl _)
