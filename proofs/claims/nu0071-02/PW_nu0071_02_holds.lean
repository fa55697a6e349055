import PyProof.Rows.All
import Wide.All
import OpenK.AllK
import Wide.FinOn
import PySem.Challenge.RW_nu0071_02
open PySem PySem.W PyProof.Rows PySem.Calls
set_option Elab.async false
set_option maxRecDepth 100000
set_option linter.all false
set_option compiler.extract_closed false
set_option genInjectivity false
set_option genSizeOf false
set_option genCtorIdx false
set_option maxHeartbeats 4000000
namespace Mine
theorem lcM{α:Type}{a b:α}{l:List α}(h:a∈b::l):a=b∨a∈l:=List.mem_cons.mp h
theorem laM{α:Type}{a:α}{s t:List α}(h:a∈s++t):a∈s∨a∈t:=List.mem_append.mp h
theorem lsM{α:Type}{a b:α}(h:a∈ [b]):a=b:=List.mem_singleton.mp h
theorem lsR{α:Type}{a b:α}(h:a=b):a∈ [b]:=List.mem_singleton.mpr h
theorem laG{α:Type}{a:α}{b:List α}(s:List α)(h:a∈b):a∈s++b:=List.mem_append_right s h
theorem laL{α:Type}{a:α}{s:List α}(b:List α)(h:a∈s):a∈s++b:=List.mem_append_left b h
def Ca_{T:Prop}(_:T):Prop:=True
theorem gP_{T:Prop}{h:T}(_:Ca_ h):T:=h
inductive LE
 |v (i:Nat)
 |n (k:Nat)
 |a (x y:LE)
 |m (k:Nat) (x:LE)
 |r (x:LE) (k:Nat)
inductive HS
 |z
 |le (k:Nat) (x y:LE) (r:HS)
 |lt (k:Nat) (x y:LE) (r:HS)
 |eq (k:Nat) (x y:LE) (r:HS)
 |qe (k:Nat) (x y:LE) (r:HS)
noncomputable def LE.at:List Nat->Nat->Nat
 | [],_=>0
 |x::c,i=>match i with|0=>x|i+1=>LE.at c i
noncomputable def LE.den(c:List Nat):LE->Nat
 | .v i=>LE.at c i
 | .n k=>k
 | .a x y=>x.den c+y.den c
 | .m k x=>k*x.den c
 | .r x k=>x.den c*k
noncomputable def LE.ct:LE->Nat
 | .v _=>0
 | .n k=>k
 | .a x y=>x.ct+y.ct
 | .m k x=>k*x.ct
 | .r x k=>x.ct*k
noncomputable def LE.co(i:Nat):LE->Nat
 | .v j=>cond (Nat.beq i j) 1 0
 | .n _=>0
 | .a x y=>x.co i+y.co i
 | .m k x=>k*x.co i
 | .r x k=>x.co i*k
noncomputable def dot:List Nat->(Nat->Nat)->Nat
 | [],_=>0
 |x::c,f=>f 0*x+dot c (fun i=>f (i+1))
theorem lea(c:List Nat):∀ f g:Nat->Nat,dot c (fun i=>f i+g i)=dot c f+dot c g:=by
 induction c with
 |nil=>intro f g;rfl
 |cons x c ih=>intro f g;show(f 0+g 0)*x+dot c _=_;rw [Nat.add_mul,ih (fun i=>f (i+1)) (fun i=>g (i+1)),Nat.add_add_add_comm];rfl
theorem iOa(c:List Nat)(k:Nat):∀ f:Nat->Nat,dot c (fun i=>k*f i)=k*dot c f:=by
 induction c with
 |nil=>intro f;rfl
 |cons x c ih=>intro f;show(k*f 0)*x+dot c _=k*(f 0*x+_);rw [ih (fun i=>f (i+1)),Nat.mul_add,Nat.mul_assoc]
theorem g3a(c:List Nat):dot c (fun _=>0)=0:=by
 induction c with
 |nil=>rfl
 |cons x c ih=>show 0*x+dot c _=0;rw [ih,Nat.zero_mul]
theorem qna(c:List Nat):∀ j,dot c (fun i=>cond (Nat.beq i j) 1 0)=LE.at c j:=by
 induction c with
 |nil=>intro j;rfl
 |cons x c ih=>
  intro j
  cases j with
  |zero=>show 1*x+dot c (fun _=>0)=x;rw [g3a,Nat.one_mul];rfl
  |succ j=>show 0*x+dot c (fun i=>cond (Nat.beq i j) 1 0)=_;rw [ih,Nat.zero_mul,Nat.zero_add];rfl
noncomputable def al:Nat->(Nat->Bool)->Bool
 |0,_=>true
 |n+1,f=>match f n with|true=>al n f|false=>false
theorem qsa{n:Nat}{f:Nat->Bool}(h:al n f=true):∀ i,i<n->f i=true:=by
 induction n with
 |zero=>intro i hi;exact absurd hi (Nat.not_lt_zero i)
 |succ n ih=>
  intro i hi
  cases hf:f n with
  |false=>
   have:al (n+1) f=false:=by unfold al;rw [hf]
   exact Bool.noConfusion (h.symm.trans this)
  |true=>
   have:al (n+1) f=al n f:=by conv=>lhs;unfold al;rw [hf]
   rcases Nat.lt_succ_iff_lt_or_eq.mp hi with hi|rfl
   ·exact ih (this▸h) i hi
   ·exact hf
theorem mga(c:List Nat):∀ f g:Nat->Nat,(∀ i,i<c.length->f i≤g i)->dot c f≤dot c g:=by
 induction c with
 |nil=>intro f g h;exact Nat.le_refl _
 |cons x c ih=>intro f g h;exact Nat.add_le_add (Nat.mul_le_mul_right x (h 0 (Nat.zero_lt_succ _))) (ih _ _ fun i hi=>h (i+1) (Nat.succ_lt_succ hi))
theorem kua(c:List Nat)(e:LE):e.den c=e.ct+dot c (fun i=>e.co i):=by
 induction e with
 |v j=>show LE.at c j=0+dot c (fun i=>cond (Nat.beq i j) 1 0);rw [qna,Nat.zero_add]
 |n k=>show k=k+dot c (fun _=>0);rw [g3a];rfl
 |a x y hx hy=>show x.den c+y.den c=x.ct+y.ct+dot c (fun i=>x.co i+y.co i);rw [lea,hx,hy,Nat.add_add_add_comm]
 |m k x hx=>show k*x.den c=k*x.ct+dot c (fun i=>k*x.co i);rw [iOa,hx,Nat.mul_add]
 |r x k hx=>
  show x.den c*k=x.ct*k+dot c (fun i=>x.co i*k)
  have:(fun i=>x.co i*k)=(fun i=>k*x.co i):=funext fun i=>Nat.mul_comm _ _
  rw [this,iOa,hx,Nat.mul_comm,Nat.mul_add,Nat.mul_comm k x.ct]
noncomputable def HS.imp(c:List Nat):HS->Prop
 | .z=>False
 | .le _ x y r=>x.den c≤y.den c->r.imp c
 | .lt _ x y r=>x.den c<y.den c->r.imp c
 | .eq _ x y r=>x.den c=y.den c->r.imp c
 | .qe _ x y r=>x.den c=y.den c->r.imp c
noncomputable def HS.chk(n:Nat):HS->LE->LE->Bool
 | .z,p,q=>match Nat.blt q.ct p.ct with|true=>al n (fun i=>Nat.ble (q.co i) (p.co i))|false=>false
 | .le k x y r,p,q=>r.chk n (.a p (.m k x)) (.a q (.m k y))
 | .lt k x y r,p,q=>r.chk n (.a p (.m k (.a x (.n 1)))) (.a q (.m k y))
 | .eq k x y r,p,q=>r.chk n (.a p (.m k x)) (.a q (.m k y))
 | .qe k x y r,p,q=>r.chk n (.a p (.m k y)) (.a q (.m k x))
theorem HS.ok(c:List Nat)(s:HS):∀ p q:LE,s.chk c.length p q=true->p.den c≤q.den c->s.imp c:=by
 induction s with
 |z=>
  intro p q h e
  show False
  cases hb:Nat.blt q.ct p.ct with
  |false=>
   have:HS.chk c.length .z p q=false:=by unfold HS.chk;rw [hb]
   exact Bool.noConfusion (h.symm.trans this)
  |true=>
   have:HS.chk c.length .z p q=al c.length (fun i=>Nat.ble (q.co i) (p.co i)):=by unfold HS.chk;rw [hb]
   have h1:=mga c (fun i=>q.co i) (fun i=>p.co i) fun i hi=>Nat.le_of_ble_eq_true (qsa (this▸h) i hi)
   rw [kua,kua c q] at e
   exact Nat.lt_irrefl _ (Nat.lt_of_lt_of_le (Nat.add_lt_add_of_lt_of_le (Nat.le_of_ble_eq_true hb) h1) e)
 |le k x y r ih=>intro p q h e f;exact ih _ _ h (Nat.add_le_add e (Nat.mul_le_mul_left k f))
 |lt k x y r ih=>intro p q h e f;exact ih _ _ h (Nat.add_le_add e (Nat.mul_le_mul_left k f))
 |eq k x y r ih=>intro p q h e f;exact ih _ _ h (Nat.add_le_add e (Nat.mul_le_mul_left k (Nat.le_of_eq f)))
 |qe k x y r ih=>intro p q h e f;exact ih _ _ h (Nat.add_le_add e (Nat.mul_le_mul_left k (Nat.le_of_eq f.symm)))
theorem lin(c:List Nat)(s:HS)(h:s.chk c.length (.n 0) (.n 0)=true):s.imp c:=s.ok c _ _ h (Nat.le_refl _)
theorem yA{a b:Nat}(h:b≤a->False):a<b:=Nat.lt_of_not_le h
theorem yB{a b:Nat}(h:b<a->False):a≤b:=Nat.le_of_not_lt h
theorem yC{a b:Nat}(h:b≤a):a-b+b=a:=Nat.sub_add_cancel h
theorem yD{a b:Nat}(h:a≤b):a-b=0:=Nat.sub_eq_zero_of_le h
theorem yE(a b:Nat):a≤b∨b≤a:=Nat.le_total a b
theorem yF{a b:Nat}(h:¬a=b):a<b∨b<a:=Nat.lt_or_gt_of_ne h
theorem yG{a b:Nat}(h:a≤b)(k:b≤a):a=b:=Nat.le_antisymm h k
noncomputable def x0:LE:= .v 0
noncomputable def x1:LE:= .v 1
noncomputable def x2:LE:= .v 2
noncomputable def x3:LE:= .v 3
noncomputable def x4:LE:= .v 4
noncomputable def x5:LE:= .v 5
theorem zq0{a:Nat}(h0:a<64):a+1≤16777216+1:=yB fun g=>lin [a] (.lt 1 x0 (.n 64) (.lt 1 (.a (.n 16777216) (.n 1)) (.a x0 (.n 1)) .z)) rfl h0 g
theorem zq1{a b:Nat}(h0:a=b)(h1:b<64):a<64:=yA fun g=>lin [a,b] (.eq 1 x0 x1 (.lt 1 x1 (.n 64) (.le 1 (.n 64) x0 .z))) rfl h0 h1 g
theorem zq2{a b c:Nat}(h0:a≤b+1+c):a≤b+(c+1):=yB fun g=>lin [a,b,c] (.le 1 x0 (.a (.a x1 (.n 1)) x2) (.lt 1 (.a x1 (.a x2 (.n 1))) x0 .z)) rfl h0 g
theorem zq3{a b:Nat}:a-b≤a+1:=yB fun g=>(yE b a).elim (fun i1=>lin [a,a-b,b] (.lt 1 (.a x0 (.n 1)) x1 (.eq 1 (.a x1 x2) x0 .z)) rfl g (yC i1)) fun i1=>lin [a,a-b] (.lt 1 (.a x0 (.n 1)) x1 (.eq 1 x1 (.n 0) .z)) rfl g (yD i1)
theorem zq4{a b:Nat}(h0:a<b):a-1<b:=yA fun g=>(yE 1 a).elim (fun i1=>lin [a,b,a-1] (.lt 1 x0 x1 (.le 1 x1 x2 (.eq 1 (.a x2 (.n 1)) x0 .z))) rfl h0 g (yC i1)) fun i1=>lin [a,b,a-1] (.lt 1 x0 x1 (.le 1 x1 x2 (.eq 1 x2 (.n 0) .z))) rfl h0 g (yD i1)
theorem zq6{a b:Nat}(h0:b=a+1):a<b:=yA fun g=>lin [b,a] (.qe 1 x0 (.a x1 (.n 1)) (.le 1 x0 x1 .z)) rfl h0 g
theorem zq7{a:Nat}(h0:a<60):a<120:=yA fun g=>lin [a] (.lt 1 x0 (.n 60) (.le 1 (.n 120) x0 .z)) rfl h0 g
theorem zq8{a b:Nat}(h0:a≤b)(h1:b-a≤0):a=b:=yG (yB fun g=>lin [a,b] (.le 1 x0 x1 (.lt 1 x1 x0 .z)) rfl h0 g) (yB fun g=>(yE a b).elim (fun i1=>lin [b-a,a,b] (.le 1 x0 (.n 0) (.lt 1 x1 x2 (.qe 1 (.a x0 x1) x2 .z))) rfl h1 g (yC i1)) fun i1=>lin [a,b] (.lt 1 x0 x1 (.le 1 x1 x0 .z)) rfl g i1)
theorem zq9{a b:Nat}(h0:a+b<a):False:=lin [a,b] (.lt 1 (.a x0 x1) x0 .z) rfl h0
theorem qNa{a b c:Nat}(h0:(a<b)∧(b<c))(h1:(b<a)∧(a<c)):False:=lin [a,b] (.lt 1 x0 x1 (.lt 1 x1 x0 .z)) rfl h0.1 h1.1
theorem qMa{a b:Nat}(h0:a≤b):a+(b-a)=b:=yG (yB fun g=>(yE a b).elim (fun i1=>lin [b,a,b-a] (.lt 1 x0 (.a x1 x2) (.eq 1 (.a x2 x1) x0 .z)) rfl g (yC i1)) fun i1=>lin [a,b,b-a] (.le 1 x0 x1 (.lt 1 x1 (.a x0 x2) (.eq 1 x2 (.n 0) .z))) rfl h0 g (yD i1)) (yB fun g=>(yE a b).elim (fun i2=>lin [a,b-a,b] (.lt 1 (.a x0 x1) x2 (.qe 1 (.a x1 x0) x2 .z)) rfl g (yC i2)) fun i2=>lin [a,b-a,b] (.lt 1 (.a x0 x1) x2 (.le 1 x2 x0 .z)) rfl g i2)
theorem ssa{a b:Nat}(h0:a-1≤b):a≤b+1:=yB fun g=>(yE 1 a).elim (fun i1=>lin [a-1,b,a] (.le 1 x0 x1 (.lt 1 (.a x1 (.n 1)) x2 (.qe 1 (.a x0 (.n 1)) x2 .z))) rfl h0 g (yC i1)) fun i1=>lin [b,a] (.lt 1 (.a x0 (.n 1)) x1 (.le 1 x1 (.n 1) .z)) rfl g i1
theorem qLa{a b:Nat}(h0:a+b<2^20):a+b≤2^24:=yB fun g=>lin [a,b] (.lt 1 (.a x0 x1) (.n 1048576) (.lt 1 (.n 16777216) (.a x0 x1) .z)) rfl h0 g
theorem sqa{a b:Nat}(h0:a≤b+1)(h1:¬(a=b+1)):a≤b:=yB fun g=>(yF h1).elim (fun i1=>lin [b,a] (.lt 1 x0 x1 (.lt 1 x1 (.a x0 (.n 1)) .z)) rfl g i1) fun i1=>lin [a,b] (.le 1 x0 (.a x1 (.n 1)) (.lt 1 (.a x1 (.n 1)) x0 .z)) rfl h0 i1
theorem fva{a b c:Nat}(h0:c<b)(h1:a<c):a<b:=yA fun g=>lin [c,b,a] (.lt 1 x0 x1 (.lt 1 x2 x0 (.le 1 x1 x2 .z))) rfl h0 h1 g
theorem spa{a b c d:Nat}(h0:a<c)(h1:c≤d)(h2:d<b):a<b:=yA fun g=>lin [a,c,d,b] (.lt 1 x0 x1 (.le 1 x1 x2 (.lt 1 x2 x3 (.le 1 x3 x0 .z)))) rfl h0 h1 h2 g
theorem mGa{a:Nat}(h0:a<a):False:=lin [a] (.lt 1 x0 x0 .z) rfl h0
theorem soa{a b:Nat}{p0:Prop}(h0:p0∧(a<b))(h1:b<a):False:=lin [a,b] (.lt 1 x0 x1 (.lt 1 x1 x0 .z)) rfl h0.2 h1
theorem sna{a b c d:Nat}(h0:a=b)(h1:c<a)(h2:(b<c)∧(c≤d)):False:=lin [a,b,c] (.eq 1 x0 x1 (.lt 1 x2 x0 (.lt 1 x1 x2 .z))) rfl h0 h1 h2.1
theorem qKa{a b:Nat}(h0:a<b+1)(h1:¬(a<b)):a=b:=yG (yB fun g=>lin [a,b] (.lt 1 x0 (.a x1 (.n 1)) (.lt 1 x1 x0 .z)) rfl h0 g) (yB fun g=>lin [b,a] (.le 1 x0 x1 (.lt 1 x1 x0 .z)) rfl (yB h1) g)
theorem sma{a b:Nat}(h0:a<b)(h1:¬(a=b-1)):a<b-1:=yA fun g=>(yE 1 b).elim (fun i1=>(yF h1).elim (fun i2=>lin [b-1,a] (.le 1 x0 x1 (.lt 1 x1 x0 .z)) rfl g i2) fun i2=>lin [a,b,b-1] (.lt 1 x0 x1 (.qe 1 (.a x2 (.n 1)) x1 (.lt 1 x2 x0 .z))) rfl h0 (yC i1) i2) fun i1=>(yF h1).elim (fun i3=>lin [b-1,a] (.le 1 x0 x1 (.lt 1 x1 x0 .z)) rfl g i3) fun i3=>lin [a,b,b-1] (.lt 1 x0 x1 (.le 1 x1 (.n 1) (.lt 1 x2 x0 .z))) rfl h0 i1 i3
theorem sla{a:Nat}(h0:1+1≤a):1≤a:=yB fun g=>lin [a] (.le 1 (.a (.n 1) (.n 1)) x0 (.lt 1 x0 (.n 1) .z)) rfl h0 g
theorem ska{a b c d e f:Nat}(h0:b=c+a)(h1:b+(d+1)+e≤f)(h2:f<60):a<60:=yA fun g=>lin [b,c,a,d,e,f] (.qe 1 x0 (.a x1 x2) (.le 1 (.a (.a x0 (.a x3 (.n 1))) x4) x5 (.lt 1 x5 (.n 60) (.le 1 (.n 60) x2 .z)))) rfl h0 h1 h2 g
theorem qJa{a b:Nat}(h0:a-b≤0)(h1:b<a):False:=(yE b a).elim (fun i1=>lin [a-b,b,a] (.le 1 x0 (.n 0) (.lt 1 x1 x2 (.qe 1 (.a x0 x1) x2 .z))) rfl h0 h1 (yC i1)) fun i1=>lin [b,a] (.lt 1 x0 x1 (.le 1 x1 x0 .z)) rfl h1 i1
theorem sia{a b c:Nat}(h0:a+(c+1)≤b):a-1<b:=yA fun g=>(yE 1 a).elim (fun i1=>lin [a,c,b,a-1] (.le 1 (.a x0 (.a x1 (.n 1))) x2 (.le 1 x2 x3 (.eq 1 (.a x3 (.n 1)) x0 .z))) rfl h0 g (yC i1)) fun i1=>lin [a,c,b,a-1] (.le 1 (.a x0 (.a x1 (.n 1))) x2 (.le 1 x2 x3 (.eq 1 x3 (.n 0) .z))) rfl h0 g (yD i1)
theorem sha{a b c d:Nat}(h0:a-1=b)(h1:¬(b=c))(h2:(c<a)∧(a≤d))(h3:¬((c<b)∧(b≤d))):False:=(yE 1 a).elim (fun i1=>(yF h1).elim (fun i2=>lin [a-1,b,c,a] (.eq 1 x0 x1 (.lt 1 x2 x3 (.qe 1 (.a x0 (.n 1)) x3 (.lt 1 x1 x2 .z)))) rfl h0 h2.1 (yC i1) i2) fun i2=>(Decidable.not_and_iff_or_not.mp h3).elim (fun i3=>lin [c,b] (.lt 1 x0 x1 (.le 1 x1 x0 .z)) rfl i2 (yB i3)) fun i3=>lin [a-1,b,a,d] (.qe 1 x0 x1 (.le 1 x2 x3 (.eq 1 (.a x0 (.n 1)) x2 (.lt 1 x3 x1 .z)))) rfl h0 h2.2 (yC i1) (yA i3)) fun i1=>(yF h1).elim (fun i4=>lin [c,a,b] (.lt 1 x0 x1 (.le 1 x1 (.n 1) (.lt 1 x2 x0 .z))) rfl h2.1 i1 i4) fun i4=>lin [a-1,b,c] (.qe 1 x0 x1 (.eq 1 x0 (.n 0) (.lt 1 x2 x1 .z))) rfl h0 (yD i1) i4
theorem qIa{a b:Nat}(h0:¬(b=a))(h1:¬(b<a)):a+1≤b:=yB fun g=>(yF h0).elim (fun i1=>lin [a,b] (.le 1 x0 x1 (.lt 1 x1 x0 .z)) rfl (yB h1) i1) fun i1=>lin [b,a] (.lt 1 x0 (.a x1 (.n 1)) (.lt 1 x1 x0 .z)) rfl g i1
theorem sga{a:Nat}(h0:a=a-1)(h1:1≤a):False:=(yE 1 a).elim (fun i1=>lin [a,a-1] (.eq 1 x0 x1 (.eq 1 (.a x1 (.n 1)) x0 .z)) rfl h0 (yC i1)) fun i1=>lin [a,a-1] (.eq 1 x0 x1 (.le 1 (.n 1) x0 (.eq 1 x1 (.n 0) .z))) rfl h0 h1 (yD i1)
theorem sfa{a b c d e:Nat}(h0:a=b)(h1:c<b)(h2:d<c)(h3:e<d)(h4:a<e):False:=lin [a,b,c,d,e] (.qe 1 x0 x1 (.lt 1 x2 x1 (.lt 1 x3 x2 (.lt 1 x4 x3 (.lt 1 x0 x4 .z))))) rfl h0 h1 h2 h3 h4
theorem mFa{a b c:Nat}(h0:a+8*(b+1)+200<c):a+3+8*b+200<c:=yA fun g=>lin [a,b,c] (.lt 1 (.a (.a x0 (.m 8 (.a x1 (.n 1)))) (.n 200)) x2 (.le 1 x2 (.a (.a (.a x0 (.n 3)) (.m 8 x1)) (.n 200)) .z)) rfl h0 g
theorem sea{a b c:Nat}(h0:a=b)(h1:c≤b)(h2:¬((c<a)∧(a≤b)))(h3:¬(a=c)):False:=(Decidable.not_and_iff_or_not.mp h2).elim (fun i1=>(yF h3).elim (fun i2=>lin [a,b,c] (.qe 1 x0 x1 (.le 1 x2 x1 (.lt 1 x0 x2 .z))) rfl h0 h1 i2) fun i2=>lin [a,c] (.le 1 x0 x1 (.lt 1 x1 x0 .z)) rfl (yB i1) i2) fun i1=>lin [a,b] (.eq 1 x0 x1 (.lt 1 x1 x0 .z)) rfl h0 (yA i1)
theorem qHa{a b c:Nat}(h0:a<b+1)(h1:c<a):a-1<b:=yA fun g=>(yE 1 a).elim (fun i1=>lin [a,b,a-1] (.lt 1 x0 (.a x1 (.n 1)) (.le 1 x1 x2 (.eq 1 (.a x2 (.n 1)) x0 .z))) rfl h0 g (yC i1)) fun i1=>lin [a,b,c,a-1] (.lt 1 x0 (.a x1 (.n 1)) (.lt 1 x2 x0 (.le 1 x1 x3 (.eq 1 x3 (.n 0) .z)))) rfl h0 h1 g (yD i1)
theorem sda{a:Nat}(h0:¬(2≤a)):a<2:=yA fun g=>lin [a] (.lt 1 x0 (.n 2) (.le 1 (.n 2) x0 .z)) rfl (yA h0) g
theorem m2a{a b:Nat}(h0:a<b+1)(h1:¬(a=b)):a<b:=yA fun g=>(yF h1).elim (fun i1=>lin [b,a] (.le 1 x0 x1 (.lt 1 x1 x0 .z)) rfl g i1) fun i1=>lin [a,b] (.lt 1 x0 (.a x1 (.n 1)) (.lt 1 x1 x0 .z)) rfl h0 i1
theorem r7a{a b:Nat}(h0:b≤a)(h1:a≤b):a=b:=yG (yB fun g=>lin [a,b] (.le 1 x0 x1 (.lt 1 x1 x0 .z)) rfl h1 g) (yB fun g=>lin [b,a] (.le 1 x0 x1 (.lt 1 x1 x0 .z)) rfl h0 g)
theorem r6a{a b c d:Nat}(h0:a-1=b-1)(h1:a≠b)(h2:¬(b=c))(h3:(c<a)∧(a≤d)):False:=(yE 1 a).elim (fun i1=>(yE 1 b).elim (fun i2=>(yF h1).elim (fun i3=>lin [a-1,b-1,a,b] (.qe 1 x0 x1 (.eq 1 (.a x0 (.n 1)) x2 (.qe 1 (.a x1 (.n 1)) x3 (.lt 1 x2 x3 .z)))) rfl h0 (yC i1) (yC i2) i3) fun i3=>lin [a-1,b-1,a,b] (.eq 1 x0 x1 (.qe 1 (.a x0 (.n 1)) x2 (.eq 1 (.a x1 (.n 1)) x3 (.lt 1 x3 x2 .z)))) rfl h0 (yC i1) (yC i2) i3) fun i2=>(yF h1).elim (fun i4=>lin [a,b] (.le 1 (.n 1) x0 (.le 1 x1 (.n 1) (.lt 1 x0 x1 .z))) rfl i1 i2 i4) fun i4=>(yF h2).elim (fun i5=>lin [a-1,b-1,c,a,b] (.eq 1 x0 x1 (.lt 1 x2 x3 (.qe 1 (.a x0 (.n 1)) x3 (.eq 1 x1 (.n 0) (.lt 1 x4 x2 .z))))) rfl h0 h3.1 (yC i1) (yD i2) i5) fun i5=>lin [a-1,b-1,a,b,c] (.eq 1 x0 x1 (.qe 1 (.a x0 (.n 1)) x2 (.eq 1 x1 (.n 0) (.lt 1 x3 x2 (.lt 1 x4 x3 .z))))) rfl h0 (yC i1) (yD i2) i4 i5) fun i1=>(yE 1 b).elim (fun i6=>(yF h1).elim (fun i7=>lin [a-1,b-1,c,a,b] (.qe 1 x0 x1 (.lt 1 x2 x3 (.eq 1 x0 (.n 0) (.qe 1 (.a x1 (.n 1)) x4 (.lt 1 x3 x4 .z))))) rfl h0 h3.1 (yD i1) (yC i6) i7) fun i7=>lin [a,b] (.le 1 x0 (.n 1) (.le 1 (.n 1) x1 (.lt 1 x1 x0 .z))) rfl i1 i6 i7) fun i6=>(yF h1).elim (fun i8=>lin [c,a,b] (.lt 1 x0 x1 (.le 1 x2 (.n 1) (.lt 1 x1 x2 .z))) rfl h3.1 i6 i8) fun i8=>(yF h2).elim (fun i9=>lin [c,a,b] (.lt 1 x0 x1 (.le 1 x1 (.n 1) (.lt 1 x2 x0 .z))) rfl h3.1 i1 i9) fun i9=>lin [a,b,c] (.le 1 x0 (.n 1) (.lt 1 x1 x0 (.lt 1 x2 x1 .z))) rfl i1 i8 i9
theorem mEa{a b c d:Nat}(h0:(d<b)∧(b<a))(h1:a-d≤c+1):a-b≤c:=yB fun g=>(yE d a).elim (fun i1=>(yE b a).elim (fun i2=>lin [d,b,a-d,c,a-b,a] (.lt 1 x0 x1 (.le 1 x2 (.a x3 (.n 1)) (.lt 1 x3 x4 (.qe 1 (.a x2 x0) x5 (.eq 1 (.a x4 x1) x5 .z))))) rfl h0.1 h1 g (yC i1) (yC i2)) fun i2=>lin [b,a] (.lt 1 x0 x1 (.le 1 x1 x0 .z)) rfl h0.2 i2) fun i1=>lin [d,b,a] (.lt 1 x0 x1 (.lt 1 x1 x2 (.le 1 x2 x0 .z))) rfl h0.1 h0.2 i1
theorem mTa{a b c:Nat}(h0:c=b)(h1:a<c):a<b:=yA fun g=>lin [c,b,a] (.eq 1 x0 x1 (.lt 1 x2 x0 (.le 1 x1 x2 .z))) rfl h0 h1 g
theorem qGa{a b c:Nat}(h0:c≤b)(h1:a<c):a<b:=yA fun g=>lin [c,b,a] (.le 1 x0 x1 (.lt 1 x2 x0 (.le 1 x1 x2 .z))) rfl h0 h1 g
theorem r5a{a:Nat}(h0:1=1+(a-1))(h1:1<a):False:=(yE 1 a).elim (fun i1=>lin [a-1,a] (.qe 1 (.n 1) (.a (.n 1) x0) (.lt 1 (.n 1) x1 (.qe 1 (.a x0 (.n 1)) x1 .z))) rfl h0 h1 (yC i1)) fun i1=>lin [a] (.lt 1 (.n 1) x0 (.le 1 x0 (.n 1) .z)) rfl h1 i1
theorem kza{a b:Nat}(h0:a=b)(h1:a<b):False:=lin [a,b] (.qe 1 x0 x1 (.lt 1 x0 x1 .z)) rfl h0 h1
theorem r4a{a b:Nat}(h0:a+1=b+1)(h1:¬(a=b)):False:=(yF h1).elim (fun i1=>lin [a,b] (.qe 1 (.a x0 (.n 1)) (.a x1 (.n 1)) (.lt 1 x0 x1 .z)) rfl h0 i1) fun i1=>lin [a,b] (.eq 1 (.a x0 (.n 1)) (.a x1 (.n 1)) (.lt 1 x1 x0 .z)) rfl h0 i1
theorem mSa{a b:Nat}(h0:a-b≤0):a≤b:=yB fun g=>(yE b a).elim (fun i1=>lin [a-b,b,a] (.le 1 x0 (.n 0) (.lt 1 x1 x2 (.qe 1 (.a x0 x1) x2 .z))) rfl h0 g (yC i1)) fun i1=>lin [b,a] (.lt 1 x0 x1 (.le 1 x1 x0 .z)) rfl g i1
theorem r3a{a b c:Nat}(h0:c=b+1)(h1:a+1=c):a=b:=yG (yB fun g=>lin [c,b,a] (.eq 1 x0 (.a x1 (.n 1)) (.eq 1 (.a x2 (.n 1)) x0 (.lt 1 x1 x2 .z))) rfl h0 h1 g) (yB fun g=>lin [c,b,a] (.qe 1 x0 (.a x1 (.n 1)) (.qe 1 (.a x2 (.n 1)) x0 (.lt 1 x2 x1 .z))) rfl h0 h1 g)
theorem r2a{a b c:Nat}(h0:a≤b)(h1:b<c)(h2:c<60):a<120:=yA fun g=>lin [a,b,c] (.le 1 x0 x1 (.lt 1 x1 x2 (.lt 1 x2 (.n 60) (.le 1 (.n 120) x0 .z)))) rfl h0 h1 h2 g
theorem r1a{a b:Nat}(h0:a<b):a+(b-a)≤b:=yB fun g=>(yE a b).elim (fun i1=>lin [b,a,b-a] (.lt 1 x0 (.a x1 x2) (.eq 1 (.a x2 x1) x0 .z)) rfl g (yC i1)) fun i1=>lin [a,b] (.lt 1 x0 x1 (.le 1 x1 x0 .z)) rfl h0 i1
theorem r0a{a b c d e:Nat}(h0:b=c)(h1:a=d)(h2:c=e+1+d):a<b:=yA fun g=>lin [b,c,a,d,e] (.qe 1 x0 x1 (.eq 1 x2 x3 (.qe 1 x1 (.a (.a x4 (.n 1)) x3) (.le 1 x0 x2 .z)))) rfl h0 h1 h2 g
theorem rZa{a b c d:Nat}(h0:a=b)(h1:c<b)(h2:d<c)(h3:a<d):False:=lin [a,b,c,d] (.qe 1 x0 x1 (.lt 1 x2 x1 (.lt 1 x3 x2 (.lt 1 x0 x3 .z)))) rfl h0 h1 h2 h3
theorem mDa{a b:Nat}(h0:a≤b):a≤b+1:=yB fun g=>lin [a,b] (.le 1 x0 x1 (.lt 1 (.a x1 (.n 1)) x0 .z)) rfl h0 g
theorem qFa{a b:Nat}(h0:¬(b=a))(h1:¬(b<a)):a<b:=yA fun g=>(yF h0).elim (fun i1=>lin [a,b] (.le 1 x0 x1 (.lt 1 x1 x0 .z)) rfl (yB h1) i1) fun i1=>lin [b,a] (.le 1 x0 x1 (.lt 1 x1 x0 .z)) rfl g i1
theorem mCa{a b:Nat}(h0:a<b):a<b+1:=yA fun g=>lin [a,b] (.lt 1 x0 x1 (.le 1 (.a x1 (.n 1)) x0 .z)) rfl h0 g
theorem rYa{a b:Nat}(h0:a=b)(h1:b<64):a≤16777216:=yB fun g=>lin [a,b] (.eq 1 x0 x1 (.lt 1 x1 (.n 64) (.lt 1 (.n 16777216) x0 .z))) rfl h0 h1 g
theorem rXa{a b c d:Nat}(h0:b≤d)(h1:a+8*d+200<c):a+8*b+200<c:=yA fun g=>lin [b,d,a,c] (.le 8 x0 x1 (.lt 1 (.a (.a x2 (.m 8 x1)) (.n 200)) x3 (.le 1 x3 (.a (.a x2 (.m 8 x0)) (.n 200)) .z))) rfl h0 h1 g
theorem rWa{a b:Nat}:0+a-1-b=a-1-b:=yG (yB fun g=>(yE 1 a).elim (fun i1=>(yE b (a-1)).elim (fun i2=>(yE 1 (0+a)).elim (fun i3=>(yE b (0+a-1)).elim (fun i4=>lin [a-1-b,0+a-1-b,a-1,a,b,0+a-1] (.lt 1 x0 x1 (.qe 1 (.a x2 (.n 1)) x3 (.qe 1 (.a x0 x4) x2 (.eq 1 (.a x5 (.n 1)) (.a (.n 0) x3) (.eq 1 (.a x1 x4) x5 .z))))) rfl g (yC i1) (yC i2) (yC i3) (yC i4)) fun i4=>lin [a-1-b,0+a-1-b] (.lt 1 x0 x1 (.eq 1 x1 (.n 0) .z)) rfl g (yD i4)) fun i3=>(yE b (0+a-1)).elim (fun i5=>lin [a-1-b,0+a-1-b,0+a-1,b] (.lt 1 x0 x1 (.eq 1 x2 (.n 0) (.eq 1 (.a x1 x3) x2 .z))) rfl g (yD i3) (yC i5)) fun i5=>lin [a-1-b,0+a-1-b] (.lt 1 x0 x1 (.eq 1 x1 (.n 0) .z)) rfl g (yD i5)) fun i2=>(yE 1 (0+a)).elim (fun i6=>(yE b (0+a-1)).elim (fun i7=>lin [a-1-b,0+a-1-b,a-1,a,b,0+a-1] (.lt 1 x0 x1 (.qe 1 (.a x2 (.n 1)) x3 (.le 1 x2 x4 (.eq 1 (.a x5 (.n 1)) (.a (.n 0) x3) (.eq 1 (.a x1 x4) x5 .z))))) rfl g (yC i1) i2 (yC i6) (yC i7)) fun i7=>lin [a-1-b,0+a-1-b] (.lt 1 x0 x1 (.eq 1 x1 (.n 0) .z)) rfl g (yD i7)) fun i6=>(yE b (0+a-1)).elim (fun i8=>lin [a-1-b,0+a-1-b,0+a-1,b] (.lt 1 x0 x1 (.eq 1 x2 (.n 0) (.eq 1 (.a x1 x3) x2 .z))) rfl g (yD i6) (yC i8)) fun i8=>lin [a-1-b,0+a-1-b] (.lt 1 x0 x1 (.eq 1 x1 (.n 0) .z)) rfl g (yD i8)) fun i1=>(yE b (a-1)).elim (fun i9=>(yE 1 (0+a)).elim (fun i10=>(yE b (0+a-1)).elim (fun i11=>lin [a-1-b,0+a-1-b,a,0+a-1,b] (.lt 1 x0 x1 (.le 1 x2 (.n 1) (.eq 1 (.a x3 (.n 1)) (.a (.n 0) x2) (.eq 1 (.a x1 x4) x3 .z)))) rfl g i1 (yC i10) (yC i11)) fun i11=>lin [a-1-b,0+a-1-b] (.lt 1 x0 x1 (.eq 1 x1 (.n 0) .z)) rfl g (yD i11)) fun i10=>(yE b (0+a-1)).elim (fun i12=>lin [a-1-b,0+a-1-b,0+a-1,b] (.lt 1 x0 x1 (.eq 1 x2 (.n 0) (.eq 1 (.a x1 x3) x2 .z))) rfl g (yD i10) (yC i12)) fun i12=>lin [a-1-b,0+a-1-b] (.lt 1 x0 x1 (.eq 1 x1 (.n 0) .z)) rfl g (yD i12)) fun i9=>(yE 1 (0+a)).elim (fun i13=>(yE b (0+a-1)).elim (fun i14=>lin [a-1-b,0+a-1-b,a,0+a-1,b] (.lt 1 x0 x1 (.le 1 x2 (.n 1) (.eq 1 (.a x3 (.n 1)) (.a (.n 0) x2) (.eq 1 (.a x1 x4) x3 .z)))) rfl g i1 (yC i13) (yC i14)) fun i14=>lin [a-1-b,0+a-1-b] (.lt 1 x0 x1 (.eq 1 x1 (.n 0) .z)) rfl g (yD i14)) fun i13=>(yE b (0+a-1)).elim (fun i15=>lin [a-1-b,0+a-1-b,0+a-1,b] (.lt 1 x0 x1 (.eq 1 x2 (.n 0) (.eq 1 (.a x1 x3) x2 .z))) rfl g (yD i13) (yC i15)) fun i15=>lin [a-1-b,0+a-1-b] (.lt 1 x0 x1 (.eq 1 x1 (.n 0) .z)) rfl g (yD i15)) (yB fun g=>(yE 1 (0+a)).elim (fun i16=>(yE b (0+a-1)).elim (fun i17=>(yE 1 a).elim (fun i18=>(yE b (a-1)).elim (fun i19=>lin [0+a-1-b,a-1-b,0+a-1,a,b,a-1] (.lt 1 x0 x1 (.qe 1 (.a x2 (.n 1)) (.a (.n 0) x3) (.qe 1 (.a x0 x4) x2 (.eq 1 (.a x5 (.n 1)) x3 (.eq 1 (.a x1 x4) x5 .z))))) rfl g (yC i16) (yC i17) (yC i18) (yC i19)) fun i19=>lin [0+a-1-b,a-1-b] (.lt 1 x0 x1 (.eq 1 x1 (.n 0) .z)) rfl g (yD i19)) fun i18=>(yE b (a-1)).elim (fun i20=>lin [0+a-1-b,a-1-b,a-1,b] (.lt 1 x0 x1 (.eq 1 x2 (.n 0) (.eq 1 (.a x1 x3) x2 .z))) rfl g (yD i18) (yC i20)) fun i20=>lin [0+a-1-b,a-1-b] (.lt 1 x0 x1 (.eq 1 x1 (.n 0) .z)) rfl g (yD i20)) fun i17=>(yE 1 a).elim (fun i21=>(yE b (a-1)).elim (fun i22=>lin [0+a-1-b,a-1-b,0+a-1,a,b,a-1] (.lt 1 x0 x1 (.qe 1 (.a x2 (.n 1)) (.a (.n 0) x3) (.le 1 x2 x4 (.eq 1 (.a x5 (.n 1)) x3 (.eq 1 (.a x1 x4) x5 .z))))) rfl g (yC i16) i17 (yC i21) (yC i22)) fun i22=>lin [0+a-1-b,a-1-b] (.lt 1 x0 x1 (.eq 1 x1 (.n 0) .z)) rfl g (yD i22)) fun i21=>(yE b (a-1)).elim (fun i23=>lin [0+a-1-b,a-1-b,a-1,b] (.lt 1 x0 x1 (.eq 1 x2 (.n 0) (.eq 1 (.a x1 x3) x2 .z))) rfl g (yD i21) (yC i23)) fun i23=>lin [0+a-1-b,a-1-b] (.lt 1 x0 x1 (.eq 1 x1 (.n 0) .z)) rfl g (yD i23)) fun i16=>(yE b (0+a-1)).elim (fun i24=>(yE 1 a).elim (fun i25=>(yE b (a-1)).elim (fun i26=>lin [0+a-1-b,a-1-b,a,a-1,b] (.lt 1 x0 x1 (.le 1 (.a (.n 0) x2) (.n 1) (.eq 1 (.a x3 (.n 1)) x2 (.eq 1 (.a x1 x4) x3 .z)))) rfl g i16 (yC i25) (yC i26)) fun i26=>lin [0+a-1-b,a-1-b] (.lt 1 x0 x1 (.eq 1 x1 (.n 0) .z)) rfl g (yD i26)) fun i25=>(yE b (a-1)).elim (fun i27=>lin [0+a-1-b,a-1-b,a-1,b] (.lt 1 x0 x1 (.eq 1 x2 (.n 0) (.eq 1 (.a x1 x3) x2 .z))) rfl g (yD i25) (yC i27)) fun i27=>lin [0+a-1-b,a-1-b] (.lt 1 x0 x1 (.eq 1 x1 (.n 0) .z)) rfl g (yD i27)) fun i24=>(yE 1 a).elim (fun i28=>(yE b (a-1)).elim (fun i29=>lin [0+a-1-b,a-1-b,a,a-1,b] (.lt 1 x0 x1 (.le 1 (.a (.n 0) x2) (.n 1) (.eq 1 (.a x3 (.n 1)) x2 (.eq 1 (.a x1 x4) x3 .z)))) rfl g i16 (yC i28) (yC i29)) fun i29=>lin [0+a-1-b,a-1-b] (.lt 1 x0 x1 (.eq 1 x1 (.n 0) .z)) rfl g (yD i29)) fun i28=>(yE b (a-1)).elim (fun i30=>lin [0+a-1-b,a-1-b,a-1,b] (.lt 1 x0 x1 (.eq 1 x2 (.n 0) (.eq 1 (.a x1 x3) x2 .z))) rfl g (yD i28) (yC i30)) fun i30=>lin [0+a-1-b,a-1-b] (.lt 1 x0 x1 (.eq 1 x1 (.n 0) .z)) rfl g (yD i30))
theorem rVa{a b c:Nat}(h0:b=c+1)(h1:a<c):a<b:=yA fun g=>lin [b,c,a] (.qe 1 x0 (.a x1 (.n 1)) (.lt 1 x2 x1 (.le 1 x0 x2 .z))) rfl h0 h1 g
theorem mRa{a b:Nat}:a-b≤a:=yB fun g=>(yE b a).elim (fun i1=>lin [a,a-b,b] (.lt 1 x0 x1 (.eq 1 (.a x1 x2) x0 .z)) rfl g (yC i1)) fun i1=>lin [a,a-b] (.lt 1 x0 x1 (.eq 1 x1 (.n 0) .z)) rfl g (yD i1)
theorem rUa{a b c d:Nat}(h0:b=c)(h1:a=d)(h2:d+c<2^20):a+b≤2^24:=yB fun g=>lin [b,c,a,d] (.eq 1 x0 x1 (.eq 1 x2 x3 (.lt 1 (.a x3 x1) (.n 1048576) (.lt 1 (.n 16777216) (.a x2 x0) .z)))) rfl h0 h1 h2 g
theorem rTa{a b c:Nat}(h0:c≤b)(h1:a≤c+1):a≤b+1:=yB fun g=>lin [c,b,a] (.le 1 x0 x1 (.le 1 x2 (.a x0 (.n 1)) (.lt 1 (.a x1 (.n 1)) x2 .z))) rfl h0 h1 g
theorem rSa{a b c:Nat}(h0:a=b-1)(h1:(c<b)∧(b≤a)):False:=(yE 1 b).elim (fun i1=>lin [a,b-1,b] (.eq 1 x0 x1 (.le 1 x2 x0 (.eq 1 (.a x1 (.n 1)) x2 .z))) rfl h0 h1.2 (yC i1)) fun i1=>lin [a,b-1,c,b] (.eq 1 x0 x1 (.lt 1 x2 x3 (.le 1 x3 x0 (.eq 1 x1 (.n 0) .z)))) rfl h0 h1.1 h1.2 (yD i1)
theorem rRa{a:Nat}(h0:a+1≤a):False:=lin [a] (.le 1 (.a x0 (.n 1)) x0 .z) rfl h0
theorem rQa{a b:Nat}(h0:a<b)(h1:b<2):a=0:=yG (yB fun g=>lin [a,b] (.lt 1 x0 x1 (.lt 1 x1 (.n 2) (.lt 1 (.n 0) x0 .z))) rfl h0 h1 g) (yB fun g=>lin [a] (.lt 1 x0 (.n 0) .z) rfl g)
theorem mQa{a b c:Nat}(h0:a≤b):a+1≤b+(c+1+0):=yB fun g=>lin [a,b,c] (.le 1 x0 x1 (.lt 1 (.a x1 (.a (.a x2 (.n 1)) (.n 0))) (.a x0 (.n 1)) .z)) rfl h0 g
theorem mBa{a b c:Nat}(h0:a+(b+1)<c):a+1+b<c:=yA fun g=>lin [a,b,c] (.lt 1 (.a x0 (.a x1 (.n 1))) x2 (.le 1 x2 (.a (.a x0 (.n 1)) x1) .z)) rfl h0 g
theorem rPa{a b c:Nat}(h0:a≤b)(h1:b<c)(h2:c<60):a+1<61:=yA fun g=>lin [a,b,c] (.le 1 x0 x1 (.lt 1 x1 x2 (.lt 1 x2 (.n 60) (.le 1 (.n 61) (.a x0 (.n 1)) .z)))) rfl h0 h1 h2 g
theorem rOa{a b:Nat}(h0:a=b)(h1:b<2^20):a≤16777216:=yB fun g=>lin [a,b] (.eq 1 x0 x1 (.lt 1 x1 (.n 1048576) (.lt 1 (.n 16777216) x0 .z))) rfl h0 h1 g
theorem mPa{a b c:Nat}(h0:a-b≤0)(h1:(b<c)∧(c<a)):False:=(yE b a).elim (fun i1=>lin [a-b,b,c,a] (.le 1 x0 (.n 0) (.lt 1 x1 x2 (.lt 1 x2 x3 (.qe 1 (.a x0 x1) x3 .z)))) rfl h0 h1.1 h1.2 (yC i1)) fun i1=>lin [b,c,a] (.lt 1 x0 x1 (.lt 1 x1 x2 (.le 1 x2 x0 .z))) rfl h1.1 h1.2 i1
theorem rNa{a b c d:Nat}(h0:d≤b)(h1:a-d≤c+1):a-(b+1)≤c:=yB fun g=>(yE d a).elim (fun i1=>(yE (b+1) a).elim (fun i2=>lin [d,b,a-d,c,a-(b+1),a] (.le 1 x0 x1 (.le 1 x2 (.a x3 (.n 1)) (.lt 1 x3 x4 (.qe 1 (.a x2 x0) x5 (.eq 1 (.a x4 (.a x1 (.n 1))) x5 .z))))) rfl h0 h1 g (yC i1) (yC i2)) fun i2=>lin [c,a-(b+1)] (.lt 1 x0 x1 (.eq 1 x1 (.n 0) .z)) rfl g (yD i2)) fun i1=>(yE (b+1) a).elim (fun i3=>lin [d,b,a] (.le 1 x0 x1 (.le 1 x2 x0 (.le 1 (.a x1 (.n 1)) x2 .z))) rfl h0 i1 i3) fun i3=>lin [c,a-(b+1)] (.lt 1 x0 x1 (.eq 1 x1 (.n 0) .z)) rfl g (yD i3)
theorem mOa{a b:Nat}(h0:b<a):a-1<a:=yA fun g=>(yE 1 a).elim (fun i1=>lin [a,a-1] (.le 1 x0 x1 (.eq 1 (.a x1 (.n 1)) x0 .z)) rfl g (yC i1)) fun i1=>lin [b,a,a-1] (.lt 1 x0 x1 (.le 1 x1 x2 (.eq 1 x2 (.n 0) .z))) rfl h0 g (yD i1)
theorem qEa{a b:Nat}(h0:a≤b)(h1:¬(b=a)):a<b:=yA fun g=>(yF h1).elim (fun i1=>lin [a,b] (.le 1 x0 x1 (.lt 1 x1 x0 .z)) rfl h0 i1) fun i1=>lin [b,a] (.le 1 x0 x1 (.lt 1 x1 x0 .z)) rfl g i1
theorem mNa{a b:Nat}(h0:¬(b<a)):a≤b:=yB fun g=>lin [a,b] (.le 1 x0 x1 (.lt 1 x1 x0 .z)) rfl (yB h0) g
theorem mAa{a:Nat}(h0:a<0):False:=lin [a] (.lt 1 x0 (.n 0) .z) rfl h0
theorem rMa{a b c:Nat}(h0:a=b)(h1:c≤a)(h2:b<c):False:=lin [a,b,c] (.eq 1 x0 x1 (.le 1 x2 x0 (.lt 1 x1 x2 .z))) rfl h0 h1 h2
theorem rLa{a:Nat}(h0:a<64):a≤16777216:=yB fun g=>lin [a] (.lt 1 x0 (.n 64) (.lt 1 (.n 16777216) x0 .z)) rfl h0 g
theorem qDa{a:Nat}:a<a+1:=yA fun g=>lin [a] (.le 1 (.a x0 (.n 1)) x0 .z) rfl g
theorem qCa{a b c:Nat}(h0:a<c)(h1:c<b+1):a<b:=yA fun g=>lin [a,c,b] (.lt 1 x0 x1 (.lt 1 x1 (.a x2 (.n 1)) (.le 1 x2 x0 .z))) rfl h0 h1 g
theorem rKa{a b c:Nat}(h0:a<b+1)(h1:c≤b)(h2:¬((c<a)∧(a≤b)))(h3:¬(a=c)):a<b:=yA fun g=>(Decidable.not_and_iff_or_not.mp h2).elim (fun i1=>(yF h3).elim (fun i2=>lin [c,b,a] (.le 1 x0 x1 (.le 1 x1 x2 (.lt 1 x2 x0 .z))) rfl h1 g i2) fun i2=>lin [a,c] (.le 1 x0 x1 (.lt 1 x1 x0 .z)) rfl (yB i1) i2) fun i1=>lin [a,b] (.lt 1 x0 (.a x1 (.n 1)) (.lt 1 x1 x0 .z)) rfl h0 (yA i1)
theorem rJa{a b:Nat}:a+b+1=a+1+b:=yG (yB fun g=>lin [a,b] (.lt 1 (.a (.a x0 (.n 1)) x1) (.a (.a x0 x1) (.n 1)) .z) rfl g) (yB fun g=>lin [a,b] (.lt 1 (.a (.a x0 x1) (.n 1)) (.a (.a x0 (.n 1)) x1) .z) rfl g)
theorem rIa{a b c:Nat}(h0:¬(a=b))(h1:c=b+1)(h2:a<c):a<b:=yA fun g=>(yF h0).elim (fun i1=>lin [b,a] (.le 1 x0 x1 (.lt 1 x1 x0 .z)) rfl g i1) fun i1=>lin [c,b,a] (.eq 1 x0 (.a x1 (.n 1)) (.lt 1 x2 x0 (.lt 1 x1 x2 .z))) rfl h1 h2 i1
theorem rHa{a b c:Nat}(h0:a+(b+1)≤c):a+1+b≤c:=yB fun g=>lin [a,b,c] (.le 1 (.a x0 (.a x1 (.n 1))) x2 (.lt 1 x2 (.a (.a x0 (.n 1)) x1) .z)) rfl h0 g
theorem rGa{a b c:Nat}{p0:Prop}(h0:a-b≤0)(h1:p0∧((b<c)∧(c<a))):False:=(yE b a).elim (fun i1=>lin [a-b,b,c,a] (.le 1 x0 (.n 0) (.lt 1 x1 x2 (.lt 1 x2 x3 (.qe 1 (.a x0 x1) x3 .z)))) rfl h0 h1.2.1 h1.2.2 (yC i1)) fun i1=>lin [b,c,a] (.lt 1 x0 x1 (.lt 1 x1 x2 (.le 1 x2 x0 .z))) rfl h1.2.1 h1.2.2 i1
theorem qBa{a b c:Nat}(h0:a=b)(h1:c<b)(h2:a<c):False:=lin [a,b,c] (.qe 1 x0 x1 (.lt 1 x2 x1 (.lt 1 x0 x2 .z))) rfl h0 h1 h2
theorem qAa{a b c:Nat}(h0:a≤c)(h1:c<b):a<b:=yA fun g=>lin [a,c,b] (.le 1 x0 x1 (.lt 1 x1 x2 (.le 1 x2 x0 .z))) rfl h0 h1 g
theorem rFa{a b:Nat}(h0:a=1)(h1:0<b):a≤b:=yB fun g=>lin [a,b] (.eq 1 x0 (.n 1) (.lt 1 (.n 0) x1 (.lt 1 x1 x0 .z))) rfl h0 h1 g
theorem rEa{a b c:Nat}{p0 p1 p2 p3:Prop}(h0:a=1)(h1:(b<c)∧((c<a)∧(p0∧(p1∧(p2∧p3))))):False:=lin [a,b,c] (.eq 1 x0 (.n 1) (.lt 1 x1 x2 (.lt 1 x2 x0 .z))) rfl h0 h1.1 h1.2.1
theorem qza{a b:Nat}:a≤a+(b+1):=yB fun g=>lin [a,b] (.lt 1 (.a x0 (.a x1 (.n 1))) x0 .z) rfl g
theorem rDa{a b:Nat}(h0:(0≤a)∧(a<b))(h1:¬(a<b)):False:=lin [a,b] (.lt 1 x0 x1 (.le 1 x1 x0 .z)) rfl h0.2 (yB h1)
theorem p8a{a b c:Nat}(h0:a<b+1)(h1:c<b):a-1<b:=yA fun g=>(yE 1 a).elim (fun i1=>lin [a,b,a-1] (.lt 1 x0 (.a x1 (.n 1)) (.le 1 x1 x2 (.eq 1 (.a x2 (.n 1)) x0 .z))) rfl h0 g (yC i1)) fun i1=>lin [c,b,a-1] (.lt 1 x0 x1 (.le 1 x1 x2 (.eq 1 x2 (.n 0) .z))) rfl h1 g (yD i1)
theorem lTa{a b:Nat}(h0:a-b=0)(h1:¬(a<b)):a=b:=yG (yB fun g=>(yE b a).elim (fun i1=>lin [a-b,b,a] (.eq 1 x0 (.n 0) (.lt 1 x1 x2 (.qe 1 (.a x0 x1) x2 .z))) rfl h0 g (yC i1)) fun i1=>lin [b,a] (.lt 1 x0 x1 (.le 1 x1 x0 .z)) rfl g i1) (yB fun g=>lin [b,a] (.le 1 x0 x1 (.lt 1 x1 x0 .z)) rfl (yB h1) g)
theorem p7a{a b c d:Nat}(h0:b<c+1)(h1:d=a)(h2:d<b):(a<b)∧(b≤c):=⟨yA fun g=>lin [d,a,b] (.qe 1 x0 x1 (.lt 1 x0 x2 (.le 1 x2 x1 .z))) rfl h1 h2 g,yB fun g=>lin [b,c] (.lt 1 x0 (.a x1 (.n 1)) (.lt 1 x1 x0 .z)) rfl h0 g⟩
theorem p6a{a b:Nat}(h0:a≤1+1+(b-(1+1)))(h1:1<b):a+(b-a)≤b:=yB fun g=>(yE (1+1) b).elim (fun i1=>(yE a b).elim (fun i2=>lin [b,a,b-a] (.lt 1 x0 (.a x1 x2) (.eq 1 (.a x2 x1) x0 .z)) rfl g (yC i2)) fun i2=>lin [a,b-(1+1),b,b-a] (.le 1 x0 (.a (.a (.n 1) (.n 1)) x1) (.lt 1 x2 (.a x0 x3) (.eq 1 (.a x1 (.a (.n 1) (.n 1))) x2 (.eq 1 x3 (.n 0) .z)))) rfl h0 g (yC i1) (yD i2)) fun i1=>(yE a b).elim (fun i3=>lin [b,a,b-a] (.lt 1 x0 (.a x1 x2) (.eq 1 (.a x2 x1) x0 .z)) rfl g (yC i3)) fun i3=>lin [a,b-(1+1),b,b-a] (.le 1 x0 (.a (.a (.n 1) (.n 1)) x1) (.lt 1 (.n 1) x2 (.lt 1 x2 (.a x0 x3) (.eq 1 x1 (.n 0) (.eq 1 x3 (.n 0) .z))))) rfl h0 h1 g (yD i1) (yD i3)
theorem p5a{a b:Nat}(h0:a≤b)(h1:¬(a=b)):a≤b-1:=yB fun g=>(yE 1 b).elim (fun i1=>(yF h1).elim (fun i2=>lin [b-1,a,b] (.lt 1 x0 x1 (.qe 1 (.a x0 (.n 1)) x2 (.lt 1 x1 x2 .z))) rfl g (yC i1) i2) fun i2=>lin [a,b] (.le 1 x0 x1 (.lt 1 x1 x0 .z)) rfl h0 i2) fun i1=>(yF h1).elim (fun i3=>lin [b-1,a,b] (.lt 1 x0 x1 (.le 1 x2 (.n 1) (.lt 1 x1 x2 .z))) rfl g i1 i3) fun i3=>lin [a,b] (.le 1 x0 x1 (.lt 1 x1 x0 .z)) rfl h0 i3
theorem p4a{a b c:Nat}(h0:c≤b)(h1:a<c):a≤b:=yB fun g=>lin [c,b,a] (.le 1 x0 x1 (.lt 1 x2 x0 (.lt 1 x1 x2 .z))) rfl h0 h1 g
theorem p3a{a b:Nat}(h0:a=2)(h1:b+a=0):False:=lin [a,b] (.qe 1 x0 (.n 2) (.eq 1 (.a x1 x0) (.n 0) .z)) rfl h0 h1
theorem p2a{a:Nat}(h0:a<60):a+1<120:=yA fun g=>lin [a] (.lt 1 x0 (.n 60) (.le 1 (.n 120) (.a x0 (.n 1)) .z)) rfl h0 g
theorem p1a{a b:Nat}:a+1≤a+(b+2):=yB fun g=>lin [a,b] (.lt 1 (.a x0 (.a x1 (.n 2))) (.a x0 (.n 1)) .z) rfl g
theorem p0a{a b:Nat}(h0:b≤a):a-(a-b)=b:=yG (yB fun g=>(yE b a).elim (fun i1=>(yE (a-b) a).elim (fun i2=>lin [b,a-(a-b),a-b,a] (.lt 1 x0 x1 (.qe 1 (.a x2 x0) x3 (.eq 1 (.a x1 x2) x3 .z))) rfl g (yC i1) (yC i2)) fun i2=>lin [b,a-(a-b)] (.lt 1 x0 x1 (.eq 1 x1 (.n 0) .z)) rfl g (yD i2)) fun i1=>(yE (a-b) a).elim (fun i3=>lin [b,a-(a-b),a,a-b] (.lt 1 x0 x1 (.le 1 x2 x0 (.eq 1 (.a x1 x3) x2 .z))) rfl g i1 (yC i3)) fun i3=>lin [b,a-(a-b)] (.lt 1 x0 x1 (.eq 1 x1 (.n 0) .z)) rfl g (yD i3)) (yB fun g=>(yE b a).elim (fun i4=>(yE (a-b) a).elim (fun i5=>lin [a-(a-b),b,a-b,a] (.lt 1 x0 x1 (.eq 1 (.a x2 x1) x3 (.qe 1 (.a x0 x2) x3 .z))) rfl g (yC i4) (yC i5)) fun i5=>lin [a-(a-b),b,a-b,a] (.lt 1 x0 x1 (.eq 1 (.a x2 x1) x3 (.le 1 x3 x2 .z))) rfl g (yC i4) i5) fun i4=>(yE (a-b) a).elim (fun i6=>lin [b,a,a-(a-b),a-b] (.le 1 x0 x1 (.lt 1 x2 x0 (.eq 1 x3 (.n 0) (.qe 1 (.a x2 x3) x1 .z)))) rfl h0 g (yD i4) (yC i6)) fun i6=>lin [b,a,a-(a-b),a-b] (.le 1 x0 x1 (.lt 1 x2 x0 (.eq 1 x3 (.n 0) (.le 1 x1 x3 .z)))) rfl h0 g (yD i4) i6)
theorem jha{a b:Nat}(h0:a=b)(h1:b<a):False:=lin [a,b] (.eq 1 x0 x1 (.lt 1 x1 x0 .z)) rfl h0 h1
theorem pZa{a b c:Nat}{p0 p1:Prop}(h0:a=1)(h1:(b<c)∧((c<a)∧(p0∧p1))):False:=lin [a,b,c] (.eq 1 x0 (.n 1) (.lt 1 x1 x2 (.lt 1 x2 x0 .z))) rfl h0 h1.1 h1.2.1
theorem pYa{a b c:Nat}(h0:a=b)(h1:b<c)(h2:¬(a<c)):False:=lin [a,b,c] (.eq 1 x0 x1 (.lt 1 x1 x2 (.le 1 x2 x0 .z))) rfl h0 h1 (yB h2)
theorem pXa{a b:Nat}(h0:a+b<60):a<60:=yA fun g=>lin [a,b] (.lt 1 (.a x0 x1) (.n 60) (.le 1 (.n 60) x0 .z)) rfl h0 g
theorem pWa{a b c:Nat}(h0:a+(c+1)≤b):a<b:=yA fun g=>lin [a,c,b] (.le 1 (.a x0 (.a x1 (.n 1))) x2 (.le 1 x2 x0 .z)) rfl h0 g
theorem pVa{a b c:Nat}(h0:a≤c)(h1:b<a):a-1-b<c:=yA fun g=>(yE 1 a).elim (fun i1=>(yE b (a-1)).elim (fun i2=>lin [a,c,a-1-b,a-1,b] (.le 1 x0 x1 (.le 1 x1 x2 (.eq 1 (.a x3 (.n 1)) x0 (.eq 1 (.a x2 x4) x3 .z)))) rfl h0 g (yC i1) (yC i2)) fun i2=>lin [a,c,a-1-b] (.le 1 x0 x1 (.le 1 x1 x2 (.le 1 (.n 1) x0 (.eq 1 x2 (.n 0) .z)))) rfl h0 g i1 (yD i2)) fun i1=>(yE b (a-1)).elim (fun i3=>lin [a,c,b,a-1-b,a-1] (.le 1 x0 x1 (.lt 1 x2 x0 (.le 1 x1 x3 (.eq 1 x4 (.n 0) (.eq 1 (.a x3 x2) x4 .z))))) rfl h0 h1 g (yD i1) (yC i3)) fun i3=>lin [a,c,b,a-1-b] (.le 1 x0 x1 (.lt 1 x2 x0 (.le 1 x1 x3 (.eq 1 x3 (.n 0) .z)))) rfl h0 h1 g (yD i3)
theorem pUa{a b c:Nat}(h0:a≤c)(h1:c<b):a+1≤b:=yB fun g=>lin [a,c,b] (.le 1 x0 x1 (.lt 1 x1 x2 (.lt 1 x2 (.a x0 (.n 1)) .z))) rfl h0 h1 g
theorem pTa{a b c d:Nat}(h0:(d≤b)∧(b<c))(h1:(a<d)∧(d<c)):(a≤b)∧(b<c):=⟨yB fun g=>lin [d,b,a] (.le 1 x0 x1 (.lt 1 x2 x0 (.lt 1 x1 x2 .z))) rfl h0.1 h1.1 g,yA fun g=>lin [b,c] (.lt 1 x0 x1 (.le 1 x1 x0 .z)) rfl h0.2 g⟩
theorem kHa{a b:Nat}(h0:b<a):a+1-(b+1)<a+1-b:=yA fun g=>(yE b (a+1)).elim (fun i1=>(yE (b+1) (a+1)).elim (fun i2=>lin [a+1-b,a+1-(b+1),b,a] (.le 1 x0 x1 (.qe 1 (.a x0 x2) (.a x3 (.n 1)) (.eq 1 (.a x1 (.a x2 (.n 1))) (.a x3 (.n 1)) .z))) rfl g (yC i1) (yC i2)) fun i2=>lin [b,a] (.lt 1 x0 x1 (.le 1 (.a x1 (.n 1)) (.a x0 (.n 1)) .z)) rfl h0 i2) fun i1=>lin [b,a] (.lt 1 x0 x1 (.le 1 (.a x1 (.n 1)) x0 .z)) rfl h0 i1
theorem pSa{a b:Nat}(h0:a=b+1)(h1:b<59):a<60:=yA fun g=>lin [a,b] (.eq 1 x0 (.a x1 (.n 1)) (.lt 1 x1 (.n 59) (.le 1 (.n 60) x0 .z))) rfl h0 h1 g
theorem jga{a b c:Nat}(h0:b=c)(h1:a<c):a<b:=yA fun g=>lin [b,c,a] (.qe 1 x0 x1 (.lt 1 x2 x1 (.le 1 x0 x2 .z))) rfl h0 h1 g
theorem pRa{a b:Nat}(h0:a=2)(h1:0+1=b+a):False:=lin [a,b] (.qe 1 x0 (.n 2) (.qe 1 (.a (.n 0) (.n 1)) (.a x1 x0) .z)) rfl h0 h1
theorem kGa{a b c d:Nat}(h0:a≤c)(h1:d≤b)(h2:c<d):a≤b:=yB fun g=>lin [a,c,d,b] (.le 1 x0 x1 (.le 1 x2 x3 (.lt 1 x1 x2 (.lt 1 x3 x0 .z)))) rfl h0 h1 h2 g
theorem pQa{a:Nat}(h0:1≤a):1+(a-1)≤a:=yB fun g=>(yE 1 a).elim (fun i1=>lin [a,a-1] (.lt 1 x0 (.a (.n 1) x1) (.eq 1 (.a x1 (.n 1)) x0 .z)) rfl g (yC i1)) fun i1=>lin [a,a-1] (.le 1 (.n 1) x0 (.lt 1 x0 (.a (.n 1) x1) (.eq 1 x1 (.n 0) .z))) rfl h0 g (yD i1)
theorem pPa{a:Nat}(h0:a<2^20):a+1≤2^24:=yB fun g=>lin [a] (.lt 1 x0 (.n 1048576) (.lt 1 (.n 16777216) (.a x0 (.n 1)) .z)) rfl h0 g
theorem pOa{a b:Nat}(h0:a≤b)(h1:a≠b):a<b:=yA fun g=>(yF h1).elim (fun i1=>lin [b,a] (.le 1 x0 x1 (.lt 1 x1 x0 .z)) rfl g i1) fun i1=>lin [a,b] (.le 1 x0 x1 (.lt 1 x1 x0 .z)) rfl h0 i1
theorem lSa{a b:Nat}(h0:a+1<b):a<b:=yA fun g=>lin [a,b] (.lt 1 (.a x0 (.n 1)) x1 (.le 1 x1 x0 .z)) rfl h0 g
theorem pNa{a b c:Nat}(h0:a≠b)(h1:c+a=c+b):False:=(yF h0).elim (fun i1=>lin [c,a,b] (.qe 1 (.a x0 x1) (.a x0 x2) (.lt 1 x1 x2 .z)) rfl h1 i1) fun i1=>lin [c,a,b] (.eq 1 (.a x0 x1) (.a x0 x2) (.lt 1 x2 x1 .z)) rfl h1 i1
theorem pMa{a b c:Nat}(h0:a<b)(h1:b-1-a=c)(h2:¬(c<b)):False:=(yE 1 b).elim (fun i1=>(yE a (b-1)).elim (fun i2=>lin [b-1-a,c,b,b-1,a] (.qe 1 x0 x1 (.le 1 x2 x1 (.eq 1 (.a x3 (.n 1)) x2 (.eq 1 (.a x0 x4) x3 .z)))) rfl h1 (yB h2) (yC i1) (yC i2)) fun i2=>lin [b-1-a,c,b] (.qe 1 x0 x1 (.le 1 x2 x1 (.le 1 (.n 1) x2 (.eq 1 x0 (.n 0) .z)))) rfl h1 (yB h2) i1 (yD i2)) fun i1=>(yE a (b-1)).elim (fun i3=>lin [a,b,b-1-a,c,b-1] (.lt 1 x0 x1 (.qe 1 x2 x3 (.le 1 x1 x3 (.eq 1 x4 (.n 0) (.eq 1 (.a x2 x0) x4 .z))))) rfl h0 h1 (yB h2) (yD i1) (yC i3)) fun i3=>lin [a,b,b-1-a,c] (.lt 1 x0 x1 (.qe 1 x2 x3 (.le 1 x1 x3 (.eq 1 x2 (.n 0) .z)))) rfl h0 h1 (yB h2) (yD i3)
theorem pLa{a b c:Nat}(h0:b=c)(h1:a=c):a=b:=yG (yB fun g=>lin [b,c,a] (.qe 1 x0 x1 (.eq 1 x2 x1 (.lt 1 x0 x2 .z))) rfl h0 h1 g) (yB fun g=>lin [b,c,a] (.eq 1 x0 x1 (.qe 1 x2 x1 (.lt 1 x2 x0 .z))) rfl h0 h1 g)
theorem pKa{a b:Nat}(h0:a≤b)(h1:b<a):False:=lin [a,b] (.le 1 x0 x1 (.lt 1 x1 x0 .z)) rfl h0 h1
theorem pJa{a b:Nat}(h0:a=1)(h1:b<a)(h2:0<b):False:=lin [a,b] (.eq 1 x0 (.n 1) (.lt 1 x1 x0 (.lt 1 (.n 0) x1 .z))) rfl h0 h1 h2
theorem kFa{a:Nat}(h0:a<2^24):a≤16777216:=yB fun g=>lin [a] (.lt 1 x0 (.n 16777216) (.lt 1 (.n 16777216) x0 .z)) rfl h0 g
theorem lRa{a b c:Nat}(h0:a+(c+1)=b):a<b:=yA fun g=>lin [a,c,b] (.eq 1 (.a x0 (.a x1 (.n 1))) x2 (.le 1 x2 x0 .z)) rfl h0 g
theorem lQa:0≤16777216:=yB fun g=>lin [] (.lt 1 (.n 16777216) (.n 0) .z) rfl g
theorem pIa{a b c d:Nat}(h0:b<c+1)(h1:(a<d)∧(d≤c))(h2:d<b):(a<b)∧(b≤c):=⟨yA fun g=>lin [a,d,b] (.lt 1 x0 x1 (.lt 1 x1 x2 (.le 1 x2 x0 .z))) rfl h1.1 h2 g,yB fun g=>lin [b,c] (.lt 1 x0 (.a x1 (.n 1)) (.lt 1 x1 x0 .z)) rfl h0 g⟩
theorem pHa{a b:Nat}(h0:a≤1+(b-1))(h1:1≤b):a≤b:=yB fun g=>(yE 1 b).elim (fun i1=>lin [a,b-1,b] (.le 1 x0 (.a (.n 1) x1) (.lt 1 x2 x0 (.eq 1 (.a x1 (.n 1)) x2 .z))) rfl h0 g (yC i1)) fun i1=>lin [a,b-1,b] (.le 1 x0 (.a (.n 1) x1) (.le 1 (.n 1) x2 (.lt 1 x2 x0 (.eq 1 x1 (.n 0) .z)))) rfl h0 h1 g (yD i1)
theorem pGa{a b c d:Nat}{p0 p1 p2 p3:Prop}(h0:c≤b)(h1:(a<c)∧((c<d)∧(p0∧(p1∧(p2∧p3))))):a<b:=yA fun g=>lin [c,b,a] (.le 1 x0 x1 (.lt 1 x2 x0 (.le 1 x1 x2 .z))) rfl h0 h1.1 g
theorem pFa{a b c d:Nat}(h0:b=2)(h1:a≤2*d+1)(h2:d<c):a+b≤2*c+1:=yB fun g=>lin [b,a,d,c] (.eq 1 x0 (.n 2) (.le 1 x1 (.a (.m 2 x2) (.n 1)) (.lt 2 x2 x3 (.lt 1 (.a (.m 2 x3) (.n 1)) (.a x1 x0) .z)))) rfl h0 h1 h2 g
theorem pEa{a b c d:Nat}(h0:d-b≤c+1)(h1:a<d):a-b≤c:=yB fun g=>(yE b d).elim (fun i1=>(yE b a).elim (fun i2=>lin [d-b,c,a,d,a-b,b] (.le 1 x0 (.a x1 (.n 1)) (.lt 1 x2 x3 (.lt 1 x1 x4 (.qe 1 (.a x0 x5) x3 (.eq 1 (.a x4 x5) x2 .z))))) rfl h0 h1 g (yC i1) (yC i2)) fun i2=>lin [c,a-b] (.lt 1 x0 x1 (.eq 1 x1 (.n 0) .z)) rfl g (yD i2)) fun i1=>(yE b a).elim (fun i3=>lin [a,d,b] (.lt 1 x0 x1 (.le 1 x1 x2 (.le 1 x2 x0 .z))) rfl h1 i1 i3) fun i3=>lin [c,a-b] (.lt 1 x0 x1 (.eq 1 x1 (.n 0) .z)) rfl g (yD i3)
theorem pDa{a:Nat}(h0:1≤a):0<a:=yA fun g=>lin [a] (.le 1 (.n 1) x0 (.le 1 x0 (.n 0) .z)) rfl h0 g
theorem pCa{a b c:Nat}(h0:a+8*(b+2)+200<c):a+1+3+8*b+200<c:=yA fun g=>lin [a,b,c] (.lt 1 (.a (.a x0 (.m 8 (.a x1 (.n 2)))) (.n 200)) x2 (.le 1 x2 (.a (.a (.a (.a x0 (.n 1)) (.n 3)) (.m 8 x1)) (.n 200)) .z)) rfl h0 g
theorem pBa{a b c:Nat}(h0:a<b)(h1:b-1-c=b-1-a)(h2:c<b)(h3:c≠a):False:=(yE 1 b).elim (fun i1=>(yE c (b-1)).elim (fun i2=>(yE a (b-1)).elim (fun i3=>(yF h3).elim (fun i4=>lin [b-1-c,b-1-a,c,b-1,a] (.eq 1 x0 x1 (.qe 1 (.a x0 x2) x3 (.eq 1 (.a x1 x4) x3 (.lt 1 x2 x4 .z)))) rfl h1 (yC i2) (yC i3) i4) fun i4=>lin [b-1-c,b-1-a,c,b-1,a] (.qe 1 x0 x1 (.eq 1 (.a x0 x2) x3 (.qe 1 (.a x1 x4) x3 (.lt 1 x4 x2 .z)))) rfl h1 (yC i2) (yC i3) i4) fun i3=>(yF h3).elim (fun i5=>lin [a,b,b-1-c,b-1-a,b-1,c] (.lt 1 x0 x1 (.eq 1 x2 x3 (.qe 1 (.a x4 (.n 1)) x1 (.qe 1 (.a x2 x5) x4 (.eq 1 x3 (.n 0) (.lt 1 x5 x0 .z)))))) rfl h0 h1 (yC i1) (yC i2) (yD i3) i5) fun i5=>lin [c,b-1,a] (.le 1 x0 x1 (.le 1 x1 x2 (.lt 1 x2 x0 .z))) rfl i2 i3 i5) fun i2=>(yE a (b-1)).elim (fun i6=>(yF h3).elim (fun i7=>lin [b-1,c,a] (.le 1 x0 x1 (.le 1 x2 x0 (.lt 1 x1 x2 .z))) rfl i2 i6 i7) fun i7=>lin [b-1-c,b-1-a,c,b,b-1,a] (.qe 1 x0 x1 (.lt 1 x2 x3 (.qe 1 (.a x4 (.n 1)) x3 (.eq 1 x0 (.n 0) (.qe 1 (.a x1 x5) x4 (.lt 1 x5 x2 .z)))))) rfl h1 h2 (yC i1) (yD i2) (yC i6) i7) fun i6=>(yF h3).elim (fun i8=>lin [a,b,b-1,c] (.lt 1 x0 x1 (.qe 1 (.a x2 (.n 1)) x1 (.le 1 x2 x3 (.lt 1 x3 x0 .z)))) rfl h0 (yC i1) i2 i8) fun i8=>lin [c,b,b-1,a] (.lt 1 x0 x1 (.qe 1 (.a x2 (.n 1)) x1 (.le 1 x2 x3 (.lt 1 x3 x0 .z)))) rfl h2 (yC i1) i6 i8) fun i1=>(yE c (b-1)).elim (fun i9=>(yE a (b-1)).elim (fun i10=>(yF h3).elim (fun i11=>lin [a,b,c] (.lt 1 x0 x1 (.le 1 x1 (.n 1) (.lt 1 x2 x0 .z))) rfl h0 i1 i11) fun i11=>lin [b-1-c,b-1-a,c,b-1,a] (.qe 1 x0 x1 (.eq 1 (.a x0 x2) x3 (.qe 1 (.a x1 x4) x3 (.lt 1 x4 x2 .z)))) rfl h1 (yC i9) (yC i10) i11) fun i10=>(yF h3).elim (fun i12=>lin [a,b,c] (.lt 1 x0 x1 (.le 1 x1 (.n 1) (.lt 1 x2 x0 .z))) rfl h0 i1 i12) fun i12=>lin [c,b-1,a] (.le 1 x0 x1 (.le 1 x1 x2 (.lt 1 x2 x0 .z))) rfl i9 i10 i12) fun i9=>(yE a (b-1)).elim (fun i13=>(yF h3).elim (fun i14=>lin [b-1,c,a] (.le 1 x0 x1 (.le 1 x2 x0 (.lt 1 x1 x2 .z))) rfl i9 i13 i14) fun i14=>lin [c,b,a] (.lt 1 x0 x1 (.le 1 x1 (.n 1) (.lt 1 x2 x0 .z))) rfl h2 i1 i14) fun i13=>(yF h3).elim (fun i15=>lin [a,b,c] (.lt 1 x0 x1 (.le 1 x1 (.n 1) (.lt 1 x2 x0 .z))) rfl h0 i1 i15) fun i15=>lin [c,b,a] (.lt 1 x0 x1 (.le 1 x1 (.n 1) (.lt 1 x2 x0 .z))) rfl h2 i1 i15
theorem kEa{a b:Nat}(h0:a<b)(h1:b<a):False:=lin [a,b] (.lt 1 x0 x1 (.lt 1 x1 x0 .z)) rfl h0 h1
theorem pAa{a b c:Nat}(h0:a=b)(h1:c<a)(h2:b<c):False:=lin [a,b,c] (.eq 1 x0 x1 (.lt 1 x2 x0 (.lt 1 x1 x2 .z))) rfl h0 h1 h2
theorem pza{a b c:Nat}(h0:a=c)(h1:c=b):a=b:=yG (yB fun g=>lin [a,c,b] (.eq 1 x0 x1 (.eq 1 x1 x2 (.lt 1 x2 x0 .z))) rfl h0 h1 g) (yB fun g=>lin [a,c,b] (.qe 1 x0 x1 (.qe 1 x1 x2 (.lt 1 x0 x2 .z))) rfl h0 h1 g)
theorem pya{a:Nat}(h0:1≤a)(h1:¬(1<a)):a=1:=yG (yB fun g=>lin [a] (.le 1 x0 (.n 1) (.lt 1 (.n 1) x0 .z)) rfl (yB h1) g) (yB fun g=>lin [a] (.le 1 (.n 1) x0 (.lt 1 x0 (.n 1) .z)) rfl h0 g)
theorem pxa{a:Nat}(h0:1<a):0<a-1:=yA fun g=>(yE 1 a).elim (fun i1=>lin [a,a-1] (.lt 1 (.n 1) x0 (.le 1 x1 (.n 0) (.qe 1 (.a x1 (.n 1)) x0 .z))) rfl h0 g (yC i1)) fun i1=>lin [a] (.lt 1 (.n 1) x0 (.le 1 x0 (.n 1) .z)) rfl h0 i1
theorem pwa{a b:Nat}(h0:a<1)(h1:b<a):False:=lin [a,b] (.lt 1 x0 (.n 1) (.lt 1 x1 x0 .z)) rfl h0 h1
theorem pva{a b c:Nat}(h0:c=a)(h1:c<b):a≤b-1:=yB fun g=>(yE 1 b).elim (fun i1=>lin [c,a,b,b-1] (.qe 1 x0 x1 (.lt 1 x0 x2 (.lt 1 x3 x1 (.qe 1 (.a x3 (.n 1)) x2 .z)))) rfl h0 h1 g (yC i1)) fun i1=>lin [c,a,b,b-1] (.qe 1 x0 x1 (.lt 1 x0 x2 (.lt 1 x3 x1 (.le 1 x2 (.n 1) .z)))) rfl h0 h1 g i1
theorem pua{a b c d:Nat}{p0 p1 p2 p3:Prop}(h0:(d<b)∧((b<a)∧(p0∧(p1∧(p2∧p3)))))(h1:a-d≤c+1):a-b≤c:=yB fun g=>(yE d a).elim (fun i1=>(yE b a).elim (fun i2=>lin [d,b,a-d,c,a-b,a] (.lt 1 x0 x1 (.le 1 x2 (.a x3 (.n 1)) (.lt 1 x3 x4 (.qe 1 (.a x2 x0) x5 (.eq 1 (.a x4 x1) x5 .z))))) rfl h0.1 h1 g (yC i1) (yC i2)) fun i2=>lin [b,a] (.lt 1 x0 x1 (.le 1 x1 x0 .z)) rfl h0.2.1 i2) fun i1=>lin [d,b,a] (.lt 1 x0 x1 (.lt 1 x1 x2 (.le 1 x2 x0 .z))) rfl h0.1 h0.2.1 i1
theorem jfa{a b c:Nat}(h0:a=c)(h1:c<b):a<b:=yA fun g=>lin [a,c,b] (.eq 1 x0 x1 (.lt 1 x1 x2 (.le 1 x2 x0 .z))) rfl h0 h1 g
theorem pta{a b c:Nat}(h0:a=b)(h1:c≤a)(h2:¬((c<b)∧(b≤a)))(h3:¬(b=c)):False:=(Decidable.not_and_iff_or_not.mp h2).elim (fun i1=>(yF h3).elim (fun i2=>lin [a,b,c] (.eq 1 x0 x1 (.le 1 x2 x0 (.lt 1 x1 x2 .z))) rfl h0 h1 i2) fun i2=>lin [b,c] (.le 1 x0 x1 (.lt 1 x1 x0 .z)) rfl (yB i1) i2) fun i1=>lin [a,b] (.qe 1 x0 x1 (.lt 1 x0 x1 .z)) rfl h0 (yA i1)
theorem psa{a b:Nat}(h0:a≤0)(h1:b<a):False:=lin [a,b] (.le 1 x0 (.n 0) (.lt 1 x1 x0 .z)) rfl h0 h1
theorem pra{a b c d:Nat}(h0:a<b)(h1:(c<a)∧(a≤d)):a-1<b-1:=yA fun g=>(yE 1 b).elim (fun i1=>(yE 1 a).elim (fun i2=>lin [a,b,b-1,a-1] (.lt 1 x0 x1 (.le 1 x2 x3 (.qe 1 (.a x2 (.n 1)) x1 (.eq 1 (.a x3 (.n 1)) x0 .z)))) rfl h0 g (yC i1) (yC i2)) fun i2=>lin [a,b,c,b-1,a-1] (.lt 1 x0 x1 (.lt 1 x2 x0 (.le 1 x3 x4 (.qe 1 (.a x3 (.n 1)) x1 (.eq 1 x4 (.n 0) .z))))) rfl h0 h1.1 g (yC i1) (yD i2)) fun i1=>lin [a,b,c] (.lt 1 x0 x1 (.lt 1 x2 x0 (.le 1 x1 (.n 1) .z))) rfl h0 h1.1 i1
theorem pqa{a b c:Nat}(h0:c≤b)(h1:a≤c):a≤b:=yB fun g=>lin [c,b,a] (.le 1 x0 x1 (.le 1 x2 x0 (.lt 1 x1 x2 .z))) rfl h0 h1 g
theorem ppa{a b c d e:Nat}(h0:c<b)(h1:d≤c)(h2:e<d)(h3:a<e+1):a<b:=yA fun g=>lin [c,b,d,e,a] (.lt 1 x0 x1 (.le 1 x2 x0 (.lt 1 x3 x2 (.lt 1 x4 (.a x3 (.n 1)) (.le 1 x1 x4 .z))))) rfl h0 h1 h2 h3 g
theorem poa{a b:Nat}(h0:a≤1+1+(b-(1+1)))(h1:1<b):a≤b:=yB fun g=>(yE (1+1) b).elim (fun i1=>lin [a,b-(1+1),b] (.le 1 x0 (.a (.a (.n 1) (.n 1)) x1) (.lt 1 x2 x0 (.eq 1 (.a x1 (.a (.n 1) (.n 1))) x2 .z))) rfl h0 g (yC i1)) fun i1=>lin [a,b-(1+1),b] (.le 1 x0 (.a (.a (.n 1) (.n 1)) x1) (.lt 1 (.n 1) x2 (.lt 1 x2 x0 (.eq 1 x1 (.n 0) .z)))) rfl h0 h1 g (yD i1)
theorem pna{a b c:Nat}(h0:c<a):a-1-b<a:=yA fun g=>(yE 1 a).elim (fun i1=>(yE b (a-1)).elim (fun i2=>lin [a,a-1-b,a-1,b] (.le 1 x0 x1 (.eq 1 (.a x2 (.n 1)) x0 (.eq 1 (.a x1 x3) x2 .z))) rfl g (yC i1) (yC i2)) fun i2=>lin [a,a-1-b] (.le 1 x0 x1 (.le 1 (.n 1) x0 (.eq 1 x1 (.n 0) .z))) rfl g i1 (yD i2)) fun i1=>(yE b (a-1)).elim (fun i3=>lin [c,a,a-1-b,a-1,b] (.lt 1 x0 x1 (.le 1 x1 x2 (.eq 1 x3 (.n 0) (.eq 1 (.a x2 x4) x3 .z)))) rfl h0 g (yD i1) (yC i3)) fun i3=>lin [c,a,a-1-b] (.lt 1 x0 x1 (.le 1 x1 x2 (.eq 1 x2 (.n 0) .z))) rfl h0 g (yD i3)
theorem pma{a b:Nat}(h0:b<a):0<a:=yA fun g=>lin [b,a] (.lt 1 x0 x1 (.le 1 x1 (.n 0) .z)) rfl h0 g
theorem pla{a b c d:Nat}(h0:a=b-1)(h1:¬(a=c))(h2:(c<b)∧(b≤d))(h3:¬((c<a)∧(a≤d))):False:=(yE 1 b).elim (fun i1=>(yF h1).elim (fun i2=>lin [a,b-1,c,b] (.qe 1 x0 x1 (.lt 1 x2 x3 (.qe 1 (.a x1 (.n 1)) x3 (.lt 1 x0 x2 .z)))) rfl h0 h2.1 (yC i1) i2) fun i2=>(Decidable.not_and_iff_or_not.mp h3).elim (fun i3=>lin [c,a] (.lt 1 x0 x1 (.le 1 x1 x0 .z)) rfl i2 (yB i3)) fun i3=>lin [a,b-1,b,d] (.eq 1 x0 x1 (.le 1 x2 x3 (.eq 1 (.a x1 (.n 1)) x2 (.lt 1 x3 x0 .z)))) rfl h0 h2.2 (yC i1) (yA i3)) fun i1=>(yF h1).elim (fun i4=>lin [c,b,a] (.lt 1 x0 x1 (.le 1 x1 (.n 1) (.lt 1 x2 x0 .z))) rfl h2.1 i1 i4) fun i4=>lin [a,b-1,c] (.eq 1 x0 x1 (.eq 1 x1 (.n 0) (.lt 1 x2 x0 .z))) rfl h0 (yD i1) i4
theorem pka{a b c:Nat}(h0:a=c)(h1:b=c):a≤b:=yB fun g=>lin [a,c,b] (.eq 1 x0 x1 (.qe 1 x2 x1 (.lt 1 x2 x0 .z))) rfl h0 h1 g
theorem pja{a b c:Nat}(h0:a-1=b)(h1:(c<a)∧(a≤b)):False:=(yE 1 a).elim (fun i1=>lin [a-1,b,a] (.qe 1 x0 x1 (.le 1 x2 x1 (.eq 1 (.a x0 (.n 1)) x2 .z))) rfl h0 h1.2 (yC i1)) fun i1=>lin [a-1,b,c,a] (.qe 1 x0 x1 (.lt 1 x2 x3 (.le 1 x3 x1 (.eq 1 x0 (.n 0) .z)))) rfl h0 h1.1 h1.2 (yD i1)
theorem pia{a:Nat}(h0:1<a):1+1+(a-(1+1))≤a:=yB fun g=>(yE (1+1) a).elim (fun i1=>lin [a,a-(1+1)] (.lt 1 x0 (.a (.a (.n 1) (.n 1)) x1) (.eq 1 (.a x1 (.a (.n 1) (.n 1))) x0 .z)) rfl g (yC i1)) fun i1=>lin [a,a-(1+1)] (.lt 1 (.n 1) x0 (.lt 1 x0 (.a (.a (.n 1) (.n 1)) x1) (.eq 1 x1 (.n 0) .z))) rfl h0 g (yD i1)
theorem pha{a b c:Nat}(h0:a<b)(h1:c=b-1-a)(h2:¬(c<b)):False:=(yE 1 b).elim (fun i1=>(yE a (b-1)).elim (fun i2=>lin [c,b-1-a,b,b-1,a] (.eq 1 x0 x1 (.le 1 x2 x0 (.eq 1 (.a x3 (.n 1)) x2 (.eq 1 (.a x1 x4) x3 .z)))) rfl h1 (yB h2) (yC i1) (yC i2)) fun i2=>lin [c,b-1-a,b] (.eq 1 x0 x1 (.le 1 x2 x0 (.le 1 (.n 1) x2 (.eq 1 x1 (.n 0) .z)))) rfl h1 (yB h2) i1 (yD i2)) fun i1=>(yE a (b-1)).elim (fun i3=>lin [a,b,c,b-1-a,b-1] (.lt 1 x0 x1 (.eq 1 x2 x3 (.le 1 x1 x2 (.eq 1 x4 (.n 0) (.eq 1 (.a x3 x0) x4 .z))))) rfl h0 h1 (yB h2) (yD i1) (yC i3)) fun i3=>lin [a,b,c,b-1-a] (.lt 1 x0 x1 (.eq 1 x2 x3 (.le 1 x1 x2 (.eq 1 x3 (.n 0) .z)))) rfl h0 h1 (yB h2) (yD i3)
theorem pga{a b:Nat}(h0:a<b):a≤b:=yB fun g=>lin [a,b] (.lt 1 x0 x1 (.lt 1 x1 x0 .z)) rfl h0 g
theorem pfa{a b c d:Nat}(h0:a-d≤c+1)(h1:d<b):a-b≤c:=yB fun g=>(yE d a).elim (fun i1=>(yE b a).elim (fun i2=>lin [a-d,c,d,b,a-b,a] (.le 1 x0 (.a x1 (.n 1)) (.lt 1 x2 x3 (.lt 1 x1 x4 (.qe 1 (.a x0 x2) x5 (.eq 1 (.a x4 x3) x5 .z))))) rfl h0 h1 g (yC i1) (yC i2)) fun i2=>lin [c,a-b] (.lt 1 x0 x1 (.eq 1 x1 (.n 0) .z)) rfl g (yD i2)) fun i1=>(yE b a).elim (fun i3=>lin [d,b,a] (.lt 1 x0 x1 (.le 1 x2 x0 (.le 1 x1 x2 .z))) rfl h1 i1 i3) fun i3=>lin [c,a-b] (.lt 1 x0 x1 (.eq 1 x1 (.n 0) .z)) rfl g (yD i3)
theorem pea{a b c d:Nat}(h0:b=c)(h1:a=d)(h2:d+c<2^12):a+b≤16384:=yB fun g=>lin [b,c,a,d] (.eq 1 x0 x1 (.eq 1 x2 x3 (.lt 1 (.a x3 x1) (.n 4096) (.lt 1 (.n 16384) (.a x2 x0) .z)))) rfl h0 h1 h2 g
theorem pda{a b:Nat}:a+(b+1)=a+1+b:=yG (yB fun g=>lin [a,b] (.lt 1 (.a (.a x0 (.n 1)) x1) (.a x0 (.a x1 (.n 1))) .z) rfl g) (yB fun g=>lin [a,b] (.lt 1 (.a x0 (.a x1 (.n 1))) (.a (.a x0 (.n 1)) x1) .z) rfl g)
theorem pca{a b c:Nat}{p0 p1:Prop}(h0:(a<b)∧((b<c)∧(p0∧p1))):(a≤b)∧(b<c):=⟨yB fun g=>lin [a,b] (.lt 1 x0 x1 (.lt 1 x1 x0 .z)) rfl h0.1 g,yA fun g=>lin [b,c] (.lt 1 x0 x1 (.le 1 x1 x0 .z)) rfl h0.2.1 g⟩
theorem pba{a b:Nat}(h0:a<2)(h1:b<a):a=1:=yG (yB fun g=>lin [a] (.lt 1 x0 (.n 2) (.lt 1 (.n 1) x0 .z)) rfl h0 g) (yB fun g=>lin [b,a] (.lt 1 x0 x1 (.lt 1 x1 (.n 1) .z)) rfl h1 g)
theorem paa{a:Nat}(h0:a+1+1<2):False:=lin [a] (.lt 1 (.a (.a x0 (.n 1)) (.n 1)) (.n 2) .z) rfl h0
theorem o9a{a b:Nat}(h0:a≤b)(h1:¬(a<b)):a=b:=yG (yB fun g=>lin [a,b] (.le 1 x0 x1 (.lt 1 x1 x0 .z)) rfl h0 g) (yB fun g=>lin [b,a] (.le 1 x0 x1 (.lt 1 x1 x0 .z)) rfl (yB h1) g)
theorem o8a{a b c:Nat}(h0:b<a)(h1:c<b):a-1-b<a-1-c:=yA fun g=>(yE 1 a).elim (fun i1=>(yE c (a-1)).elim (fun i2=>(yE b (a-1)).elim (fun i3=>lin [c,b,a-1-c,a-1-b,a-1] (.lt 1 x0 x1 (.le 1 x2 x3 (.qe 1 (.a x2 x0) x4 (.eq 1 (.a x3 x1) x4 .z)))) rfl h1 g (yC i2) (yC i3)) fun i3=>lin [b,a,c,a-1-c,a-1-b,a-1] (.lt 1 x0 x1 (.lt 1 x2 x0 (.le 1 x3 x4 (.qe 1 (.a x5 (.n 1)) x1 (.qe 1 (.a x3 x2) x5 (.eq 1 x4 (.n 0) .z)))))) rfl h0 h1 g (yC i1) (yC i2) (yD i3)) fun i2=>lin [b,a,c,a-1] (.lt 1 x0 x1 (.lt 1 x2 x0 (.qe 1 (.a x3 (.n 1)) x1 (.le 1 x3 x2 .z)))) rfl h0 h1 (yC i1) i2) fun i1=>lin [b,a,c] (.lt 1 x0 x1 (.lt 1 x2 x0 (.le 1 x1 (.n 1) .z))) rfl h0 h1 i1
theorem o7a{a b:Nat}(h0:a=2)(h1:b+a=0+1):False:=lin [a,b] (.qe 1 x0 (.n 2) (.eq 1 (.a x1 x0) (.a (.n 0) (.n 1)) .z)) rfl h0 h1
theorem o6a{a:Nat}(h0:a<2^20):a≤2^24:=yB fun g=>lin [a] (.lt 1 x0 (.n 1048576) (.lt 1 (.n 16777216) x0 .z)) rfl h0 g
theorem o5a{a b:Nat}(h0:a+1≤b):a≤b:=yB fun g=>lin [a,b] (.le 1 (.a x0 (.n 1)) x1 (.lt 1 x1 x0 .z)) rfl h0 g
theorem o4a{a b:Nat}(h0:a<b+1):a-b=0:=yG (yB fun g=>(yE b a).elim (fun i1=>lin [a,b,a-b] (.lt 1 x0 (.a x1 (.n 1)) (.lt 1 (.n 0) x2 (.eq 1 (.a x2 x1) x0 .z))) rfl h0 g (yC i1)) fun i1=>lin [a-b] (.lt 1 (.n 0) x0 (.eq 1 x0 (.n 0) .z)) rfl g (yD i1)) (yB fun g=>lin [a-b] (.lt 1 x0 (.n 0) .z) rfl g)
theorem o3a{a b c:Nat}(h0:a=b+1+c):a=b+(c+1):=yG (yB fun g=>lin [a,b,c] (.eq 1 x0 (.a (.a x1 (.n 1)) x2) (.lt 1 (.a x1 (.a x2 (.n 1))) x0 .z)) rfl h0 g) (yB fun g=>lin [a,b,c] (.qe 1 x0 (.a (.a x1 (.n 1)) x2) (.lt 1 x0 (.a x1 (.a x2 (.n 1))) .z)) rfl h0 g)
theorem lPa{a b:Nat}(h0:a+1=b+1):a=b:=yG (yB fun g=>lin [a,b] (.eq 1 (.a x0 (.n 1)) (.a x1 (.n 1)) (.lt 1 x1 x0 .z)) rfl h0 g) (yB fun g=>lin [a,b] (.qe 1 (.a x0 (.n 1)) (.a x1 (.n 1)) (.lt 1 x0 x1 .z)) rfl h0 g)
theorem o2a{a b c:Nat}(h0:a=b+1+c):a+1=b+1+(c+1):=yG (yB fun g=>lin [a,b,c] (.eq 1 x0 (.a (.a x1 (.n 1)) x2) (.lt 1 (.a (.a x1 (.n 1)) (.a x2 (.n 1))) (.a x0 (.n 1)) .z)) rfl h0 g) (yB fun g=>lin [a,b,c] (.qe 1 x0 (.a (.a x1 (.n 1)) x2) (.lt 1 (.a x0 (.n 1)) (.a (.a x1 (.n 1)) (.a x2 (.n 1))) .z)) rfl h0 g)
theorem o1a{a b c d:Nat}(h0:b+(c+1)+a≤d)(h1:d<60):a<60:=yA fun g=>lin [b,c,a,d] (.le 1 (.a (.a x0 (.a x1 (.n 1))) x2) x3 (.lt 1 x3 (.n 60) (.le 1 (.n 60) x2 .z))) rfl h0 h1 g
theorem o0a{a:Nat}(h0:a≤1000):a≤2^24:=yB fun g=>lin [a] (.le 1 x0 (.n 1000) (.lt 1 (.n 16777216) x0 .z)) rfl h0 g
theorem oZa{a b:Nat}(h0:a<60):a-(b+1)<60:=yA fun g=>(yE (b+1) a).elim (fun i1=>lin [a,a-(b+1),b] (.lt 1 x0 (.n 60) (.le 1 (.n 60) x1 (.eq 1 (.a x1 (.a x2 (.n 1))) x0 .z))) rfl h0 g (yC i1)) fun i1=>lin [a-(b+1)] (.le 1 (.n 60) x0 (.eq 1 x0 (.n 0) .z)) rfl g (yD i1)
theorem oYa{a b c d:Nat}(h0:(d<b)∧(b<c))(h1:(a<d)∧(d<c)):(a<b)∧(b<c):=⟨yA fun g=>lin [d,b,a] (.lt 1 x0 x1 (.lt 1 x2 x0 (.le 1 x1 x2 .z))) rfl h0.1 h1.1 g,yA fun g=>lin [b,c] (.lt 1 x0 x1 (.le 1 x1 x0 .z)) rfl h0.2 g⟩
theorem oXa{a b:Nat}(h0:a<60)(h1:b<60):a+b<120:=yA fun g=>lin [a,b] (.lt 1 x0 (.n 60) (.lt 1 x1 (.n 60) (.le 1 (.n 120) (.a x0 x1) .z))) rfl h0 h1 g
theorem oWa{a b c d:Nat}(h0:a<b)(h1:¬(a=c))(h2:(c<b)∧(b≤d))(h3:¬((c<a)∧(a≤d))):a<b-1:=yA fun g=>(yE 1 b).elim (fun i1=>(yF h1).elim (fun i2=>lin [c,b,b-1,a] (.lt 1 x0 x1 (.le 1 x2 x3 (.qe 1 (.a x2 (.n 1)) x1 (.lt 1 x3 x0 .z)))) rfl h2.1 g (yC i1) i2) fun i2=>(Decidable.not_and_iff_or_not.mp h3).elim (fun i3=>lin [c,a] (.lt 1 x0 x1 (.le 1 x1 x0 .z)) rfl i2 (yB i3)) fun i3=>lin [a,b,d] (.lt 1 x0 x1 (.le 1 x1 x2 (.lt 1 x2 x0 .z))) rfl h0 h2.2 (yA i3)) fun i1=>(yF h1).elim (fun i4=>lin [c,b,a] (.lt 1 x0 x1 (.le 1 x1 (.n 1) (.lt 1 x2 x0 .z))) rfl h2.1 i1 i4) fun i4=>lin [a,b,c] (.lt 1 x0 x1 (.le 1 x1 (.n 1) (.lt 1 x2 x0 .z))) rfl h0 i1 i4
theorem oVa:0+1<120:=yA fun g=>lin [] (.le 1 (.n 120) (.a (.n 0) (.n 1)) .z) rfl g
theorem oUa{a b c:Nat}(h0:a=b+c):a+1=b+(c+1):=yG (yB fun g=>lin [a,b,c] (.eq 1 x0 (.a x1 x2) (.lt 1 (.a x1 (.a x2 (.n 1))) (.a x0 (.n 1)) .z)) rfl h0 g) (yB fun g=>lin [a,b,c] (.qe 1 x0 (.a x1 x2) (.lt 1 (.a x0 (.n 1)) (.a x1 (.a x2 (.n 1))) .z)) rfl h0 g)
theorem oTa{a b:Nat}(h0:b=a)(h1:¬(2≤b)):a<2:=yA fun g=>lin [b,a] (.qe 1 x0 x1 (.lt 1 x0 (.n 2) (.le 1 (.n 2) x1 .z))) rfl h0 (yA h1) g
theorem oSa{a b:Nat}:a≤a+b:=yB fun g=>lin [a,b] (.lt 1 (.a x0 x1) x0 .z) rfl g
theorem lOa{a b c:Nat}(h0:a≤c)(h1:c<b):a≤b:=yB fun g=>lin [a,c,b] (.le 1 x0 x1 (.lt 1 x1 x2 (.lt 1 x2 x0 .z))) rfl h0 h1 g
theorem lNa{a:Nat}:a<a+1+1:=yA fun g=>lin [a] (.le 1 (.a (.a x0 (.n 1)) (.n 1)) x0 .z) rfl g
theorem oRa{a b c:Nat}(h0:b=a)(h1:a<c):(a≤b)∧(b<c):=⟨yB fun g=>lin [b,a] (.qe 1 x0 x1 (.lt 1 x0 x1 .z)) rfl h0 g,yA fun g=>lin [b,a,c] (.eq 1 x0 x1 (.lt 1 x1 x2 (.le 1 x2 x0 .z))) rfl h0 h1 g⟩
theorem oQa{a b c:Nat}(h0:a+(b+2)<c):a+1+1+b<c:=yA fun g=>lin [a,b,c] (.lt 1 (.a x0 (.a x1 (.n 2))) x2 (.le 1 x2 (.a (.a (.a x0 (.n 1)) (.n 1)) x1) .z)) rfl h0 g
theorem oPa{a b c:Nat}(h0:a+(b+1)=c):a+1+b=c:=yG (yB fun g=>lin [a,b,c] (.eq 1 (.a x0 (.a x1 (.n 1))) x2 (.lt 1 x2 (.a (.a x0 (.n 1)) x1) .z)) rfl h0 g) (yB fun g=>lin [a,b,c] (.qe 1 (.a x0 (.a x1 (.n 1))) x2 (.lt 1 (.a (.a x0 (.n 1)) x1) x2 .z)) rfl h0 g)
theorem oOa{a b:Nat}(h0:¬(b≤a)):a≤b:=yB fun g=>lin [a,b] (.lt 1 x0 x1 (.lt 1 x1 x0 .z)) rfl (yA h0) g
theorem oNa{a b:Nat}(h0:a≤b)(h1:b-1<a)(h2:¬(a=b)):False:=(yE 1 b).elim (fun i1=>(yF h2).elim (fun i2=>lin [b-1,a,b] (.lt 1 x0 x1 (.qe 1 (.a x0 (.n 1)) x2 (.lt 1 x1 x2 .z))) rfl h1 (yC i1) i2) fun i2=>lin [a,b] (.le 1 x0 x1 (.lt 1 x1 x0 .z)) rfl h0 i2) fun i1=>(yF h2).elim (fun i3=>lin [b-1,a,b] (.lt 1 x0 x1 (.le 1 x2 (.n 1) (.lt 1 x1 x2 .z))) rfl h1 i1 i3) fun i3=>lin [a,b] (.le 1 x0 x1 (.lt 1 x1 x0 .z)) rfl h0 i3
theorem oMa{a b:Nat}(h0:a<b):a+1≤b:=yB fun g=>lin [a,b] (.lt 1 x0 x1 (.lt 1 x1 (.a x0 (.n 1)) .z)) rfl h0 g
theorem lMa{a:Nat}:0<a+1:=yA fun g=>lin [a] (.le 1 (.a x0 (.n 1)) (.n 0) .z) rfl g
theorem oLa{a b c:Nat}(h0:a≤b+c):a≤b+(c+1):=yB fun g=>lin [a,b,c] (.le 1 x0 (.a x1 x2) (.lt 1 (.a x1 (.a x2 (.n 1))) x0 .z)) rfl h0 g
theorem oKa{a b:Nat}(h0:a<b)(h1:b=1):a=0:=yG (yB fun g=>lin [a,b] (.lt 1 x0 x1 (.eq 1 x1 (.n 1) (.lt 1 (.n 0) x0 .z))) rfl h0 h1 g) (yB fun g=>lin [a] (.lt 1 x0 (.n 0) .z) rfl g)
theorem oJa{a b:Nat}(h0:a<b)(h1:b<2^20):a<2^24:=yA fun g=>lin [a,b] (.lt 1 x0 x1 (.lt 1 x1 (.n 1048576) (.le 1 (.n 16777216) x0 .z))) rfl h0 h1 g
theorem oIa:0≤16777216+1:=yB fun g=>lin [] (.lt 1 (.a (.n 16777216) (.n 1)) (.n 0) .z) rfl g
theorem oHa{a b c:Nat}(h0:a≤b)(h1:b<c)(h2:c<60):a+1<120:=yA fun g=>lin [a,b,c] (.le 1 x0 x1 (.lt 1 x1 x2 (.lt 1 x2 (.n 60) (.le 1 (.n 120) (.a x0 (.n 1)) .z)))) rfl h0 h1 h2 g
theorem oGa{a:Nat}(h0:a+1+1+1=a+1+1):False:=lin [a] (.eq 1 (.a (.a (.a x0 (.n 1)) (.n 1)) (.n 1)) (.a (.a x0 (.n 1)) (.n 1)) .z) rfl h0
theorem oFa{a b c:Nat}(h0:b<4096)(h1:a=c)(h2:c<200):a+b<2^20:=yA fun g=>lin [b,a,c] (.lt 1 x0 (.n 4096) (.eq 1 x1 x2 (.lt 1 x2 (.n 200) (.le 1 (.n 1048576) (.a x1 x0) .z)))) rfl h0 h1 h2 g
theorem oEa{a b:Nat}(h0:a≤3*(5+b)+2)(h1:b<4):a<60:=yA fun g=>lin [a,b] (.le 1 x0 (.a (.m 3 (.a (.n 5) x1)) (.n 2)) (.lt 3 x1 (.n 4) (.le 1 (.n 60) x0 .z))) rfl h0 h1 g
theorem oDa{a:Nat}(h0:a=12):a<1000:=yA fun g=>lin [a] (.eq 1 x0 (.n 12) (.le 1 (.n 1000) x0 .z)) rfl h0 g
theorem oCa{a b:Nat}(h0:a≤b)(h1:b<60):0+1+a<2^20:=yA fun g=>lin [a,b] (.le 1 x0 x1 (.lt 1 x1 (.n 60) (.le 1 (.n 1048576) (.a (.a (.n 0) (.n 1)) x0) .z))) rfl h0 h1 g
theorem oBa{a:Nat}(h0:a+1+1+1=a+1):False:=lin [a] (.eq 1 (.a (.a (.a x0 (.n 1)) (.n 1)) (.n 1)) (.a x0 (.n 1)) .z) rfl h0
theorem lLa{a:Nat}(h0:a<4096):a≤16777216:=yB fun g=>lin [a] (.lt 1 x0 (.n 4096) (.lt 1 (.n 16777216) x0 .z)) rfl h0 g
theorem kDa{a b c:Nat}(h0:a≤b)(h1:b<c)(h2:c<60):0+1+a<2^20:=yA fun g=>lin [a,b,c] (.le 1 x0 x1 (.lt 1 x1 x2 (.lt 1 x2 (.n 60) (.le 1 (.n 1048576) (.a (.a (.n 0) (.n 1)) x0) .z)))) rfl h0 h1 h2 g
theorem oAa{a b c:Nat}(h0:a≤2*b+1)(h1:b<c)(h2:c<60):a<4096:=yA fun g=>lin [a,b,c] (.le 1 x0 (.a (.m 2 x1) (.n 1)) (.lt 2 x1 x2 (.lt 2 x2 (.n 60) (.le 1 (.n 4096) x0 .z)))) rfl h0 h1 h2 g
theorem sja{a b c:Nat}(h0:a≤b)(h1:b=c)(h2:c<60):a≤16777216:=yB fun g=>lin [a,b,c] (.le 1 x0 x1 (.eq 1 x1 x2 (.lt 1 x2 (.n 60) (.lt 1 (.n 16777216) x0 .z)))) rfl h0 h1 h2 g
theorem oza{a b c d:Nat}(h0:b<4096)(h1:a=c)(h2:d+c<1000):a+b<2^20:=yA fun g=>lin [b,a,c,d] (.lt 1 x0 (.n 4096) (.eq 1 x1 x2 (.lt 1 (.a x3 x2) (.n 1000) (.le 1 (.n 1048576) (.a x1 x0) .z)))) rfl h0 h1 h2 g
theorem oya{a b c d e f g m n o p q s t:Nat}(h0:a=b)(h1:(c<a)∧((d<a)∧((e<a)∧((f<a)∧((g<a)∧((m<a)∧((n<a)∧((o<a)∧((p<a)∧((q<a)∧((s<a)∧((t<a)∧(b<a))))))))))))):False:=lin [a,b] (.eq 1 x0 x1 (.lt 1 x1 x0 .z)) rfl h0 h1.2.2.2.2.2.2.2.2.2.2.2.2
theorem kCa{a b:Nat}(h0:a=b)(h1:b<60):a<2^24:=yA fun g=>lin [a,b] (.eq 1 x0 x1 (.lt 1 x1 (.n 60) (.le 1 (.n 16777216) x0 .z))) rfl h0 h1 g
theorem lKa{a:Nat}(h0:a<4096):a<2^20:=yA fun g=>lin [a] (.lt 1 x0 (.n 4096) (.le 1 (.n 1048576) x0 .z)) rfl h0 g
theorem lJa{a b c d:Nat}(h0:a+b≤c)(h1:c<d)(h2:d<60):a<60:=yA fun g=>lin [a,b,c,d] (.le 1 (.a x0 x1) x2 (.lt 1 x2 x3 (.lt 1 x3 (.n 60) (.le 1 (.n 60) x0 .z)))) rfl h0 h1 h2 g
theorem oxa{a b c d:Nat}(h0:b≤c)(h1:a+(d+c+1)<60):a+b<1000:=yA fun g=>lin [b,c,a,d] (.le 1 x0 x1 (.lt 1 (.a x2 (.a (.a x3 x1) (.n 1))) (.n 60) (.le 1 (.n 1000) (.a x2 x0) .z))) rfl h0 h1 g
theorem owa{a b:Nat}(h0:a=b)(h1:b<64):a<2^24:=yA fun g=>lin [a,b] (.eq 1 x0 x1 (.lt 1 x1 (.n 64) (.le 1 (.n 16777216) x0 .z))) rfl h0 h1 g
theorem ova{a b c d e f g m n o p q s t:Nat}(h0:a=b)(h1:(c<b)∧((d<b)∧((e<b)∧((f<b)∧((g<b)∧((m<b)∧((a<b)∧((n<b)∧((o<b)∧((p<b)∧((q<b)∧((s<b)∧(t<b))))))))))))):False:=lin [a,b] (.qe 1 x0 x1 (.lt 1 x0 x1 .z)) rfl h0 h1.2.2.2.2.2.2.1
theorem jea{a b:Nat}(h0:a<b)(h1:b<60):a<2^24:=yA fun g=>lin [a,b] (.lt 1 x0 x1 (.lt 1 x1 (.n 60) (.le 1 (.n 16777216) x0 .z))) rfl h0 h1 g
theorem oua{a:Nat}(h0:a<200):a+1<1000:=yA fun g=>lin [a] (.lt 1 x0 (.n 200) (.le 1 (.n 1000) (.a x0 (.n 1)) .z)) rfl h0 g
theorem ota{a b c:Nat}(h0:(a<b)∧(c<b)):a<b:=yA fun g=>lin [a,b] (.lt 1 x0 x1 (.le 1 x1 x0 .z)) rfl h0.1 g
theorem osa{a b:Nat}(h0:b<60)(h1:a<60):a+b<4096:=yA fun g=>lin [b,a] (.lt 1 x0 (.n 60) (.lt 1 x1 (.n 60) (.le 1 (.n 4096) (.a x1 x0) .z))) rfl h0 h1 g
theorem jda{a:Nat}(h0:a<60):a<4096:=yA fun g=>lin [a] (.lt 1 x0 (.n 60) (.le 1 (.n 4096) x0 .z)) rfl h0 g
theorem ora{a b:Nat}(h0:a=b)(h1:b<200):a<2^20:=yA fun g=>lin [a,b] (.eq 1 x0 x1 (.lt 1 x1 (.n 200) (.le 1 (.n 1048576) x0 .z))) rfl h0 h1 g
theorem oqa{a b:Nat}(h0:a≤120*b)(h1:b<60):a<65536:=yA fun g=>lin [a,b] (.le 1 x0 (.m 120 x1) (.lt 120 x1 (.n 60) (.le 1 (.n 65536) x0 .z))) rfl h0 h1 g
theorem opa{a b c:Nat}(h0:a=b)(h1:b≤c)(h2:c<60):a≤16777216:=yB fun g=>lin [a,b,c] (.eq 1 x0 x1 (.le 1 x1 x2 (.lt 1 x2 (.n 60) (.lt 1 (.n 16777216) x0 .z)))) rfl h0 h1 h2 g
theorem ooa{a b c d:Nat}(h0:a≤b)(h1:b≤c)(h2:c=d)(h3:d<60):a<2^20:=yA fun g=>lin [a,b,c,d] (.le 1 x0 x1 (.le 1 x1 x2 (.eq 1 x2 x3 (.lt 1 x3 (.n 60) (.le 1 (.n 1048576) x0 .z))))) rfl h0 h1 h2 h3 g
theorem kBa{a b:Nat}(h0:a=b)(h1:b<60):a<2^20:=yA fun g=>lin [a,b] (.eq 1 x0 x1 (.lt 1 x1 (.n 60) (.le 1 (.n 1048576) x0 .z))) rfl h0 h1 g
theorem ona{a:Nat}(h0:a<60):a<64:=yA fun g=>lin [a] (.lt 1 x0 (.n 60) (.le 1 (.n 64) x0 .z)) rfl h0 g
theorem lIa{a b c d:Nat}(h0:a=b)(h1:(c<b)∧((d<b)∧(a<b))):False:=lin [a,b] (.qe 1 x0 x1 (.lt 1 x0 x1 .z)) rfl h0 h1.2.2
theorem oma{a b:Nat}(h0:a=b)(h1:b<4096):a<2^20:=yA fun g=>lin [a,b] (.eq 1 x0 x1 (.lt 1 x1 (.n 4096) (.le 1 (.n 1048576) x0 .z))) rfl h0 h1 g
theorem ola{a:Nat}(h0:a=a+1+1):False:=lin [a] (.qe 1 x0 (.a (.a x0 (.n 1)) (.n 1)) .z) rfl h0
theorem oka{a b:Nat}(h0:a=b)(h1:b<60):a+(0+1)<2^24:=yA fun g=>lin [a,b] (.eq 1 x0 x1 (.lt 1 x1 (.n 60) (.le 1 (.n 16777216) (.a x0 (.a (.n 0) (.n 1))) .z))) rfl h0 h1 g
theorem oja{a b:Nat}(h0:a<60):a-(b+1)<4096:=yA fun g=>(yE (b+1) a).elim (fun i1=>lin [a,a-(b+1),b] (.lt 1 x0 (.n 60) (.le 1 (.n 4096) x1 (.eq 1 (.a x1 (.a x2 (.n 1))) x0 .z))) rfl h0 g (yC i1)) fun i1=>lin [a-(b+1)] (.le 1 (.n 4096) x0 (.eq 1 x0 (.n 0) .z)) rfl g (yD i1)
theorem kAa{a:Nat}(h0:a<60):a<1000:=yA fun g=>lin [a] (.lt 1 x0 (.n 60) (.le 1 (.n 1000) x0 .z)) rfl h0 g
theorem oia{a:Nat}(h0:a<1000):a<2^24:=yA fun g=>lin [a] (.lt 1 x0 (.n 1000) (.le 1 (.n 16777216) x0 .z)) rfl h0 g
theorem oha{a:Nat}(h0:a=a+1):False:=lin [a] (.qe 1 x0 (.a x0 (.n 1)) .z) rfl h0
theorem oga{a b:Nat}(h0:b<200)(h1:a<2^17):a+b<2^20:=yA fun g=>lin [b,a] (.lt 1 x0 (.n 200) (.lt 1 x1 (.n 131072) (.le 1 (.n 1048576) (.a x1 x0) .z))) rfl h0 h1 g
theorem lHa{a b c:Nat}(h0:a≤b)(h1:b<c)(h2:c<60):a<4096:=yA fun g=>lin [a,b,c] (.le 1 x0 x1 (.lt 1 x1 x2 (.lt 1 x2 (.n 60) (.le 1 (.n 4096) x0 .z)))) rfl h0 h1 h2 g
theorem lGa{a:Nat}(h0:a<60):a+1<4096:=yA fun g=>lin [a] (.lt 1 x0 (.n 60) (.le 1 (.n 4096) (.a x0 (.n 1)) .z)) rfl h0 g
theorem ofa{a b c d:Nat}(h0:c≤3*b+2)(h1:a≤c+1+d)(h2:d≤2):a≤3*(b+1)+2:=yB fun g=>lin [c,b,a,d] (.le 1 x0 (.a (.m 3 x1) (.n 2)) (.le 1 x2 (.a (.a x0 (.n 1)) x3) (.le 1 x3 (.n 2) (.lt 1 (.a (.m 3 (.a x1 (.n 1))) (.n 2)) x2 .z)))) rfl h0 h1 h2 g
theorem lFa{a b:Nat}(h0:a<b)(h1:b<1000):a<2^24:=yA fun g=>lin [a,b] (.lt 1 x0 x1 (.lt 1 x1 (.n 1000) (.le 1 (.n 16777216) x0 .z))) rfl h0 h1 g
theorem oea{a b:Nat}(h0:b=a+1):a=b-1:=yG (yB fun g=>(yE 1 b).elim (fun i1=>lin [b,a,b-1] (.qe 1 x0 (.a x1 (.n 1)) (.lt 1 x2 x1 (.qe 1 (.a x2 (.n 1)) x0 .z))) rfl h0 g (yC i1)) fun i1=>lin [b,a,b-1] (.qe 1 x0 (.a x1 (.n 1)) (.lt 1 x2 x1 (.le 1 x0 (.n 1) .z))) rfl h0 g i1) (yB fun g=>(yE 1 b).elim (fun i2=>lin [b,a,b-1] (.eq 1 x0 (.a x1 (.n 1)) (.lt 1 x1 x2 (.eq 1 (.a x2 (.n 1)) x0 .z))) rfl h0 g (yC i2)) fun i2=>lin [a,b-1] (.lt 1 x0 x1 (.eq 1 x1 (.n 0) .z)) rfl g (yD i2))
theorem lEa{a:Nat}(h0:a<200):a<2^62:=yA fun g=>lin [a] (.lt 1 x0 (.n 200) (.le 1 (.n 4611686018427387904) x0 .z)) rfl h0 g
theorem lDa{a b:Nat}(h0:a=b)(h1:b<60):a≤16777216:=yB fun g=>lin [a,b] (.eq 1 x0 x1 (.lt 1 x1 (.n 60) (.lt 1 (.n 16777216) x0 .z))) rfl h0 h1 g
theorem oda{a b:Nat}(h0:a≤b)(h1:b<60):a<4096:=yA fun g=>lin [a,b] (.le 1 x0 x1 (.lt 1 x1 (.n 60) (.le 1 (.n 4096) x0 .z))) rfl h0 h1 g
theorem oca{a b c:Nat}(h0:a≤c)(h1:c≤b+1):a+1≤b+1+1:=yB fun g=>lin [a,c,b] (.le 1 x0 x1 (.le 1 x1 (.a x2 (.n 1)) (.lt 1 (.a (.a x2 (.n 1)) (.n 1)) (.a x0 (.n 1)) .z))) rfl h0 h1 g
theorem oba{a b c d:Nat}(h0:a<b)(h1:b=c)(h2:c=d)(h3:d<200):a+1<1000:=yA fun g=>lin [a,b,c,d] (.lt 1 x0 x1 (.eq 1 x1 x2 (.eq 1 x2 x3 (.lt 1 x3 (.n 200) (.le 1 (.n 1000) (.a x0 (.n 1)) .z))))) rfl h0 h1 h2 h3 g
theorem oaa{a b c d e f g m n o p q s t:Nat}(h0:a=b)(h1:(c<b)∧((d<b)∧((e<b)∧((f<b)∧((g<b)∧((m<b)∧((n<b)∧((o<b)∧((p<b)∧((q<b)∧((a<b)∧((s<b)∧(t<b))))))))))))):False:=lin [a,b] (.qe 1 x0 x1 (.lt 1 x0 x1 .z)) rfl h0 h1.2.2.2.2.2.2.2.2.2.2.1
theorem n9a{a b c:Nat}(h0:a≤3*b+2)(h1:b<5+c)(h2:c<4):a<50:=yA fun g=>lin [a,b,c] (.le 1 x0 (.a (.m 3 x1) (.n 2)) (.lt 3 x1 (.a (.n 5) x2) (.lt 3 x2 (.n 4) (.le 1 (.n 50) x0 .z)))) rfl h0 h1 h2 g
theorem n8a{a b:Nat}(h0:a<b)(h1:b<100):a<2^24:=yA fun g=>lin [a,b] (.lt 1 x0 x1 (.lt 1 x1 (.n 100) (.le 1 (.n 16777216) x0 .z))) rfl h0 h1 g
theorem n7a:0+1+1+1+1+1+1+1+1<2^20:=yA fun g=>lin [] (.le 1 (.n 1048576) (.a (.a (.a (.a (.a (.a (.a (.a (.n 0) (.n 1)) (.n 1)) (.n 1)) (.n 1)) (.n 1)) (.n 1)) (.n 1)) (.n 1)) .z) rfl g
theorem n6a{a:Nat}(h0:a=11):a<1000:=yA fun g=>lin [a] (.eq 1 x0 (.n 11) (.le 1 (.n 1000) x0 .z)) rfl h0 g
theorem n5a{a:Nat}(h0:a=12):0<a:=yA fun g=>lin [a] (.qe 1 x0 (.n 12) (.le 1 x0 (.n 0) .z)) rfl h0 g
theorem n4a{a b:Nat}(h0:a=b+1)(h1:b<60):a<61:=yA fun g=>lin [a,b] (.eq 1 x0 (.a x1 (.n 1)) (.lt 1 x1 (.n 60) (.le 1 (.n 61) x0 .z))) rfl h0 h1 g
theorem n3a{a b c d:Nat}(h0:a=b)(h1:b≤c+1+d)(h2:d<2)(h3:c<50):a<2^20:=yA fun g=>lin [a,b,c,d] (.eq 1 x0 x1 (.le 1 x1 (.a (.a x2 (.n 1)) x3) (.lt 1 x3 (.n 2) (.lt 1 x2 (.n 50) (.le 1 (.n 1048576) x0 .z))))) rfl h0 h1 h2 h3 g
theorem n2a{a b c d e:Nat}(h0:a=b)(h1:b+(0+1)≤c)(h2:c≤d+1)(h3:d<5+e)(h4:e<4):a+(0+1)<2^20:=yA fun g=>lin [a,b,c,d,e] (.eq 1 x0 x1 (.le 1 (.a x1 (.a (.n 0) (.n 1))) x2 (.le 1 x2 (.a x3 (.n 1)) (.lt 1 x3 (.a (.n 5) x4) (.lt 1 x4 (.n 4) (.le 1 (.n 1048576) (.a x0 (.a (.n 0) (.n 1))) .z)))))) rfl h0 h1 h2 h3 h4 g
theorem n1a{a b c:Nat}(h0:a≤b+c):a+1≤b+(c+1):=yB fun g=>lin [a,b,c] (.le 1 x0 (.a x1 x2) (.lt 1 (.a x1 (.a x2 (.n 1))) (.a x0 (.n 1)) .z)) rfl h0 g
theorem n0a{a:Nat}(h0:a+1+1+1+1+1=a+1):False:=lin [a] (.eq 1 (.a (.a (.a (.a (.a x0 (.n 1)) (.n 1)) (.n 1)) (.n 1)) (.n 1)) (.a x0 (.n 1)) .z) rfl h0
theorem nZa{a b c d e f g m n o p q s t:Nat}(h0:a=b)(h1:(c<b)∧((d<b)∧((e<b)∧((f<b)∧((g<b)∧((m<b)∧((n<b)∧((a<b)∧((o<b)∧((p<b)∧((q<b)∧((s<b)∧(t<b))))))))))))):False:=lin [a,b] (.qe 1 x0 x1 (.lt 1 x0 x1 .z)) rfl h0 h1.2.2.2.2.2.2.2.1
theorem nYa{a b:Nat}(h0:a=b)(h1:b<50):a+(0+1)<2^24:=yA fun g=>lin [a,b] (.eq 1 x0 x1 (.lt 1 x1 (.n 50) (.le 1 (.n 16777216) (.a x0 (.a (.n 0) (.n 1))) .z))) rfl h0 h1 g
theorem nXa:0+1<2^20:=yA fun g=>lin [] (.le 1 (.n 1048576) (.a (.n 0) (.n 1)) .z) rfl g
theorem nWa{a b:Nat}(h0:a≤b)(h1:b<3):a≤16777216:=yB fun g=>lin [a,b] (.le 1 x0 x1 (.lt 1 x1 (.n 3) (.lt 1 (.n 16777216) x0 .z))) rfl h0 h1 g
theorem nVa{a:Nat}(h0:a<50):a<2^24:=yA fun g=>lin [a] (.lt 1 x0 (.n 50) (.le 1 (.n 16777216) x0 .z)) rfl h0 g
theorem nUa{a b c:Nat}(h0:b<4096)(h1:a=c)(h2:c<60):a+b<2^20:=yA fun g=>lin [b,a,c] (.lt 1 x0 (.n 4096) (.eq 1 x1 x2 (.lt 1 x2 (.n 60) (.le 1 (.n 1048576) (.a x1 x0) .z)))) rfl h0 h1 h2 g
theorem nTa{a:Nat}(h0:a+1+1+1+1+1=a+1+1):False:=lin [a] (.eq 1 (.a (.a (.a (.a (.a x0 (.n 1)) (.n 1)) (.n 1)) (.n 1)) (.n 1)) (.a (.a x0 (.n 1)) (.n 1)) .z) rfl h0
theorem nSa{a:Nat}(h0:a<2)(h1:a≠0):a=1:=yG (yB fun g=>lin [a] (.lt 1 x0 (.n 2) (.lt 1 (.n 1) x0 .z)) rfl h0 g) (yB fun g=>(yF h1).elim (fun i1=>lin [a] (.lt 1 x0 (.n 0) .z) rfl i1) fun i1=>lin [a] (.lt 1 x0 (.n 1) (.lt 1 (.n 0) x0 .z)) rfl g i1)
theorem nRa{a b c d e f g m n o p q s t:Nat}(h0:a=b)(h1:(c<b)∧((d<b)∧((e<b)∧((f<b)∧((g<b)∧((m<b)∧((n<b)∧((o<b)∧((p<b)∧((q<b)∧((s<b)∧((t<b)∧(a<b))))))))))))):False:=lin [a,b] (.qe 1 x0 x1 (.lt 1 x0 x1 .z)) rfl h0 h1.2.2.2.2.2.2.2.2.2.2.2.2
theorem nQa{a:Nat}(h0:a<60):0+1+a<2^20:=yA fun g=>lin [a] (.lt 1 x0 (.n 60) (.le 1 (.n 1048576) (.a (.a (.n 0) (.n 1)) x0) .z)) rfl h0 g
theorem nPa{a b c:Nat}(h0:a≤b)(h1:b≤120*c)(h2:c<60):a<65536:=yA fun g=>lin [a,b,c] (.le 1 x0 x1 (.le 1 x1 (.m 120 x2) (.lt 120 x2 (.n 60) (.le 1 (.n 65536) x0 .z)))) rfl h0 h1 h2 g
theorem nOa{a b:Nat}(h0:a+8*7+200<b):a+64<b:=yA fun g=>lin [a,b] (.lt 1 (.a (.a x0 (.m 8 (.n 7))) (.n 200)) x1 (.le 1 x1 (.a x0 (.n 64)) .z)) rfl h0 g
theorem nNa{a:Nat}(h0:a<50):a<59:=yA fun g=>lin [a] (.lt 1 x0 (.n 50) (.le 1 (.n 59) x0 .z)) rfl h0 g
theorem nMa{a b:Nat}(h0:a=b+1):a≤b+1+0:=yB fun g=>lin [a,b] (.eq 1 x0 (.a x1 (.n 1)) (.lt 1 (.a (.a x1 (.n 1)) (.n 0)) x0 .z)) rfl h0 g
theorem nLa{a b c:Nat}(h0:a<60)(h1:b≤c)(h2:c<60):a+b<200:=yA fun g=>lin [a,b,c] (.lt 1 x0 (.n 60) (.le 1 x1 x2 (.lt 1 x2 (.n 60) (.le 1 (.n 200) (.a x0 x1) .z)))) rfl h0 h1 h2 g
theorem nKa{a b:Nat}(h0:a=b)(h1:b<1000):a<2^20:=yA fun g=>lin [a,b] (.eq 1 x0 x1 (.lt 1 x1 (.n 1000) (.le 1 (.n 1048576) x0 .z))) rfl h0 h1 g
theorem nJa{a b c:Nat}(h0:a=b)(h1:b+c<1000):a<2^20:=yA fun g=>lin [a,b,c] (.eq 1 x0 x1 (.lt 1 (.a x1 x2) (.n 1000) (.le 1 (.n 1048576) x0 .z))) rfl h0 h1 g
theorem nIa{a:Nat}(h0:a<100):a<2^24:=yA fun g=>lin [a] (.lt 1 x0 (.n 100) (.le 1 (.n 16777216) x0 .z)) rfl h0 g
theorem nHa{a b:Nat}(h0:a=b)(h1:b<200):a<2^24:=yA fun g=>lin [a,b] (.eq 1 x0 x1 (.lt 1 x1 (.n 200) (.le 1 (.n 16777216) x0 .z))) rfl h0 h1 g
theorem nGa{a b c d e f g m n o p q s t:Nat}(h0:a=b)(h1:(c<b)∧((d<b)∧((e<b)∧((f<b)∧((g<b)∧((m<b)∧((n<b)∧((o<b)∧((p<b)∧((a<b)∧((q<b)∧((s<b)∧(t<b))))))))))))):False:=lin [a,b] (.qe 1 x0 x1 (.lt 1 x0 x1 .z)) rfl h0 h1.2.2.2.2.2.2.2.2.2.1
theorem nFa{a:Nat}(h0:a<1000):a<4096:=yA fun g=>lin [a] (.lt 1 x0 (.n 1000) (.le 1 (.n 4096) x0 .z)) rfl h0 g
theorem nEa{a:Nat}(h0:a+1+1=a+1):False:=lin [a] (.eq 1 (.a (.a x0 (.n 1)) (.n 1)) (.a x0 (.n 1)) .z) rfl h0
theorem nDa{a b c:Nat}(h0:a≤b)(h1:b<c)(h2:c<60):a+1<4096:=yA fun g=>lin [a,b,c] (.le 1 x0 x1 (.lt 1 x1 x2 (.lt 1 x2 (.n 60) (.le 1 (.n 4096) (.a x0 (.n 1)) .z)))) rfl h0 h1 h2 g
theorem nCa{a b c d:Nat}(h0:a≤b)(h1:b=c)(h2:c≤d)(h3:d<60):a<2^20:=yA fun g=>lin [a,b,c,d] (.le 1 x0 x1 (.eq 1 x1 x2 (.le 1 x2 x3 (.lt 1 x3 (.n 60) (.le 1 (.n 1048576) x0 .z))))) rfl h0 h1 h2 h3 g
theorem nBa{a b:Nat}(h0:a+b<61):a<61:=yA fun g=>lin [a,b] (.lt 1 (.a x0 x1) (.n 61) (.le 1 (.n 61) x0 .z)) rfl h0 g
theorem nAa{a b c:Nat}{p0 p1:Prop}(h0:(b<a)∧((a<c)∧(p0∧p1)))(h1:c<60):a<2^24:=yA fun g=>lin [a,c] (.lt 1 x0 x1 (.lt 1 x1 (.n 60) (.le 1 (.n 16777216) x0 .z))) rfl h0.2.1 h1 g
theorem nza{a:Nat}(h0:a<3):a≤16777216:=yB fun g=>lin [a] (.lt 1 x0 (.n 3) (.lt 1 (.n 16777216) x0 .z)) rfl h0 g
theorem nya{a b c d:Nat}(h0:a<b)(h1:b≤3*c+2)(h2:c<5+d)(h3:d<4):a<2^24:=yA fun g=>lin [a,b,c,d] (.lt 1 x0 x1 (.le 1 x1 (.a (.m 3 x2) (.n 2)) (.lt 3 x2 (.a (.n 5) x3) (.lt 3 x3 (.n 4) (.le 1 (.n 16777216) x0 .z))))) rfl h0 h1 h2 h3 g
theorem nxa{a b:Nat}(h0:b=2)(h1:a<130):a+b<2^12:=yA fun g=>lin [b,a] (.eq 1 x0 (.n 2) (.lt 1 x1 (.n 130) (.le 1 (.n 4096) (.a x1 x0) .z))) rfl h0 h1 g
theorem nwa{a:Nat}(h0:a<2):(a=0)∨(a=1):=Decidable.byContradiction fun g=>(yF (not_or.mp g).1).elim (fun i1=>lin [a] (.lt 1 x0 (.n 0) .z) rfl i1) fun i1=>(yF (not_or.mp g).2).elim (fun i2=>lin [a] (.lt 1 (.n 0) x0 (.lt 1 x0 (.n 1) .z)) rfl i1 i2) fun i2=>lin [a] (.lt 1 x0 (.n 2) (.lt 1 (.n 1) x0 .z)) rfl h0 i2
theorem nua{a b c:Nat}(h0:a=b)(h1:b=c)(h2:c<200):a≤16777216:=yB fun g=>lin [a,b,c] (.eq 1 x0 x1 (.eq 1 x1 x2 (.lt 1 x2 (.n 200) (.lt 1 (.n 16777216) x0 .z)))) rfl h0 h1 h2 g
theorem nta{a b c:Nat}(h0:a=b)(h1:b≤3*(5+c)+2)(h2:c<4):a<2^20:=yA fun g=>lin [a,b,c] (.eq 1 x0 x1 (.le 1 x1 (.a (.m 3 (.a (.n 5) x2)) (.n 2)) (.lt 3 x2 (.n 4) (.le 1 (.n 1048576) x0 .z)))) rfl h0 h1 h2 g
theorem nsa{a b:Nat}(h0:a=b)(h1:b<3):a≤2:=yB fun g=>lin [a,b] (.eq 1 x0 x1 (.lt 1 x1 (.n 3) (.lt 1 (.n 2) x0 .z))) rfl h0 h1 g
theorem nra{a b c d e:Nat}(h0:a=b)(h1:b+(0+1)≤c)(h2:c≤d+1)(h3:d<5+e)(h4:e<4):a+(0+1)<2^24:=yA fun g=>lin [a,b,c,d,e] (.eq 1 x0 x1 (.le 1 (.a x1 (.a (.n 0) (.n 1))) x2 (.le 1 x2 (.a x3 (.n 1)) (.lt 1 x3 (.a (.n 5) x4) (.lt 1 x4 (.n 4) (.le 1 (.n 16777216) (.a x0 (.a (.n 0) (.n 1))) .z)))))) rfl h0 h1 h2 h3 h4 g
theorem nqa{a b:Nat}(h0:a=b)(h1:b<61):a<2^20:=yA fun g=>lin [a,b] (.eq 1 x0 x1 (.lt 1 x1 (.n 61) (.le 1 (.n 1048576) x0 .z))) rfl h0 h1 g
theorem npa{a b c:Nat}(h0:a≤2*b+1)(h1:b<c)(h2:c<60):a<130:=yA fun g=>lin [a,b,c] (.le 1 x0 (.a (.m 2 x1) (.n 1)) (.lt 2 x1 x2 (.lt 2 x2 (.n 60) (.le 1 (.n 130) x0 .z)))) rfl h0 h1 h2 g
theorem noa{a b c:Nat}(h0:a=b)(h1:c+b<1000):a<2^20:=yA fun g=>lin [a,b,c] (.eq 1 x0 x1 (.lt 1 (.a x2 x1) (.n 1000) (.le 1 (.n 1048576) x0 .z))) rfl h0 h1 g
theorem nna{a:Nat}(h0:a<61):a<4096:=yA fun g=>lin [a] (.lt 1 x0 (.n 61) (.le 1 (.n 4096) x0 .z)) rfl h0 g
theorem nma{a b:Nat}(h0:a=b)(h1:b<200):a≤16777216:=yB fun g=>lin [a,b] (.eq 1 x0 x1 (.lt 1 x1 (.n 200) (.lt 1 (.n 16777216) x0 .z))) rfl h0 h1 g
theorem nla{a b c:Nat}(h0:b<4096)(h1:a=c)(h2:c<4096):a+(0+1)+b<2^20:=yA fun g=>lin [b,a,c] (.lt 1 x0 (.n 4096) (.eq 1 x1 x2 (.lt 1 x2 (.n 4096) (.le 1 (.n 1048576) (.a (.a x1 (.a (.n 0) (.n 1))) x0) .z)))) rfl h0 h1 h2 g
theorem nka{a b:Nat}(h0:a≤3*b+2):a+1≤3*(b+1)+2:=yB fun g=>lin [a,b] (.le 1 x0 (.a (.m 3 x1) (.n 2)) (.lt 1 (.a (.m 3 (.a x1 (.n 1))) (.n 2)) (.a x0 (.n 1)) .z)) rfl h0 g
theorem nja{a b c:Nat}(h0:b<4096)(h1:a=c)(h2:c<65536):a+b<2^20:=yA fun g=>lin [b,a,c] (.lt 1 x0 (.n 4096) (.eq 1 x1 x2 (.lt 1 x2 (.n 65536) (.le 1 (.n 1048576) (.a x1 x0) .z)))) rfl h0 h1 h2 g
theorem nia{a b:Nat}(h0:a=b)(h1:b<1000):a<2^24:=yA fun g=>lin [a,b] (.eq 1 x0 x1 (.lt 1 x1 (.n 1000) (.le 1 (.n 16777216) x0 .z))) rfl h0 h1 g
theorem nha{a b c d e:Nat}{p0:Prop}(h0:a=b)(h1:(c<b)∧((d<b)∧((a<b)∧((e<b)∧p0)))):False:=lin [a,b] (.qe 1 x0 x1 (.lt 1 x0 x1 .z)) rfl h0 h1.2.2.1
theorem nga{a:Nat}(h0:a<120):a<4096:=yA fun g=>lin [a] (.lt 1 x0 (.n 120) (.le 1 (.n 4096) x0 .z)) rfl h0 g
theorem nfa{a b c d e f g m n o p q s t:Nat}(h0:a=b)(h1:(c<b)∧((d<b)∧((e<b)∧((f<b)∧((g<b)∧((m<b)∧((n<b)∧((o<b)∧((p<b)∧((q<b)∧((s<b)∧((a<b)∧(t<b))))))))))))):False:=lin [a,b] (.qe 1 x0 x1 (.lt 1 x0 x1 .z)) rfl h0 h1.2.2.2.2.2.2.2.2.2.2.2.1
theorem nea{a b c d:Nat}(h0:(a<b)∧((c<b)∧(d<b))):a<b:=yA fun g=>lin [a,b] (.lt 1 x0 x1 (.le 1 x1 x0 .z)) rfl h0.1 g
theorem nda{a b c d e:Nat}(h0:a=b)(h1:b+(0+1)≤c)(h2:c≤d+1)(h3:d<5+e)(h4:e<4):a<2^20:=yA fun g=>lin [a,b,c,d,e] (.eq 1 x0 x1 (.le 1 (.a x1 (.a (.n 0) (.n 1))) x2 (.le 1 x2 (.a x3 (.n 1)) (.lt 1 x3 (.a (.n 5) x4) (.lt 1 x4 (.n 4) (.le 1 (.n 1048576) x0 .z)))))) rfl h0 h1 h2 h3 h4 g
theorem nca{a b:Nat}(h0:a=b)(h1:b<50):a<2^20:=yA fun g=>lin [a,b] (.eq 1 x0 x1 (.lt 1 x1 (.n 50) (.le 1 (.n 1048576) x0 .z))) rfl h0 h1 g
theorem nba{a b c d e f g m n o p q s t:Nat}(h0:a=b)(h1:(c<b)∧((d<b)∧((e<b)∧((f<b)∧((g<b)∧((m<b)∧((n<b)∧((o<b)∧((a<b)∧((p<b)∧((q<b)∧((s<b)∧(t<b))))))))))))):False:=lin [a,b] (.qe 1 x0 x1 (.lt 1 x0 x1 .z)) rfl h0 h1.2.2.2.2.2.2.2.2.1
theorem naa{a b c d e:Nat}(h0:a=b)(h1:(c<a)∧((d<a)∧((e<a)∧(b<a)))):False:=lin [a,b] (.eq 1 x0 x1 (.lt 1 x1 x0 .z)) rfl h0 h1.2.2.2
theorem m9a{a b c:Nat}(h0:a≤b+1+c)(h1:c<2)(h2:b<50):a<59:=yA fun g=>lin [a,b,c] (.le 1 x0 (.a (.a x1 (.n 1)) x2) (.lt 1 x2 (.n 2) (.lt 1 x1 (.n 50) (.le 1 (.n 59) x0 .z)))) rfl h0 h1 h2 g
theorem m8a{a b:Nat}(h0:a=b)(h1:b<60):a<100:=yA fun g=>lin [a,b] (.eq 1 x0 x1 (.lt 1 x1 (.n 60) (.le 1 (.n 100) x0 .z))) rfl h0 h1 g
theorem m7a{a:Nat}(h0:a<50):a<60:=yA fun g=>lin [a] (.lt 1 x0 (.n 50) (.le 1 (.n 60) x0 .z)) rfl h0 g
theorem m6a{a:Nat}(h0:a=a+1+1+1):False:=lin [a] (.qe 1 x0 (.a (.a (.a x0 (.n 1)) (.n 1)) (.n 1)) .z) rfl h0
theorem m5a{a b:Nat}(h0:a≤3*(5+b)+2)(h1:b<4):a<59:=yA fun g=>lin [a,b] (.le 1 x0 (.a (.m 3 (.a (.n 5) x1)) (.n 2)) (.lt 3 x1 (.n 4) (.le 1 (.n 59) x0 .z))) rfl h0 h1 g
theorem m4a{a:Nat}(h0:a=9):a+(0+1+1)<2^20:=yA fun g=>lin [a] (.eq 1 x0 (.n 9) (.le 1 (.n 1048576) (.a x0 (.a (.a (.n 0) (.n 1)) (.n 1))) .z)) rfl h0 g
theorem lCa{a b c d e:Nat}{p0:Prop}(h0:a=b)(h1:(c<b)∧((d<b)∧((e<b)∧((a<b)∧p0)))):False:=lin [a,b] (.qe 1 x0 x1 (.lt 1 x0 x1 .z)) rfl h0 h1.2.2.2.1
theorem m3a{a b c d e:Nat}(h0:(a<b)∧((c<b)∧((d<b)∧(e<b)))):a<b:=yA fun g=>lin [a,b] (.lt 1 x0 x1 (.le 1 x1 x0 .z)) rfl h0.1 g
theorem m1a{a:Nat}(h0:a=11):0<a:=yA fun g=>lin [a] (.qe 1 x0 (.n 11) (.le 1 x0 (.n 0) .z)) rfl h0 g
theorem m0a{a b c:Nat}(h0:a=b+1)(h1:b≤3*(5+c)+2)(h2:c<4):a<60:=yA fun g=>lin [a,b,c] (.eq 1 x0 (.a x1 (.n 1)) (.le 1 x1 (.a (.m 3 (.a (.n 5) x2)) (.n 2)) (.lt 3 x2 (.n 4) (.le 1 (.n 60) x0 .z)))) rfl h0 h1 h2 g
theorem mZa:0+1+1<2^20:=yA fun g=>lin [] (.le 1 (.n 1048576) (.a (.a (.n 0) (.n 1)) (.n 1)) .z) rfl g
theorem mYa{a b c:Nat}(h0:b≤c)(h1:a+c<60):a+b<60:=yA fun g=>lin [b,c,a] (.le 1 x0 x1 (.lt 1 (.a x2 x1) (.n 60) (.le 1 (.n 60) (.a x2 x0) .z))) rfl h0 h1 g
theorem mXa{a b:Nat}(h0:a<b)(h1:b<60):a<4096:=yA fun g=>lin [a,b] (.lt 1 x0 x1 (.lt 1 x1 (.n 60) (.le 1 (.n 4096) x0 .z))) rfl h0 h1 g
theorem mWa{a b:Nat}(h0:a+8*3+200<b):a+64<b:=yA fun g=>lin [a,b] (.lt 1 (.a (.a x0 (.m 8 (.n 3))) (.n 200)) x1 (.le 1 x1 (.a x0 (.n 64)) .z)) rfl h0 g
theorem mVa:0+1+1+1+1+1+1+1+1+(0+1+1+1+1)<2^20:=yA fun g=>lin [] (.le 1 (.n 1048576) (.a (.a (.a (.a (.a (.a (.a (.a (.a (.n 0) (.n 1)) (.n 1)) (.n 1)) (.n 1)) (.n 1)) (.n 1)) (.n 1)) (.n 1)) (.a (.a (.a (.a (.n 0) (.n 1)) (.n 1)) (.n 1)) (.n 1))) .z) rfl g
theorem mUa{a b c:Nat}(h0:a≤120*b)(h1:b≤c)(h2:c<60):a<2^17:=yA fun g=>lin [a,b,c] (.le 1 x0 (.m 120 x1) (.le 120 x1 x2 (.lt 120 x2 (.n 60) (.le 1 (.n 131072) x0 .z)))) rfl h0 h1 h2 g
theorem sca{a b:Nat}(h0:a=b)(h1:b=2):a<2^20:=yA fun g=>lin [a,b] (.eq 1 x0 x1 (.eq 1 x1 (.n 2) (.le 1 (.n 1048576) x0 .z))) rfl h0 h1 g
theorem sba:0+1+1<64:=yA fun g=>lin [] (.le 1 (.n 64) (.a (.a (.n 0) (.n 1)) (.n 1)) .z) rfl g
theorem saa{a b:Nat}(h0:a=b)(h1:b<60):a<1000:=yA fun g=>lin [a,b] (.eq 1 x0 x1 (.lt 1 x1 (.n 60) (.le 1 (.n 1000) x0 .z))) rfl h0 h1 g
theorem r9a{a:Nat}(h0:a<2):1+a≤16777216:=yB fun g=>lin [a] (.lt 1 x0 (.n 2) (.lt 1 (.n 16777216) (.a (.n 1) x0) .z)) rfl h0 g
theorem r8a{a b c:Nat}(h0:a=b)(h1:b=1+c)(h2:c<2):a≤16777216:=yB fun g=>lin [a,b,c] (.eq 1 x0 x1 (.eq 1 x1 (.a (.n 1) x2) (.lt 1 x2 (.n 2) (.lt 1 (.n 16777216) x0 .z)))) rfl h0 h1 h2 g
end Mine
local macro_rules | `(tactic| omega) => do let n := ((← (List.range 99).filterM fun i => Lean.Macro.hasDecl (.str `Mine s!"ar{i}")).length - 1); let s := Lean.Syntax.mkStrLit s!"ar{n}"; `(tactic| first | k_extra $s | (intro _; k_extra $s) | lia)
namespace Mine
theorem ar0:True:=by
 k_with "ar0" =>with_reducible first|exact rXa ‹_› ‹_› |exact mBa ‹_› |exact mFa ‹_›
 trivial
theorem kIa{α:Type}{M:Model}{A:Around}{t:Sem α}{Q:α->Shared->Prop}{E:Value->Shared->Prop}{s:Shared}(h:wpAny M A t Q E s):wpAny M A t Q E s:=h
theorem bua{G:Prop}(h:∀ g:Prop,(G->g)->g):G:=h G id
theorem qSa:True:=by
 k_with "mbp" =>first|((with_reducible show wpAny _ _ _ _ _ _);refine Mine.bua ?_;intro hG_ hg_)|((with_reducible show codeAny _ _ _ _ _);refine Mine.bua ?_;intro hG_ hg_)|skip
 k_with "mbq" =>first|((refine hg_ ?_);clear hg_ hG_)|skip
 trivial
inductive kya(A:Around)(h:Heap):Prop
 |ik (A₀:Around) (base h₀:Heap) (outer:List Env) (env:Env) (L:Addr) (m:Str->Option Value) (p:Program) (loose:List Str) (mean:ExcName->Option Value) (mg mb:Str->Option Value)
   (f0:Below A₀ base outer h₀) (f1:Fr h₀ L h m) (f2:Top p loose mean mg mb h) (f3:A.frames=some (env::outer)) (f4:env.frame=some L) (f5:env.scope.kind= .function):kya A h
noncomputable def e1{α:Type}(n:Nonempty α)(C:α->Prop):α:= @Classical.epsilon α n fun x=>¬C x
theorem h1{α:Type}[n:Nonempty α]{C:α->Prop}(h:C (e1 n C)):∀ x,C x:=fun x=>Classical.byContradiction fun hx=>Classical.epsilon_spec (p:=fun x=>¬C x) ⟨x,hx⟩ h
theorem ex1{α:Type}[n:Nonempty α]{P:α->Prop}{G:Prop}(k:P (e1 n fun x=>¬P x)->G):(∃ x,P x)->G:=fun⟨x,hx⟩=>k (Classical.byContradiction fun hn=>Classical.epsilon_spec (p:=fun x=>¬ ¬P x) ⟨x,fun h=>h hx⟩ hn)
theorem aIa:Nonempty World:=⟨⟨fun _ _=>0, {strHash:=fun _=>0,shareClass:=fun _=>0,mergeTok:=fun t=>t,idOf:=fun _=>0,idOfShared:=fun _ _=>0,followText:=fun _=>true,idOfImm:=fun _=>0}⟩⟩
theorem aua:Nonempty Shared:=⟨{}⟩
theorem ama:Nonempty Around:=⟨{}⟩
noncomputable def p0{t0 t1:Type}(x:t0×t1):t0:=x.1
noncomputable def p1{t0 t1 t2:Type}(x:t0×t1×t2):t1:=x.2.1
noncomputable def l1{t0 t1:Type}(x:t0×t1):t1:=x.2
noncomputable def p2{t0 t1 t2 t3:Type}(x:t0×t1×t2×t3):t2:=x.2.2.1
noncomputable def l2{t0 t1 t2:Type}(x:t0×t1×t2):t2:=x.2.2
noncomputable def p3{t0 t1 t2 t3 t4:Type}(x:t0×t1×t2×t3×t4):t3:=x.2.2.2.1
noncomputable def l3{t0 t1 t2 t3:Type}(x:t0×t1×t2×t3):t3:=x.2.2.2
noncomputable def p4{t0 t1 t2 t3 t4 t5:Type}(x:t0×t1×t2×t3×t4×t5):t4:=x.2.2.2.2.1
noncomputable def l4{t0 t1 t2 t3 t4:Type}(x:t0×t1×t2×t3×t4):t4:=x.2.2.2.2
noncomputable def p5{t0 t1 t2 t3 t4 t5 t6:Type}(x:t0×t1×t2×t3×t4×t5×t6):t5:=x.2.2.2.2.2.1
noncomputable def l5{t0 t1 t2 t3 t4 t5:Type}(x:t0×t1×t2×t3×t4×t5):t5:=x.2.2.2.2.2
noncomputable def p6{t0 t1 t2 t3 t4 t5 t6 t7:Type}(x:t0×t1×t2×t3×t4×t5×t6×t7):t6:=x.2.2.2.2.2.2.1
noncomputable def l6{t0 t1 t2 t3 t4 t5 t6:Type}(x:t0×t1×t2×t3×t4×t5×t6):t6:=x.2.2.2.2.2.2
noncomputable def p7{t0 t1 t2 t3 t4 t5 t6 t7 t8:Type}(x:t0×t1×t2×t3×t4×t5×t6×t7×t8):t7:=x.2.2.2.2.2.2.2.1
noncomputable def l7{t0 t1 t2 t3 t4 t5 t6 t7:Type}(x:t0×t1×t2×t3×t4×t5×t6×t7):t7:=x.2.2.2.2.2.2.2
noncomputable def p8{t0 t1 t2 t3 t4 t5 t6 t7 t8 t9:Type}(x:t0×t1×t2×t3×t4×t5×t6×t7×t8×t9):t8:=x.2.2.2.2.2.2.2.2.1
noncomputable def l8{t0 t1 t2 t3 t4 t5 t6 t7 t8:Type}(x:t0×t1×t2×t3×t4×t5×t6×t7×t8):t8:=x.2.2.2.2.2.2.2.2
noncomputable def p9{t0 t1 t2 t3 t4 t5 t6 t7 t8 t9 t10:Type}(x:t0×t1×t2×t3×t4×t5×t6×t7×t8×t9×t10):t9:=x.2.2.2.2.2.2.2.2.2.1
noncomputable def l9{t0 t1 t2 t3 t4 t5 t6 t7 t8 t9:Type}(x:t0×t1×t2×t3×t4×t5×t6×t7×t8×t9):t9:=x.2.2.2.2.2.2.2.2.2
noncomputable def p10{t0 t1 t2 t3 t4 t5 t6 t7 t8 t9 t10 t11:Type}(x:t0×t1×t2×t3×t4×t5×t6×t7×t8×t9×t10×t11):t10:=x.2.2.2.2.2.2.2.2.2.2.1
noncomputable def l10{t0 t1 t2 t3 t4 t5 t6 t7 t8 t9 t10:Type}(x:t0×t1×t2×t3×t4×t5×t6×t7×t8×t9×t10):t10:=x.2.2.2.2.2.2.2.2.2.2
noncomputable def p11{t0 t1 t2 t3 t4 t5 t6 t7 t8 t9 t10 t11 t12:Type}(x:t0×t1×t2×t3×t4×t5×t6×t7×t8×t9×t10×t11×t12):t11:=x.2.2.2.2.2.2.2.2.2.2.2.1
noncomputable def l11{t0 t1 t2 t3 t4 t5 t6 t7 t8 t9 t10 t11:Type}(x:t0×t1×t2×t3×t4×t5×t6×t7×t8×t9×t10×t11):t11:=x.2.2.2.2.2.2.2.2.2.2.2
noncomputable def p12{t0 t1 t2 t3 t4 t5 t6 t7 t8 t9 t10 t11 t12 t13:Type}(x:t0×t1×t2×t3×t4×t5×t6×t7×t8×t9×t10×t11×t12×t13):t12:=x.2.2.2.2.2.2.2.2.2.2.2.2.1
noncomputable def l12{t0 t1 t2 t3 t4 t5 t6 t7 t8 t9 t10 t11 t12:Type}(x:t0×t1×t2×t3×t4×t5×t6×t7×t8×t9×t10×t11×t12):t12:=x.2.2.2.2.2.2.2.2.2.2.2.2
noncomputable def p13{t0 t1 t2 t3 t4 t5 t6 t7 t8 t9 t10 t11 t12 t13 t14:Type}(x:t0×t1×t2×t3×t4×t5×t6×t7×t8×t9×t10×t11×t12×t13×t14):t13:=x.2.2.2.2.2.2.2.2.2.2.2.2.2.1
noncomputable def l13{t0 t1 t2 t3 t4 t5 t6 t7 t8 t9 t10 t11 t12 t13:Type}(x:t0×t1×t2×t3×t4×t5×t6×t7×t8×t9×t10×t11×t12×t13):t13:=x.2.2.2.2.2.2.2.2.2.2.2.2.2
noncomputable def p14{t0 t1 t2 t3 t4 t5 t6 t7 t8 t9 t10 t11 t12 t13 t14 t15:Type}(x:t0×t1×t2×t3×t4×t5×t6×t7×t8×t9×t10×t11×t12×t13×t14×t15):t14:=x.2.2.2.2.2.2.2.2.2.2.2.2.2.2.1
noncomputable def l14{t0 t1 t2 t3 t4 t5 t6 t7 t8 t9 t10 t11 t12 t13 t14:Type}(x:t0×t1×t2×t3×t4×t5×t6×t7×t8×t9×t10×t11×t12×t13×t14):t14:=x.2.2.2.2.2.2.2.2.2.2.2.2.2.2
noncomputable def p15{t0 t1 t2 t3 t4 t5 t6 t7 t8 t9 t10 t11 t12 t13 t14 t15 t16:Type}(x:t0×t1×t2×t3×t4×t5×t6×t7×t8×t9×t10×t11×t12×t13×t14×t15×t16):t15:=x.2.2.2.2.2.2.2.2.2.2.2.2.2.2.2.1
noncomputable def l15{t0 t1 t2 t3 t4 t5 t6 t7 t8 t9 t10 t11 t12 t13 t14 t15:Type}(x:t0×t1×t2×t3×t4×t5×t6×t7×t8×t9×t10×t11×t12×t13×t14×t15):t15:=x.2.2.2.2.2.2.2.2.2.2.2.2.2.2.2
theorem neP{α β:Type}(a:Nonempty α)(b:Nonempty β):Nonempty (α×β):=inferInstance
noncomputable def xv1{α0:Type}(n0:Nonempty α0)(C:World->α0->Around->Shared->Heap->(Value->Shared->Prop)->(Value->Shared->Prop)->Prop):World×α0×Around×Shared×Heap×(Value->Shared->Prop)×(Value->Shared->Prop):=e1 (neP aIa (neP inferInstance (neP ama (neP aua (neP inferInstance (neP inferInstance inferInstance)))))) fun x=>C x.1 x.2.1 x.2.2.1 x.2.2.2.1 x.2.2.2.2.1 x.2.2.2.2.2.1 x.2.2.2.2.2.2
theorem hv1{α0:Type}[n0:Nonempty α0]{C:World->α0->Around->Shared->Heap->(Value->Shared->Prop)->(Value->Shared->Prop)->Prop}(h:C (p0 (xv1 n0 C)) (p1 (xv1 n0 C)) (p2 (xv1 n0 C)) (p3 (xv1 n0 C)) (p4 (xv1 n0 C)) (p5 (xv1 n0 C)) (l6 (xv1 n0 C))):∀ x0 x1 x2 x3 x4 x5 x6,C x0 x1 x2 x3 x4 x5 x6:=fun x0 x1 x2 x3 x4 x5 x6=>h1 (n:=(neP aIa (neP inferInstance (neP ama (neP aua (neP inferInstance (neP inferInstance inferInstance))))))) (C:=fun x=>C x.1 x.2.1 x.2.2.1 x.2.2.2.1 x.2.2.2.2.1 x.2.2.2.2.2.1 x.2.2.2.2.2.2) h (x0,x1,x2,x3,x4,x5,x6)
noncomputable def xv2{α0 α1:Type}(n0:Nonempty α0)(n1:Nonempty α1)(C:World->α0->α1->Around->Shared->Heap->(Value->Shared->Prop)->(Value->Shared->Prop)->Prop):World×α0×α1×Around×Shared×Heap×(Value->Shared->Prop)×(Value->Shared->Prop):=e1 (neP aIa (neP inferInstance (neP inferInstance (neP ama (neP aua (neP inferInstance (neP inferInstance inferInstance))))))) fun x=>C x.1 x.2.1 x.2.2.1 x.2.2.2.1 x.2.2.2.2.1 x.2.2.2.2.2.1 x.2.2.2.2.2.2.1 x.2.2.2.2.2.2.2
theorem hv2{α0 α1:Type}[n0:Nonempty α0][n1:Nonempty α1]{C:World->α0->α1->Around->Shared->Heap->(Value->Shared->Prop)->(Value->Shared->Prop)->Prop}(h:C (p0 (xv2 n0 n1 C)) (p1 (xv2 n0 n1 C)) (p2 (xv2 n0 n1 C)) (p3 (xv2 n0 n1 C)) (p4 (xv2 n0 n1 C)) (p5 (xv2 n0 n1 C)) (p6 (xv2 n0 n1 C)) (l7 (xv2 n0 n1 C))):∀ x0 x1 x2 x3 x4 x5 x6 x7,C x0 x1 x2 x3 x4 x5 x6 x7:=fun x0 x1 x2 x3 x4 x5 x6 x7=>h1 (n:=(neP aIa (neP inferInstance (neP inferInstance (neP ama (neP aua (neP inferInstance (neP inferInstance inferInstance)))))))) (C:=fun x=>C x.1 x.2.1 x.2.2.1 x.2.2.2.1 x.2.2.2.2.1 x.2.2.2.2.2.1 x.2.2.2.2.2.2.1 x.2.2.2.2.2.2.2) h (x0,x1,x2,x3,x4,x5,x6,x7)
noncomputable def xw2{α0 α1:Type}(n0:Nonempty α0)(n1:Nonempty α1)(C:World->α0->α1->Around->Shared->(Value->Shared->Prop)->(Value->Shared->Prop)->Prop):World×α0×α1×Around×Shared×(Value->Shared->Prop)×(Value->Shared->Prop):=e1 (neP aIa (neP inferInstance (neP inferInstance (neP ama (neP aua (neP inferInstance inferInstance)))))) fun x=>C x.1 x.2.1 x.2.2.1 x.2.2.2.1 x.2.2.2.2.1 x.2.2.2.2.2.1 x.2.2.2.2.2.2
theorem hw2{α0 α1:Type}[n0:Nonempty α0][n1:Nonempty α1]{C:World->α0->α1->Around->Shared->(Value->Shared->Prop)->(Value->Shared->Prop)->Prop}(h:C (p0 (xw2 n0 n1 C)) (p1 (xw2 n0 n1 C)) (p2 (xw2 n0 n1 C)) (p3 (xw2 n0 n1 C)) (p4 (xw2 n0 n1 C)) (p5 (xw2 n0 n1 C)) (l6 (xw2 n0 n1 C))):∀ x0 x1 x2 x3 x4 x5 x6,C x0 x1 x2 x3 x4 x5 x6:=fun x0 x1 x2 x3 x4 x5 x6=>h1 (n:=(neP aIa (neP inferInstance (neP inferInstance (neP ama (neP aua (neP inferInstance inferInstance))))))) (C:=fun x=>C x.1 x.2.1 x.2.2.1 x.2.2.2.1 x.2.2.2.2.1 x.2.2.2.2.2.1 x.2.2.2.2.2.2) h (x0,x1,x2,x3,x4,x5,x6)
noncomputable def xv3{α0 α1 α2:Type}(n0:Nonempty α0)(n1:Nonempty α1)(n2:Nonempty α2)(C:World->α0->α1->α2->Around->Shared->Heap->(Value->Shared->Prop)->(Value->Shared->Prop)->Prop):World×α0×α1×α2×Around×Shared×Heap×(Value->Shared->Prop)×(Value->Shared->Prop):=e1 (neP aIa (neP inferInstance (neP inferInstance (neP inferInstance (neP ama (neP aua (neP inferInstance (neP inferInstance inferInstance)))))))) fun x=>C x.1 x.2.1 x.2.2.1 x.2.2.2.1 x.2.2.2.2.1 x.2.2.2.2.2.1 x.2.2.2.2.2.2.1 x.2.2.2.2.2.2.2.1 x.2.2.2.2.2.2.2.2
theorem hv3{α0 α1 α2:Type}[n0:Nonempty α0][n1:Nonempty α1][n2:Nonempty α2]{C:World->α0->α1->α2->Around->Shared->Heap->(Value->Shared->Prop)->(Value->Shared->Prop)->Prop}(h:C (p0 (xv3 n0 n1 n2 C)) (p1 (xv3 n0 n1 n2 C)) (p2 (xv3 n0 n1 n2 C)) (p3 (xv3 n0 n1 n2 C)) (p4 (xv3 n0 n1 n2 C)) (p5 (xv3 n0 n1 n2 C)) (p6 (xv3 n0 n1 n2 C)) (p7 (xv3 n0 n1 n2 C)) (l8 (xv3 n0 n1 n2 C))):∀ x0 x1 x2 x3 x4 x5 x6 x7 x8,C x0 x1 x2 x3 x4 x5 x6 x7 x8:=fun x0 x1 x2 x3 x4 x5 x6 x7 x8=>h1 (n:=(neP aIa (neP inferInstance (neP inferInstance (neP inferInstance (neP ama (neP aua (neP inferInstance (neP inferInstance inferInstance))))))))) (C:=fun x=>C x.1 x.2.1 x.2.2.1 x.2.2.2.1 x.2.2.2.2.1 x.2.2.2.2.2.1 x.2.2.2.2.2.2.1 x.2.2.2.2.2.2.2.1 x.2.2.2.2.2.2.2.2) h (x0,x1,x2,x3,x4,x5,x6,x7,x8)
noncomputable def xw4{α0 α1 α2 α3:Type}(n0:Nonempty α0)(n1:Nonempty α1)(n2:Nonempty α2)(n3:Nonempty α3)(C:World->α0->α1->α2->α3->Around->Shared->(Value->Shared->Prop)->(Value->Shared->Prop)->Prop):World×α0×α1×α2×α3×Around×Shared×(Value->Shared->Prop)×(Value->Shared->Prop):=e1 (neP aIa (neP inferInstance (neP inferInstance (neP inferInstance (neP inferInstance (neP ama (neP aua (neP inferInstance inferInstance)))))))) fun x=>C x.1 x.2.1 x.2.2.1 x.2.2.2.1 x.2.2.2.2.1 x.2.2.2.2.2.1 x.2.2.2.2.2.2.1 x.2.2.2.2.2.2.2.1 x.2.2.2.2.2.2.2.2
theorem hw4{α0 α1 α2 α3:Type}[n0:Nonempty α0][n1:Nonempty α1][n2:Nonempty α2][n3:Nonempty α3]{C:World->α0->α1->α2->α3->Around->Shared->(Value->Shared->Prop)->(Value->Shared->Prop)->Prop}(h:C (p0 (xw4 n0 n1 n2 n3 C)) (p1 (xw4 n0 n1 n2 n3 C)) (p2 (xw4 n0 n1 n2 n3 C)) (p3 (xw4 n0 n1 n2 n3 C)) (p4 (xw4 n0 n1 n2 n3 C)) (p5 (xw4 n0 n1 n2 n3 C)) (p6 (xw4 n0 n1 n2 n3 C)) (p7 (xw4 n0 n1 n2 n3 C)) (l8 (xw4 n0 n1 n2 n3 C))):∀ x0 x1 x2 x3 x4 x5 x6 x7 x8,C x0 x1 x2 x3 x4 x5 x6 x7 x8:=fun x0 x1 x2 x3 x4 x5 x6 x7 x8=>h1 (n:=(neP aIa (neP inferInstance (neP inferInstance (neP inferInstance (neP inferInstance (neP ama (neP aua (neP inferInstance inferInstance))))))))) (C:=fun x=>C x.1 x.2.1 x.2.2.1 x.2.2.2.1 x.2.2.2.2.1 x.2.2.2.2.2.1 x.2.2.2.2.2.2.1 x.2.2.2.2.2.2.2.1 x.2.2.2.2.2.2.2.2) h (x0,x1,x2,x3,x4,x5,x6,x7,x8)
noncomputable def xv5{α0 α1 α2 α3 α4:Type}(n0:Nonempty α0)(n1:Nonempty α1)(n2:Nonempty α2)(n3:Nonempty α3)(n4:Nonempty α4)(C:World->α0->α1->α2->α3->α4->Around->Shared->Heap->(Value->Shared->Prop)->(Value->Shared->Prop)->Prop):World×α0×α1×α2×α3×α4×Around×Shared×Heap×(Value->Shared->Prop)×(Value->Shared->Prop):=e1 (neP aIa (neP inferInstance (neP inferInstance (neP inferInstance (neP inferInstance (neP inferInstance (neP ama (neP aua (neP inferInstance (neP inferInstance inferInstance)))))))))) fun x=>C x.1 x.2.1 x.2.2.1 x.2.2.2.1 x.2.2.2.2.1 x.2.2.2.2.2.1 x.2.2.2.2.2.2.1 x.2.2.2.2.2.2.2.1 x.2.2.2.2.2.2.2.2.1 x.2.2.2.2.2.2.2.2.2.1 x.2.2.2.2.2.2.2.2.2.2
theorem hv5{α0 α1 α2 α3 α4:Type}[n0:Nonempty α0][n1:Nonempty α1][n2:Nonempty α2][n3:Nonempty α3][n4:Nonempty α4]{C:World->α0->α1->α2->α3->α4->Around->Shared->Heap->(Value->Shared->Prop)->(Value->Shared->Prop)->Prop}(h:C (p0 (xv5 n0 n1 n2 n3 n4 C)) (p1 (xv5 n0 n1 n2 n3 n4 C)) (p2 (xv5 n0 n1 n2 n3 n4 C)) (p3 (xv5 n0 n1 n2 n3 n4 C)) (p4 (xv5 n0 n1 n2 n3 n4 C)) (p5 (xv5 n0 n1 n2 n3 n4 C)) (p6 (xv5 n0 n1 n2 n3 n4 C)) (p7 (xv5 n0 n1 n2 n3 n4 C)) (p8 (xv5 n0 n1 n2 n3 n4 C)) (p9 (xv5 n0 n1 n2 n3 n4 C)) (l10 (xv5 n0 n1 n2 n3 n4 C))):∀ x0 x1 x2 x3 x4 x5 x6 x7 x8 x9 x10,C x0 x1 x2 x3 x4 x5 x6 x7 x8 x9 x10:=fun x0 x1 x2 x3 x4 x5 x6 x7 x8 x9 x10=>h1 (n:=(neP aIa (neP inferInstance (neP inferInstance (neP inferInstance (neP inferInstance (neP inferInstance (neP ama (neP aua (neP inferInstance (neP inferInstance inferInstance))))))))))) (C:=fun x=>C x.1 x.2.1 x.2.2.1 x.2.2.2.1 x.2.2.2.2.1 x.2.2.2.2.2.1 x.2.2.2.2.2.2.1 x.2.2.2.2.2.2.2.1 x.2.2.2.2.2.2.2.2.1 x.2.2.2.2.2.2.2.2.2.1 x.2.2.2.2.2.2.2.2.2.2) h (x0,x1,x2,x3,x4,x5,x6,x7,x8,x9,x10)
noncomputable def xw6{α0 α1 α2 α3 α4 α5:Type}(n0:Nonempty α0)(n1:Nonempty α1)(n2:Nonempty α2)(n3:Nonempty α3)(n4:Nonempty α4)(n5:Nonempty α5)(C:World->α0->α1->α2->α3->α4->α5->Around->Shared->(Value->Shared->Prop)->(Value->Shared->Prop)->Prop):World×α0×α1×α2×α3×α4×α5×Around×Shared×(Value->Shared->Prop)×(Value->Shared->Prop):=e1 (neP aIa (neP inferInstance (neP inferInstance (neP inferInstance (neP inferInstance (neP inferInstance (neP inferInstance (neP ama (neP aua (neP inferInstance inferInstance)))))))))) fun x=>C x.1 x.2.1 x.2.2.1 x.2.2.2.1 x.2.2.2.2.1 x.2.2.2.2.2.1 x.2.2.2.2.2.2.1 x.2.2.2.2.2.2.2.1 x.2.2.2.2.2.2.2.2.1 x.2.2.2.2.2.2.2.2.2.1 x.2.2.2.2.2.2.2.2.2.2
theorem hw6{α0 α1 α2 α3 α4 α5:Type}[n0:Nonempty α0][n1:Nonempty α1][n2:Nonempty α2][n3:Nonempty α3][n4:Nonempty α4][n5:Nonempty α5]{C:World->α0->α1->α2->α3->α4->α5->Around->Shared->(Value->Shared->Prop)->(Value->Shared->Prop)->Prop}(h:C (p0 (xw6 n0 n1 n2 n3 n4 n5 C)) (p1 (xw6 n0 n1 n2 n3 n4 n5 C)) (p2 (xw6 n0 n1 n2 n3 n4 n5 C)) (p3 (xw6 n0 n1 n2 n3 n4 n5 C)) (p4 (xw6 n0 n1 n2 n3 n4 n5 C)) (p5 (xw6 n0 n1 n2 n3 n4 n5 C)) (p6 (xw6 n0 n1 n2 n3 n4 n5 C)) (p7 (xw6 n0 n1 n2 n3 n4 n5 C)) (p8 (xw6 n0 n1 n2 n3 n4 n5 C)) (p9 (xw6 n0 n1 n2 n3 n4 n5 C)) (l10 (xw6 n0 n1 n2 n3 n4 n5 C))):∀ x0 x1 x2 x3 x4 x5 x6 x7 x8 x9 x10,C x0 x1 x2 x3 x4 x5 x6 x7 x8 x9 x10:=fun x0 x1 x2 x3 x4 x5 x6 x7 x8 x9 x10=>h1 (n:=(neP aIa (neP inferInstance (neP inferInstance (neP inferInstance (neP inferInstance (neP inferInstance (neP inferInstance (neP ama (neP aua (neP inferInstance inferInstance))))))))))) (C:=fun x=>C x.1 x.2.1 x.2.2.1 x.2.2.2.1 x.2.2.2.2.1 x.2.2.2.2.2.1 x.2.2.2.2.2.2.1 x.2.2.2.2.2.2.2.1 x.2.2.2.2.2.2.2.2.1 x.2.2.2.2.2.2.2.2.2.1 x.2.2.2.2.2.2.2.2.2.2) h (x0,x1,x2,x3,x4,x5,x6,x7,x8,x9,x10)
noncomputable def xw8{α0 α1 α2 α3 α4 α5 α6 α7:Type}(n0:Nonempty α0)(n1:Nonempty α1)(n2:Nonempty α2)(n3:Nonempty α3)(n4:Nonempty α4)(n5:Nonempty α5)(n6:Nonempty α6)(n7:Nonempty α7)(C:World->α0->α1->α2->α3->α4->α5->α6->α7->Around->Shared->(Value->Shared->Prop)->(Value->Shared->Prop)->Prop):World×α0×α1×α2×α3×α4×α5×α6×α7×Around×Shared×(Value->Shared->Prop)×(Value->Shared->Prop):=e1 (neP aIa (neP inferInstance (neP inferInstance (neP inferInstance (neP inferInstance (neP inferInstance (neP inferInstance (neP inferInstance (neP inferInstance (neP ama (neP aua (neP inferInstance inferInstance)))))))))))) fun x=>C x.1 x.2.1 x.2.2.1 x.2.2.2.1 x.2.2.2.2.1 x.2.2.2.2.2.1 x.2.2.2.2.2.2.1 x.2.2.2.2.2.2.2.1 x.2.2.2.2.2.2.2.2.1 x.2.2.2.2.2.2.2.2.2.1 x.2.2.2.2.2.2.2.2.2.2.1 x.2.2.2.2.2.2.2.2.2.2.2.1 x.2.2.2.2.2.2.2.2.2.2.2.2
theorem hw8{α0 α1 α2 α3 α4 α5 α6 α7:Type}[n0:Nonempty α0][n1:Nonempty α1][n2:Nonempty α2][n3:Nonempty α3][n4:Nonempty α4][n5:Nonempty α5][n6:Nonempty α6][n7:Nonempty α7]{C:World->α0->α1->α2->α3->α4->α5->α6->α7->Around->Shared->(Value->Shared->Prop)->(Value->Shared->Prop)->Prop}(h:C (p0 (xw8 n0 n1 n2 n3 n4 n5 n6 n7 C)) (p1 (xw8 n0 n1 n2 n3 n4 n5 n6 n7 C)) (p2 (xw8 n0 n1 n2 n3 n4 n5 n6 n7 C)) (p3 (xw8 n0 n1 n2 n3 n4 n5 n6 n7 C)) (p4 (xw8 n0 n1 n2 n3 n4 n5 n6 n7 C)) (p5 (xw8 n0 n1 n2 n3 n4 n5 n6 n7 C)) (p6 (xw8 n0 n1 n2 n3 n4 n5 n6 n7 C)) (p7 (xw8 n0 n1 n2 n3 n4 n5 n6 n7 C)) (p8 (xw8 n0 n1 n2 n3 n4 n5 n6 n7 C)) (p9 (xw8 n0 n1 n2 n3 n4 n5 n6 n7 C)) (p10 (xw8 n0 n1 n2 n3 n4 n5 n6 n7 C)) (p11 (xw8 n0 n1 n2 n3 n4 n5 n6 n7 C)) (l12 (xw8 n0 n1 n2 n3 n4 n5 n6 n7 C))):∀ x0 x1 x2 x3 x4 x5 x6 x7 x8 x9 x10 x11 x12,C x0 x1 x2 x3 x4 x5 x6 x7 x8 x9 x10 x11 x12:=fun x0 x1 x2 x3 x4 x5 x6 x7 x8 x9 x10 x11 x12=>h1 (n:=(neP aIa (neP inferInstance (neP inferInstance (neP inferInstance (neP inferInstance (neP inferInstance (neP inferInstance (neP inferInstance (neP inferInstance (neP ama (neP aua (neP inferInstance inferInstance))))))))))))) (C:=fun x=>C x.1 x.2.1 x.2.2.1 x.2.2.2.1 x.2.2.2.2.1 x.2.2.2.2.2.1 x.2.2.2.2.2.2.1 x.2.2.2.2.2.2.2.1 x.2.2.2.2.2.2.2.2.1 x.2.2.2.2.2.2.2.2.2.1 x.2.2.2.2.2.2.2.2.2.2.1 x.2.2.2.2.2.2.2.2.2.2.2.1 x.2.2.2.2.2.2.2.2.2.2.2.2) h (x0,x1,x2,x3,x4,x5,x6,x7,x8,x9,x10,x11,x12)
noncomputable def xv9{α0 α1 α2 α3 α4 α5 α6 α7 α8:Type}(n0:Nonempty α0)(n1:Nonempty α1)(n2:Nonempty α2)(n3:Nonempty α3)(n4:Nonempty α4)(n5:Nonempty α5)(n6:Nonempty α6)(n7:Nonempty α7)(n8:Nonempty α8)(C:World->α0->α1->α2->α3->α4->α5->α6->α7->α8->Around->Shared->Heap->(Value->Shared->Prop)->(Value->Shared->Prop)->Prop):World×α0×α1×α2×α3×α4×α5×α6×α7×α8×Around×Shared×Heap×(Value->Shared->Prop)×(Value->Shared->Prop):=e1 (neP aIa (neP inferInstance (neP inferInstance (neP inferInstance (neP inferInstance (neP inferInstance (neP inferInstance (neP inferInstance (neP inferInstance (neP inferInstance (neP ama (neP aua (neP inferInstance (neP inferInstance inferInstance)))))))))))))) fun x=>C x.1 x.2.1 x.2.2.1 x.2.2.2.1 x.2.2.2.2.1 x.2.2.2.2.2.1 x.2.2.2.2.2.2.1 x.2.2.2.2.2.2.2.1 x.2.2.2.2.2.2.2.2.1 x.2.2.2.2.2.2.2.2.2.1 x.2.2.2.2.2.2.2.2.2.2.1 x.2.2.2.2.2.2.2.2.2.2.2.1 x.2.2.2.2.2.2.2.2.2.2.2.2.1 x.2.2.2.2.2.2.2.2.2.2.2.2.2.1 x.2.2.2.2.2.2.2.2.2.2.2.2.2.2
theorem hv9{α0 α1 α2 α3 α4 α5 α6 α7 α8:Type}[n0:Nonempty α0][n1:Nonempty α1][n2:Nonempty α2][n3:Nonempty α3][n4:Nonempty α4][n5:Nonempty α5][n6:Nonempty α6][n7:Nonempty α7][n8:Nonempty α8]{C:World->α0->α1->α2->α3->α4->α5->α6->α7->α8->Around->Shared->Heap->(Value->Shared->Prop)->(Value->Shared->Prop)->Prop}(h:C (p0 (xv9 n0 n1 n2 n3 n4 n5 n6 n7 n8 C)) (p1 (xv9 n0 n1 n2 n3 n4 n5 n6 n7 n8 C)) (p2 (xv9 n0 n1 n2 n3 n4 n5 n6 n7 n8 C)) (p3 (xv9 n0 n1 n2 n3 n4 n5 n6 n7 n8 C)) (p4 (xv9 n0 n1 n2 n3 n4 n5 n6 n7 n8 C)) (p5 (xv9 n0 n1 n2 n3 n4 n5 n6 n7 n8 C)) (p6 (xv9 n0 n1 n2 n3 n4 n5 n6 n7 n8 C)) (p7 (xv9 n0 n1 n2 n3 n4 n5 n6 n7 n8 C)) (p8 (xv9 n0 n1 n2 n3 n4 n5 n6 n7 n8 C)) (p9 (xv9 n0 n1 n2 n3 n4 n5 n6 n7 n8 C)) (p10 (xv9 n0 n1 n2 n3 n4 n5 n6 n7 n8 C)) (p11 (xv9 n0 n1 n2 n3 n4 n5 n6 n7 n8 C)) (p12 (xv9 n0 n1 n2 n3 n4 n5 n6 n7 n8 C)) (p13 (xv9 n0 n1 n2 n3 n4 n5 n6 n7 n8 C)) (l14 (xv9 n0 n1 n2 n3 n4 n5 n6 n7 n8 C))):∀ x0 x1 x2 x3 x4 x5 x6 x7 x8 x9 x10 x11 x12 x13 x14,C x0 x1 x2 x3 x4 x5 x6 x7 x8 x9 x10 x11 x12 x13 x14:=fun x0 x1 x2 x3 x4 x5 x6 x7 x8 x9 x10 x11 x12 x13 x14=>h1 (n:=(neP aIa (neP inferInstance (neP inferInstance (neP inferInstance (neP inferInstance (neP inferInstance (neP inferInstance (neP inferInstance (neP inferInstance (neP inferInstance (neP ama (neP aua (neP inferInstance (neP inferInstance inferInstance))))))))))))))) (C:=fun x=>C x.1 x.2.1 x.2.2.1 x.2.2.2.1 x.2.2.2.2.1 x.2.2.2.2.2.1 x.2.2.2.2.2.2.1 x.2.2.2.2.2.2.2.1 x.2.2.2.2.2.2.2.2.1 x.2.2.2.2.2.2.2.2.2.1 x.2.2.2.2.2.2.2.2.2.2.1 x.2.2.2.2.2.2.2.2.2.2.2.1 x.2.2.2.2.2.2.2.2.2.2.2.2.1 x.2.2.2.2.2.2.2.2.2.2.2.2.2.1 x.2.2.2.2.2.2.2.2.2.2.2.2.2.2) h (x0,x1,x2,x3,x4,x5,x6,x7,x8,x9,x10,x11,x12,x13,x14)
noncomputable def xw9{α0 α1 α2 α3 α4 α5 α6 α7 α8:Type}(n0:Nonempty α0)(n1:Nonempty α1)(n2:Nonempty α2)(n3:Nonempty α3)(n4:Nonempty α4)(n5:Nonempty α5)(n6:Nonempty α6)(n7:Nonempty α7)(n8:Nonempty α8)(C:World->α0->α1->α2->α3->α4->α5->α6->α7->α8->Around->Shared->(Value->Shared->Prop)->(Value->Shared->Prop)->Prop):World×α0×α1×α2×α3×α4×α5×α6×α7×α8×Around×Shared×(Value->Shared->Prop)×(Value->Shared->Prop):=e1 (neP aIa (neP inferInstance (neP inferInstance (neP inferInstance (neP inferInstance (neP inferInstance (neP inferInstance (neP inferInstance (neP inferInstance (neP inferInstance (neP ama (neP aua (neP inferInstance inferInstance))))))))))))) fun x=>C x.1 x.2.1 x.2.2.1 x.2.2.2.1 x.2.2.2.2.1 x.2.2.2.2.2.1 x.2.2.2.2.2.2.1 x.2.2.2.2.2.2.2.1 x.2.2.2.2.2.2.2.2.1 x.2.2.2.2.2.2.2.2.2.1 x.2.2.2.2.2.2.2.2.2.2.1 x.2.2.2.2.2.2.2.2.2.2.2.1 x.2.2.2.2.2.2.2.2.2.2.2.2.1 x.2.2.2.2.2.2.2.2.2.2.2.2.2
theorem hw9{α0 α1 α2 α3 α4 α5 α6 α7 α8:Type}[n0:Nonempty α0][n1:Nonempty α1][n2:Nonempty α2][n3:Nonempty α3][n4:Nonempty α4][n5:Nonempty α5][n6:Nonempty α6][n7:Nonempty α7][n8:Nonempty α8]{C:World->α0->α1->α2->α3->α4->α5->α6->α7->α8->Around->Shared->(Value->Shared->Prop)->(Value->Shared->Prop)->Prop}(h:C (p0 (xw9 n0 n1 n2 n3 n4 n5 n6 n7 n8 C)) (p1 (xw9 n0 n1 n2 n3 n4 n5 n6 n7 n8 C)) (p2 (xw9 n0 n1 n2 n3 n4 n5 n6 n7 n8 C)) (p3 (xw9 n0 n1 n2 n3 n4 n5 n6 n7 n8 C)) (p4 (xw9 n0 n1 n2 n3 n4 n5 n6 n7 n8 C)) (p5 (xw9 n0 n1 n2 n3 n4 n5 n6 n7 n8 C)) (p6 (xw9 n0 n1 n2 n3 n4 n5 n6 n7 n8 C)) (p7 (xw9 n0 n1 n2 n3 n4 n5 n6 n7 n8 C)) (p8 (xw9 n0 n1 n2 n3 n4 n5 n6 n7 n8 C)) (p9 (xw9 n0 n1 n2 n3 n4 n5 n6 n7 n8 C)) (p10 (xw9 n0 n1 n2 n3 n4 n5 n6 n7 n8 C)) (p11 (xw9 n0 n1 n2 n3 n4 n5 n6 n7 n8 C)) (p12 (xw9 n0 n1 n2 n3 n4 n5 n6 n7 n8 C)) (l13 (xw9 n0 n1 n2 n3 n4 n5 n6 n7 n8 C))):∀ x0 x1 x2 x3 x4 x5 x6 x7 x8 x9 x10 x11 x12 x13,C x0 x1 x2 x3 x4 x5 x6 x7 x8 x9 x10 x11 x12 x13:=fun x0 x1 x2 x3 x4 x5 x6 x7 x8 x9 x10 x11 x12 x13=>h1 (n:=(neP aIa (neP inferInstance (neP inferInstance (neP inferInstance (neP inferInstance (neP inferInstance (neP inferInstance (neP inferInstance (neP inferInstance (neP inferInstance (neP ama (neP aua (neP inferInstance inferInstance)))))))))))))) (C:=fun x=>C x.1 x.2.1 x.2.2.1 x.2.2.2.1 x.2.2.2.2.1 x.2.2.2.2.2.1 x.2.2.2.2.2.2.1 x.2.2.2.2.2.2.2.1 x.2.2.2.2.2.2.2.2.1 x.2.2.2.2.2.2.2.2.2.1 x.2.2.2.2.2.2.2.2.2.2.1 x.2.2.2.2.2.2.2.2.2.2.2.1 x.2.2.2.2.2.2.2.2.2.2.2.2.1 x.2.2.2.2.2.2.2.2.2.2.2.2.2) h (x0,x1,x2,x3,x4,x5,x6,x7,x8,x9,x10,x11,x12,x13)
noncomputable def f9a{α0 α1 α2 α3 α4 α5 α6 α7 α8 α9:Type}(n0:Nonempty α0)(n1:Nonempty α1)(n2:Nonempty α2)(n3:Nonempty α3)(n4:Nonempty α4)(n5:Nonempty α5)(n6:Nonempty α6)(n7:Nonempty α7)(n8:Nonempty α8)(n9:Nonempty α9)(C:World->α0->α1->α2->α3->α4->α5->α6->α7->α8->α9->Around->Shared->(Value->Shared->Prop)->(Value->Shared->Prop)->Prop):World×α0×α1×α2×α3×α4×α5×α6×α7×α8×α9×Around×Shared×(Value->Shared->Prop)×(Value->Shared->Prop):=e1 (neP aIa (neP inferInstance (neP inferInstance (neP inferInstance (neP inferInstance (neP inferInstance (neP inferInstance (neP inferInstance (neP inferInstance (neP inferInstance (neP inferInstance (neP ama (neP aua (neP inferInstance inferInstance)))))))))))))) fun x=>C x.1 x.2.1 x.2.2.1 x.2.2.2.1 x.2.2.2.2.1 x.2.2.2.2.2.1 x.2.2.2.2.2.2.1 x.2.2.2.2.2.2.2.1 x.2.2.2.2.2.2.2.2.1 x.2.2.2.2.2.2.2.2.2.1 x.2.2.2.2.2.2.2.2.2.2.1 x.2.2.2.2.2.2.2.2.2.2.2.1 x.2.2.2.2.2.2.2.2.2.2.2.2.1 x.2.2.2.2.2.2.2.2.2.2.2.2.2.1 x.2.2.2.2.2.2.2.2.2.2.2.2.2.2
theorem sLa{α0 α1 α2 α3 α4 α5 α6 α7 α8 α9:Type}[n0:Nonempty α0][n1:Nonempty α1][n2:Nonempty α2][n3:Nonempty α3][n4:Nonempty α4][n5:Nonempty α5][n6:Nonempty α6][n7:Nonempty α7][n8:Nonempty α8][n9:Nonempty α9]{C:World->α0->α1->α2->α3->α4->α5->α6->α7->α8->α9->Around->Shared->(Value->Shared->Prop)->(Value->Shared->Prop)->Prop}(h:C (p0 (f9a n0 n1 n2 n3 n4 n5 n6 n7 n8 n9 C)) (p1 (f9a n0 n1 n2 n3 n4 n5 n6 n7 n8 n9 C)) (p2 (f9a n0 n1 n2 n3 n4 n5 n6 n7 n8 n9 C)) (p3 (f9a n0 n1 n2 n3 n4 n5 n6 n7 n8 n9 C)) (p4 (f9a n0 n1 n2 n3 n4 n5 n6 n7 n8 n9 C)) (p5 (f9a n0 n1 n2 n3 n4 n5 n6 n7 n8 n9 C)) (p6 (f9a n0 n1 n2 n3 n4 n5 n6 n7 n8 n9 C)) (p7 (f9a n0 n1 n2 n3 n4 n5 n6 n7 n8 n9 C)) (p8 (f9a n0 n1 n2 n3 n4 n5 n6 n7 n8 n9 C)) (p9 (f9a n0 n1 n2 n3 n4 n5 n6 n7 n8 n9 C)) (p10 (f9a n0 n1 n2 n3 n4 n5 n6 n7 n8 n9 C)) (p11 (f9a n0 n1 n2 n3 n4 n5 n6 n7 n8 n9 C)) (p12 (f9a n0 n1 n2 n3 n4 n5 n6 n7 n8 n9 C)) (p13 (f9a n0 n1 n2 n3 n4 n5 n6 n7 n8 n9 C)) (l14 (f9a n0 n1 n2 n3 n4 n5 n6 n7 n8 n9 C))):∀ x0 x1 x2 x3 x4 x5 x6 x7 x8 x9 x10 x11 x12 x13 x14,C x0 x1 x2 x3 x4 x5 x6 x7 x8 x9 x10 x11 x12 x13 x14:=fun x0 x1 x2 x3 x4 x5 x6 x7 x8 x9 x10 x11 x12 x13 x14=>h1 (n:=(neP aIa (neP inferInstance (neP inferInstance (neP inferInstance (neP inferInstance (neP inferInstance (neP inferInstance (neP inferInstance (neP inferInstance (neP inferInstance (neP inferInstance (neP ama (neP aua (neP inferInstance inferInstance))))))))))))))) (C:=fun x=>C x.1 x.2.1 x.2.2.1 x.2.2.2.1 x.2.2.2.2.1 x.2.2.2.2.2.1 x.2.2.2.2.2.2.1 x.2.2.2.2.2.2.2.1 x.2.2.2.2.2.2.2.2.1 x.2.2.2.2.2.2.2.2.2.1 x.2.2.2.2.2.2.2.2.2.2.1 x.2.2.2.2.2.2.2.2.2.2.2.1 x.2.2.2.2.2.2.2.2.2.2.2.2.1 x.2.2.2.2.2.2.2.2.2.2.2.2.2.1 x.2.2.2.2.2.2.2.2.2.2.2.2.2.2) h (x0,x1,x2,x3,x4,x5,x6,x7,x8,x9,x10,x11,x12,x13,x14)
noncomputable def gCa(C:Around->Heap->(List Env)->Program->(List Str)->(ExcName->Option Value)->(Str->Option Value)->(Str->Option Value)->Nat->Nat->(Option (List Code))->Addr->Heap->Nat->Prop):Around×Heap×(List Env)×Program×(List Str)×(ExcName->Option Value)×(Str->Option Value)×(Str->Option Value)×Nat×Nat×(Option (List Code))×Addr×Heap×Nat:=e1 (neP ama (neP inferInstance (neP inferInstance (neP inferInstance (neP inferInstance (neP inferInstance (neP inferInstance (neP inferInstance (neP inferInstance (neP inferInstance (neP inferInstance (neP inferInstance (neP inferInstance inferInstance))))))))))))) fun x=>C x.1 x.2.1 x.2.2.1 x.2.2.2.1 x.2.2.2.2.1 x.2.2.2.2.2.1 x.2.2.2.2.2.2.1 x.2.2.2.2.2.2.2.1 x.2.2.2.2.2.2.2.2.1 x.2.2.2.2.2.2.2.2.2.1 x.2.2.2.2.2.2.2.2.2.2.1 x.2.2.2.2.2.2.2.2.2.2.2.1 x.2.2.2.2.2.2.2.2.2.2.2.2.1 x.2.2.2.2.2.2.2.2.2.2.2.2.2
theorem sMa{C:Around->Heap->(List Env)->Program->(List Str)->(ExcName->Option Value)->(Str->Option Value)->(Str->Option Value)->Nat->Nat->(Option (List Code))->Addr->Heap->Nat->Prop}(h:C (p0 (gCa C)) (p1 (gCa C)) (p2 (gCa C)) (p3 (gCa C)) (p4 (gCa C)) (p5 (gCa C)) (p6 (gCa C)) (p7 (gCa C)) (p8 (gCa C)) (p9 (gCa C)) (p10 (gCa C)) (p11 (gCa C)) (p12 (gCa C)) (l13 (gCa C))):∀ x0 x1 x2 x3 x4 x5 x6 x7 x8 x9 x10 x11 x12 x13,C x0 x1 x2 x3 x4 x5 x6 x7 x8 x9 x10 x11 x12 x13:=fun x0 x1 x2 x3 x4 x5 x6 x7 x8 x9 x10 x11 x12 x13=>h1 (n:=(neP ama (neP inferInstance (neP inferInstance (neP inferInstance (neP inferInstance (neP inferInstance (neP inferInstance (neP inferInstance (neP inferInstance (neP inferInstance (neP inferInstance (neP inferInstance (neP inferInstance inferInstance)))))))))))))) (C:=fun x=>C x.1 x.2.1 x.2.2.1 x.2.2.2.1 x.2.2.2.2.1 x.2.2.2.2.2.1 x.2.2.2.2.2.2.1 x.2.2.2.2.2.2.2.1 x.2.2.2.2.2.2.2.2.1 x.2.2.2.2.2.2.2.2.2.1 x.2.2.2.2.2.2.2.2.2.2.1 x.2.2.2.2.2.2.2.2.2.2.2.1 x.2.2.2.2.2.2.2.2.2.2.2.2.1 x.2.2.2.2.2.2.2.2.2.2.2.2.2) h (x0,x1,x2,x3,x4,x5,x6,x7,x8,x9,x10,x11,x12,x13)
noncomputable def cEa(C:Around->Heap->(List Env)->Program->(List Str)->(ExcName->Option Value)->(Str->Option Value)->(Str->Option Value)->Nat->Nat->(Option (List Code))->Addr->Heap->Nat->(List (Addr×Obj))->Prop):Around×Heap×(List Env)×Program×(List Str)×(ExcName->Option Value)×(Str->Option Value)×(Str->Option Value)×Nat×Nat×(Option (List Code))×Addr×Heap×Nat×(List (Addr×Obj)):=e1 (neP ama (neP inferInstance (neP inferInstance (neP inferInstance (neP inferInstance (neP inferInstance (neP inferInstance (neP inferInstance (neP inferInstance (neP inferInstance (neP inferInstance (neP inferInstance (neP inferInstance (neP inferInstance inferInstance)))))))))))))) fun x=>C x.1 x.2.1 x.2.2.1 x.2.2.2.1 x.2.2.2.2.1 x.2.2.2.2.2.1 x.2.2.2.2.2.2.1 x.2.2.2.2.2.2.2.1 x.2.2.2.2.2.2.2.2.1 x.2.2.2.2.2.2.2.2.2.1 x.2.2.2.2.2.2.2.2.2.2.1 x.2.2.2.2.2.2.2.2.2.2.2.1 x.2.2.2.2.2.2.2.2.2.2.2.2.1 x.2.2.2.2.2.2.2.2.2.2.2.2.2.1 x.2.2.2.2.2.2.2.2.2.2.2.2.2.2
theorem qka{C:Around->Heap->(List Env)->Program->(List Str)->(ExcName->Option Value)->(Str->Option Value)->(Str->Option Value)->Nat->Nat->(Option (List Code))->Addr->Heap->Nat->(List (Addr×Obj))->Prop}(h:C (p0 (cEa C)) (p1 (cEa C)) (p2 (cEa C)) (p3 (cEa C)) (p4 (cEa C)) (p5 (cEa C)) (p6 (cEa C)) (p7 (cEa C)) (p8 (cEa C)) (p9 (cEa C)) (p10 (cEa C)) (p11 (cEa C)) (p12 (cEa C)) (p13 (cEa C)) (l14 (cEa C))):∀ x0 x1 x2 x3 x4 x5 x6 x7 x8 x9 x10 x11 x12 x13 x14,C x0 x1 x2 x3 x4 x5 x6 x7 x8 x9 x10 x11 x12 x13 x14:=fun x0 x1 x2 x3 x4 x5 x6 x7 x8 x9 x10 x11 x12 x13 x14=>h1 (n:=(neP ama (neP inferInstance (neP inferInstance (neP inferInstance (neP inferInstance (neP inferInstance (neP inferInstance (neP inferInstance (neP inferInstance (neP inferInstance (neP inferInstance (neP inferInstance (neP inferInstance (neP inferInstance inferInstance))))))))))))))) (C:=fun x=>C x.1 x.2.1 x.2.2.1 x.2.2.2.1 x.2.2.2.2.1 x.2.2.2.2.2.1 x.2.2.2.2.2.2.1 x.2.2.2.2.2.2.2.1 x.2.2.2.2.2.2.2.2.1 x.2.2.2.2.2.2.2.2.2.1 x.2.2.2.2.2.2.2.2.2.2.1 x.2.2.2.2.2.2.2.2.2.2.2.1 x.2.2.2.2.2.2.2.2.2.2.2.2.1 x.2.2.2.2.2.2.2.2.2.2.2.2.2.1 x.2.2.2.2.2.2.2.2.2.2.2.2.2.2) h (x0,x1,x2,x3,x4,x5,x6,x7,x8,x9,x10,x11,x12,x13,x14)
noncomputable def cxa(C:Around->Heap->(List Env)->Program->(List Str)->(ExcName->Option Value)->(Str->Option Value)->(Str->Option Value)->Nat->Nat->(Option (List Code))->Addr->Heap->Nat->Addr->Addr->Prop):Around×Heap×(List Env)×Program×(List Str)×(ExcName->Option Value)×(Str->Option Value)×(Str->Option Value)×Nat×Nat×(Option (List Code))×Addr×Heap×Nat×Addr×Addr:=e1 (neP ama (neP inferInstance (neP inferInstance (neP inferInstance (neP inferInstance (neP inferInstance (neP inferInstance (neP inferInstance (neP inferInstance (neP inferInstance (neP inferInstance (neP inferInstance (neP inferInstance (neP inferInstance (neP inferInstance inferInstance))))))))))))))) fun x=>C x.1 x.2.1 x.2.2.1 x.2.2.2.1 x.2.2.2.2.1 x.2.2.2.2.2.1 x.2.2.2.2.2.2.1 x.2.2.2.2.2.2.2.1 x.2.2.2.2.2.2.2.2.1 x.2.2.2.2.2.2.2.2.2.1 x.2.2.2.2.2.2.2.2.2.2.1 x.2.2.2.2.2.2.2.2.2.2.2.1 x.2.2.2.2.2.2.2.2.2.2.2.2.1 x.2.2.2.2.2.2.2.2.2.2.2.2.2.1 x.2.2.2.2.2.2.2.2.2.2.2.2.2.2.1 x.2.2.2.2.2.2.2.2.2.2.2.2.2.2.2
theorem qja{C:Around->Heap->(List Env)->Program->(List Str)->(ExcName->Option Value)->(Str->Option Value)->(Str->Option Value)->Nat->Nat->(Option (List Code))->Addr->Heap->Nat->Addr->Addr->Prop}(h:C (p0 (cxa C)) (p1 (cxa C)) (p2 (cxa C)) (p3 (cxa C)) (p4 (cxa C)) (p5 (cxa C)) (p6 (cxa C)) (p7 (cxa C)) (p8 (cxa C)) (p9 (cxa C)) (p10 (cxa C)) (p11 (cxa C)) (p12 (cxa C)) (p13 (cxa C)) (p14 (cxa C)) (l15 (cxa C))):∀ x0 x1 x2 x3 x4 x5 x6 x7 x8 x9 x10 x11 x12 x13 x14 x15,C x0 x1 x2 x3 x4 x5 x6 x7 x8 x9 x10 x11 x12 x13 x14 x15:=fun x0 x1 x2 x3 x4 x5 x6 x7 x8 x9 x10 x11 x12 x13 x14 x15=>h1 (n:=(neP ama (neP inferInstance (neP inferInstance (neP inferInstance (neP inferInstance (neP inferInstance (neP inferInstance (neP inferInstance (neP inferInstance (neP inferInstance (neP inferInstance (neP inferInstance (neP inferInstance (neP inferInstance (neP inferInstance inferInstance)))))))))))))))) (C:=fun x=>C x.1 x.2.1 x.2.2.1 x.2.2.2.1 x.2.2.2.2.1 x.2.2.2.2.2.1 x.2.2.2.2.2.2.1 x.2.2.2.2.2.2.2.1 x.2.2.2.2.2.2.2.2.1 x.2.2.2.2.2.2.2.2.2.1 x.2.2.2.2.2.2.2.2.2.2.1 x.2.2.2.2.2.2.2.2.2.2.2.1 x.2.2.2.2.2.2.2.2.2.2.2.2.1 x.2.2.2.2.2.2.2.2.2.2.2.2.2.1 x.2.2.2.2.2.2.2.2.2.2.2.2.2.2.1 x.2.2.2.2.2.2.2.2.2.2.2.2.2.2.2) h (x0,x1,x2,x3,x4,x5,x6,x7,x8,x9,x10,x11,x12,x13,x14,x15)
structure i7a(K:Frag)(A:Around)(h:Heap):Prop where
 inK:K.In h
 hand:A.handled=none
 at_:kya A h
noncomputable def jba(A:Around)(n:Nat):Prop:=A.depth+n<recursionLimit∧A.units+8*n+200<cLine
noncomputable abbrev dya(d:Nat)(env:Env)(outer:List Env)(gd:Option (List Code))(u:Nat):Around:= {handled:=none,depth:=d,frames:=some (env::outer),guards:=gd,units:=u}
noncomputable def kWa(Q:Value->Shared->Prop):Flow->Shared->Prop:=fun fl s=>Q (match fl with| .ret v=>v|_=> .none) s
theorem jBa{Q:Value->Shared->Prop}{v:Value}{s:Shared}(h:Q v s):kWa Q (.ret v) s:=h
theorem ina{Q:Value->Shared->Prop}{s:Shared}(h:Q .none s):kWa Q .next s:=h
theorem qQa{α:Type}{M:Model}{A:Around}{t:Sem α}{Q:α->Shared->Prop}{E:Value->Shared->Prop}{s:Shared}(h:let q:=Q;wpAny M A t q E s):wpAny M A t Q E s:=h
section
variable {prog:Program} {w:World} {A:Around} {s:Shared} {K:Frag}
 {name qual:Str} {params:Arguments} {body:List Stmt} {scope:Scope} {dV kV doc pm cdv ct oc:Value} {an od:Option Addr} {osl:Array (Option Value)} {f:Addr} {vals:List Value} {binds:List (Str×Value)} {Q E:Value->Shared->Prop} {n:Nat}
theorem g7a(H:i7a K A s.heap)(hr:jba A (n+1))
 (ho:K.lookup f=some ⟨oc,od, .func (fnOf name qual params body scope dV kV doc pm an cdv ct),osl⟩) (hcd:codeIn K cdv qual=true)
 (hbind:BindsTo s (fnOf name qual params body scope dV kV doc pm an cdv ct) ⟨vals, []⟩ ((params.args.map (·.arg)).zip vals)) (hloc:∀ y∈(params.args.map (·.arg)).zip vals,scope.names.lookup y.1=some .local)
 (h:∀ (A₀:Around) (base:Heap) (outer:List Env) (p:Program) (loose:List Str) (mean:ExcName->Option Value) (mg mb:Str->Option Value) (d u:Nat) (gd:Option (List Code)) (L':Addr) (h₁:Heap) (tk₁:Nat),
   Below A₀ base outer s.heap->K.In s.heap->Top p loose mean mg mb s.heap->Fr s.heap L' h₁ (fun y=>((params.args.map (·.arg)).zip vals).reverse.lookup y)->News s.heap L' h₁ []->d+n<recursionLimit->u+8*n+200<cLine->
   wpAny (model prog w) (dya d (envOf qual scope L' f cdv) outer gd u) (execs body (envOf qual scope L' f cdv))
    (kWa Q) (fun _ _=>False) {s with heap:=h₁,toks:=tk₁})
 (hco:scope.isCoroutine=false) (hgen:scope.isGenerator=false) (hk:scope.kind= .function)
 (hcell:∀ x∈scope.names,x.2≠ .cell):wpAny (model prog w) A (call (.ref f) vals) Q E s:=by
 obtain⟨X,hh,A₀,base,h₀,outer,env,L,m,p,loose,mean,mg,mb,B,F,T,hA,hf,hke⟩:=H
 have G:=groundX (R:=fun _ _=>True) (news:= []) B F News.nil hA hf hke
 have G2:Below A base (env::outer) s.heap:=G.2.1
 refine wpAny_call (codeAny_call_def (fd:=fnOf name qual params body scope dV kV doc pm an cdv ct) (body:=body) (binds:=(params.args.map (·.arg)).zip vals) (Nat.lt_of_le_of_lt (Nat.le_add_right _ _) hr.1) (X _ _ ho) rfl T.nolimit (codeRec_of X hcd) rfl hbind hcell hloc (fun h₁ hns hk₁=> ?_) hco hgen hk)
 have hd:A.deeper (envOf qual scope s.heap.objs.size f cdv)=dya (A.depth+1) (envOf qual scope s.heap.objs.size f cdv) (env::outer) A.guards (A.units+3):=by
  obtain⟨hd,dp,fr,gs,u⟩:=A
  simp only at hh hA
  subst hh hA
  rfl
 have key:=h A base (env::outer) p loose mean mg mb (A.depth+1) (A.units+3) A.guards s.heap.objs.size h₁ (s.toks+((params.args.map (·.arg)).zip vals).length) G2 X T ⟨hns,hk₁,Nat.le_refl _⟩ News.nil (by have:=hr.1;omega) (by have:=hr.2;omega)
 rw [<-hd] at key
 exact wpAny_mono key (fun _ _ q=>q) fun _ _ q=>q.elim
end
theorem lba{K:Frag}{A₀:Around}{base g h:Heap}{outer:List Env}{p:Program}{loose:List Str}{mean:ExcName->Option Value}{mg mb:Str->Option Value}{d u:Nat}{gd:Option (List Code)}{L:Addr}{m:Str->Option Value}{env:Env}
 (B:Below A₀ base outer g) (X:K.In g) (T:Top p loose mean mg mb g) (F:Fr g L h m) (hf:env.frame=some L) (hk:env.scope.kind= .function):i7a K (dya d env outer gd u) h:=
 ⟨X.keeps F.keep,rfl,A₀,base,g,outer,env,L,m,p,loose,mean,mg,mb,B,F,T.keeps F.keep,rfl,hf,hk⟩
theorem jUa{g h h':Heap}{L:Addr}{m:Str->Option Value}(F:Fr g L h m)(st:h.StaysIn h'):Fr g L h' m:=
 ⟨F.ns.keeps st,fun b o e=>st b o (F.keep b o e),F.above⟩
theorem hqa{g h h':Heap}{L:Addr}{news:List (Addr×Obj)}(N:News g L h news)(st:h.StaysIn h'):News g L h' news:=
 fun p hp=>⟨st _ _ (N p hp).1,(N p hp).2⟩
noncomputable def RO(prog:Program)(w:World)(K:Frag)(f:Addr)(vals:List Value)(n:Nat)(pre:Heap->Prop)(post:Heap->Heap->Value->Prop):Prop:=
 ∀ (A:Around) (s:Shared) (Q E:Value->Shared->Prop),i7a K A s.heap->jba A n->pre s.heap->
   (∀ (h':Heap) (tk':Nat) (r:Value),s.heap.StaysIn h'->post s.heap h' r->Q r {s with heap:=h',toks:=tk'})->
   wpAny (model prog w) A (call (.ref f) vals) Q E s
theorem hRO{prog:Program}{w:World}{K:Frag}{f:Addr}{vals:List Value}{n:Nat}{pre:Heap->Prop}{post:Heap->Heap->Value->Prop}
 (h:∀ (A:Around) (s:Shared) (Q E:Value->Shared->Prop),i7a K A s.heap->jba A n->pre s.heap->(∀ (h':Heap) (tk':Nat) (r:Value),s.heap.StaysIn h'->post s.heap h' r->Q r {s with heap:=h',toks:=tk'})->wpAny (model prog w) A (call (.ref f) vals) Q E s):RO prog w K f vals n pre post:=h
section
variable {prog:Program} {w:World} {K:Frag} {A₀:Around} {base g:Heap} {outer:List Env} {p:Program} {loose:List Str} {mean:ExcName->Option Value} {mg mb:Str->Option Value} {d u:Nat} {gd:Option (List Code)} {L:Addr} {m:Str->Option Value} {env:Env}
 {f:Addr} {vals:List Value} {n k:Nat} {pre:Heap->Prop} {post:Heap->Heap->Value->Prop} {s:Shared} {Q E:Value->Shared->Prop} {news:List (Addr×Obj)}
theorem a9a{hp0:Heap}{gn0:Array GenState}{dw0:Drawn}{tk0:Nat}{os0:OsState}(S:RO prog w K f vals n pre post)(B:Below A₀ base outer g)(X:K.In g)(T:Top p loose mean mg mb g)(F:Fr g L hp0 m)(N:News g L hp0 news)(hd:d+n<recursionLimit)(hu:u+8*n+200<cLine)
 (hp:pre hp0)
 (h:∀ (h':Heap) (tk':Nat) (r:Value),Fr g L h' m->News g L h' news->hp0.StaysIn h'->post hp0 h' r->Q r ⟨h',gn0,dw0,tk',os0⟩)
 (hf:env.frame=some L) (hk:env.scope.kind= .function):
 wpAny (model prog w) (dya d env outer gd u) (call (.ref f) vals) Q E ⟨hp0,gn0,dw0,tk0,os0⟩:=
 S _ ⟨hp0,gn0,dw0,tk0,os0⟩ Q E (lba B X T F hf hk) ⟨hd,hu⟩ hp fun h' tk' r st q=>h h' tk' r (jUa F st) (hqa N st) st q
end
end Mine
namespace Mine
structure aaa where
 kind:Str
 name:Str
 uri:Str
 loc:Str
 value:Str
 parent:Option Nat
 children:List Nat
 attrs:List Nat
 nss:List Nat
 deriving Inhabited
inductive b2a:Option Nat->Value->Prop
 |none:b2a none .none
 |some (p:Nat) (t:Tok):b2a (some p) (.int p t)
inductive fsa(h:Heap)(l:Addr)(ns:List Nat):Prop
 |ik (vs:_) (n:_)
  (f0:h.get? l=some (listOf (List.toArray vs) n))
  (f1:IntsAre vs (ns.map Int.ofNat)):fsa h l ns
noncomputable abbrev dTa(P:Params)(k1 k2 k3 k4 k5 k6 k7 k8 k9:Tok)(v1 v2 v3 v4 v5 v6 v7 v8 v9:Value):List DictEntry:=
 [⟨PyData.keyHash P (Str.ofString "kind"), .str (Str.ofString "kind") k1,v1⟩,⟨PyData.keyHash P (Str.ofString "name"), .str (Str.ofString "name") k2,v2⟩,
  ⟨PyData.keyHash P (Str.ofString "uri"), .str (Str.ofString "uri") k3,v3⟩,⟨PyData.keyHash P (Str.ofString "local"), .str (Str.ofString "local") k4,v4⟩,
  ⟨PyData.keyHash P (Str.ofString "value"), .str (Str.ofString "value") k5,v5⟩,⟨PyData.keyHash P (Str.ofString "parent"), .str (Str.ofString "parent") k6,v6⟩,
  ⟨PyData.keyHash P (Str.ofString "children"), .str (Str.ofString "children") k7,v7⟩,⟨PyData.keyHash P (Str.ofString "attributes"), .str (Str.ofString "attributes") k8,v8⟩,
  ⟨PyData.keyHash P (Str.ofString "namespaces"), .str (Str.ofString "namespaces") k9,v9⟩]
inductive f6a(R:Addr)(P:Params)(h:Heap)(a:Addr)(r:aaa):Prop
 |ik (d lc la ln:Addr) (k1 k2 k3 k4 k5 k6 k7 k8 k9 t1 t2 t3 t4 t5 ep:Nat) (pv:Value)
  (f0:h.get? a=some (instObj R d))
  (f1:h.get? d=some (dictOf (dTa P k1 k2 k3 k4 k5 k6 k7 k8 k9 (.str r.kind t1) (.str r.name t2) (.str r.uri t3) (.str r.loc t4) (.str r.value t5) pv (.ref lc) (.ref la) (.ref ln)) ep))
  (f2:b2a r.parent pv)
  (f3:fsa h lc r.children)
  (f4:fsa h la r.attrs)
  (f5:fsa h ln r.nss):f6a R P h a r
inductive cDa(C R:Addr)(P:Params)(h:Heap)(t:Addr)(T:List aaa):Prop
 |ik (dt rl:Addr) (tk ep1 ep2:Nat) (vs:List Value)
  (f0:h.get? t=some (instObj C dt))
  (f1:h.get? dt=some (dictOf [⟨PyData.keyHash P (Str.ofString "rows"), .str (Str.ofString "rows") tk, .ref rl⟩] ep1))
  (f2:h.get? rl=some (listOf vs.toArray ep2))
  (f3:vs.length=T.length)
  (f4:∀ (i:Nat) (r:aaa),T[i]?=some r->∃ a,vs[i]?=some (Value.ref a)∧f6a R P h a r):cDa C R P h t T
theorem fsa.stays{h h':Heap}{l:Addr}{ns:List Nat}(N:fsa h l ns)(st:h.StaysIn h'):fsa h' l ns:=let ⟨vs,n,e,i⟩:=N;⟨vs,n,st _ _ e,i⟩
theorem f6a.stays{R:Addr}{P:Params}{h h':Heap}{a:Addr}{r:aaa}(N:f6a R P h a r)(st:h.StaysIn h'):f6a R P h' a r:=by
 obtain⟨d,lc,la,ln,k1,k2,k3,k4,k5,k6,k7,k8,k9,t1,t2,t3,t4,t5,ep,pv,e1,e2,e3,e4,e5,e6⟩:=N
 exact⟨d,lc,la,ln,k1,k2,k3,k4,k5,k6,k7,k8,k9,t1,t2,t3,t4,t5,ep,pv,st _ _ e1,st _ _ e2,e3,e4.stays st,e5.stays st,e6.stays st⟩
theorem cDa.stays{C R:Addr}{P:Params}{h h':Heap}{t:Addr}{T:List aaa}(N:cDa C R P h t T)(st:h.StaysIn h'):cDa C R P h' t T:=by
 obtain⟨dt,rl,tk,ep1,ep2,vs,e1,e2,e3,e4,e5⟩:=N
 refine⟨dt,rl,tk,ep1,ep2,vs,st _ _ e1,st _ _ e2,st _ _ e3,e4,fun i r hi=> ?_⟩
 obtain⟨a,ha,hr⟩:=e5 i r hi
 exact⟨a,ha,hr.stays st⟩
inductive mqa(C:Addr)(P:Params)(h:Heap)(t:Addr):Prop
 |ik (dt rl:Addr) (tk ep:Nat) (I:InstAt h t (instObj C dt) C (some (dictOf [⟨PyData.keyHash P (Str.ofString "rows"), .str (Str.ofString "rows") tk, .ref rl⟩] ep))):mqa C P h t
theorem cDa.inst{C R:Addr}{P:Params}{h:Heap}{t:Addr}{T:List aaa}(N:cDa C R P h t T):mqa C P h t:=by
 obtain⟨dt,rl,tk,ep1,ep2,vs,e1,e2,e3,e4,e5⟩:=N
 exact⟨dt,rl,tk,ep1,e1,rfl,rfl,e2⟩
theorem hia{h h':Heap}{x C:Addr}{ox od:Obj}(I:InstAt h x ox C (some od))(st:h.StaysIn h'):InstAt h' x ox C (some od):=by
 obtain⟨i1,i2,i3,i4⟩:=I
 refine⟨st _ _ i1,i2,i3, ?_⟩
 cases hd:ox.dict with
 |none=>rw [hd] at i4;exact i4
 |some dx=>rw [hd] at i4;exact st _ _ i4
theorem eKa{h:Heap}{a d R:Addr}{es:List DictEntry}{ep:Nat}(e1:h.get? a=some (instObj R d))(e2:h.get? d=some (dictOf es ep)):InstAt h a (instObj R d) R (some (dictOf es ep)):=⟨e1,rfl,rfl,e2⟩
theorem iIa{g h:Heap}{L x C:Addr}{m:Str->Option Value}{ox od:Obj}(I:InstAt g x ox C (some od))(F:Fr g L h m):InstAt h x ox C (some od):=hia I F.keep
theorem a2a{g h:Heap}{L x:Addr}{m:Str->Option Value}{xs:Array Value}(I:g.IsList x xs)(F:Fr g L h m):h.IsList x xs:=let ⟨o,a,b⟩:=I;⟨o,F.keep _ _ a,b⟩
section
variable {prog:Program} {w:World} {A:Around} {E:Value->Shared->Prop} {s:Shared}
theorem d8a{value slice:PySem.Expr}{l:Addr}{vs:List Value}{k:Nat}{u:Tok}{v:Value}{Q:Value->Shared->Prop}(hl:s.heap.IsList l vs.toArray)(hx:vs[k]?=some v)(hfit:k<2^24)(h:Q v s)
 (hs:subscripted slice false (.ref l) (.int k u)=operate [.ref l, .int k u] (getItem (.ref l) (.int k u)):=by with_unfolding_all rfl):
 wpAny (model prog w) A (subscriptTail value slice (.ref l) (.int k u)) Q E s:=
 tail_any hl.typeIs slot_list_getitem.lookup (wpAny_getItem_list hl (Int.natCast_nonneg k) (by omega) (by simpa using hx) h) hs
theorem mda{l:Addr}{vs:List Value}{Q:Value->Shared->Prop}(hl:s.heap.IsList l vs.toArray)(hfit:vs.length<2^24)(h:∀ t k,Q (.int (vs.length:Nat) t) {s with toks:=k}):
 wpAny (model prog w) A (call (.builtin "len") [.ref l]) Q E s:=
 len_list hl (by simp only [List.size_toArray];omega) (by simpa only [List.size_toArray] using h _ _)
end
end Mine
namespace Mine
theorem ar1:True:=by
 k_with "ar1" =>with_reducible first|((show _≤_);first|exact o6a ‹_› |exact oOa ‹_› |exact pPa ‹_› |exact qLa ‹_› |exact rUa ‹_› ‹_› ‹_›)
 trivial
noncomputable abbrev NV(vs:List Value)(ns:List Nat):Prop:=IntsAre vs (ns.map Int.ofNat)
theorem NV.len{vs:List Value}{ns:List Nat}(h:NV vs ns):vs.length=ns.length:=by rw [IntsAre.length h,List.length_map]
inductive NVG(ns:List Nat)(i:Nat)(v:Value):Prop
 |ik (n:Nat) (t:Nat) (h:ns[i]?=some n) (e:v= .int n t):NVG ns i v
theorem NV.get{vs:List Value}{ns:List Nat}(h:NV vs ns){i:Nat}{v:Value}(hv:vs[i]?=some v):NVG ns i v:=by
 have hi:i<ns.length:=by rw [<-h.len];exact(List.getElem?_eq_some_iff.mp hv).1
 obtain⟨t,ht⟩:=IntsAre.get h i (Int.ofNat (ns[i])) (by simp [hi])
 rw [hv] at ht
 exact⟨ns[i],t,by simp [hi],Option.some.inj ht⟩
theorem NV.get'{vs:List Value}{ns:List Nat}(h:NV vs ns){i n:Nat}(hn:ns[i]?=some n):∃ t,vs[i]?=some (.int n t):=by
 obtain⟨t,ht⟩:=IntsAre.get h i (Int.ofNat n) (by simp [hn])
 exact⟨t,ht⟩
theorem NV.rev{vs:List Value}{ns:List Nat}(h:NV vs ns):NV vs.reverse ns.reverse:=by
 have:=IntsAre.reverse h
 rwa [<-List.map_reverse] at this
theorem NV.app{vs ws:List Value}{ns ms:List Nat}(h:NV vs ns)(h':NV ws ms):NV (vs++ws) (ns++ms):=by
 have:=IntsAre.append h h'
 rwa [<-List.map_append] at this
theorem cHa{α:Type}(l:List α):l= []∨∃ l' x,l=l'++ [x]:=by
 rcases List.eq_nil_or_concat l with h|⟨l',x,h⟩
 ·exact .inl h
 ·exact .inr ⟨l',x,by rw [h,List.concat_eq_append]⟩
theorem NV.unsnoc{vs:List Value}{ns:List Nat}{n:Nat}(h:NV vs (ns++ [n])):∃ vs' t,vs=vs'++ [.int n t]∧NV vs' ns:=by
 induction ns generalizing vs with
 |nil=>cases h with|cons _ t r=>cases r;exact⟨[],t,rfl, .nil⟩
 |cons a ns ih=>
  cases h with
  |cons _ t r=>
   obtain⟨vs',t',e,h'⟩:=ih r
   subst e
   exact⟨.int a t::vs',t',rfl, .cons _ t h'⟩
theorem NV.one{n:Nat}{t:Tok}:NV [.int n t] [n]:= .cons _ _ .nil
theorem NV.nil:NV [] []:=IntsAre.nil
theorem NV.snoc{vs:List Value}{ns:List Nat}(h:NV vs ns)(n:Nat)(t:Tok):NV (vs++ [.int n t]) (ns++ [n]):=h.app .one
theorem NV.take{vs:List Value}{ns:List Nat}(k:Nat)(h:NV vs ns):NV (vs.take k) (ns.take k):=by
 induction ns generalizing vs k with
 |nil=>cases h;simp;exact .nil
 |cons n ns ih=>
  cases h with
  |cons _ t r=>
   cases k with
   |zero=>exact .nil
   |succ k=>exact .cons _ t (ih k r)
theorem NV.drop{vs:List Value}{ns:List Nat}(k:Nat)(h:NV vs ns):NV (vs.drop k) (ns.drop k):=by
 induction ns generalizing vs k with
 |nil=>cases h;simp;exact .nil
 |cons n ns ih=>
  cases h with
  |cons _ t r=>
   cases k with
   |zero=>exact .cons _ t r
   |succ k=>exact ih k r
theorem fZa{us:List Value}{ks:List Nat}(h:NV us ks)(k:Nat):us.any (isInt k)=decide (k∈ks):=by
 induction ks generalizing us with
 |nil=>cases h;rfl
 |cons n ks ih=>
  cases h with
  |cons _ t r=>
   rw [List.any_cons,ih (us:=_) r]
   have e:isInt (k:Int) (.int (Int.ofNat n) t)=decide (k=n):=by
    show((Int.ofNat n)==(k:Int))=_
    by_cases hk:k=n
    ·subst hk;simp
    ·simp [hk];omega
   rw [e]
   by_cases hk:k=n<;>simp [hk]
theorem gsa{us:List Value}{ks:List Nat}(h:NV us ks):kf_ints us=true:=by
 induction ks generalizing us with
 |nil=>cases h;rfl
 |cons n ks ih=>cases h with|cons _ t r=>(have q:=ih r;exact q)
theorem NV.inj{ns ms:List Nat}:(ns.map Int.ofNat=ms.map Int.ofNat)↔ns=ms:=by
 constructor
 ·intro h
  induction ns generalizing ms with
  |nil=>cases ms with|nil=>rfl|cons _ _=>cases h
  |cons n ns ih=>
   cases ms with
   |nil=>cases h
   |cons k ms=>
    simp only [List.map_cons,List.cons.injEq] at h
    rw [ih h.2,Int.ofNat.inj h.1]
 ·intro h;rw [h]
section
variable {prog:Program} {w:World} {A:Around} {E:Value->Shared->Prop} {s:Shared} {h₀:Heap} {L D:Addr} {m:Str->Option Value} {news news':List (Addr×Obj)} {n:Nat} {vs ws:List Value} {ns ms:List Nat}
theorem qra{hp0:Heap}{gn0:Array GenState}{dw0:Drawn}{tk0:Nat}{os0:OsState}{x:Value}{Q:Value->Shared->Prop}(F:Fr h₀ L hp0 m)(N:News h₀ L hp0 news)(U:Upd D (listOf vs.toArray n) (listOf (vs++ [x]).toArray (n+1)) news news')(hz:vs.length<2^20)
 (h:∀ h',Fr h₀ L h' m->News h₀ L h' news'->Q .none ⟨h',gn0,dw0,tk0,os0⟩):wpAny (model prog w) A (call (.builtin "list.append") [.ref D,x]) Q E ⟨hp0,gn0,dw0,tk0,os0⟩:=by
 refine append_K (its:=vs.toArray) (n:=n) F N ?_ h (by simp only [List.size_toArray];unfold sizeLine;omega)
 rw [List.push_toArray];exact U
theorem qfa{hp0:Heap}{gn0:Array GenState}{dw0:Drawn}{tk0:Nat}{os0:OsState}{Q:Value->Shared->Prop}{x:Nat}{t:Tok}(F:Fr h₀ L hp0 m)(N:News h₀ L hp0 news)(U:Upd D (listOf (vs++ [Value.int x t]).toArray n) (listOf vs.toArray (n+1)) news news')(hz:vs.length<2^20)
 (h:∀ h',Fr h₀ L h' m->News h₀ L h' news'->Q (.int x t) ⟨h',gn0,dw0,tk0,os0⟩):wpAny (model prog w) A (call (.builtin "list.pop") [.ref D]) Q E ⟨hp0,gn0,dw0,tk0,os0⟩:=by
 refine kl_pop F N (p:=vs) (y:= .int x t) ?_ U (by simp only [List.size_toArray,List.length_append,List.length_singleton];unfold sizeLine;omega) h
 exact kpa_last _ _
theorem qma{hp0:Heap}{gn0:Array GenState}{dw0:Drawn}{tk0:Nat}{os0:OsState}{b:Addr}{n2:Nat}{g:Obj->List (Addr×Obj)}{Q:Value->Shared->Prop}(F:Fr h₀ L hp0 m)(N:News h₀ L hp0 news)(hb:hp0.get? b=some (listOf ws.toArray n2))(U:UpdF D (listOf vs.toArray n) news g)
 (hz:vs.length+ws.length<2^20)
 (h:∀ h' n',Fr h₀ L h' m->News h₀ L h' (g (listOf (vs++ws).toArray n'))->Q .none ⟨h',gn0,dw0,tk0,os0⟩):wpAny (model prog w) A (call (.builtin "list.extend") [.ref D, .ref b]) Q E ⟨hp0,gn0,dw0,tk0,os0⟩:=by
 obtain⟨pre,post,e1,hg,a,c⟩:=U.split
 subst e1
 refine extend_in (ys:=vs) (its2:=ws.toArray) (n:=n) (n2:=n2) F N a c hb (fun h' n' F' N'=>h h' n' F' ?_) (by simp only [List.size_toArray];unfold sizeLine;omega)
 rw [hg]
 exact N'
theorem qoa{hp0:Heap}{gn0:Array GenState}{dw0:Drawn}{tk0:Nat}{os0:OsState}{a b:Addr}{Q:Value->Shared->Prop}(F:Fr h₀ L hp0 m)(N:News h₀ L hp0 news)(ha:hp0.IsList a vs.toArray)(hb:hp0.IsList b ws.toArray)(hi:NV vs ns)(hj:NV ws ms)(hz:ns.length+ms.length<2^20)
 (h:∀ D h',Fr h₀ L h' m->News h₀ L h' ((D,listOf (vs++ws).toArray 0)::news)->(∀ p∈news,p.1<D)->NV (vs++ws) (ns++ms)->Q (.ref D) ⟨h',gn0,dw0,tk0,os0⟩):
 wpAny (model prog w) A (binaryOp .Add (.ref a) (.ref b)) Q E ⟨hp0,gn0,dw0,tk0,os0⟩:=
 kmk_add_lit (zs:=vs++ws) F N ha hb rfl (fun D h' F' N' l=>h D h' F' N' l (hi.app hj)) (by have:=hi.len;have:=hj.len;simp only [List.size_toArray];unfold sizeLine;omega)
theorem mja{hp0:Heap}{gn0:Array GenState}{dw0:Drawn}{tk0:Nat}{os0:OsState}{l:Addr}{Q:Value->Shared->Prop}(F:Fr h₀ L hp0 m)(N:News h₀ L hp0 news)(hl:hp0.IsList l vs.toArray)(hz:vs.length<2^20)
 (h:∀ D c h',Fr h₀ L h' m->News h₀ L h' ((D,listOf vs.toArray c)::news)->(∀ q∈news,q.1<D)->Q (.ref D) ⟨h',gn0,dw0,tk0,os0⟩):
 wpAny (model prog w) A (call (.type "list") [.ref l]) Q E ⟨hp0,gn0,dw0,tk0,os0⟩:=list_copyK F N hl h (by simp only [List.size_toArray];unfold sizeLine;omega)
theorem qda{hp0:Heap}{gn0:Array GenState}{dw0:Drawn}{tk0:Nat}{os0:OsState}{l:Addr}{value slice:PySem.Expr}{vk:Value}{ops:List Value}{Q:Value->Shared->Prop}(F:Fr h₀ L hp0 m)(N:News h₀ L hp0 news)(hl:hp0.IsList l vs.toArray)(pk:IsPart vk (some (-1)))
 (hz:vs.length<2^20)
 (h:∀ D h',Fr h₀ L h' m->News h₀ L h' ((D,listOf vs.reverse.toArray 0)::news)->(∀ p∈news,p.1<D)->Q (.ref D) ⟨h',gn0,dw0,tk0,os0⟩)
 (hs:subscripted slice false (.ref l) (.ref hp0.objs.size)=operate ops (getItem (.ref l) (.ref hp0.objs.size))) (ht:∀ r,letTemporaryGo value (.ref l) r=pure ()):
 wpAny (model prog w) A (subscriptTail value slice (.ref l) (.ref hp0.objs.size)) Q E ⟨hp0.push {cls:= .type "slice",data:= .fields #[.none, .none,vk]},gn0,dw0,tk0,os0⟩:=
 krv_lit (s:=⟨hp0,gn0,dw0,tk0,os0⟩) (zs:=vs.reverse) F N hl pk rfl h hs ht (by simp only [List.size_toArray];unfold sizeLine;omega)
theorem jPa(vs:List Value)(k:Nat):kms_pick vs none (some (k:Int))=vs.take k:=by
 unfold kms_pick kms_lo kms_hi;simp [show¬ ((k:Int)<0) from by omega]
theorem jQa(vs:List Value)(k:Nat):kms_pick vs (some (k:Int)) none=vs.drop k:=by
 unfold kms_pick kms_lo kms_hi;simp only [show¬ ((k:Int)<0) from by omega,if_false,Int.toNat_natCast]
 by_cases h:k≤vs.length
 ·rw [Nat.min_eq_left h];exact List.take_of_length_le (by simp)
 ·rw [Nat.min_eq_right (by omega),List.drop_of_length_le (Nat.le_refl _),List.drop_of_length_le (by omega)];simp
theorem kfa{hp0:Heap}{gn0:Array GenState}{dw0:Drawn}{tk0:Nat}{os0:OsState}{l:Addr}{k:Nat}{t:Tok}{value slice:PySem.Expr}{Q:Value->Shared->Prop}(F:Fr h₀ L hp0 m)(N:News h₀ L hp0 news)(hl:hp0.IsList l vs.toArray)
 (hz:vs.length<2^20)
 (h:∀ D h',Fr h₀ L h' m->News h₀ L h' ((D,listOf (vs.take k).toArray 0)::news)->(∀ p∈news,p.1<D)->Q (.ref D) ⟨h',gn0,dw0,tk0,os0⟩)
 (hs:subscripted slice false (.ref l) (.ref hp0.objs.size)=operate [.ref hp0.objs.size, .ref l] (getItem (.ref l) (.ref hp0.objs.size))) (ht:∀ r,letTemporaryGo value (.ref l) r=pure ()):
 wpAny (model prog w) A (subscriptTail value slice (.ref l) (.ref hp0.objs.size)) Q E ⟨hp0.push {cls:= .type "slice",data:= .fields #[.none, .int (k:Nat) t, .none]},gn0,dw0,tk0,os0⟩:=
 kms_slice_lit (s:=⟨hp0,gn0,dw0,tk0,os0⟩) (zs:=vs.take k) F N hl .none (.int _ _) (jPa vs k) h hs ht (by simp only [List.size_toArray];unfold sizeLine;omega)
theorem iNa{hp0:Heap}{gn0:Array GenState}{dw0:Drawn}{tk0:Nat}{os0:OsState}{l:Addr}{k:Nat}{t:Tok}{value slice:PySem.Expr}{Q:Value->Shared->Prop}(F:Fr h₀ L hp0 m)(N:News h₀ L hp0 news)(hl:hp0.IsList l vs.toArray)
 (hz:vs.length<2^20)
 (h:∀ D h',Fr h₀ L h' m->News h₀ L h' ((D,listOf (vs.drop k).toArray 0)::news)->(∀ p∈news,p.1<D)->Q (.ref D) ⟨h',gn0,dw0,tk0,os0⟩)
 (hs:subscripted slice false (.ref l) (.ref hp0.objs.size)=operate [.ref hp0.objs.size, .ref l] (getItem (.ref l) (.ref hp0.objs.size))) (ht:∀ r,letTemporaryGo value (.ref l) r=pure ()):
 wpAny (model prog w) A (subscriptTail value slice (.ref l) (.ref hp0.objs.size)) Q E ⟨hp0.push {cls:= .type "slice",data:= .fields #[.int (k:Nat) t, .none, .none]},gn0,dw0,tk0,os0⟩:=
 kms_slice_lit (s:=⟨hp0,gn0,dw0,tk0,os0⟩) (zs:=vs.drop k) F N hl (.int _ _) .none (jQa vs k) h hs ht (by simp only [List.size_toArray];unfold sizeLine;omega)
theorem sKa{l:Addr}{k:Nat}{t:Tok}{Q:Value->Shared->Prop}(hl:s.heap.IsList l vs.toArray)(hi:NV vs ns)(h:Q (.bool (decide (k∈ns))) s):
 wpAny (model prog w) A (compareOp .In (.int k t) (.ref l)) Q E s:=
 SeqInW.in_listW (isInt k) (fun y hy=>kf_eq (gsa hi) y (by simpa using hy)) hl (by rw [<-Array.any_toList,fZa hi];exact h)
theorem k0a{l:Addr}{k:Nat}{t:Tok}{Q:Value->Shared->Prop}(hl:s.heap.IsList l vs.toArray)(hi:NV vs ns)(h:Q (.bool (!decide (k∈ns))) s):
 wpAny (model prog w) A (compareOp .NotIn (.int k t) (.ref l)) Q E s:=
 SeqInW.notIn_listW (isInt k) (fun y hy=>kf_eq (gsa hi) y (by simpa using hy)) hl (by rw [<-Array.any_toList,fZa hi];exact h)
theorem sNa{a b:Addr}{Q:Value->Shared->Prop}(ha:s.heap.IsList a vs.toArray)(hb:s.heap.IsList b ws.toArray)(hi:NV vs ns)(hj:NV ws ms)(hu:A.units+64<cLine)(h:Q (.bool (decide (ns=ms))) s):
 wpAny (model prog w) A (compareOp .Eq (.ref a) (.ref b)) Q E s:=ke_eq_ints ha hb hi hj hu (by rw [decide_eq_decide.mpr NV.inj];exact h)
theorem sza{a b:Addr}{Q:Value->Shared->Prop}(ha:s.heap.IsList a vs.toArray)(hb:s.heap.IsList b ws.toArray)(hi:NV vs ns)(hj:NV ws ms)(hu:A.units+64<cLine)(h:Q (.bool (!decide (ns=ms))) s):
 wpAny (model prog w) A (compareOp .NotEq (.ref a) (.ref b)) Q E s:=ke_ne_ints ha hb hi hj hu (by rw [decide_eq_decide.mpr NV.inj];exact h)
end
end Mine
namespace Mine
theorem iGa(k n:Nat)(t:Tok):isInt (k:Int) (.int (Int.ofNat n) t)=decide (n=k):=by
 show((Int.ofNat n)==(k:Int))=_
 by_cases hk:n=k
 ·subst hk;simp
 ·simp [hk];omega
theorem gYa{k:Nat}:∀ {ks:List Nat} {us:List Value},NV us ks->k∈ks->(∃ t,us[ks.idxOf k]?=some (.int k t))∧∀ m v,m<ks.idxOf k->us[m]?=some v->isInt k v=false
 | [],_,_,h=>by cases h
 |n::ks,us,hv,h=>by
  cases hv with
  |cons _ t r=>
   by_cases hn:n=k
   ·subst hn
    have e:(n::ks).idxOf n=0:=by simp
    rw [e]
    exact⟨⟨t,rfl⟩,fun m _ hm=>absurd hm (Nat.not_lt_zero _)⟩
   ·have e:(n::ks).idxOf k=ks.idxOf k+1:=by
     have q:(n==k)=false:=by simp [hn]
     rw [List.idxOf_cons,q];rfl
    have hk:k∈ks:=by rcases lcM h with rfl|h;exact absurd rfl hn;exact h
    obtain⟨⟨t',h1⟩,h2⟩:=gYa r hk
    rw [e]
    refine⟨⟨t',by rw [List.getElem?_cons_succ];exact h1⟩,fun m v hm hv=> ?_⟩
    cases m with
    |zero=>
     simp only [List.getElem?_cons_zero,Option.some.injEq] at hv
     subst hv
     rw [iGa];simpa using hn
    |succ m=>rw [List.getElem?_cons_succ] at hv;exact h2 m v (by omega) hv
section
variable {prog:Program} {w:World} {A:Around} {E:Value->Shared->Prop} {s:Shared} {vs:List Value} {ns:List Nat}
theorem laa{l:Addr}{k n:Nat}{t:Tok}{Q:Value->Shared->Prop}(hl:s.heap.get? l=some (listOf vs.toArray n))(hi:NV vs ns)(hk:k∈ns)(hz:vs.length<2^20)
 (h:∀ t' tk,Q (.int (ns.idxOf k:Nat) t') {s with toks:=tk}):wpAny (model prog w) A (call (.builtin "list.index") [.ref l, .int k t]) Q E s:=by
 have hlt:ns.idxOf k<ns.length:=List.idxOf_lt_length_of_mem hk
 have hlen:=hi.len
 obtain⟨⟨t',h1⟩,h2⟩:=gYa hi hk
 refine call_meets PySem.F.slot_list_index ⟨_,hl,rfl⟩ PySem.F.entry_list_index (PySem.F.args_list_index_2 _ _)
  (MeetsSeq.list_index l vs.toArray n (.int k t) (isInt k) (fun y hy=>kf_eq (gsa hi) y (by simpa using hy)) (ns.idxOf k) (by simp;omega) (by omega) ?_ ?_) ⟨hl,h _ _⟩
 ·have:vs.toArray[ns.idxOf k]'(by simp;omega)= .int k t':=by
   have:=(List.getElem?_eq_some_iff.mp h1).2
   simpa using this
  rw [this,show isInt (k:Int) (.int (k:Int) t')=((k:Int)==(k:Int)) from rfl];simp
 ·intro m hm hlt2
  refine h2 m _ hlt2 ?_
  simp
end
end Mine
namespace Mine
noncomputable def bXa(ps:List (Str×Value))(st:List Str)(u m₀:Str->Option Value):Str->Option Value:=
 fun z=>match ps.lookup z with
  |some v=>some v
  |none=>if st.contains z=true then u z else m₀ z
theorem gja{ps:List (Str×Value)}{st:List Str}{m₁ m₀:Str->Option Value}(h1:∀ p∈ps,m₁ p.1=some p.2)(h2:∀ z,ps.lookup z=none->st.contains z=false->m₁ z=m₀ z):m₁=bXa ps st m₁ m₀:=by
 funext z
 unfold bXa
 cases hl:ps.lookup z with
 |some v=>
  simp only
  have:(z,v)∈ps:=by
   clear h1 h2
   induction ps with
   |nil=>cases hl
   |cons p r ih=>
    rw [List.lookup_cons] at hl
    by_cases hz:(z==p.1)=true
    ·rw [hz] at hl
     simp only [Option.some.injEq] at hl
     have e:=eq_of_beq hz
     subst hl
     rw [e];exact List.Mem.head _
    ·simp only [hz] at hl
     exact List.Mem.tail _ (ih hl)
  exact h1 _ this
 |none=>
  simp only
  cases hc:st.contains z with
  |true=>rw [if_pos rfl]
  |false=>rw [if_neg (by simp)];exact h2 z hl hc
theorem bMa{ps:List (Str×Value)}{z:Str}(h:ps.lookup z=none):∀ p∈ps,z≠p.1:=by
 induction ps with
 |nil=>intro p hp;cases hp
 |cons q r ih=>
  rw [List.lookup_cons] at h
  intro p hp
  by_cases hz:(z==q.1)=true
  ·rw [hz] at h;cases h
  ·simp only [hz] at h
   rcases lcM hp with rfl|hp
   ·exact fun e=>hz (by rw [e];simp)
   ·exact ih h p hp
theorem dua{z a:Str}{v:Value}{ps:List (Str×Value)}{st:List Str}{u m₀:Str->Option Value}(h:¬z=a):bXa ((a,v)::ps) st u m₀ z=bXa ps st u m₀ z:=by
 unfold bXa
 rw [List.lookup_cons,show(z==a)=false from by simpa using h]
theorem dSa{z:Str}{st:List Str}{u m₀:Str->Option Value}(h:st.contains z=false):bXa [] st u m₀ z=m₀ z:=by
 unfold bXa
 simp only [List.lookup_nil,h]
 rfl
section
variable {prog:Program} {w:World} {A:Around} {E:Value->Shared->Prop} {s:Shared} {env:Env} {h₀:Heap} {x:Str} {body:List Stmt} {Q:Flow->Shared->Prop} {m₀:Str->Option Value} {l:Addr} {vs:List Value}
inductive aHa{σ:Type}(h₀:Heap)(L:Addr)(Led:σ->List (Addr×Obj))(ps:σ->List (Str×Value))(st:List Str)(m₀:Str->Option Value)(x:Str)(J:σ->Prop)(rest:List (Addr×Obj))(s₁ s₂:Shared):Prop
 |ik (c':_) (h':_) (tk':_) (m':_) (news':_)
  (f0:s₂= {s₁ with heap:=h',toks:=tk'})
  (f1:Fr h₀ L h' m')
  (f2:News h₀ L h' news')
  (f3:(∀ p∈Led c'++rest,p∈news'))
  (f4:(∀ q∈Led c',∀ p∈rest, @Ne Nat p.1 q.1))
  (f5:(∀ p∈ps c',m' p.1=some p.2))
  (f6:(∀ z,z≠x->(∀ p∈ps c',z≠p.1)->st.contains z=false->m' z=m₀ z))
  (f7:J c'):aHa h₀ L Led ps st m₀ x J rest s₁ s₂
noncomputable def bOa{σ:Type}(h₀:Heap)(L:Addr)(Led:σ->List (Addr×Obj))(ps:σ->List (Str×Value))(st:List Str)(m₀:Str->Option Value)(x:Str)(J:σ->Prop)(rest:List (Addr×Obj))(s₁:Shared)(Q:Flow->Shared->Prop)(f:Flow)(s₂:Shared):Prop:=
 match f with
 | .ret v=>Q (.ret v) s₂
 | .brk=>Q .next s₂
 |_=>aHa h₀ L Led ps st m₀ x J rest s₁ s₂
theorem dia{σ:Type}{I:Addr}{fp:List Addr}{n:Nat}{P:Nat->Value->Prop}{St:Nat->Heap->Prop}(W:Walks prog w A I fp [I] n P St)(Led:σ->List (Addr×Obj))(ps:σ->List (Str×Value))(st:List Str)(J:Nat->σ->Prop)(c₀:σ)(fix:List (Addr×Obj)){news:List (Addr×Obj)}
 (hIo:∃ o,s.heap.get? I=some o) (hLf:env.locals ∉ fp) (hI0:h₀.get? I=none) (hst:St 0 s.heap) (F:Fr h₀ env.locals s.heap m₀) (N:News h₀ env.locals s.heap news) (hin:∀ p∈Led c₀++fix,p∈news)
 (hIn:∀ p∈Led c₀++fix,p.1≠I) (hoff:∀ q∈Led c₀,∀ p∈fix, @Ne Nat p.1 q.1) (hfp:∀ i c,J i c->∀ p∈Led c,p.1≠I->p.1 ∉ fp)
 (hps:∀ p∈ps c₀,m₀ p.1=some p.2) (hj:J 0 c₀)
 (hIlive:∀ i h,St i h->∃ o,h.get? I=some o)
 (turn:∀ i v c u h tk own,P i v->i<n->J i c->Fr h₀ env.locals h (fun y=>if y=x then some v else bXa (ps c) (x::st) u m₀ y)->News h₀ env.locals h (Led c++(fix++own))->(∀ q∈Led c,∀ p∈fix++own, @Ne Nat p.1 q.1)->
   wpAny (model prog w) A (execs body env) (bOa h₀ env.locals Led ps st m₀ x (J (i+1)) (fix++own) {s with heap:=h,toks:=tk} Q) E {s with heap:=h,toks:=tk})
 (done:∀ c u h tk,J n c->Fr h₀ env.locals h (bXa (ps c) (x::st) u m₀)->News h₀ env.locals h (Led c++fix)->(∀ q∈Led c,∀ p∈fix, @Ne Nat p.1 q.1)->Q .next {s with heap:=h,toks:=tk}):
 LoopAtV prog w A h₀ env x body Q E (.ref I) s:=by
 have hmf:∀ m₁:Str->Option Value,∀ c,(∀ p∈ps c,m₁ p.1=some p.2)->(∀ z,z≠x->(ps c).lookup z=none->st.contains z=false->m₁ z=m₀ z)->m₁=bXa (ps c) (x::st) m₁ m₀:=fun m₁ c a b=>by
  refine gja a fun z hz hc=> ?_
  rw [List.contains_cons,Bool.or_eq_false_iff] at hc
  exact b z (fun e=>by rw [e] at hc;simp at hc) hz hc.2
 refine⟨I,fp, [I],n,P,St,m₀,Led c₀++fix,fun i m₁ news₁=>∃ c,news₁=Led c++fix∧(∀ q∈Led c,∀ p∈fix, @Ne Nat p.1 q.1)∧(∀ p∈ps c,m₁ p.1=some p.2)∧(∀ z,z≠x->(ps c).lookup z=none->st.contains z=false->m₁ z=m₀ z)∧J i c,
  rfl,W,hLf, ?_, ?_,hst,F,fun p hp=>N p (hin p hp),⟨c₀,rfl,hoff,hps,fun _ _ _ _=>rfl,hj⟩, ?_, ?_⟩
 ·intro b hb;rw [lsM hb];exact hI0
 ·intro p hp hq;exact hIn p hp (lsM hq)
 ·rintro i v m₁ news₁ s₁ own ⟨h,tk,rfl⟩ hi hP ⟨c,rfl,hof,hp1,hp2,hJ⟩ hwr hown hown2 hall hSt F₁ N₁
  obtain⟨oI,hoI⟩:=hIlive _ _ hSt
  have hII:(I,oI)∈own:=hall I (W.sub I (lsR rfl)) hI0 oI hoI
  have hsep:∀ q∈Led c,∀ p∈fix++own, @Ne Nat p.1 q.1:=by
   intro q hq p hp
   rcases laM hp with hp|hp
   ·exact hof q hq p hp
   ·intro e
    have hqI:q.1≠I:=fun e'=>hwr q (laL _ hq) (by rw [e'];exact lsR rfl)
    exact hfp i c hJ q hq hqI (e▸hown p hp)
  have F₂:Fr h₀ env.locals h (fun y=>if y=x then some v else bXa (ps c) (x::st) m₁ m₀ y):=by rw [<-hmf m₁ c hp1 hp2];exact F₁
  have N₂:News h₀ env.locals h (Led c++(fix++own)):=fun p hp=>N₁ p (by
   rcases laM hp with hp|hp
   ·exact laG _ (laL _ hp)
   ·rcases laM hp with hp|hp
    ·exact laG _ (laG _ hp)
    ·exact laL _ hp)
  refine wpAny_mono (turn i v c m₁ h tk own hP hi hJ F₂ N₂ hsep) (fun f s₂ p=> ?_) fun _ _ e=>e
  have fin:aHa h₀ env.locals Led ps st m₀ x (J (i+1)) (fix++own) {s with heap:=h,toks:=tk} s₂->LoopStepU h₀ env.locals [I] own (fun m₁ news₁=>∃ c,news₁=Led c++fix∧(∀ q∈Led c,∀ p∈fix, @Ne Nat p.1 q.1)∧(∀ p∈ps c,m₁ p.1=some p.2)∧(∀ z,z≠x->(ps c).lookup z=none->st.contains z=false->m₁ z=m₀ z)∧J (i+1) c) {s with heap:=h,toks:=tk} .next s₂:=by
   rintro⟨c',h',tk',m',news',e,F',N',hm,hs,hp1',hp2',hJ'⟩
   refine⟨rfl,h',tk',m',Led c'++fix,e,F',fun p hp=>N' p (hm p ?_),fun p hp hq=> ?_,c',rfl,fun q hq p hp=>hs q hq p (laL _ hp),hp1',fun z a b c=>hp2' z a (bMa b) c,hJ'⟩
   ·rcases laM hp with hp|hp
    ·exact laG _ (laG _ hp)
    ·rcases laM hp with hp|hp
     ·exact laL _ hp
     ·exact laG _ (laL _ hp)
   ·rcases laM hp with hp|hp
    ·exact hs p hp (I,oI) (laG _ hII) (lsM hq).symm
    ·exact hwr p (laG _ hp) hq
  cases f with
  |ret v=>exact .ret p
  |brk=>exact .brk p
  |next=>exact .next (fin p)
  |cont=>exact .cont (fin p)
 ·rintro h' tk' m' news' F' N' _ ⟨c,rfl,hof,hp1,hp2,hJ⟩
  refine done c m' h' tk' hJ ?_ N' hof
  rw [<-hmf m' c hp1 hp2];exact F'
theorem bTa{L:Addr}(hL:env.locals=L){σ:Type}(Led:σ->List (Addr×Obj))(ps:σ->List (Str×Value))(st:List Str)(J:Nat->σ->Prop)(c₀:σ)(fix:List (Addr×Obj)){news:List (Addr×Obj)}
 (hh:A.handled=none) (hl:s.heap.IsList l vs.toArray) (hlL:l≠L) (F:Fr h₀ L s.heap m₀) (N:News h₀ L s.heap news) (hin:∀ p∈Led c₀++fix,p∈news)
 (hoff:∀ q∈Led c₀,∀ p∈fix, @Ne Nat p.1 q.1) (hll:∀ k c,J k c->∀ p∈Led c, @Ne Nat p.1 l)
 (hps:∀ p∈ps c₀,m₀ p.1=some p.2) (hj:J 0 c₀)
 (turn:∀ i v c u h tk own,vs[i]?=some v->i<vs.length->J i c->Fr h₀ L h (fun y=>if y=x then some v else bXa (ps c) (x::st) u m₀ y)->News h₀ L h (Led c++(fix++own))->(∀ q∈Led c,∀ p∈fix++own, @Ne Nat p.1 q.1)->
   wpAny (model prog w) A (execs body env) (bOa h₀ L Led ps st m₀ x (J (i+1)) (fix++own) {s with heap:=h,toks:=tk} Q) E {s with heap:=h,toks:=tk})
 (done:∀ c u h tk,J vs.length c->Fr h₀ L h (bXa (ps c) (x::st) u m₀)->News h₀ L h (Led c++fix)->(∀ q∈Led c,∀ p∈fix, @Ne Nat p.1 q.1)->Q .next {s with heap:=h,toks:=tk}):
 wpAny (model prog w) A (pyIter (.ref l)) (fun it s₂=>LoopAtV prog w A h₀ env x body Q E it s₂) E s:=by
 subst hL
 obtain⟨ol,hol,_⟩:=id hl
 have hlt:l<s.heap.objs.size:=Heap.lt_size hol
 have hne:l≠s.heap.objs.size:=Nat.ne_of_lt hlt
 refine wpAny_pyIter_list hl ?_
 have W:=Walks.list (prog:=prog) (w:=w) hh s.heap.objs.size l hne vs.toArray
 have hsz:vs.toArray.size=vs.length:=by simp
 rw [hsz] at W
 have up:∀ b o,s.heap.get? b=some o->(s.heap.push {cls:= .type "list_iterator",data:= .fields #[.ref l, .int 0 0]}).get? b=some o:=fun b o e=>Heap.get?_push_of_some _ e
 refine dia W Led ps st J c₀ fix ⟨_,Heap.get?_push_size _ rfl⟩ ?_ (next_is_new F) ⟨⟨_,Heap.get?_push_size _ rfl,rfl,rfl⟩,hl.at fun o e=>up _ o e⟩ (F.push _) (fun p hp=>⟨up _ _ (N p hp).1,(N p hp).2⟩) hin
  (fun p hp=>Nat.ne_of_lt (Heap.lt_size (N p (hin p hp)).1)) hoff (fun k c hJc p hp hI hm=> ?_) hps hj (fun i h hSt=> ?_) (fun i v c u h tk own hP hi=>turn i v c u h tk own (by simpa using hP) hi) done
 ·intro hm
  rcases lcM hm with e|hm
  ·exact absurd F.ns.lt (e▸Nat.lt_irrefl _)
  ·exact hlL (lsM hm).symm
 ·rcases lcM hm with e|hm
  ·exact hI e
  ·exact hll k c hJc p hp (lsM hm)
 ·obtain⟨⟨o,e,_⟩,_⟩:=hSt;exact⟨o,e⟩
theorem bCa{L:Addr}(hL:env.locals=L){σ:Type}(Led:σ->List (Addr×Obj))(ps:σ->List (Str×Value))(st:List Str)(J:Nat->σ->Prop)(c₀:σ)(fix:List (Addr×Obj)){news:List (Addr×Obj)}
 (hh:A.handled=none) (hl:s.heap.IsList l vs.toArray) (hlL:l≠L) (F:Fr h₀ L s.heap m₀) (N:News h₀ L s.heap news) (hin:∀ p∈Led c₀++fix,p∈news)
 (hoff:∀ q∈Led c₀,∀ p∈fix, @Ne Nat p.1 q.1) (hll:∀ c,∀ p∈Led c, @Ne Nat p.1 l)
 (hps:∀ p∈ps c₀,m₀ p.1=some p.2) (hj:J 0 c₀)
 (turn:∀ i v c u h tk own,vs[i]?=some v->i<vs.length->J i c->Fr h₀ L h (fun y=>if y=x then some v else bXa (ps c) (x::st) u m₀ y)->News h₀ L h (Led c++(fix++own))->(∀ q∈Led c,∀ p∈fix++own, @Ne Nat p.1 q.1)->
   wpAny (model prog w) A (execs body env) (bOa h₀ L Led ps st m₀ x (J (i+1)) (fix++own) {s with heap:=h,toks:=tk} Q) E {s with heap:=h,toks:=tk})
 (done:∀ c u h tk,J vs.length c->Fr h₀ L h (bXa (ps c) (x::st) u m₀)->News h₀ L h (Led c++fix)->(∀ q∈Led c,∀ p∈fix, @Ne Nat p.1 q.1)->Q .next {s with heap:=h,toks:=tk}):
 wpAny (model prog w) A (pyIter (.ref l)) (fun it s₂=>LoopAtV prog w A h₀ env x body Q E it s₂) E s:=
 bTa hL Led ps st J c₀ fix hh hl hlL F N hin hoff (fun _ c _=>hll c) hps hj turn done
inductive bwa{σ:Type}(h₀:Heap)(L:Addr)(Led:σ->List (Addr×Obj))(ps:σ->List (Str×Value))(st:List Str)(m₀:Str->Option Value)(J:σ->Prop)(μ:σ->Nat)(k:Nat)(rest:List (Addr×Obj))(s₁:Shared)(f:Flow)(s₂:Shared):Prop
 |ik (f0:f= .next) (c':_) (h':_) (tk':_) (m':_) (news':_)
  (f1:s₂= {s₁ with heap:=h',toks:=tk'})
  (f2:Fr h₀ L h' m')
  (f3:News h₀ L h' news')
  (f4:(∀ p∈Led c'++rest,p∈news'))
  (f5:(∀ q∈Led c',∀ p∈rest, @Ne Nat p.1 q.1))
  (f6:(∀ p∈ps c',m' p.1=some p.2))
  (f7:(∀ z,(∀ p∈ps c',z≠p.1)->st.contains z=false->m' z=m₀ z))
  (f8:μ c'<k)
  (f9:J c'):bwa h₀ L Led ps st m₀ J μ k rest s₁ f s₂
theorem bwa.intro{σ:Type}{h₀:Heap}{L:Addr}{Led:σ->List (Addr×Obj)}{ps:σ->List (Str×Value)}{st:List Str}{m₀:Str->Option Value}{J:σ->Prop}{μ:σ->Nat}{k:Nat}{rest:List (Addr×Obj)}{s₁:Shared}
 {h':Heap} {tk':Nat} {m':Str->Option Value} {news':List (Addr×Obj)} (c':σ) (F:Fr h₀ L h' m') (N:News h₀ L h' news') (mem:∀ p∈Led c'++rest,p∈news') (hJ:J c') (hμ:μ c'<k) (sep:∀ q∈Led c',∀ p∈rest, @Ne Nat p.1 q.1)
 (hps:∀ p∈ps c',m' p.1=some p.2) (hm:∀ z,(∀ p∈ps c',z≠p.1)->st.contains z=false->m' z=m₀ z):bwa h₀ L Led ps st m₀ J μ k rest s₁ .next {s₁ with heap:=h',toks:=tk'}:=
 ⟨rfl,c',h',tk',m',news',rfl,F,N,mem,sep,hps,hm,hμ,hJ⟩
theorem aHa.intro{σ:Type}{h₀:Heap}{L:Addr}{Led:σ->List (Addr×Obj)}{ps:σ->List (Str×Value)}{st:List Str}{m₀:Str->Option Value}{x:Str}{J:σ->Prop}{rest:List (Addr×Obj)}{s₁:Shared}
 {h':Heap} {tk':Nat} {m':Str->Option Value} {news':List (Addr×Obj)} (c':σ) (F:Fr h₀ L h' m') (N:News h₀ L h' news') (mem:∀ p∈Led c'++rest,p∈news') (hJ:J c') (sep:∀ q∈Led c',∀ p∈rest, @Ne Nat p.1 q.1)
 (hps:∀ p∈ps c',m' p.1=some p.2) (hm:∀ z,z≠x->(∀ p∈ps c',z≠p.1)->st.contains z=false->m' z=m₀ z):aHa h₀ L Led ps st m₀ x J rest s₁ {s₁ with heap:=h',toks:=tk'}:=
 ⟨c',h',tk',m',news',rfl,F,N,mem,sep,hps,hm,hJ⟩
theorem bQa{L:Addr}(hL:env.locals=L){σ:Type}{test:Expr}{pos:Pos}(Led:σ->List (Addr×Obj))(ps:σ->List (Str×Value))(st:List Str)(J:σ->Prop)(μ:σ->Nat)(c₀:σ)(fix:List (Addr×Obj)){news:List (Addr×Obj)}
 (F:Fr h₀ L s.heap m₀) (N:News h₀ L s.heap news) (hin:∀ p∈Led c₀++fix,p∈news) (hoff:∀ q∈Led c₀,∀ p∈fix, @Ne Nat p.1 q.1)
 (hps:∀ p∈ps c₀,m₀ p.1=some p.2) (hj:J c₀)
 (turn:∀ c u h tk,J c->Fr h₀ L h (bXa (ps c) st u m₀)->News h₀ L h (Led c++fix)->(∀ q∈Led c,∀ p∈fix, @Ne Nat p.1 q.1)->
   wpAny (model prog w) A (isTrue test env (eval test env)) (fun b s₂=>if b=true then wpAny (model prog w) A (execs body env) (bwa h₀ L Led ps st m₀ J μ (μ c) fix s) (fun _ _=>False) s₂ else Q .next s₂) (fun _ _=>False) {s with heap:=h,toks:=tk}):
 wpAny (model prog w) A (exec (.While test body [] pos) env) Q (fun _ _=>False) s:=by
 subst hL
 have hmf:∀ m₁:Str->Option Value,∀ c,(∀ p∈ps c,m₁ p.1=some p.2)->(∀ z,(ps c).lookup z=none->st.contains z=false->m₁ z=m₀ z)->m₁=bXa (ps c) st m₁ m₀:=fun m₁ c a b=>gja a b
 refine While_inv (h₀:=h₀) (L:=env.locals) (m:=m₀) (news:=Led c₀++fix) (fun k m₁ news₁=>∃ c,k=μ c∧news₁=Led c++fix∧(∀ q∈Led c,∀ p∈fix, @Ne Nat p.1 q.1)∧(∀ p∈ps c,m₁ p.1=some p.2)∧(∀ z,(ps c).lookup z=none->st.contains z=false->m₁ z=m₀ z)∧J c) (n₀:=μ c₀)
  F (fun p hp=>N p (hin p hp)) ⟨c₀,rfl,rfl,hoff,hps,fun _ _ _=>rfl,hj⟩ ?_ PassesOwn.never
 rintro k m₁ news₁ h₁ tk₁ F₁ N₁ ⟨c,rfl,rfl,hof,hp1,hp2,hJ⟩
 have F₂:Fr h₀ env.locals h₁ (bXa (ps c) st m₁ m₀):=by rw [<-hmf m₁ c hp1 hp2];exact F₁
 refine wpAny_mono (turn c m₁ h₁ tk₁ hJ F₂ N₁ hof) (fun b s₂ hb=> ?_) fun _ _ e=>e
 cases b with
 |false=>simpa using hb
 |true=>
  simp only [if_true] at hb ⊢
  refine wpAny_mono hb (fun f s₃ h₃=> ?_) fun _ _ e=>e
  obtain⟨rfl,c',h',tk',m',news',e,F',N',hm,hs,hp1',hp2',hlt,hJ'⟩:=h₃
  exact⟨rfl,h',tk',m',Led c'++fix,μ c',e,F',fun p hp=>N' p (hm p hp),hlt,c',rfl,rfl,hs,hp1',fun z b c=>hp2' z (bMa b) c,hJ'⟩
end
end Mine
namespace Mine
theorem ar2:True:=by
 k_with "ar2" =>with_reducible first|exact pfa ‹_› ‹_›
 trivial
theorem aOa{α:Type}{p:α->Prop}:(∀ x,x∈([]:List α)->p x)↔True:=⟨fun _=>trivial,fun _ _ h=>nomatch h⟩
theorem ara{α:Type}{p:α->Prop}{a:α}{l:List α}:(∀ x,x∈a::l->p x)↔p a∧∀ x,x∈l->p x:=List.forall_mem_cons
theorem fpa{α:Type}{p:α->Prop}{k l:List α}:(∀ x,x∈k++l->p x)↔(∀ x,x∈k->p x)∧∀ x,x∈l->p x:=List.forall_mem_append
theorem fc{α:Type}{p:α->Prop}{a:α}{l:List α}(h:p a)(h':∀ x∈l,p x):∀ x∈a::l,p x:=List.forall_mem_cons.mpr ⟨h,h'⟩
theorem fn{α:Type}{p:α->Prop}:∀ x∈([]:List α),p x:=fun _ h=>nomatch h
theorem fGa{α:Type}{a:α}{l:List α}(h:∀ x∈l,a≠x):a ∉ l:=fun m=>h a m rfl
theorem fQa{α:Type}{p:α->Prop}{l l':List α}(h:∀ x∈l,p x)(h':∀ x∈l',p x):∀ x∈l++l',p x:=List.forall_mem_append.mpr ⟨h,h'⟩
theorem fmp{α β:Type}{p:β->Prop}{f:α->β}{l:List α}(h:∀ x∈l,p (f x)):∀ y∈l.map f,p y:=List.forall_mem_map.mpr h
theorem kOa{α:Type}{a:α}{l m:List α}(h:∀ x∈l,x∈m):∀ x∈l,x∈a::m:=fun x hx=>List.mem_cons_of_mem _ (h x hx)
theorem kha{α:Type}{l m:List α}:∀ x∈l,x∈l++m:=fun _ h=>laL _ h
theorem kja{α:Type}{l k m:List α}:∀ x∈l,x∈l++k++m:=fun _ h=>laL _ (laL _ h)
theorem kia{α:Type}{l k m:List α}:∀ x∈k,x∈l++k++m:=fun _ h=>laL _ (laG _ h)
theorem h6a{α:Type}{l k m:List α}(h:∀ x∈l,x∈m):∀ x∈l,x∈k++m:=fun x hx=>laG _ (h x hx)
theorem kga{α:Type}{l k m:List α}:∀ x∈l++k++m,x∈l++(k++m):=fun _ h=>List.append_assoc .. ▸h
theorem gda{α:Type}{l k m:List α}(h:∀ x∈l,x∈m)(h':∀ x∈k,x∈m):∀ x∈l++k,x∈m:=List.forall_mem_append.mpr ⟨h,h'⟩
theorem qaa{α:Type}{l k m:List α}(h:∀ x∈l,x∈k):∀ x∈l,x∈k++m:=fun x hx=>laL _ (h x hx)
theorem mal{α:Type}{a:α}{l m:List α}(h:a∈l):a∈l++m:=laL _ h
theorem bta{α:Type}{l:List α}{a:α}(i:Nat)(h:l[i]?=some a):a∈l:=List.mem_of_getElem? h
theorem mar{α:Type}{a:α}{l m:List α}(h:a∈m):a∈l++m:=laG _ h
theorem jla{α:Type}{l:List α}:∀ x∈l,x∈l:=fun _ h=>h
theorem mhd{α:Type}{a:α}{l:List α}:a∈a::l:=List.mem_cons_self
theorem mtl{α:Type}{a b:α}{l:List α}(h:a∈l):a∈b::l:=List.mem_cons_of_mem _ h
theorem maa{d a b r:Nat}(h:d+a<r)(hb:Nat.ble b a=true):d+b<r:=Nat.lt_of_le_of_lt (Nat.add_le_add_left (Nat.le_of_ble_eq_true hb) _) h
theorem l9a{u a b r:Nat}(h:u+a+200<r)(hb:Nat.ble b a=true):u+b+200<r:=Nat.lt_of_le_of_lt (Nat.add_le_add_right (Nat.add_le_add_left (Nat.le_of_ble_eq_true hb) _) _) h
theorem mba{x a b:Nat}(h:x<a)(hb:Nat.ble a b=true):x<b:=Nat.lt_of_lt_of_le h (Nat.le_of_ble_eq_true hb)
theorem qha{x s n:Nat}(h:s<n)(e:x=s):x<n:=e▸h
theorem mca{x a b c:Nat}(h:x<a)(hb:Nat.ble (a+c) b=true):x+c<b:=Nat.lt_of_lt_of_le (Nat.add_lt_add_right h c) (Nat.le_of_ble_eq_true hb)
theorem jja{z a:Str}{v t g:Option Value}[Decidable (z=a)](h:z≠a)(e:t=g):(if z=a then v else t)=g:=by rw [if_neg h];exact e
theorem ija{z:Str}{ps:List (Str×Value)}{st:List Str}{u m₀:Str->Option Value}(h:∀ p∈ps,z≠p.1)(hs:st.contains z=false):bXa ps st u m₀ z=m₀ z:=by
 induction ps with
 |nil=>exact dSa hs
 |cons p r ih=>rw [show p=(p.1,p.2) from rfl,dua (h p (.head _))];exact ih fun q hq=>h q (.tail _ hq)
theorem iTa{z x:Str}{st:List Str}(h:z≠x)(hs:st.contains z=false):(x::st).contains z=false:=by
 rw [List.contains_cons,hs,Bool.or_false];exact beq_eq_false_iff_ne.mpr h
theorem lUa{z a:Str}{st:List Str}(hs:st.contains z=false)(ha:st.contains a=true):z≠a:=fun e=>by rw [e,ha] at hs;cases hs
theorem lVa{z a:Str}{v:Value}{ps:List (Str×Value)}(h:∀ p∈ps,z≠p.1)(m:(a,v)∈ps):z≠a:=h _ m
theorem ia{a b:Prop}(h:a∧b):a:=h.1
theorem ib{a b:Prop}(h:a∧b):b:=h.2
theorem i2{a b c:Prop}(h:a∧b∧c):b:=h.2.1
theorem j2{a b c:Prop}(h:a∧b∧c):c:=h.2.2
theorem i3{a b c d:Prop}(h:a∧b∧c∧d):c:=h.2.2.1
theorem j3{a b c d:Prop}(h:a∧b∧c∧d):d:=h.2.2.2
theorem i4{a b c d e:Prop}(h:a∧b∧c∧d∧e):d:=h.2.2.2.1
theorem j4{a b c d e:Prop}(h:a∧b∧c∧d∧e):e:=h.2.2.2.2
theorem i5{a b c d e f:Prop}(h:a∧b∧c∧d∧e∧f):e:=h.2.2.2.2.1
theorem j5{a b c d e f:Prop}(h:a∧b∧c∧d∧e∧f):f:=h.2.2.2.2.2
theorem i6{a b c d e f g:Prop}(h:a∧b∧c∧d∧e∧f∧g):f:=h.2.2.2.2.2.1
theorem j6{a b c d e f g:Prop}(h:a∧b∧c∧d∧e∧f∧g):g:=h.2.2.2.2.2.2
noncomputable def rta(P:Prop):Prop:=P
theorem cfa{P:Prop}(h:rta P):P:=h
theorem go_{P:Prop}(h:P):rta P:=h
inductive apa(h h':Heap)(v:Value)(ns:List Nat):Prop
 |ik (l:_) (vs:_) (c:_)
  (f0:v= .ref l)
  (f1:h'.get? l=some (listOf (List.toArray vs) c))
  (f2:NV vs ns)
  (f3:h.get? l=none)
  (f4:ns.length<4096):apa h h' v ns
theorem dea{g h:Heap}{L l:Addr}{m:Str->Option Value}{o:Obj}{h1:Heap}{news:List (Addr×Obj)}(F:Fr g L h m)(N:News g L h1 news)(st:h.StaysIn h1)(e:h1.get? l=some o)(hn:h.get? l=none):News g L h1 ((l,o)::news):=by
 intro p hp
 rcases lcM hp with rfl|hp
 ·refine⟨e,fun q=> ?_, ?_⟩
  ·obtain⟨oL,_,_,hL,_⟩:=F.ns
   have q':l=L:=q
   rw [q',hL] at hn;cases hn
  ·cases q:g.get? l with
   |none=>rfl
   |some o'=>rw [F.keep _ _ q] at hn;cases hn
 ·exact N p hp
section
variable {prog:Program} {w:World} {K:Frag} {A₀:Around} {base g:Heap} {outer:List Env} {p:Program} {loose:List Str} {mean:ExcName->Option Value} {mg mb:Str->Option Value} {d u:Nat} {gd:Option (List Code)} {L:Addr} {m:Str->Option Value} {env:Env}
 {f:Addr} {vals:List Value} {n k:Nat} {pre:Heap->Prop} {s:Shared} {Q E:Value->Shared->Prop} {news:List (Addr×Obj)} {ns:List Nat}
theorem e8a{hp0:Heap}{gn0:Array GenState}{dw0:Drawn}{tk0:Nat}{os0:OsState}(S:RO prog w K f vals n pre (fun h h' v=>apa h h' v ns))(B:Below A₀ base outer g)(X:K.In g)(T:Top p loose mean mg mb g)(F:Fr g L hp0 m)(N:News g L hp0 news)(hd:d+n<recursionLimit)(hu:u+8*n+200<cLine)
 (hp:pre hp0)
 (h:∀ (h':Heap) (tk':Nat) (l:Addr) (vs:List Value) (c:Nat),Fr g L h' m->News g L h' ((l,listOf vs.toArray c)::news)->(∀ p∈news, @Ne Nat p.1 l)->NV vs ns->vs.length<4096->hp0.StaysIn h'->Q (.ref l) ⟨h',gn0,dw0,tk',os0⟩)
 (hf:env.frame=some L) (hk:env.scope.kind= .function):
 wpAny (model prog w) (dya d env outer gd u) (call (.ref f) vals) Q E ⟨hp0,gn0,dw0,tk0,os0⟩:=
 a9a S B X T F N hd hu hp (fun h' tk' r F' N' st ⟨l,vs,c,e,hl,hv,hn,hz⟩=>by
  subst e
  exact h h' tk' l vs c F' (dea F N' st hl hn) (fun p hp e=>by have q:=(N p hp).1;rw [e,hn] at q;cases q) hv (by rw [hv.len];exact hz) st) hf hk
theorem daa{hp0:Heap}{gn0:Array GenState}{dw0:Drawn}{tk0:Nat}{os0:OsState}{val:Tok->Value}(S:RO prog w K f vals n pre (fun _ _ v=>∃ tk,v=val tk))(B:Below A₀ base outer g)(X:K.In g)(T:Top p loose mean mg mb g)(F:Fr g L hp0 m)(N:News g L hp0 news)(hd:d+n<recursionLimit)(hu:u+8*n+200<cLine)
 (hp:pre hp0)
 (h:∀ (h':Heap) (tk':Nat),Fr g L h' m->News g L h' news->hp0.StaysIn h'->∀ tk2,Q (val tk2) ⟨h',gn0,dw0,tk',os0⟩)
 (hf:env.frame=some L) (hk:env.scope.kind= .function):
 wpAny (model prog w) (dya d env outer gd u) (call (.ref f) vals) Q E ⟨hp0,gn0,dw0,tk0,os0⟩:=
 a9a S B X T F N hd hu hp (fun h' tk' _ F' N' st ⟨tk2,e⟩=>e▸h h' tk' F' N' st tk2) hf hk
theorem dba{hp0:Heap}{gn0:Array GenState}{dw0:Drawn}{tk0:Nat}{os0:OsState}{c:Value}(S:RO prog w K f vals n pre (fun _ _ v=>v=c))(B:Below A₀ base outer g)(X:K.In g)(T:Top p loose mean mg mb g)(F:Fr g L hp0 m)(N:News g L hp0 news)(hd:d+n<recursionLimit)(hu:u+8*n+200<cLine)
 (hp:pre hp0)
 (h:∀ (h':Heap) (tk':Nat),Fr g L h' m->News g L h' news->hp0.StaysIn h'->Q c ⟨h',gn0,dw0,tk',os0⟩)
 (hf:env.frame=some L) (hk:env.scope.kind= .function):
 wpAny (model prog w) (dya d env outer gd u) (call (.ref f) vals) Q E ⟨hp0,gn0,dw0,tk0,os0⟩:=
 a9a S B X T F N hd hu hp (fun h' tk' _ F' N' st e=>e▸h h' tk' F' N' st) hf hk
theorem aca{h h':Heap}{L l:Addr}{vs:List Value}{c:Nat}{news:List (Addr×Obj)}(N:News h L h' news)(hm:(l,listOf vs.toArray c)∈news)(hv:NV vs ns)(hz:ns.length<4096):apa h h' (.ref l) ns:=
 ⟨l,vs,c,rfl,(N _ hm).1,hv,(N _ hm).2.2,hz⟩
inductive rAa(h:Heap)(l:Addr)(ns:List Nat):Prop
 |ik (vs:List Value) (a:h.IsList l (List.toArray vs)) (b:NV vs ns) (c:vs.length=ns.length):rAa h l ns
theorem fsa.list{h:Heap}{l:Addr}(N:fsa h l ns):rAa h l ns:=let ⟨vs,c,e,i⟩:=N;⟨vs,⟨_,e,rfl,_,rfl⟩,i,NV.len i⟩
end
inductive dqa(h:Heap)(l:Addr)(ns:List Nat):Prop
 |ik (vs:_)
  (f0:h.IsList l (List.toArray vs))
  (f1:NV vs ns):dqa h l ns
theorem dqa.mk{h:Heap}{l:Addr}{vs:List Value}{ns:List Nat}(hl:h.IsList l vs.toArray)(hv:NV vs ns):dqa h l ns:=⟨vs,hl,hv⟩
theorem bca{g h:Heap}{L l:Addr}{m:Str->Option Value}{xs:Array Value}(F:Fr g L h m)(hl:g.IsList l xs):l≠L:=fun e=>by
 obtain⟨o,ho,_⟩:=hl
 exact Nat.lt_irrefl _ (Nat.lt_of_lt_of_le (Heap.lt_size ho) (e▸F.above))
theorem foa{g h:Heap}{L l:Addr}{xs:Array Value}{news:List (Addr×Obj)}(N:News g L h news)(hl:g.IsList l xs):∀ p∈news, @Ne Nat p.1 l:=fun p hp e=>by
 obtain⟨o,ho,_⟩:=hl
 have q:=(N p hp).2.2
 have e':p.1=l:=e
 rw [e',ho] at q;cases q
theorem hoa{o:Option Nat}{v:Value}(h:b2a o v):(o=none∧v= .none)∨∃ q tk,o=some q∧v= .int (q:Nat) tk:=by
 cases h with
 |none=>exact .inl ⟨rfl,rfl⟩
 |some p t=>exact .inr ⟨p,t,rfl,rfl⟩
theorem gla{o:Option Nat}{v:Value}(h:b2a o v):handedIn v=true:=by cases h<;>rfl
end Mine
namespace Mine
theorem gXa{M:Model}{A:Around}{st:Stmt}{rest:List Stmt}{env:Env}{Q:Flow->Shared->Prop}{E:Value->Shared->Prop}{s:Shared}(P:Shared->Prop)(h1:wpAny M A (exec st env) (fun f s'=>f= .next∧P s') E s)(h2:∀ s',P s'->wpAny M A (execs rest env) Q E s'):wpAny M A (execs (st::rest) env) Q E s:=
 wpAny_execs_cons (wpAny_mono h1 (fun f s' h=>by obtain⟨e,p⟩:=h;subst e;exact h2 s' p) fun _ _ e=>e)
theorem eRa{g h:Heap}{L:Addr}{m m':Str->Option Value}(F:Fr g L h m)(e:∀ y,m y=m' y):Fr g L h m':=(funext e:m=m')▸F
theorem cua{a b:Str}{u v:Value}(y:Str):List.lookup y [(a,u),(b,v)]=if y=a then some u else if y=b then some v else none:=by
 by_cases h1:y=a
 ·subst h1;simp
 ·rw [List.lookup_cons,show(y==a)=false from by simpa using h1]
  by_cases h2:y=b
  ·subst h2;simp [h1]
  ·rw [List.lookup_cons,show(y==b)=false from by simpa using h2];simp [h1,h2]
theorem gpa{a b:Str}{u u' v:Value}(y:Str):(if y=a then some u' else List.lookup y [(a,u),(b,v)])=if y=a then some u' else if y=b then some v else none:=by
 rw [cua];by_cases h:y=a<;>simp [h]
theorem gta{M:Model}{A:Around}{st st2:Stmt}{rest:List Stmt}{env:Env}{Q:Flow->Shared->Prop}{E:Value->Shared->Prop}{s:Shared}(P:Shared->Prop)(h1:wpAny M A (exec st env) (fun f s'=>match f with| .next=>wpAny M A (exec st2 env) (fun f s'=>f= .next∧P s') E s'|_=>False) E s)(h2:∀ s',P s'->wpAny M A (execs rest env) Q E s'):wpAny M A (execs (st::st2::rest) env) Q E s:=
 wpAny_execs_cons (wpAny_mono h1 (fun f s' h=>by cases f<;>first|exact gXa P h h2|exact False.elim h) fun _ _ e=>e)
end Mine
namespace Mine
theorem ar3:True:=by
 k_with "ar3" =>with_reducible first|exact m2a ‹_› ‹_› |((show _≤_);first|exact mEa ‹_› ‹_› |exact mSa ‹_› |exact ssa ‹_› |exact mDa ‹_› |exact mRa|exact zq3|exact mQa ‹_›)|exact oYa ‹_› ‹_› |exact(qNa ‹_› ‹_›).elim|exact(mPa ‹_› ‹_›).elim
 trivial
noncomputable abbrev afa:Str:=Str.ofString "attribute"
noncomputable abbrev sNs:Str:=Str.ofString "namespace"
noncomputable abbrev aLa:Str:=Str.ofString "element"
noncomputable abbrev sRoot:Str:=Str.ofString "root"
noncomputable def aFa(T:List aaa)(i:Nat):List Nat:=match T[i]? with|some r=>r.children|none=> []
noncomputable def bea(T:List aaa)(i:Nat):List Nat:=match T[i]? with|some r=>r.attrs|none=> []
noncomputable def caa(T:List aaa)(i:Nat):List Nat:=match T[i]? with|some r=>r.nss|none=> []
noncomputable def par(T:List aaa)(i:Nat):Option Nat:=match T[i]? with|some r=>r.parent|none=>none
noncomputable def kindOf (T:List aaa) (i:Nat):Str:=match T[i]? with|some r=>r.kind|none=>Str.ofString ""
structure WF(T:List aaa):Prop where
 small:T.length<60
 kid:∀ i c,c∈aFa T i->i<c∧c<T.length∧par T c=some i∧kindOf T c≠afa∧kindOf T c≠sNs∧kindOf T c≠sRoot
 att:∀ i c,c∈bea T i->i<c∧c<T.length∧par T c=some i∧kindOf T c=afa
 nsp:∀ i c,c∈caa T i->i<c∧c<T.length∧par T c=some i∧kindOf T c=sNs
 kidN:∀ i,(aFa T i).Nodup
 attN:∀ i,(bea T i).Nodup
 nspN:∀ i,(caa T i).Nodup
 up:∀ c i,par T c=some i->i<c∧(kindOf T i=aLa∨kindOf T i=sRoot)∧(if kindOf T c=afa then c∈bea T i else if kindOf T c=sNs then c∈caa T i else c∈aFa T i)
 root:∀ c,c<T.length->(par T c=none↔kindOf T c=sRoot)
 holds:∀ i,kindOf T i≠aLa->kindOf T i≠sRoot->aFa T i= []
 holds2:∀ i,kindOf T i≠aLa->bea T i= []∧caa T i= []
theorem aJa{T:List aaa}(W:WF T){i c:Nat}(h:c∈aFa T i):i<c∧c<T.length:=⟨(W.kid i c h).1,(W.kid i c h).2.1⟩
theorem cIa{T:List aaa}{i:Nat}{r:aaa}(h:T[i]?=some r):aFa T i=r.children:=by unfold aFa;rw [h]
theorem bFa{T:List aaa}{i:Nat}{r:aaa}(h:T[i]?=some r):bea T i=r.attrs:=by unfold bea;rw [h]
theorem goa{T:List aaa}{i:Nat}{r:aaa}(h:T[i]?=some r):caa T i=r.nss:=by unfold caa;rw [h]
theorem bBa{T:List aaa}{i:Nat}{r:aaa}(h:T[i]?=some r):par T i=r.parent:=by unfold par;rw [h]
theorem aXa{T:List aaa}{i:Nat}{r:aaa}(h:T[i]?=some r):kindOf T i=r.kind:=by unfold kindOf;rw [h]
noncomputable def fSa(T:List aaa):Nat->Nat->List Nat
 |0,_=> []
 |f+1,i=>(aFa T i).flatMap fun c=>c::fSa T f c
noncomputable def a3a(T:List aaa)(i:Nat):List Nat:=fSa T T.length i
theorem jXa{T:List aaa}(W:WF T):∀ f g i,T.length-i≤f->T.length-i≤g->fSa T f i=fSa T g i:=by
 intro f
 induction f with
 |zero=>
  intro g i hf hg
  cases g with
  |zero=>rfl
  |succ g=>
   have:aFa T i= []:=by unfold aFa;rw [List.getElem?_eq_none (by omega)]
   simp [fSa,this]
 |succ f ih=>
  intro g i hf hg
  cases g with
  |zero=>
   have:aFa T i= []:=by unfold aFa;rw [List.getElem?_eq_none (by omega)]
   simp [fSa,this]
  |succ g=>
   simp only [fSa]
   rw [List.flatMap_def,List.flatMap_def]
   congr 1
   apply List.map_congr_left
   intro c hc
   have:=aJa W hc
   rw [ih g c (by omega) (by omega)]
theorem baa:∀ {n:Nat} {l:List Nat} (_:l.Nodup) (_:∀ x∈l,x<n),l.length≤n:=by
 intro n
 induction n with
 |zero=>
  intro l _ hb
  cases l with
  |nil=>simp
  |cons a l=>exact absurd (hb a (.head _)) (Nat.not_lt_zero _)
 |succ n ih=>
  intro l h hb
  by_cases hn:n∈l
  ·have h1:=ih (h.erase n) (fun x hx=>by
    have h2:=(h.mem_erase_iff).mp hx
    have h3:=hb x h2.2
    have h4:x≠n:=h2.1
    omega)
   rw [List.length_erase_of_mem hn] at h1
   omega
  ·have h1:=ih h (fun x hx=>by
    have h3:=hb x hx
    have h4:x≠n:=fun e=>hn (e▸hx)
    omega)
   omega
theorem a0a{T:List aaa}(W:WF T)(i:Nat):(aFa T i).length<60:=Nat.lt_of_le_of_lt (baa (W.kidN i) fun x hx=>(W.kid i x hx).2.1) W.small
theorem c7a{T:List aaa}(W:WF T)(i:Nat):(bea T i).length<60:=Nat.lt_of_le_of_lt (baa (W.attN i) fun x hx=>(W.att i x hx).2.1) W.small
theorem gSa{T:List aaa}(W:WF T)(i:Nat):(caa T i).length<60:=Nat.lt_of_le_of_lt (baa (W.nspN i) fun x hx=>(W.nsp i x hx).2.1) W.small
theorem bpa{T:List aaa}(W:WF T)(i:Nat):a3a T i=(aFa T i).flatMap fun c=>c::a3a T c:=by
 unfold a3a
 rw [jXa W T.length (T.length+1) i (by omega) (by omega)]
 simp only [fSa]
theorem aAa{T:List aaa}(W:WF T):∀ i c,c∈a3a T i->i<c∧c<T.length:=by
 have key:∀ k i,T.length-i≤k->∀ c,c∈a3a T i->i<c∧c<T.length:=by
  intro k
  induction k with
  |zero=>
   intro i hk c hc
   rw [bpa W] at hc
   have:aFa T i= []:=by unfold aFa;rw [List.getElem?_eq_none (by omega)]
   rw [this] at hc;simp at hc
  |succ k ih=>
   intro i hk c hc
   rw [bpa W] at hc
   obtain⟨a,ha,hc⟩:=List.mem_flatMap.mp hc
   have:=aJa W ha
   rcases lcM hc with rfl|hc
   ·exact this
   ·have:=ih a (by omega) c hc
    omega
 exact fun i=>key _ i (Nat.le_refl _)
theorem eua{g:Nat->List Nat}(l:List Nat):l.length≤(l.reverse.flatMap fun y=>y::g y).length:=by
 induction l with
 |nil=>simp
 |cons a l ih=>simp only [List.reverse_cons,List.flatMap_append,List.length_append,List.length_cons,List.flatMap_cons,List.flatMap_nil,List.length_nil];omega
theorem cwa{T:List aaa}(W:WF T):∀ i x,x∈a3a T i->∃ p,par T x=some p∧x∈aFa T p∧(p=i∨p∈a3a T i):=by
 have key:∀ k i,T.length-i≤k->∀ x,x∈a3a T i->∃ p,par T x=some p∧x∈aFa T p∧(p=i∨p∈a3a T i):=by
  intro k
  induction k with
  |zero=>
   intro i hk x hx
   have:=(aAa W i x hx);omega
  |succ k ih=>
   intro i hk x hx
   rw [bpa W] at hx
   obtain⟨a,ha,hx⟩:=List.mem_flatMap.mp hx
   have h1:=aJa W ha
   rcases lcM hx with rfl|hx
   ·exact⟨i,(W.kid i x ha).2.2.1,ha, .inl rfl⟩
   ·obtain⟨p,e1,e2,e3⟩:=ih a (by omega) x hx
    refine⟨p,e1,e2, .inr ?_⟩
    rw [bpa W]
    refine List.mem_flatMap.mpr ⟨a,ha, ?_⟩
    rcases e3 with rfl|e3
    ·exact List.mem_cons_self
    ·exact List.mem_cons_of_mem _ e3
 exact fun i=>key _ i (Nat.le_refl _)
theorem iRa{T:List aaa}(W:WF T){i:Nat}:∀ x c c',c∈aFa T i->c'∈aFa T i->x∈c::a3a T c->x∈c'::a3a T c'->c=c':=by
 intro x
 induction x using Nat.strongRecOn with
 |_ x ih=>
  intro c c' hc hc' h1 h2
  have pc:=(W.kid i c hc).2.2.1
  have pc':=(W.kid i c' hc').2.2.1
  have lc:=aJa W hc
  have lc':=aJa W hc'
  rcases lcM h1 with rfl|h1
  ·rcases lcM h2 with e|h2
   ·exact e
   ·obtain⟨p,e1,e2,e3⟩:=cwa W c' x h2
    rw [pc] at e1
    cases e1
    rcases e3 with rfl|e3
    ·omega
    ·have:=aAa W _ _ e3;omega
  ·obtain⟨p,e1,e2,e3⟩:=cwa W c x h1
   have hp:=aJa W e2
   rcases lcM h2 with rfl|h2
   ·rw [pc'] at e1
    cases e1
    rcases e3 with rfl|e3
    ·omega
    ·have:=aAa W _ _ e3;omega
   ·obtain⟨p',f1,f2,f3⟩:=cwa W c' x h2
    rw [e1] at f1
    cases f1
    refine ih p hp.1 c c' hc hc' ?_ ?_
    ·rcases e3 with rfl|e3
     ·exact List.mem_cons_self
     ·exact List.mem_cons_of_mem _ e3
    ·rcases f3 with rfl|f3
     ·exact List.mem_cons_self
     ·exact List.mem_cons_of_mem _ f3
theorem b5a{α β:Type}{f:α->List β}:∀ {l:List α},l.Nodup->(∀ a∈l,(f a).Nodup)->(∀ a∈l,∀ b∈l,∀ x,x∈f a->x∈f b->a=b)->(l.flatMap f).Nodup
 | [],_,_,_=>by simp
 |a::l,h,h1,h2=>by
  rw [List.flatMap_cons,List.nodup_append]
  have hc:=List.nodup_cons.mp h
  refine⟨h1 a (.head _),b5a hc.2 (fun b hb=>h1 b (.tail _ hb)) (fun b hb c hc=>h2 b (.tail _ hb) c (.tail _ hc)), ?_⟩
  intro x hx y hy e
  subst e
  obtain⟨b,hb,hxb⟩:=List.mem_flatMap.mp hy
  have:=h2 a (.head _) b (.tail _ hb) x hx hxb
  subst this
  exact hc.1 hb
theorem eUa{T:List aaa}(W:WF T):∀ i,(a3a T i).Nodup:=by
 have key:∀ k i,T.length-i≤k->(a3a T i).Nodup:=by
  intro k
  induction k with
  |zero=>
   intro i hk
   have:a3a T i= []:=List.eq_nil_iff_forall_not_mem.mpr fun x hx=>by have:=aAa W i x hx;omega
   rw [this];exact List.nodup_nil
  |succ k ih=>
   intro i hk
   rw [bpa W]
   refine b5a (W.kidN i) (fun c hc=> ?_) (fun a ha b hb x hx hy=>iRa W x a b ha hb hx hy)
   have h1:=aJa W hc
   refine List.nodup_cons.mpr ⟨fun h=> ?_,ih c (by omega)⟩
   have:=aAa W c c h;omega
 exact fun i=>key _ i (Nat.le_refl _)
theorem bJa{T:List aaa}(W:WF T)(i:Nat):(a3a T i).length<60:=Nat.lt_of_le_of_lt (baa (eUa W i) fun x hx=>(aAa W i x hx).2) W.small
end Mine
namespace Mine
theorem ar4:True:=by
 k_with "ar4" =>with_reducible first|((show _<_);first|exact zq7 ‹_› |exact qCa ‹_› ‹_› |exact qDa|exact fva ‹_› ‹_› |exact qAa ‹_› ‹_› |exact o1a ‹_› ‹_› |exact ska ‹_› ‹_› ‹_› |exact pXa ‹_› |exact oZa ‹_› |exact oXa ‹_› ‹_› |exact oVa|exact p2a ‹_› |exact r2a ‹_› ‹_› ‹_› |exact oHa ‹_› ‹_› ‹_›)|exact pUa ‹_› ‹_› |exact oSa|exact lOa ‹_› ‹_› |exact(mAa ‹_›).elim|exact(qNa ‹_› ‹_›).elim
 trivial
noncomputable def aoa(T:List aaa)(i:Nat):Bool:= [afa,sNs].any fun x=>x==kindOf T i
noncomputable def jaa(T:List aaa):Nat->Nat->List Nat
 |0,_=> []
 |f+1,i=>match par T i with
  |none=> []
  |some p=>p::jaa T f p
noncomputable def anc(T:List aaa)(i:Nat):List Nat:=jaa T (i+1) i
theorem aja{T:List aaa}(W:WF T){i p:Nat}(h:par T i=some p):p<i:=(W.up i p h).1
theorem cja{T:List aaa}{i p:Nat}(hp:par T i=some p):i<T.length:=by
 unfold par at hp
 cases e:T[i]? with
 |none=>rw [e] at hp;cases hp
 |some r=>exact(List.getElem?_eq_some_iff.mp e).1
theorem lva{T:List aaa}(W:WF T):∀ f g i,i<f->i<g->jaa T f i=jaa T g i:=by
 intro f
 induction f with
 |zero=>intro g i h;omega
 |succ f ih=>
  intro g i hf hg
  cases g with
  |zero=>omega
  |succ g=>
   simp only [jaa]
   cases hp:par T i with
   |none=>rfl
   |some p=>
    have:=aja W hp
    simp only
    rw [ih g p (by omega) (by omega)]
theorem aNa{T:List aaa}{i:Nat}(h:par T i=none):anc T i= []:=by unfold anc;simp only [jaa,h]
theorem aka{T:List aaa}(W:WF T){i p:Nat}(h:par T i=some p):anc T i=p::anc T p:=by
 have:=aja W h
 show jaa T (i+1) i=p::jaa T (p+1) p
 simp only [jaa,h]
 rw [lva W i (p+1) p (by omega) (by omega)]
 simp only [jaa]
theorem f1a{T:List aaa}(W:WF T):∀ i,∀ x∈anc T i,x<i:=by
 intro i
 induction i using Nat.strongRecOn with
 |_ i ih=>
  intro x hx
  cases hp:par T i with
  |none=>rw [aNa hp] at hx;cases hx
  |some p=>
   rw [aka W hp] at hx
   have:=aja W hp
   rcases lcM hx with rfl|hx
   ·exact this
   ·have:=ih p this x hx;omega
theorem b1a{T:List aaa}(W:WF T):∀ i,(anc T i).length≤i:=by
 intro i
 induction i using Nat.strongRecOn with
 |_ i ih=>
  cases hp:par T i with
  |none=>rw [aNa hp];exact Nat.zero_le _
  |some p=>
   rw [aka W hp]
   have:=aja W hp
   have:=ih p this
   simp only [List.length_cons];omega
noncomputable def cRa(T:List aaa)(i:Nat):List Nat:=match par T i with
 |none=> []
 |some p=>if aoa T i=true then [] else((aFa T p).take ((aFa T p).idxOf i)).reverse
noncomputable def cya(T:List aaa)(i:Nat):List Nat:=match par T i with
 |none=> []
 |some p=>if aoa T i=true then [] else(aFa T p).drop ((aFa T p).idxOf i+1)
theorem a6a{T:List aaa}{i:Nat}:aoa T i=true↔kindOf T i=afa∨kindOf T i=sNs:=by
 unfold aoa
 simp only [List.any_cons,List.any_nil,Bool.or_false,Bool.or_eq_true,beq_iff_eq]
 constructor<;>(rintro(h|h)<;>simp [h])
theorem bZa{T:List aaa}(W:WF T){i p:Nat}(hp:par T i=some p)(hb:aoa T i=false):i∈aFa T p:=by
 have h:=(W.up i p hp).2.2
 have h1:¬ (kindOf T i=afa∨kindOf T i=sNs):=fun h=>by rw [a6a.mpr h] at hb;cases hb
 rw [if_neg (fun e=>h1 (.inl e)),if_neg (fun e=>h1 (.inr e))] at h
 exact h
noncomputable def ada(T:List aaa)(ns:List Nat):List Nat:=ns.flatMap fun n=>n::a3a T n
theorem aYa{α:Type}{g:α->List Nat}(ns:List α)(k:Nat):((ns.take k).flatMap g).length≤(ns.flatMap g).length:=by
 have:ns.flatMap g=(ns.take k).flatMap g++(ns.drop k).flatMap g:=by rw [<-List.flatMap_append,List.take_append_drop]
 rw [this,List.length_append];omega
theorem awa{α:Type}{g:α->List Nat}{ns:List α}{k:Nat}{n:α}(h:ns[k]?=some n):(ns.take (k+1)).flatMap g=(ns.take k).flatMap g++g n:=by
 rw [List.take_add_one,h];simp
theorem e6a{T:List aaa}(W:WF T){i x:Nat}(h:x∈cya T i):x<T.length:=by
 unfold cya at h
 cases hp:par T i with
 |none=>rw [hp] at h;cases h
 |some q=>
  rw [hp] at h
  simp only at h
  split at h
  ·cases h
  ·exact(aJa W (List.mem_of_mem_drop h)).2
theorem e7a{T:List aaa}(W:WF T){i x:Nat}(h:x∈cRa T i):x<T.length:=by
 unfold cRa at h
 cases hp:par T i with
 |none=>rw [hp] at h;cases h
 |some q=>
  rw [hp] at h
  simp only at h
  split at h
  ·cases h
  ·exact(aJa W (List.mem_of_mem_take (List.mem_reverse.mp h))).2
noncomputable def aqa(T:List aaa)(i:Nat):List Nat:=(i::anc T i).flatMap fun h=>ada T (cya T h)
noncomputable def g2a(T:List aaa)(i:Nat):List Nat:=if aoa T i=true then(match par T i with|some q=>a3a T q++aqa T q|none=> []) else aqa T i
theorem bUa{T:List aaa}(W:WF T){i:Nat}(hi:i<T.length)(hb:aoa T i=true):∃ q,par T i=some q:=by
 cases hp:par T i with
 |some q=>exact⟨q,rfl⟩
 |none=>
  have h1:=(W.root i hi).mp hp
  rcases a6a.mp hb with h2|h2<;>(rw [h1] at h2;exact absurd h2 (by decide))
noncomputable def b4a(T:List aaa)(h:Nat):List Nat:=(cRa T h).flatMap fun s=>(ada T [s]).reverse
noncomputable def ana(T:List aaa)(i:Nat):List Nat:=(i::anc T i).flatMap (b4a T)
noncomputable def gma(T:List aaa)(i:Nat):List Nat:=if aoa T i=true then(match par T i with|some q=>ana T q|none=> []) else ana T i
noncomputable def cCa(T:List aaa):Nat->Nat->List Nat
 |0,_=> []
 |f+1,i=>match par T i with
  |none=> []
  |some p=>cCa T f p++p::ada T ((aFa T p).take ((aFa T p).idxOf i))
noncomputable def fqa(T:List aaa)(i:Nat):List Nat:=cCa T (i+1) i
theorem i3a{T:List aaa}(W:WF T):∀ f g i,i<f->i<g->cCa T f i=cCa T g i:=by
 intro f
 induction f with
 |zero=>intro g i h;omega
 |succ f ih=>
  intro g i hf hg
  cases g with
  |zero=>omega
  |succ g=>
   simp only [cCa]
   cases hp:par T i with
   |none=>rfl
   |some p=>
    have:=aja W hp
    simp only
    rw [ih g p (by omega) (by omega)]
theorem doa{T:List aaa}{i:Nat}(h:par T i=none):fqa T i= []:=by unfold fqa;simp only [cCa,h]
theorem dna{T:List aaa}(W:WF T){i p:Nat}(h:par T i=some p):fqa T i=fqa T p++p::ada T ((aFa T p).take ((aFa T p).idxOf i)):=by
 have:=aja W h
 show cCa T (i+1) i=cCa T (p+1) p++_
 simp only [cCa,h]
 rw [i3a W i (p+1) p (by omega) (by omega)]
 simp only [cCa]
noncomputable def i9a(T:List aaa):Nat->Nat->Nat
 |0,i=>i
 |f+1,i=>match par T i with
  |none=>i
  |some p=>i9a T f p
noncomputable def aPa(T:List aaa)(i:Nat):Nat:=i9a T (i+1) i
theorem kMa{T:List aaa}(W:WF T):∀ f g i,i<f->i<g->i9a T f i=i9a T g i:=by
 intro f
 induction f with
 |zero=>intro g i h;omega
 |succ f ih=>
  intro g i hf hg
  cases g with
  |zero=>omega
  |succ g=>
   simp only [i9a]
   cases hp:par T i with
   |none=>rfl
   |some p=>
    have:=aja W hp
    simp only
    rw [ih g p (by omega) (by omega)]
theorem bRa{T:List aaa}{i:Nat}(h:par T i=none):aPa T i=i:=by unfold aPa;simp only [i9a,h]
theorem asa{T:List aaa}(W:WF T){i p:Nat}(h:par T i=some p):aPa T i=aPa T p:=by
 have:=aja W h
 show i9a T (i+1) i=i9a T (p+1) p
 simp only [i9a,h]
 rw [kMa W i (p+1) p (by omega) (by omega)]
 simp only [i9a]
theorem bWa{l:List Nat}{x:Nat}(h:x∈l):l=l.take (l.idxOf x)++x::l.drop (l.idxOf x+1):=by
 have hlt:=List.idxOf_lt_length_of_mem h
 have e:l[l.idxOf x]=x:=List.getElem_idxOf hlt
 calc l=l.take (l.idxOf x)++l.drop (l.idxOf x):=(List.take_append_drop _ _).symm
  _=_:=by rw [List.drop_eq_getElem_cons hlt,e]
theorem dsa(T:List aaa)(a b:List Nat):ada T (a++b)=ada T a++ada T b:=by unfold ada;rw [List.flatMap_append]
theorem e0a(T:List aaa)(a:Nat)(b:List Nat):ada T (a::b)=a::a3a T a++ada T b:=by unfold ada;rw [List.flatMap_cons]
theorem lha{T:List aaa}(W:WF T)(i:Nat):a3a T i=ada T (aFa T i):=bpa W i
theorem eGa{T:List aaa}{i p:Nat}(hp:par T i=some p)(hb:aoa T i=false):cya T i=(aFa T p).drop ((aFa T p).idxOf i+1):=by unfold cya;rw [hp];simp [hb]
theorem eHa{T:List aaa}{i p:Nat}(hp:par T i=some p)(hb:aoa T i=false):cRa T i=((aFa T p).take ((aFa T p).idxOf i)).reverse:=by unfold cRa;rw [hp];simp [hb]
theorem gJa{T:List aaa}{i:Nat}(hp:par T i=none):cya T i= []:=by unfold cya;rw [hp]
theorem gLa{T:List aaa}{i:Nat}(hp:par T i=none):cRa T i= []:=by unfold cRa;rw [hp]
theorem bba{T:List aaa}(W:WF T){i p:Nat}(hp:par T i=some p):aoa T p=false:=by
 have h:=(W.up i p hp).2.1
 cases hb:aoa T p with
 |false=>rfl
 |true=>
  rcases a6a.mp hb with h1|h1<;>rcases h with h2|h2<;>(rw [h1] at h2;exact absurd h2 (by decide))
theorem c4a{T:List aaa}{i:Nat}(hp:par T i=none):aqa T i= []:=by
 unfold aqa;rw [aNa hp,List.flatMap_cons,List.flatMap_nil,gJa hp];rfl
theorem c3a{T:List aaa}(W:WF T){i p:Nat}(hp:par T i=some p):aqa T i=ada T (cya T i)++aqa T p:=by
 unfold aqa;rw [aka W hp,List.flatMap_cons]
theorem eea{T:List aaa}(W:WF T):∀ i,aoa T i=false->aPa T i::a3a T (aPa T i)=fqa T i++(i::a3a T i)++aqa T i:=by
 intro i
 induction i using Nat.strongRecOn with
 |_ i ih=>
  intro hb
  cases hp:par T i with
  |none=>rw [bRa hp,doa hp,c4a hp];simp
  |some p=>
   have hlt:=aja W hp
   have hk:=bWa (bZa W hp hb)
   have e:a3a T p=ada T ((aFa T p).take ((aFa T p).idxOf i))++((i::a3a T i)++ada T (cya T i)):=by
    rw [eGa hp hb,lha W p]
    conv=>lhs;rw [hk]
    rw [dsa,e0a]
   rw [asa W hp,ih p hlt (bba W hp),dna W hp,c3a W hp,e]
   simp only [List.append_assoc,List.cons_append]
theorem gGa{T:List aaa}(W:WF T):∀ i,aPa T i≤i:=by
 intro i
 induction i using Nat.strongRecOn with
 |_ i ih=>
  cases hp:par T i with
  |none=>rw [bRa hp];exact Nat.le_refl _
  |some p=>rw [asa W hp];have:=aja W hp;have:=ih p this;omega
theorem fRa{T:List aaa}(W:WF T)(i:Nat):(i::a3a T i).Nodup:=List.nodup_cons.mpr ⟨fun h=>by have:=aAa W i i h;omega,eUa W i⟩
theorem dWa(T:List aaa)(i:Nat):b4a T i=(ada T (cRa T i).reverse).reverse:=by
 unfold b4a
 have key:∀ l:List Nat,(l.flatMap fun s=>(ada T [s]).reverse)=(ada T l.reverse).reverse:=by
  intro l
  induction l with
  |nil=>simp [ada]
  |cons a l ih=>rw [List.flatMap_cons,ih,List.reverse_cons,dsa,List.reverse_append]
 exact key _
theorem bYa{T:List aaa}{i:Nat}(hp:par T i=none):ana T i= []:=by
 unfold ana;rw [aNa hp,List.flatMap_cons,List.flatMap_nil,dWa,gLa hp];rfl
theorem cTa{T:List aaa}(W:WF T){i p:Nat}(hp:par T i=some p)(hb:aoa T i=false):ana T i=(ada T ((aFa T p).take ((aFa T p).idxOf i))).reverse++ana T p:=by
 unfold ana;rw [aka W hp,List.flatMap_cons,dWa,eHa hp hb,List.reverse_reverse]
theorem eXa{T:List aaa}(W:WF T):∀ i,aoa T i=false->(fqa T i).Perm (anc T i++ana T i):=by
 intro i
 induction i using Nat.strongRecOn with
 |_ i ih=>
  intro hb
  cases hp:par T i with
  |none=>rw [doa hp,aNa hp,bYa hp];exact List.Perm.refl _
  |some p=>
   have hlt:=aja W hp
   have h:=ih p hlt (bba W hp)
   rw [dna W hp,aka W hp,cTa W hp hb]
   generalize ada T ((aFa T p).take ((aFa T p).idxOf i))=X
   --fqa p++p::X ~ p::anc p++(X.reverse++gma p)
   refine List.perm_middle.trans ?_
   rw [List.cons_append]
   refine List.Perm.cons p ?_
   refine(h.append_right X).trans ?_
   rw [List.append_assoc]
   refine List.Perm.append_left _ ?_
   exact List.perm_append_comm.trans ((List.reverse_perm X).symm.append_right _)
theorem c5a{T:List aaa}(W:WF T)(i:Nat)(hi:i<T.length)(hb:aoa T i=false):(aqa T i).length<60:=by
 have h:=eea W i hb
 have hl:(aPa T i::a3a T (aPa T i)).length≤T.length:=baa (fRa W _) fun x hx=>by
  rcases lcM hx with rfl|hx
  ·have:=gGa W i;omega
  ·exact(aAa W _ x hx).2
 rw [h] at hl
 have:=W.small
 simp only [List.length_append,List.length_cons] at hl
 omega
theorem cUa{T:List aaa}(W:WF T)(i:Nat)(hi:i<T.length)(hb:aoa T i=false):(ana T i).length<60:=by
 have h:=eea W i hb
 have hl:(aPa T i::a3a T (aPa T i)).length≤T.length:=baa (fRa W _) fun x hx=>by
  rcases lcM hx with rfl|hx
  ·have:=gGa W i;omega
  ·exact(aAa W _ x hx).2
 rw [h] at hl
 have:=W.small
 have hp:=(eXa W i hb).length_eq
 simp only [List.length_append,List.length_cons] at hl hp
 omega
theorem bIa{T:List aaa}(W:WF T)(i:Nat):(aqa T i).length<60:=by
 cases hp:par T i with
 |none=>rw [c4a hp];simp
 |some p=>
  have hi:=cja hp
  cases hb:aoa T i with
  |false=>exact c5a W i hi hb
  |true=>
   rw [c3a W hp,show cya T i= [] from by unfold cya;rw [hp];simp [hb]]
   exact c5a W p (by have:=aja W hp;omega) (bba W hp)
theorem cha{T:List aaa}(W:WF T)(i:Nat):(ana T i).length<60:=by
 cases hp:par T i with
 |none=>rw [bYa hp];simp
 |some p=>
  have hi:=cja hp
  cases hb:aoa T i with
  |false=>exact cUa W i hi hb
  |true=>
   have e:ana T i=ana T p:=by
    unfold ana
    rw [aka W hp,List.flatMap_cons,dWa,show cRa T i= [] from by unfold cRa;rw [hp];simp [hb]]
    rfl
   rw [e]
   exact cUa W p (by have:=aja W hp;omega) (bba W hp)
theorem kLa{T:List aaa}(W:WF T)(i:Nat):(ada T (cya T i)).length<60:=by
 have h:=bIa W i
 unfold aqa at h
 rw [List.flatMap_cons,List.length_append] at h
 omega
noncomputable def aga:List Str:= [Str.ofString "child",Str.ofString "self",Str.ofString "parent",Str.ofString "attribute",Str.ofString "following-sibling",Str.ofString "preceding-sibling"]
noncomputable def aya:List Str:= [Str.ofString "descendant",Str.ofString "descendant-or-self",Str.ofString "ancestor",Str.ofString "ancestor-or-self",Str.ofString "following",Str.ofString "preceding"]
noncomputable def aDa(T:List aaa)(i:Nat)(name:Str):List Nat:=
 if name=Str.ofString "child" then aFa T i
 else if name=Str.ofString "self" then [i]
 else if name=Str.ofString "parent" then(match par T i with|none=> []|some q=> [q])
 else if name=Str.ofString "attribute" then bea T i
 else if name=Str.ofString "following-sibling" then cya T i
 else if name=Str.ofString "preceding-sibling" then cRa T i
 else if name=Str.ofString "descendant" then a3a T i
 else if name=Str.ofString "descendant-or-self" then i::a3a T i
 else if name=Str.ofString "ancestor" then anc T i
 else if name=Str.ofString "ancestor-or-self" then i::anc T i
 else if name=Str.ofString "following" then g2a T i
 else gma T i
theorem gMa{T:List aaa}(W:WF T)(i:Nat):(cRa T i).length<60:=by
 unfold cRa
 cases hp:par T i with
 |none=>simp
 |some q=>
  simp only
  split
  ·simp
  ·have:=a0a W q;simp;omega
theorem gKa{T:List aaa}(W:WF T)(i:Nat):(cya T i).length<60:=by
 unfold cya
 cases hp:par T i with
 |none=>simp
 |some q=>
  simp only
  split
  ·simp
  ·have:=a0a W q;simp;omega
theorem cJa (T:List aaa) (i:Nat):aDa T i (Str.ofString "child")=aFa T i:=by unfold aDa;rw [if_pos rfl]
theorem dma (T:List aaa) (i:Nat):aDa T i (Str.ofString "self")= [i]:=by unfold aDa;rw [if_neg (by decide)];rw [if_pos rfl]
theorem bda (T:List aaa) (i:Nat):aDa T i (Str.ofString "attribute")=bea T i:=by unfold aDa;rw [if_neg (by decide)];rw [if_neg (by decide)];rw [if_neg (by decide)];rw [if_pos rfl]
theorem aSa (T:List aaa) (i:Nat):aDa T i (Str.ofString "following-sibling")=cya T i:=by unfold aDa;rw [if_neg (by decide)];rw [if_neg (by decide)];rw [if_neg (by decide)];rw [if_neg (by decide)];rw [if_pos rfl]
theorem aRa (T:List aaa) (i:Nat):aDa T i (Str.ofString "preceding-sibling")=cRa T i:=by unfold aDa;rw [if_neg (by decide)];rw [if_neg (by decide)];rw [if_neg (by decide)];rw [if_neg (by decide)];rw [if_neg (by decide)];rw [if_pos rfl]
theorem bqa (T:List aaa) (i:Nat):aDa T i (Str.ofString "descendant")=a3a T i:=by unfold aDa;rw [if_neg (by decide)];rw [if_neg (by decide)];rw [if_neg (by decide)];rw [if_neg (by decide)];rw [if_neg (by decide)];rw [if_neg (by decide)];rw [if_pos rfl]
theorem aBa (T:List aaa) (i:Nat):aDa T i (Str.ofString "descendant-or-self")=i::a3a T i:=by unfold aDa;rw [if_neg (by decide)];rw [if_neg (by decide)];rw [if_neg (by decide)];rw [if_neg (by decide)];rw [if_neg (by decide)];rw [if_neg (by decide)];rw [if_neg (by decide)];rw [if_pos rfl]
theorem bNa (T:List aaa) (i:Nat):aDa T i (Str.ofString "ancestor")=anc T i:=by unfold aDa;rw [if_neg (by decide)];rw [if_neg (by decide)];rw [if_neg (by decide)];rw [if_neg (by decide)];rw [if_neg (by decide)];rw [if_neg (by decide)];rw [if_neg (by decide)];rw [if_neg (by decide)];rw [if_pos rfl]
theorem aWa (T:List aaa) (i:Nat):aDa T i (Str.ofString "ancestor-or-self")=i::anc T i:=by unfold aDa;rw [if_neg (by decide)];rw [if_neg (by decide)];rw [if_neg (by decide)];rw [if_neg (by decide)];rw [if_neg (by decide)];rw [if_neg (by decide)];rw [if_neg (by decide)];rw [if_neg (by decide)];rw [if_neg (by decide)];rw [if_pos rfl]
theorem bEa (T:List aaa) (i:Nat):aDa T i (Str.ofString "following")=g2a T i:=by unfold aDa;rw [if_neg (by decide)];rw [if_neg (by decide)];rw [if_neg (by decide)];rw [if_neg (by decide)];rw [if_neg (by decide)];rw [if_neg (by decide)];rw [if_neg (by decide)];rw [if_neg (by decide)];rw [if_neg (by decide)];rw [if_neg (by decide)];rw [if_pos rfl]
theorem cma (T:List aaa) (i:Nat):aDa T i (Str.ofString "preceding")=gma T i:=by unfold aDa;rw [if_neg (by decide)];rw [if_neg (by decide)];rw [if_neg (by decide)];rw [if_neg (by decide)];rw [if_neg (by decide)];rw [if_neg (by decide)];rw [if_neg (by decide)];rw [if_neg (by decide)];rw [if_neg (by decide)];rw [if_neg (by decide)];rw [if_neg (by decide)];skip
theorem bKa (T:List aaa) (i:Nat):aDa T i (Str.ofString "parent")=(match par T i with|none=> []|some q=> [q]):=by unfold aDa;rw [if_neg (by decide)];rw [if_neg (by decide)];rw [if_pos rfl]
theorem eya {T:List aaa} {i:Nat} (h:par T i=none):aDa T i (Str.ofString "parent")= []:=by rw [bKa,h]
theorem exa {T:List aaa} {i q:Nat} (h:par T i=some q):aDa T i (Str.ofString "parent")= [q]:=by rw [bKa,h]
theorem fXa {T:List aaa} (W:WF T) {i:Nat} (h:(kindOf T i==aLa)=false):aDa T i (Str.ofString "attribute")= []:=by
 rw [bda];exact(W.holds2 i (by simpa using h)).1
theorem g1a{T:List aaa}(W:WF T)(i:Nat):(g2a T i).length<120:=by
 unfold g2a
 have:=bIa W i
 split
 ·cases hp:par T i with
  |none=>simp
  |some q=>have h1:=bIa W q;have h2:=bJa W q;simp only [List.length_append];omega
 ·omega
theorem gQa{T:List aaa}(W:WF T)(i:Nat):(gma T i).length<60:=by
 unfold gma
 have:=cha W i
 split
 ·cases hp:par T i with
  |none=>simp
  |some q=>exact cha W q
 ·omega
theorem kda(T:List aaa)(i:Nat):ada T [i]=i::a3a T i:=by simp [ada]
theorem aMa{T:List aaa}(W:WF T)(hi:i<T.length)(name:Str):(aDa T i name).length<120:=by
 have h1:=a0a W i
 have h2:=c7a W i
 have h3:=gMa W i
 have h4:=gKa W i
 have h5:=bJa W i
 have h6:=b1a W i
 have h7:=g1a W i
 have h8:=gQa W i
 have h9:=W.small
 by_cases e_child:name=Str.ofString "child"
 ·rw [e_child,cJa]
  first|omega|(simp only [List.length_cons,List.length_nil];omega)
 by_cases e_self:name=Str.ofString "self"
 ·rw [e_self,dma]
  first|omega|(simp only [List.length_cons,List.length_nil];omega)
 by_cases e_parent:name=Str.ofString "parent"
 ·rw [e_parent,bKa]
  cases par T i<;>simp
 by_cases e_attribute:name=Str.ofString "attribute"
 ·rw [e_attribute,bda]
  first|omega|(simp only [List.length_cons,List.length_nil];omega)
 by_cases e_following_sibling:name=Str.ofString "following-sibling"
 ·rw [e_following_sibling,aSa]
  first|omega|(simp only [List.length_cons,List.length_nil];omega)
 by_cases e_preceding_sibling:name=Str.ofString "preceding-sibling"
 ·rw [e_preceding_sibling,aRa]
  first|omega|(simp only [List.length_cons,List.length_nil];omega)
 by_cases e_descendant:name=Str.ofString "descendant"
 ·rw [e_descendant,bqa]
  first|omega|(simp only [List.length_cons,List.length_nil];omega)
 by_cases e_descendant_or_self:name=Str.ofString "descendant-or-self"
 ·rw [e_descendant_or_self,aBa]
  first|omega|(simp only [List.length_cons,List.length_nil];omega)
 by_cases e_ancestor:name=Str.ofString "ancestor"
 ·rw [e_ancestor,bNa]
  first|omega|(simp only [List.length_cons,List.length_nil];omega)
 by_cases e_ancestor_or_self:name=Str.ofString "ancestor-or-self"
 ·rw [e_ancestor_or_self,aWa]
  first|omega|(simp only [List.length_cons,List.length_nil];omega)
 by_cases e_following:name=Str.ofString "following"
 ·rw [e_following,bEa]
  first|omega|(simp only [List.length_cons,List.length_nil];omega)
 unfold aDa
 rw [if_neg e_child,if_neg e_self,if_neg e_parent,if_neg e_attribute,if_neg e_following_sibling,if_neg e_preceding_sibling,if_neg e_descendant,if_neg e_descendant_or_self,if_neg e_ancestor,if_neg e_ancestor_or_self,if_neg e_following]
 omega
end Mine
namespace Mine
section
variable {prog:Program} {w:World} {A:Around} {E:Value->Shared->Prop} {s:Shared} {env:Env} {h₀:Heap} {x:Str} {body:List Stmt} {Q:Flow->Shared->Prop} {m₀:Str->Option Value} {l:Addr} {vs:List Value} {target:Expr}
theorem eOa{σ:Type}{I:Addr}{fp wr:List Addr}{n:Nat}{P Md:Nat->Value->Heap->Prop}{St:Nat->Heap->Prop}(W:KTurns prog w A target I fp wr n P Md St)(Led:σ->List (Addr×Obj))(ps:σ->List (Str×Value))(st:List Str)(J:Nat->σ->Prop)(c₀:σ)(fix:List (Addr×Obj)){news:List (Addr×Obj)}
 (hLf:env.locals ∉ fp) (hI0:∀ b∈wr,h₀.get? b=none) (hst:St 0 s.heap) (F:Fr h₀ env.locals s.heap m₀) (N:News h₀ env.locals s.heap news) (hin:∀ p∈Led c₀++fix,p∈news)
 (hIn:∀ p∈Led c₀++fix,p.1 ∉ wr) (hoff:∀ q∈Led c₀,∀ p∈fix, @Ne Nat p.1 q.1) (hfp:∀ i c,J i c->∀ p∈Led c,p.1 ∉ wr->p.1 ∉ fp)
 (hps:∀ p∈ps c₀,m₀ p.1=some p.2) (hj:J 0 c₀)
 (hIlive:∀ i h,St i h->∀ b∈wr,∃ o,h.get? b=some o)
 (turn:∀ i v c u h tk own,P i v h->i<n->J i c->Fr h₀ env.locals h (bXa (ps c) (x::st) u m₀)->News h₀ env.locals h (Led c++(fix++own))->(∀ q∈Led c,∀ p∈fix++own, @Ne Nat p.1 q.1)->(∀ b∈fp,h₀.get? b=none->∀ o,h.get? b=some o->(b,o)∈own)->
   wpAny (model prog w) A (assign target env v) (fun _ s₂=>wpAny (model prog w) A (execs body env) (bOa h₀ env.locals Led ps st m₀ x (J (i+1)) (fix++own) {s with heap:=h,toks:=tk} Q) E s₂) E {s with heap:=h,toks:=tk})
 (done:∀ c u h tk,J n c->Fr h₀ env.locals h (bXa (ps c) (x::st) u m₀)->News h₀ env.locals h (Led c++fix)->(∀ q∈Led c,∀ p∈fix, @Ne Nat p.1 q.1)->Q .next {s with heap:=h,toks:=tk}):
 TurnsAt prog w A h₀ env target body Q E (.ref I) s:=by
 have hmf:∀ m₁:Str->Option Value,∀ c,(∀ p∈ps c,m₁ p.1=some p.2)->(∀ z,z≠x->(ps c).lookup z=none->st.contains z=false->m₁ z=m₀ z)->m₁=bXa (ps c) (x::st) m₁ m₀:=fun m₁ c a b=>by
  refine gja a fun z hz hc=> ?_
  rw [List.contains_cons,Bool.or_eq_false_iff] at hc
  exact b z (fun e=>by rw [e] at hc;simp at hc) hz hc.2
 refine⟨I,fp,wr,n,P,Md,St,m₀,Led c₀++fix,fun i m₁ news₁=>∃ c,news₁=Led c++fix∧(∀ q∈Led c,∀ p∈fix, @Ne Nat p.1 q.1)∧(∀ p∈ps c,m₁ p.1=some p.2)∧(∀ z,z≠x->(ps c).lookup z=none->st.contains z=false->m₁ z=m₀ z)∧J i c,
  rfl,W,hLf,hI0,hIn,hst,F,fun p hp=>N p (hin p hp),⟨c₀,rfl,hoff,hps,fun _ _ _ _=>rfl,hj⟩, ?_, ?_⟩
 ·rintro i v m₁ news₁ h tk own hi hP ⟨c,rfl,hof,hp1,hp2,hJ⟩ hwr hown hown2 hall hSt F₁ N₁
  have hsep:∀ q∈Led c,∀ p∈fix++own, @Ne Nat p.1 q.1:=by
   intro q hq p hp
   rcases laM hp with hp|hp
   ·exact hof q hq p hp
   ·intro e
    exact hfp i c hJ q hq (hwr q (laL _ hq)) (e▸hown p hp)
  have F₂:Fr h₀ env.locals h (bXa (ps c) (x::st) m₁ m₀):=by rw [<-hmf m₁ c hp1 hp2];exact F₁
  have N₂:News h₀ env.locals h (Led c++(fix++own)):=fun p hp=>N₁ p (by
   rcases laM hp with hp|hp
   ·exact laG _ (laL _ hp)
   ·rcases laM hp with hp|hp
    ·exact laG _ (laG _ hp)
    ·exact laL _ hp)
  refine wpAny_mono (turn i v c m₁ h tk own hP hi hJ F₂ N₂ hsep hall) (fun _ s₃ hb=>wpAny_mono hb (fun f s₂ p=> ?_) fun _ _ e=>e) fun _ _ e=>e
  have fin:aHa h₀ env.locals Led ps st m₀ x (J (i+1)) (fix++own) {s with heap:=h,toks:=tk} s₂->LoopStepU h₀ env.locals wr own (fun m₁ news₁=>∃ c,news₁=Led c++fix∧(∀ q∈Led c,∀ p∈fix, @Ne Nat p.1 q.1)∧(∀ p∈ps c,m₁ p.1=some p.2)∧(∀ z,z≠x->(ps c).lookup z=none->st.contains z=false->m₁ z=m₀ z)∧J (i+1) c) {s with heap:=h,toks:=tk} .next s₂:=by
   rintro⟨c',h',tk',m',news',e,F',N',hm,hs,hp1',hp2',hJ'⟩
   refine⟨rfl,h',tk',m',Led c'++fix,e,F',fun p hp=>N' p (hm p ?_),fun p hp hq=> ?_,c',rfl,fun q hq p hp=>hs q hq p (laL _ hp),hp1',fun z a b c=>hp2' z a (bMa b) c,hJ'⟩
   ·rcases laM hp with hp|hp
    ·exact laG _ (laG _ hp)
    ·rcases laM hp with hp|hp
     ·exact laL _ hp
     ·exact laG _ (laL _ hp)
   ·rcases laM hp with hp|hp
    ·obtain⟨o,ho⟩:=hIlive _ _ hSt p.1 hq
     exact hs p hp (p.1,o) (laG _ (hall p.1 (W.sub _ hq) (hI0 _ hq) o ho)) rfl
    ·exact hwr p (laG _ hp) hq
  cases f with
  |ret v=>exact .ret p
  |brk=>exact .brk p
  |next=>exact .next (fin p)
  |cont=>exact .cont (fin p)
 ·rintro h' tk' m' news' F' N' _ ⟨c,rfl,hof,hp1,hp2,hJ⟩
  refine done c m' h' tk' hJ ?_ N' hof
  rw [<-hmf m' c hp1 hp2];exact F'
theorem eaa{elts:List Expr}{k:Nat}{pos:Pos}{I ax:Addr}{items:Array Value}(i:Nat)(v:Value)(s:Shared)(Q:Unit->Shared->Prop)(E:Value->Shared->Prop)(st:s.heap.IsListIter I ax i∧s.heap.IsList ax items)(hQ:Q () s):
 wpAny (model prog w) A (letOwnedTupleGo (.Tuple elts k pos) (.ref I) v) Q E s:=by
 cases v with
 |ref T=>exact wpAny_letOwnedTupleGo_listiter st.1 hQ
 |_=>exact wpAny_pure hQ
end
end Mine
namespace Mine
theorem jIa{l:List Int}{ns:List Nat}(p:l.Perm (ns.map Int.ofNat)):∃ ms:List Nat,l=ms.map Int.ofNat∧ms.Perm ns:=by
 have e:l=(l.map Int.toNat).map Int.ofNat:=by
  rw [List.map_map]
  refine(List.map_congr_left (g:=id) (fun x hx=> ?_)).trans (List.map_id l)|>.symm
  obtain⟨n,_,rfl⟩:=List.mem_map.mp (p.mem_iff.mp hx)
  rfl
 refine⟨l.map Int.toNat,e, ?_⟩
 have q:=p.map Int.toNat
 rw [List.map_map] at q
 have:ns.map (Int.toNat ∘ Int.ofNat)=ns:=(List.map_congr_left (g:=id) (fun x _=>rfl)).trans (List.map_id ns)
 rwa [this] at q
section
variable {prog:Program} {w:World} {A:Around} {E:Value->Shared->Prop} {s:Shared} {h₀:Heap} {L l:Addr} {m:Str->Option Value} {news:List (Addr×Obj)} {vs:List Value} {ns:List Nat} {Q:Value->Shared->Prop}
theorem jya(F:Fr h₀ L s.heap m)(N:News h₀ L s.heap news)(hl:s.heap.IsList l vs.toArray)(hi:NV vs ns)(h64:ns.length<64)
 (h:∀ D vs' ns' c h',Fr h₀ L h' m->News h₀ L h' ((D,listOf vs'.toArray c)::news)->(∀ q∈news,q.1<D)->NV vs' ns'->ns'.Perm ns->ns'.Pairwise (· ≤ ·)->Q (.ref D) {s with heap:=h'}):
 wpAny (model prog w) A (call (.builtin "sorted") [.ref l]) Q E s:=by
 refine kso_sorted F N hl hi (by simpa using h64) fun D vs' ns' c h' F' N' l1 hi' _ hp hs _=> ?_
 obtain⟨ms,e,hp'⟩:=jIa hp
 subst e
 refine h D vs' ms c h' F' N' l1 hi' hp' ?_
 rw [List.pairwise_map] at hs
 exact hs.imp fun {a b} q=>Int.ofNat_le.mp q
end
end Mine
namespace Mine
section
variable {prog:Program} {w:World} {A:Around} {E:Value->Shared->Prop} {s:Shared} {env:Env} {h₀:Heap} {x:Str} {body:List Stmt} {Q:Flow->Shared->Prop} {m₀:Str->Option Value} {l:Addr} {vs:List Value} {target:Expr}
theorem KTurns.withSt{I:Addr}{fp wr:List Addr}{n:Nat}{P Md:Nat->Value->Heap->Prop}{St:Nat->Heap->Prop}(W:KTurns prog w A target I fp wr n P Md St):
 KTurns prog w A target I fp wr n (fun i v h=>P i v h∧St (i+1) h) Md St:=
 ⟨W.sub,W.frame,W.item,fun i v s Q E hm hQ=>W.go i v s Q E hm fun h' hP hS hk=>hQ h' ⟨hP,hS⟩ hS hk,W.done⟩
theorem d7a{σ:Type}{I:Addr}{fp wr:List Addr}{n:Nat}{P Md:Nat->Value->Heap->Prop}{St:Nat->Heap->Prop}(W:KTurns prog w A target I fp wr n P Md St)(Led:σ->List (Addr×Obj))(ps:σ->List (Str×Value))(st:List Str)(J:Nat->σ->Prop)(c₀:σ)(fix:List (Addr×Obj)){news:List (Addr×Obj)}
 (hLf:env.locals ∉ fp) (hI0:∀ b∈wr,h₀.get? b=none) (hst:St 0 s.heap) (F:Fr h₀ env.locals s.heap m₀) (N:News h₀ env.locals s.heap news) (hin:∀ p∈Led c₀++fix,p∈news)
 (hIn:∀ p∈Led c₀++fix,p.1 ∉ wr) (hoff:∀ q∈Led c₀,∀ p∈fix, @Ne Nat p.1 q.1) (hfp:∀ p∈Led c₀,p.1 ∉ fp)
 (hps:∀ p∈ps c₀,m₀ p.1=some p.2) (hj:J 0 c₀)
 (hlive:∀ i h,St i h->∀ b∈fp,∃ o,h.get? b=some o)
 (turn:∀ i v c u h tk own,P i v h->i<n->J i c->Fr h₀ env.locals h (bXa (ps c) (x::st) u m₀)->News h₀ env.locals h (Led c++(fix++own))->(∀ q∈Led c,∀ p∈fix++own, @Ne Nat p.1 q.1)->
   wpAny (model prog w) A (assign target env v) (fun _ s₂=>wpAny (model prog w) A (execs body env) (bOa h₀ env.locals Led ps st m₀ x (J (i+1)) (fix++own) {s with heap:=h,toks:=tk} Q) E s₂) E {s with heap:=h,toks:=tk})
 (done:∀ c u h tk,J n c->Fr h₀ env.locals h (bXa (ps c) (x::st) u m₀)->News h₀ env.locals h (Led c++fix)->(∀ q∈Led c,∀ p∈fix, @Ne Nat p.1 q.1)->Q .next {s with heap:=h,toks:=tk}):
 TurnsAt prog w A h₀ env target body Q E (.ref I) s:=by
 refine eOa (KTurns.withSt W) Led ps st (fun i c=>J i c∧∀ p∈Led c,p.1 ∉ fp) c₀ fix hLf hI0 hst F N hin hIn hoff (fun i c h p hp _=>h.2 p hp) hps ⟨hj,hfp⟩ (fun i h hS b hb=>hlive i h hS b (W.sub b hb)) ?_ (fun c u h tk hJ=>done c u h tk hJ.1)
 intro i v c u h tk own hP hi hJ F₁ N₁ hsep hall
 refine wpAny_mono (turn i v c u h tk own hP.1 hi hJ.1 F₁ N₁ hsep) (fun _ s₂ hb=>wpAny_mono hb (fun f s₃ p=> ?_) fun _ _ e=>e) fun _ _ e=>e
 have fin:aHa h₀ env.locals Led ps st m₀ x (J (i+1)) (fix++own) {s with heap:=h,toks:=tk} s₃->aHa h₀ env.locals Led ps st m₀ x (fun c=>J (i+1) c∧∀ p∈Led c,p.1 ∉ fp) (fix++own) {s with heap:=h,toks:=tk} s₃:=by
  rintro⟨c',h',tk',m',news',e,F',N',hm,hs,hp1',hp2',hJ'⟩
  refine⟨c',h',tk',m',news',e,F',N',hm,hs,hp1',hp2',hJ',fun q hq hb=> ?_⟩
  obtain⟨o,ho⟩:=hlive _ _ hP.2 q.1 hb
  have h0:=(N' q (hm q (laL _ hq))).2.2
  exact hs q hq (q.1,o) (laG _ (hall q.1 hb h0 o ho)) rfl
 cases f with
 |ret v=>exact p
 |brk=>exact p
 |next=>exact fin p
 |cont=>exact fin p
theorem jRa{L:Addr}(hL:env.locals=L){σ:Type}{elts:List Expr}{k:Nat}{pos:Pos}{l1 l2:Addr}{xs ys:List Value}(Led:σ->List (Addr×Obj))(ps:σ->List (Str×Value))(st:List Str)(J:Nat->σ->Prop)(c₀:σ)(fix:List (Addr×Obj)){news:List (Addr×Obj)}
 (hh:A.handled=none) (hl1:s.heap.IsList l1 xs.toArray) (hl2:s.heap.IsList l2 ys.toArray) (h1L:l1≠L) (h2L:l2≠L) (F:Fr h₀ L s.heap m₀) (N:News h₀ L s.heap news) (hin:∀ p∈Led c₀++fix,p∈news)
 (hoff:∀ q∈Led c₀,∀ p∈fix, @Ne Nat p.1 q.1) (hll:∀ p∈Led c₀, @Ne Nat p.1 l1∧ @Ne Nat p.1 l2)
 (hps:∀ p∈ps c₀,m₀ p.1=some p.2) (hj:J 0 c₀)
 (turn:∀ i T a b c u h tk own,xs[i]?=some a->ys[i]?=some b->h.IsTuple T #[a,b]->J i c->Fr h₀ L h (bXa (ps c) (x::st) u m₀)->News h₀ L h (Led c++(fix++own))->(∀ q∈Led c,∀ p∈fix++own, @Ne Nat p.1 q.1)->
   wpAny (model prog w) A (assign (.Tuple elts k pos) env (.ref T)) (fun _ s₂=>wpAny (model prog w) A (execs body env) (bOa h₀ L Led ps st m₀ x (J (i+1)) (fix++own) {s with heap:=h,toks:=tk} Q) E s₂) E {s with heap:=h,toks:=tk})
 (done:∀ c u h tk,J (min xs.length ys.length) c->Fr h₀ L h (bXa (ps c) (x::st) u m₀)->News h₀ L h (Led c++fix)->(∀ q∈Led c,∀ p∈fix, @Ne Nat p.1 q.1)->Q .next {s with heap:=h,toks:=tk}):
 wpAny (model prog w) A (call (.type "zip") [.ref l1, .ref l2]) (fun xv s₁=>wpAny (model prog w) A (pyIter xv) (fun it s₂=>TurnsAt prog w A h₀ env (.Tuple elts k pos) body Q E it s₂) E s₁) E s:=by
 subst hL
 have hlt1:l1<s.heap.objs.size:=by obtain⟨_,e,_⟩:=hl1;exact Heap.lt_size e
 have hlt2:l2<s.heap.objs.size:=by obtain⟨_,e,_⟩:=hl2;exact Heap.lt_size e
 have hLs:env.locals<s.heap.objs.size:=F.ns.lt
 have D:ZipApart (s.heap.objs.size+4) (s.heap.objs.size+2) (s.heap.objs.size+3) s.heap.objs.size (s.heap.objs.size+1) l1 l2:=ktu_apart _ _ _ hlt1 hlt2
 refine call_zip_2 hl1 hl2 fun h' hz hTI hTO hi1 hi2 hsz hk=> ?_
 refine wpAny_pyIter_zip hz ?_
 have W:=KTurns.ofWalksU (elts:=elts) (k:=k) (pos:=pos) (WalksT.zip2 (prog:=prog) (w:=w) hh _ _ _ _ _ _ _ D xs.toArray ys.toArray).toU
 have hn:min xs.toArray.size ys.toArray.size=min xs.length ys.length:=by simp
 rw [hn] at W
 refine d7a W Led ps st J c₀ fix ?_ ?_ ⟨hz,hTI,⟨_,_,hTO⟩,hi1,hi2,hl1.at fun o e=>hk l1 o e,hl2.at fun o e=>hk l2 o e⟩ (F.keeps hk) (N.grown hk) hin ?_ hoff ?_ hps hj ?_ ?_ done
 ·exact fGa (fc (ktu_ne 4 hLs) (fc (ktu_ne 2 hLs) (fc (ktu_ne 3 hLs) (fc (Nat.ne_of_lt hLs) (fc (ktu_ne 1 hLs) (fc (Ne.symm h1L) (fc (Ne.symm h2L) fn)))))))
 ·exact fc (ktu_new F (Nat.le_add_right _ _)) (fc (ktu_new F (Nat.le_add_right _ _)) (fc (ktu_new F (Nat.le_refl _)) (fc (ktu_new F (Nat.le_add_right _ _)) fn)))
 ·intro p hp
  have hlp:=Heap.lt_size (N p (hin p hp)).1
  exact fGa (fc (ktu_ne 4 hlp) (fc (ktu_ne 3 hlp) (fc (Nat.ne_of_lt hlp) (fc (ktu_ne 1 hlp) fn))))
 ·intro p hp
  have hlp:=Heap.lt_size (N p (hin p (laL _ hp))).1
  exact fGa (fc (ktu_ne 4 hlp) (fc (ktu_ne 2 hlp) (fc (ktu_ne 3 hlp) (fc (Nat.ne_of_lt hlp) (fc (ktu_ne 1 hlp) (fc (hll p hp).1 (fc (hll p hp).2 fn)))))))
 ·rintro i h ⟨hz,hTI,⟨a,b,hTO⟩,⟨o1,ho1,_⟩,⟨o2,ho2,_⟩,⟨o3,ho3,_⟩,⟨o4,ho4,_⟩⟩
  exact fc ⟨_,hz⟩ (fc ⟨_,hTI⟩ (fc ⟨_,hTO⟩ (fc ⟨_,ho1⟩ (fc ⟨_,ho2⟩ (fc ⟨_,ho3⟩ (fc ⟨_,ho4⟩ fn))))))
 ·rintro i v c u h tk own ⟨T,vals,rfl,⟨a,b,hx,hy,rfl⟩,hT⟩ hi hJ F N hs
  exact turn i T a b c u h tk own (by simpa using hx) (by simpa using hy) hT hJ F N hs
end
end Mine
namespace Mine
open PyProof.Rows.LCg (lst NsObj ns_obj lst_snoc)
section
variable {prog:Program} {w:World} {A:Around} {E:Value->Shared->Prop} {s:Shared} {env:Env} {h₀:Heap} {L:Addr} {m:Str->Option Value} {elt:Expr} {x:Str} {ifs:List Expr} {scope:Scope} {cl:List (Str×Addr)}
noncomputable abbrev boa(ifs:List Expr)(cenv:Env):Sem Bool:=forIn ifs true fun c r=>if r=true then do let ok<-isTrue c cenv (eval c cenv);pure (ForInStep.yield ok) else pure (ForInStep.yield r)
inductive eza(h₀:Heap)(L:Addr)(m:Str->Option Value)(J:List Value->List (Addr×Obj)->Prop)(own:List (Addr×Obj))(bad:List Addr)(ys:List Value)(s₁ s₂:Shared):Prop
 |ik (h':_) (tk':_) (news':_)
  (f0:s₂= {s₁ with heap:=h',toks:=tk'})
  (f1:Fr h₀ L h' m)
  (f2:News h₀ L h' (own++news'))
  (f3:(∀ p∈news',p.1 ∉ bad))
  (f4:J ys news'):eza h₀ L m J own bad ys s₁ s₂
inductive dAa(prog:Program)(w:World)(A:Around)(h₀:Heap)(L:Addr)(m:Str->Option Value)(env:Env)(elt:Expr)(x:Str)(ifs:List Expr)(scope:Scope)(cl:List (Str×Addr))(mf:Addr->Str->Option Value)(Fin:Addr->Shared->Prop)(it:Value)(s₂:Shared):Prop
 |ik (I:Addr) (fp:List Addr) (n:Nat) (P:Nat->Value->Prop) (St:Nat->Heap->Prop) (news:List (Addr×Obj)) (J:Nat->List Value->List (Addr×Obj)->Prop)
  (f0:it= .ref I)
  (f1:Walks prog w A I fp [I] n P St)
  (f2:n≤sizeLine)
  (f3:L ∉ fp)
  (f4:h₀.get? I=none)
  (f5:(∀ b∈fp,b<s₂.heap.objs.size))
  (f6:(∀ p∈news,p.1≠I))
  (f7:St 0 s₂.heap)
  (f8:(∀ i h,St i h->∀ b∈fp,∃ o,h.get? b=some o))
  (f9:Fr h₀ L s₂.heap m)
  (f10:News h₀ L s₂.heap news)
  (f11:J 0 [] news)
  (f12:(∀ i v ys news₁ h₁ tk₁ own bad C oC m₂ E',i<n->P i v->ys.length≤i->J i ys news₁->(∀ b∈fp,h₀.get? b=none->∀ o,h₁.get? b=some o->(b,o)∈own)->(∀ p∈own,p.1∈fp∨p.1∈bad)->(∀ b∈bad,∃ o,(b,o)∈own)->(∀ b∈fp,∃ o,h₁.get? b=some o)->(∀ p∈news₁,p.1 ∉ bad)->(C,oC)∈own->NsObj oC m₂->m₂ x=some v->Fr h₀ L h₁ m->News h₀ L h₁ (own++news₁)->wpAny (model prog w) A (boa ifs (compEnvC scope cl C env)) (fun ok s₃=>if ok=true then wpAny (model prog w) A (eval elt (compEnvC scope cl C env)) (fun y s₄=>eza h₀ L m (fun ys nw=>J (i+1) ys nw) own bad (ys++ [y]) {s₂ with heap:=h₁,toks:=tk₁} s₄) E' s₃ else eza h₀ L m (fun ys nw=>J (i+1) ys nw) own bad ys {s₂ with heap:=h₁,toks:=tk₁} s₃) E' {s₂ with heap:=h₁,toks:=tk₁}))
  (f13:∀ D h' tk ys news',J n ys news'->ys.length≤n->Fr h₀ L h' (mf D)->News h₀ L h' ((D,lst ys)::news')->(∀ p∈news', @Ne Nat p.1 D)->Fin D {s₂ with heap:=h',toks:=tk}):dAa prog w A h₀ L m env elt x ifs scope cl mf Fin it s₂
inductive aba{σ:Type}(h₀:Heap)(L:Addr)(m:Str->Option Value)(Led:σ->List (Addr×Obj))(ys:σ->List Value)(J:σ->Prop)(rest:List (Addr×Obj))(out:List Value)(s₁ s₂:Shared):Prop
 |ik (c':_) (h':_) (tk':_) (news':_)
  (f0:s₂= {s₁ with heap:=h',toks:=tk'})
  (f1:Fr h₀ L h' m)
  (f2:News h₀ L h' news')
  (f3:(∀ p∈Led c'++rest,p∈news'))
  (f4:(∀ q∈Led c',∀ p∈rest, @Ne Nat p.1 q.1))
  (f5:ys c'=out)
  (f6:J c'):aba h₀ L m Led ys J rest out s₁ s₂
theorem aba.intro{σ:Type}{Led:σ->List (Addr×Obj)}{ys:σ->List Value}{J:σ->Prop}{rest:List (Addr×Obj)}{out:List Value}{s₁:Shared}{h':Heap}{tk':Nat}{news':List (Addr×Obj)}
 (c':σ) (F:Fr h₀ L h' m) (N:News h₀ L h' news') (mem:∀ p∈Led c'++rest,p∈news') (hy:ys c'=out) (hJ:J c') (sep:∀ q∈Led c',∀ p∈rest, @Ne Nat p.1 q.1):aba h₀ L m Led ys J rest out s₁ {s₁ with heap:=h',toks:=tk'}:=
 ⟨c',h',tk',news',rfl,F,N,mem,sep,hy,hJ⟩
theorem iUa{σ:Type}{I:Addr}{fp:List Addr}{n:Nat}{P:Nat->Value->Prop}{St:Nat->Heap->Prop}{mf:Addr->Str->Option Value}{Fin:Addr->Shared->Prop}(Led:σ->List (Addr×Obj))(ys:σ->List Value)(J:Nat->σ->Prop)(c₀:σ)(fix:List (Addr×Obj)){news:List (Addr×Obj)}
 (W:Walks prog w A I fp [I] n P St) (hsz:n≤sizeLine) (hLf:L ∉ fp) (hI₀:h₀.get? I=none) (hfp:∀ b∈fp,b<s.heap.objs.size) (hst:St 0 s.heap) (hlive:∀ i h,St i h->∀ b∈fp,∃ o,h.get? b=some o)
 (F:Fr h₀ L s.heap m) (N:News h₀ L s.heap news) (hin:∀ p∈Led c₀++fix,p∈news) (hnI:∀ p∈Led c₀++fix,p.1≠I) (hoff:∀ q∈Led c₀,∀ p∈fix, @Ne Nat p.1 q.1) (hcf:∀ p∈Led c₀,p.1 ∉ fp) (hy0:ys c₀= []) (hj:J 0 c₀)
 (turn:∀ i v c h tk own C oC m₂ E',P i v->i<n->J i c->(ys c).length≤i->(C,oC)∈own->NsObj oC m₂->m₂ x=some v->Fr h₀ L h m->News h₀ L h (Led c++(fix++own))->(∀ q∈Led c,∀ p∈fix++own, @Ne Nat p.1 q.1)->
   wpAny (model prog w) A (boa ifs (compEnvC scope cl C env)) (fun ok s₃=>if ok=true then wpAny (model prog w) A (eval elt (compEnvC scope cl C env)) (fun y s₄=>aba h₀ L m Led ys (J (i+1)) (fix++own) (ys c++ [y]) {s with heap:=h,toks:=tk} s₄) E' s₃
    else aba h₀ L m Led ys (J (i+1)) (fix++own) (ys c) {s with heap:=h,toks:=tk} s₃) E' {s with heap:=h,toks:=tk})
 (done:∀ D c h' tk,J n c->(ys c).length≤n->Fr h₀ L h' (mf D)->News h₀ L h' ((D,lst (ys c))::(Led c++fix))->(∀ p∈Led c++fix, @Ne Nat p.1 D)->(∀ q∈Led c,∀ p∈fix, @Ne Nat p.1 q.1)->Fin D {s with heap:=h',toks:=tk}):
 dAa prog w A h₀ L m env elt x ifs scope cl mf Fin (.ref I) s:=by
 have hIf:I∈fp:=W.sub I (lsR rfl)
 refine⟨I,fp,n,P,St,Led c₀++fix,fun i zs nw=>∃ c,nw=Led c++fix∧zs=ys c∧(∀ q∈Led c,∀ p∈fix, @Ne Nat p.1 q.1)∧(∀ p∈Led c,p.1 ∉ fp)∧J i c,rfl,W,hsz,hLf,hI₀,hfp,hnI,hst,hlive,F,fun p hp=>N p (hin p hp),
  ⟨c₀,rfl,hy0.symm,hoff,hcf,hj⟩, ?_, ?_⟩
 ·rintro i v zs nw h₁ tk₁ own bad C oC m₂ E' hi hP hzl ⟨c,rfl,rfl,hof,hcf',hJ⟩ hall hown hbad hlv hnb hCm hoC hxv F₁ N₁
  have hsep:∀ q∈Led c,∀ p∈fix++own, @Ne Nat p.1 q.1:=fun q hq p hp=>by
   rcases laM hp with hp|hp
   ·exact hof q hq p hp
   ·intro e
    have e':p.1=q.1:=e
    rcases hown p hp with hpf|hpf
    ·exact hcf' q hq (by rw [<-e'];exact hpf)
    ·exact hnb q (laL _ hq) (by rw [<-e'];exact hpf)
  have N₂:News h₀ L h₁ (Led c++(fix++own)):=fun p hp=>N₁ p (by
   rcases laM hp with hp|hp
   ·exact laG _ (laL _ hp)
   ·rcases laM hp with hp|hp
    ·exact laG _ (laG _ hp)
    ·exact laL _ hp)
  have key:∀ out s₃,aba h₀ L m Led ys (J (i+1)) (fix++own) out {s with heap:=h₁,toks:=tk₁} s₃->
   eza h₀ L m (fun zs nw=>∃ c,nw=Led c++fix∧zs=ys c∧(∀ q∈Led c,∀ p∈fix, @Ne Nat p.1 q.1)∧(∀ p∈Led c,p.1 ∉ fp)∧J (i+1) c) own bad out {s with heap:=h₁,toks:=tk₁} s₃:=by
   rintro out s₃ ⟨c',h',tk',news',rfl,F',N',hm,hs,rfl,hJ'⟩
   refine⟨h',tk',Led c'++fix,rfl,F',fun p hp=>N' p (hm p ?_),fun p hp hb=> ?_,c',rfl,rfl,fun q hq p hp=>hs q hq p (laL _ hp),fun p hp hb=> ?_,hJ'⟩
   ·rcases laM hp with hp|hp
    ·exact laG _ (laG _ hp)
    ·rcases laM hp with hp|hp
     ·exact laL _ hp
     ·exact laG _ (laL _ hp)
   ·rcases laM hp with hp|hp
    ·obtain⟨o,ho⟩:=hbad p.1 hb
     exact hs p hp (p.1,o) (laG _ ho) rfl
    ·exact hnb p (laG _ hp) hb
   ·obtain⟨o,ho⟩:=hlv p.1 hb
    have h0:=(N' p (hm p (laL _ hp))).2.2
    exact hs p hp (p.1,o) (laG _ (hall p.1 hb h0 o ho)) rfl
  refine wpAny_mono (turn i v c h₁ tk₁ own C oC m₂ E' hP hi hJ hzl hCm hoC hxv F₁ N₂ hsep) (fun ok s₃ hq=> ?_) fun _ _ e=>e
  cases ok with
  |false=>
   simp only [Bool.false_eq_true,if_false] at hq ⊢
   exact key _ _ hq
  |true=>
   simp only [if_true] at hq ⊢
   exact wpAny_mono hq (fun y s₄ hq4=>key _ _ hq4) fun _ _ e=>e
 ·rintro D h' tk zs nw ⟨c,rfl,rfl,hof,_,hJ⟩ hzl F' N' hD
  exact done D c h' tk hJ hzl F' N' hD hof
theorem aVa{σ:Type}{l:Addr}{vs:List Value}{mf:Addr->Str->Option Value}{Fin:Addr->Shared->Prop}(Led:σ->List (Addr×Obj))(ys:σ->List Value)(J:Nat->σ->Prop)(c₀:σ)(fix:List (Addr×Obj)){news:List (Addr×Obj)}
 (hh:A.handled=none) (hl:s.heap.IsList l vs.toArray) (hlL:l≠L) (hsz:vs.length≤sizeLine)
 (F:Fr h₀ L s.heap m) (N:News h₀ L s.heap news) (hin:∀ p∈Led c₀++fix,p∈news) (hoff:∀ q∈Led c₀,∀ p∈fix, @Ne Nat p.1 q.1) (hll:∀ p∈Led c₀, @Ne Nat p.1 l) (hy0:ys c₀= []) (hj:J 0 c₀)
 (turn:∀ i v c h tk own C oC m₂ E',vs[i]?=some v->i<vs.length->J i c->(ys c).length≤i->(C,oC)∈own->NsObj oC m₂->m₂ x=some v->Fr h₀ L h m->News h₀ L h (Led c++(fix++own))->(∀ q∈Led c,∀ p∈fix++own, @Ne Nat p.1 q.1)->
   wpAny (model prog w) A (boa ifs (compEnvC scope cl C env)) (fun ok s₃=>if ok=true then wpAny (model prog w) A (eval elt (compEnvC scope cl C env)) (fun y s₄=>aba h₀ L m Led ys (J (i+1)) (fix++own) (ys c++ [y]) {s with heap:=h,toks:=tk} s₄) E' s₃
    else aba h₀ L m Led ys (J (i+1)) (fix++own) (ys c) {s with heap:=h,toks:=tk} s₃) E' {s with heap:=h,toks:=tk})
 (done:∀ D c h' tk,J vs.length c->(ys c).length≤vs.length->Fr h₀ L h' (mf D)->News h₀ L h' ((D,lst (ys c))::(Led c++fix))->(∀ p∈Led c++fix, @Ne Nat p.1 D)->(∀ q∈Led c,∀ p∈fix, @Ne Nat p.1 q.1)->Fin D {s with heap:=h',toks:=tk}):
 wpAny (model prog w) A (pyIter (.ref l)) (fun it s₂=>dAa prog w A h₀ L m env elt x ifs scope cl mf Fin it s₂) E s:=by
 have hlt:l<s.heap.objs.size:=by obtain⟨_,e,_⟩:=hl;exact Heap.lt_size e
 refine wpAny_pyIter_list hl ?_
 have up:∀ b o,s.heap.get? b=some o->(s.heap.push {cls:= .type "list_iterator",data:= .fields #[.ref l, .int 0 0]}).get? b=some o:=fun b o e=>Heap.get?_push_of_some _ e
 have W:=Walks.list (prog:=prog) (w:=w) hh s.heap.objs.size l (Nat.ne_of_lt hlt) vs.toArray
 have hz:vs.toArray.size=vs.length:=by simp
 rw [hz] at W
 have hLlt:=F.ns.lt
 refine iUa (s:= {s with heap:=s.heap.push {cls:= .type "list_iterator",data:= .fields #[.ref l, .int 0 0]}}) Led ys J c₀ fix W hsz ?_ (next_is_new F) (fun b hb=> ?_) ⟨⟨_,Heap.get?_push_size _ rfl,rfl,rfl⟩,hl.push _⟩ ?_ (F.keeps up) (N.grown up) hin
  (fun p hp=>Nat.ne_of_lt (Heap.lt_size (N p (hin p hp)).1)) hoff (fun p hp hb=> ?_) hy0 hj (fun i v c h tk own C oC m₂ E' hP hi=>turn i v c h tk own C oC m₂ E' (by simpa using hP) hi) done
 ·intro hb
  rcases lcM hb with e|hb
  ·exact Nat.lt_irrefl _ (e▸hLlt)
  ·exact hlL (lsM hb).symm
 ·show b<(s.heap.push _).objs.size
  rw [Heap.size_push]
  rcases lcM hb with rfl|hb
  ·exact Nat.lt_succ_self _
  ·rw [lsM hb];exact Nat.lt_succ_of_lt hlt
 ·rintro i h ⟨⟨o1,ho1,_⟩,⟨o2,ho2,_⟩⟩ b hb
  rcases lcM hb with rfl|hb
  ·exact⟨_,ho1⟩
  ·rw [lsM hb];exact⟨_,ho2⟩
 ·rcases lcM hb with e|hb
  ·exact Nat.ne_of_lt (Heap.lt_size (N p (hin p (laL _ hp))).1) e
  ·exact hll p hp (lsM hb)
theorem bza{σ:Type}{r:Addr}{a b:Int}{t u v₀:Tok}{n:Nat}{mf:Addr->Str->Option Value}{Fin:Addr->Shared->Prop}(Led:σ->List (Addr×Obj))(ys:σ->List Value)(J:Nat->σ->Prop)(c₀:σ)(fix:List (Addr×Obj)){news:List (Addr×Obj)}
 (hh:A.handled=none) (hr:IsRange s.heap r a b 1 t u v₀) (hsm:Builtin.Range.small a b 1=true) (hn:Builtin.Range.rangeSize a b 1=((n:Nat):Int)) (hsz:n≤sizeLine)
 (F:Fr h₀ L s.heap m) (N:News h₀ L s.heap news) (hin:∀ p∈Led c₀++fix,p∈news) (hoff:∀ q∈Led c₀,∀ p∈fix, @Ne Nat p.1 q.1) (hy0:ys c₀= []) (hj:J 0 c₀)
 (turn:∀ i t c h tk own C oC m₂ E',i<n->J i c->(ys c).length≤i->(C,oC)∈own->NsObj oC m₂->m₂ x=some (.int (a+(i:Nat)) t)->Fr h₀ L h m->News h₀ L h (Led c++(fix++own))->(∀ q∈Led c,∀ p∈fix++own, @Ne Nat p.1 q.1)->
   wpAny (model prog w) A (boa ifs (compEnvC scope cl C env)) (fun ok s₃=>if ok=true then wpAny (model prog w) A (eval elt (compEnvC scope cl C env)) (fun y s₄=>aba h₀ L m Led ys (J (i+1)) (fix++own) (ys c++ [y]) {s with heap:=h,toks:=tk} s₄) E' s₃
    else aba h₀ L m Led ys (J (i+1)) (fix++own) (ys c) {s with heap:=h,toks:=tk} s₃) E' {s with heap:=h,toks:=tk})
 (done:∀ D c h' tk,J n c->(ys c).length≤n->Fr h₀ L h' (mf D)->News h₀ L h' ((D,lst (ys c))::(Led c++fix))->(∀ p∈Led c++fix, @Ne Nat p.1 D)->(∀ q∈Led c,∀ p∈fix, @Ne Nat p.1 q.1)->Fin D {s with heap:=h',toks:=tk}):
 wpAny (model prog w) A (pyIter (.ref r)) (fun it s₂=>dAa prog w A h₀ L m env elt x ifs scope cl mf Fin it s₂) E s:=by
 refine wpAny_pyIter_range hr hsm ?_
 have W:=LCg.range_walks (prog:=prog) (w:=w) (I:=s.heap.objs.size) hh a n
 have hLlt:=F.ns.lt
 refine iUa Led ys J c₀ fix W hsz ?_ (next_is_new F) (fun b hb=> ?_) (by show IsRangeIter _ _ _ _ _;rw [hn];simpa using Heap.get?_push_size _ rfl) ?_ (F.keeps fun _ _ e=>Heap.get?_push_of_some _ e) (N.grown fun _ _ e=>Heap.get?_push_of_some _ e) hin
  (fun p hp=>Nat.ne_of_lt (Heap.lt_size (N p (hin p hp)).1)) hoff (fun p hp hb=> ?_) hy0 hj (fun i v c h tk own C oC m₂ E' hP hi hJ hy hm hC hx F N hs=> ?_) done
 ·intro hb
  exact Nat.lt_irrefl _ ((lsM hb:L=_)▸hLlt)
 ·rw [lsM hb]
  show s.heap.objs.size<(s.heap.push _).objs.size
  rw [Heap.size_push];exact Nat.lt_succ_self _
 ·intro i h st b hb
  rw [lsM hb];exact⟨_,st⟩
 ·exact Nat.ne_of_lt (Heap.lt_size (N p (hin p (laL _ hp))).1) (lsM hb)
 ·obtain⟨t,rfl⟩:=hP
  exact turn i t c h tk own C oC m₂ E' hi hJ hy hm hC hx F N hs
end
end Mine
namespace Mine
theorem ar5:True:=by
 k_with "ar5" =>with_reducible first|exact pea ‹_› ‹_› ‹_›
 trivial
noncomputable abbrev aea (a:Array Value):Obj:= {cls:= .type "tuple",data:= .seq a}
inductive f4a(h h':Heap)(v:Value)(ns:List Nat):Prop
 |ik (t:_) (vs:_)
  (f0:v= .ref t)
  (f1:h'.get? t=some (aea (List.toArray vs)))
  (f2:NV vs ns)
  (f3:h.get? t=none)
  (f4:ns.length<4096):f4a h h' v ns
section
variable {prog:Program} {w:World} {K:Frag} {A₀:Around} {base g:Heap} {outer:List Env} {p:Program} {loose:List Str} {mean:ExcName->Option Value} {mg mb:Str->Option Value} {d u:Nat} {gd:Option (List Code)} {L:Addr} {m:Str->Option Value} {env:Env}
 {f:Addr} {vals:List Value} {n k:Nat} {pre:Heap->Prop} {s:Shared} {Q E:Value->Shared->Prop} {news:List (Addr×Obj)} {ns:List Nat}
theorem kVa(S:RO prog w K f vals n pre (fun h h' v=>f4a h h' v ns))(B:Below A₀ base outer g)(X:K.In g)(T:Top p loose mean mg mb g)(F:Fr g L s.heap m)(N:News g L s.heap news)(hd:d+n<recursionLimit)(hu:u+8*n+200<cLine)
 (hp:pre s.heap)
 (h:∀ (h':Heap) (tk':Nat) (l:Addr) (vs:List Value),Fr g L h' m->News g L h' ((l,aea vs.toArray)::news)->(∀ p∈news, @Ne Nat p.1 l)->NV vs ns->vs.length<4096->s.heap.StaysIn h'->Q (.ref l) {s with heap:=h',toks:=tk'})
 (hf:env.frame=some L) (hk:env.scope.kind= .function):
 wpAny (model prog w) (dya d env outer gd u) (call (.ref f) vals) Q E s:=
 a9a S B X T F N hd hu hp (fun h' tk' r F' N' st ⟨l,vs,e,hl,hv,hn,hz⟩=>by
  subst e
  exact h h' tk' l vs F' (dea F N' st hl hn) (fun p hp e=>by have q:=(N p hp).1;rw [e,hn] at q;cases q) hv (by rw [hv.len];exact hz) st) hf hk
theorem cMa{h h':Heap}{L l:Addr}{vs:List Value}{news:List (Addr×Obj)}(N:News h L h' news)(hm:(l,aea vs.toArray)∈news)(hv:NV vs ns)(hz:ns.length<4096):f4a h h' (.ref l) ns:=
 ⟨l,vs,rfl,(N _ hm).1,hv,(N _ hm).2.2,hz⟩
end
section
variable {prog:Program} {w:World} {A:Around} {E:Value->Shared->Prop} {s:Shared} {h₀:Heap} {L D:Addr} {m:Str->Option Value} {news news':List (Addr×Obj)} {n:Nat} {vs ws:List Value} {ns ms:List Nat}
theorem ala{h:Heap}{t:Addr}{its:Array Value}(e:h.get? t=some (aea its)):IsTup h t its:=⟨_,e,rfl,_,rfl⟩
theorem mka{a b:Addr}{Q:Value->Shared->Prop}(F:Fr h₀ L s.heap m)(N:News h₀ L s.heap news)(ha:s.heap.get? a=some (aea vs.toArray))(hb:s.heap.get? b=some (aea ws.toArray))(hi:NV vs ns)(hj:NV ws ms)(h0:ns≠ [])(h1:ms≠ [])(hz:ns.length+ms.length<2^12)
 (h:∀ D h',Fr h₀ L h' m->News h₀ L h' ((D,aea (vs++ws).toArray)::news)->(∀ p∈news,p.1<D)->NV (vs++ws) (ns++ms)->Q (.ref D) {s with heap:=h'}):
 wpAny (model prog w) A (binaryOp .Add (.ref a) (.ref b)) Q E s:=
 kde_addT (zs:=vs++ws) F N (ala ha) (ala hb) (fun e=>h0 (List.eq_nil_of_length_eq_zero (by rw [<-hi.len];simpa using e))) (fun e=>h1 (List.eq_nil_of_length_eq_zero (by rw [<-hj.len];simpa using e)))
  (by have:=hi.len;have:=hj.len;simp only [List.length_nil] at*;(try simp);omega) rfl (fun D h' F' N' l=>h D h' F' N' l (hi.app hj))
theorem NV.head{n:Nat}{r:List Nat}(h:NV vs (n::r)):∃ t vs',vs= .int n t::vs'∧NV vs' r:=by
 cases h with|cons _ t r=>exact⟨t,_,rfl,r⟩
end
end Mine
namespace Mine
theorem ar6:True:=by
 k_with "ar6" =>with_reducible first|exact oJa ‹_› ‹_›
 trivial
section
variable {prog:Program} {w:World} {A:Around} {E:Value->Shared->Prop} {s:Shared} {h₀:Heap} {L D:Addr} {m:Str->Option Value} {news news':List (Addr×Obj)} {n:Nat} {vs ws:List Value} {ns ms:List Nat}
theorem k8a{value slice:PySem.Expr}{l:Addr}{k n:Nat}{kk:Int}{u:Tok}{Q:Value->Shared->Prop}(hl:s.heap.IsList l vs.toArray)(hv:NV vs ns)(hn:ns[k]?=some n)(hk:kk=(k:Int))(hfit:ns.length<2^20)(h:∀ t,Q (.int (n:Nat) t) s)
 (hs:subscripted slice false (.ref l) (.int kk u)=operate [.ref l, .int kk u] (getItem (.ref l) (.int kk u)):=by with_unfolding_all rfl):
 wpAny (model prog w) A (subscriptTail value slice (.ref l) (.int kk u)) Q E s:=by
 obtain⟨t,ht⟩:=hv.get' hn
 subst hk
 exact d8a hl ht (by have:=(List.getElem?_eq_some_iff.mp hn).1;omega) (h t) hs
theorem jTa{value slice:PySem.Expr}{l:Addr}{k:Nat}{kk:Int}{u:Tok}{v:Value}{Q:Value->Shared->Prop}(hl:s.heap.IsList l vs.toArray)(hx:vs[k]?=some v)(hk:kk=(k:Int))(hfit:k<2^24)(h:Q v s)
 (hs:subscripted slice false (.ref l) (.int kk u)=operate [.ref l, .int kk u] (getItem (.ref l) (.int kk u)):=by with_unfolding_all rfl):
 wpAny (model prog w) A (subscriptTail value slice (.ref l) (.int kk u)) Q E s:=by
 subst hk
 exact d8a hl hx hfit h hs
theorem lda{l:Addr}{k:Nat}{kk:Int}{t:Tok}{value slice:PySem.Expr}{Q:Value->Shared->Prop}(F:Fr h₀ L s.heap m)(N:News h₀ L s.heap news)(hl:s.heap.IsList l vs.toArray)
 (hz:vs.length<2^20) (hk:kk=(k:Int))
 (h:∀ D h',Fr h₀ L h' m->News h₀ L h' ((D,listOf (vs.drop k).toArray 0)::news)->(∀ p∈news,p.1<D)->Q (.ref D) {s with heap:=h'})
 (hs:subscripted slice false (.ref l) (.ref s.heap.objs.size)=operate [.ref s.heap.objs.size, .ref l] (getItem (.ref l) (.ref s.heap.objs.size))) (ht:∀ r,letTemporaryGo value (.ref l) r=pure ()):
 wpAny (model prog w) A (subscriptTail value slice (.ref l) (.ref s.heap.objs.size)) Q E {s with heap:=s.heap.push {cls:= .type "slice",data:= .fields #[.int kk t, .none, .none]}}:=by
 subst hk;exact iNa F N hl hz h hs ht
theorem kNa{l:Addr}{k:Nat}{kk:Int}{t:Tok}{value slice:PySem.Expr}{Q:Value->Shared->Prop}(F:Fr h₀ L s.heap m)(N:News h₀ L s.heap news)(hl:s.heap.IsList l vs.toArray)
 (hz:vs.length<2^20) (hk:kk=(k:Int))
 (h:∀ D h',Fr h₀ L h' m->News h₀ L h' ((D,listOf (vs.take k).toArray 0)::news)->(∀ p∈news,p.1<D)->Q (.ref D) {s with heap:=h'})
 (hs:subscripted slice false (.ref l) (.ref s.heap.objs.size)=operate [.ref s.heap.objs.size, .ref l] (getItem (.ref l) (.ref s.heap.objs.size))) (ht:∀ r,letTemporaryGo value (.ref l) r=pure ()):
 wpAny (model prog w) A (subscriptTail value slice (.ref l) (.ref s.heap.objs.size)) Q E {s with heap:=s.heap.push {cls:= .type "slice",data:= .fields #[.none, .int kk t, .none]}}:=by
 subst hk;exact kfa F N hl hz h hs ht
end
end Mine
namespace Mine
theorem ar7:True:=by
 k_with "ar7" =>with_reducible first|exact qFa ‹_› ‹_› |exact mEa ‹_› ‹_› |exact rJa|exact(kEa ‹_› ‹_›).elim|exact(mPa ‹_› ‹_›).elim|exact(zq9 ‹_›).elim|exact(mGa ‹_›).elim
 trivial
theorem iza{T:List aaa}(W:WF T){n p c:Nat}(hp:p∈a3a T n)(hc:c∈aFa T p):c∈a3a T n:=by
 have key:∀ k n,T.length-n≤k->p∈a3a T n->c∈a3a T n:=by
  intro k
  induction k with
  |zero=>intro n hk hp;have:=aAa W n p hp;omega
  |succ k ih=>
   intro n hk hp
   rw [bpa W] at hp ⊢
   obtain⟨a,ha,hx⟩:=List.mem_flatMap.mp hp
   refine List.mem_flatMap.mpr ⟨a,ha, ?_⟩
   have h1:=aJa W ha
   rcases lcM hx with rfl|hx
   ·refine List.mem_cons_of_mem _ ?_
    rw [bpa W]
    exact List.mem_flatMap.mpr ⟨c,hc,List.mem_cons_self⟩
   ·exact List.mem_cons_of_mem _ (ih a (by omega) hx)
 exact key _ n (Nat.le_refl _) hp
theorem fia{T:List aaa}(W:WF T){n c:Nat}(hc:c∈aFa T n):c∈a3a T n:=by
 rw [bpa W];exact List.mem_flatMap.mpr ⟨c,hc,List.mem_cons_self⟩
theorem eTa{T:List aaa}(W:WF T){n x:Nat}(h:x∈a3a T n):aoa T x=false:=by
 obtain⟨p,e1,e2,_⟩:=cwa W n x h
 have hk:=W.kid p x e2
 cases hb:aoa T x with
 |false=>rfl
 |true=>rcases a6a.mp hb with h1|h1;exact absurd h1 hk.2.2.2.1;exact absurd h1 hk.2.2.2.2.1
theorem fla{T:List aaa}(W:WF T){n:Nat}:∀ x,aoa T x=false->(x∈a3a T n↔n∈anc T x):=by
 intro x
 induction x using Nat.strongRecOn with
 |_ x ih=>
  intro hb
  constructor
  ·intro h
   obtain⟨p,e1,e2,e3⟩:=cwa W n x h
   rw [aka W e1]
   rcases e3 with rfl|e3
   ·exact List.mem_cons_self
   ·exact List.mem_cons_of_mem _ ((ih p (aja W e1) (bba W e1)).mp e3)
  ·intro h
   cases hp:par T x with
   |none=>rw [aNa hp] at h;cases h
   |some p=>
    rw [aka W hp] at h
    have hk:=bZa W hp hb
    rcases lcM h with rfl|h
    ·exact fia W hk
    ·exact iza W ((ih p (aja W hp) (bba W hp)).mpr h) hk
theorem iAa{T:List aaa}(W:WF T){n x:Nat}(hb:aoa T x=false):x∈aFa T n↔par T x=some n:=
 ⟨fun h=>(W.kid n x h).2.2.1,fun h=>bZa W h hb⟩
theorem c1a:∀ {X Z:List Nat} {a:Nat},a ∉ X->(X++Z).idxOf a=X.length+Z.idxOf a
 | [],_,_,_=>by simp
 |b::X,Z,a,h=>by
  rw [List.cons_append,List.idxOf_cons]
  have e:¬b=a:=fun e=>h (by rw [e];exact List.mem_cons_self)
  have q:(b==a)=false:=by simp [e]
  rw [q]
  have:=c1a (Z:=Z) (fun hx=>h (List.mem_cons_of_mem _ hx):a ∉ X)
  rw [this,List.length_cons]
  show X.length+Z.idxOf a+1=_
  omega
theorem iJa{l X Y:List Nat}{a:Nat}(h:l=X++a::Y)(hn:l.Nodup):l.idxOf a=X.length:=by
 subst h
 have:a ∉ X:=by
  intro hx
  rw [List.nodup_append] at hn
  exact hn.2.2 a hx a List.mem_cons_self rfl
 rw [c1a this];simp
section
variable {T:List aaa} {r:Nat}
noncomputable def doc(T:List aaa)(r:Nat):List Nat:=r::a3a T r
end
end Mine
namespace Mine
theorem ar8:True:=by
 k_with "ar8" =>with_reducible first|exact qCa ‹_› ‹_› |exact fva ‹_› ‹_› |exact qDa|((show _≤_);first|exact mEa ‹_› ‹_› |exact mSa ‹_› |exact mRa|exact zq3)|exact pca ‹_› |exact oRa ‹_› ‹_› |exact pTa ‹_› ‹_› |exact(qJa ‹_› ‹_›).elim|exact(mAa ‹_›).elim|exact(rGa ‹_› ‹_›).elim|exact(kEa ‹_› ‹_›).elim
 trivial
noncomputable def cda(T:List aaa):Nat->Nat->List Nat
 |0,i=> [i]
 |f+1,i=> [i]++caa T i++bea T i++(aFa T i).flatMap (cda T f)
noncomputable def aEa(T:List aaa)(i:Nat):List Nat:=cda T T.length i
theorem hha{T:List aaa}(W:WF T):∀ f g i,T.length-i≤f->T.length-i≤g->cda T f i=cda T g i:=by
 intro f
 induction f with
 |zero=>
  intro g i hf hg
  cases g with
  |zero=>rfl
  |succ g=>
   have h0:T[i]?=none:=List.getElem?_eq_none (by omega)
   simp [cda,aFa,caa,bea,h0]
 |succ f ih=>
  intro g i hf hg
  cases g with
  |zero=>
   have h0:T[i]?=none:=List.getElem?_eq_none (by omega)
   simp [cda,aFa,caa,bea,h0]
  |succ g=>
   simp only [cda]
   congr 1
   rw [List.flatMap_def,List.flatMap_def]
   congr 1
   apply List.map_congr_left
   intro c hc
   have:=aJa W hc
   rw [ih g c (by omega) (by omega)]
theorem aKa{T:List aaa}(W:WF T)(i:Nat):aEa T i= [i]++caa T i++bea T i++(aFa T i).flatMap (aEa T):=by
 show cda T T.length i=_
 rw [hha W T.length (T.length+1) i (by omega) (by omega)]
 rfl
theorem dPa{T:List aaa}(W:WF T)(i:Nat):i∈aEa T i:=by rw [aKa W];simp
noncomputable def mIa(T:List aaa)(p x:Nat):Prop:=x∈caa T p∨x∈bea T p∨x∈aFa T p
theorem fka{T:List aaa}(W:WF T){p x:Nat}(h:mIa T p x):par T x=some p∧p<x∧x<T.length:=by
 rcases h with h|h|h
 ·exact⟨(W.nsp p x h).2.2.1,(W.nsp p x h).1,(W.nsp p x h).2.1⟩
 ·exact⟨(W.att p x h).2.2.1,(W.att p x h).1,(W.att p x h).2.1⟩
 ·exact⟨(W.kid p x h).2.2.1,(W.kid p x h).1,(W.kid p x h).2.1⟩
theorem faa{T:List aaa}(W:WF T){p x:Nat}(h:par T x=some p):mIa T p x:=by
 have h3:=(W.up x p h).2.2
 by_cases e1:kindOf T x=afa
 ·rw [if_pos e1] at h3;exact .inr (.inl h3)
 ·rw [if_neg e1] at h3
  by_cases e2:kindOf T x=sNs
  ·rw [if_pos e2] at h3;exact .inl h3
  ·rw [if_neg e2] at h3;exact .inr (.inr h3)
theorem gaa{T:List aaa}(W:WF T){r p x:Nat}(hp:p∈aEa T r)(hx:mIa T p x):x∈aEa T r:=by
 have key:∀ k r,T.length-r≤k->p∈aEa T r->x∈aEa T r:=by
  intro k
  induction k with
  |zero=>
   intro r hk hp
   have h0:T[r]?=none:=List.getElem?_eq_none (by omega)
   rw [aKa W] at hp
   simp [aFa,caa,bea,h0] at hp
   subst hp
   have:=fka W hx;omega
  |succ k ih=>
   intro r hk hp
   have own:mIa T r x->x∈aEa T r:=by
    intro h
    rw [aKa W]
    rcases h with h|h|h
    ·simp [h]
    ·simp [h]
    ·simp only [List.mem_append]
     exact .inr (List.mem_flatMap.mpr ⟨x,h,dPa W x⟩)
   rw [aKa W] at hp
   simp only [List.mem_append,List.mem_singleton] at hp
   rcases hp with((hp|hp)|hp)|hp
   ·subst hp;exact own hx
   ·--p is a namespace:nothing hangs on it
    exfalso
    have hk:=(W.nsp r p hp).2.2.2
    have h1:=(W.up x p (fka W hx).1).2.1
    rcases h1 with h1|h1<;>(rw [hk] at h1;exact absurd h1 (by decide))
   ·exfalso
    have hk:=(W.att r p hp).2.2.2
    have h1:=(W.up x p (fka W hx).1).2.1
    rcases h1 with h1|h1<;>(rw [hk] at h1;exact absurd h1 (by decide))
   ·obtain⟨c,hc,hp⟩:=List.mem_flatMap.mp hp
    have h1:=aJa W hc
    have:=ih c (by omega) hp
    rw [aKa W]
    simp only [List.mem_append]
    exact .inr (List.mem_flatMap.mpr ⟨c,hc,this⟩)
 exact key _ r (Nat.le_refl _) hp
theorem bxa{T:List aaa}(W:WF T){r:Nat}(hr:r<T.length):∀ x,x∈aEa T r->r≤x∧x<T.length:=by
 have key:∀ k r,r<T.length->T.length-r≤k->∀ x∈aEa T r,r≤x∧x<T.length:=by
  intro k
  induction k with
  |zero=>intro r hr hk;omega
  |succ k ih=>
   intro r hr hk x hx
   rw [aKa W] at hx
   simp only [List.mem_append,List.mem_singleton] at hx
   rcases hx with((hx|hx)|hx)|hx
   ·omega
   ·have:=W.nsp r x hx;omega
   ·have:=W.att r x hx;omega
   ·obtain⟨c,hc,hx⟩:=List.mem_flatMap.mp hx
    have h1:=aJa W hc
    have:=ih c h1.2 (by omega) x hx
    omega
 exact key _ r hr (Nat.le_refl _)
theorem hea{T:List aaa}(W:WF T){r:Nat}(hr:r<T.length)(hp:par T r=none)(x:Nat):x∈aEa T r↔x<T.length∧aPa T x=r:=by
 constructor
 ·intro hx
  refine⟨(bxa W hr x hx).2, ?_⟩
  have key:∀ k i,i<T.length->T.length-i≤k->∀ x∈aEa T i,aPa T x=aPa T i:=by
   intro k
   induction k with
   |zero=>intro i hi hk;omega
   |succ k ih=>
    intro i hi hk x hx
    rw [aKa W] at hx
    simp only [List.mem_append,List.mem_singleton] at hx
    rcases hx with((hx|hx)|hx)|hx
    ·rw [hx]
    ·exact asa W (W.nsp i x hx).2.2.1
    ·exact asa W (W.att i x hx).2.2.1
    ·obtain⟨c,hc,hx⟩:=List.mem_flatMap.mp hx
     have h1:=aJa W hc
     rw [ih c h1.2 (by omega) x hx]
     exact asa W (W.kid i c hc).2.2.1
  rw [key _ r hr (Nat.le_refl _) x hx,bRa hp]
 ·induction x using Nat.strongRecOn with
  |_ x ih=>
   rintro⟨hx,ht⟩
   cases hq:par T x with
   |none=>rw [bRa hq] at ht;rw [ht];exact dPa W r
   |some p=>
    have h1:=aja W hq
    rw [asa W hq] at ht
    exact gaa W (ih p h1 ⟨by omega,ht⟩) (faa W hq)
noncomputable def esa(T:List aaa)(p i:Nat):List Nat:=
 if kindOf T i=sNs then [0,(caa T p).idxOf i] else if kindOf T i=afa then [1,(bea T p).idxOf i] else [2,(aFa T p).idxOf i]
noncomputable def cBa(T:List aaa):Nat->Nat->List Nat
 |0,i=> [i]
 |f+1,i=>match par T i with
  |none=> [i]
  |some p=>cBa T f p++esa T p i
noncomputable def aZa(T:List aaa)(i:Nat):List Nat:=cBa T (i+1) i
theorem isa{T:List aaa}(W:WF T):∀ f g i,i<f->i<g->cBa T f i=cBa T g i:=by
 intro f
 induction f with
 |zero=>intro g i h;omega
 |succ f ih=>
  intro g i hf hg
  cases g with
  |zero=>omega
  |succ g=>
   simp only [cBa]
   cases hp:par T i with
   |none=>rfl
   |some p=>
    have:=aja W hp
    simp only
    rw [ih g p (by omega) (by omega)]
theorem bya{T:List aaa}{i:Nat}(h:par T i=none):aZa T i= [i]:=by unfold aZa;simp only [cBa,h]
theorem aza{T:List aaa}(W:WF T){i p:Nat}(h:par T i=some p):aZa T i=aZa T p++esa T p i:=by
 have:=aja W h
 show cBa T (i+1) i=cBa T (p+1) p++esa T p i
 simp only [cBa,h]
 rw [isa W i (p+1) p (by omega) (by omega)]
 simp only [cBa]
noncomputable def a7a:List Nat->List Nat->Bool
 | [], []=>false
 | [],_::_=>true
 |_::_, []=>false
 |a::as,b::bs=>if a=b then a7a as bs else decide (a<b)
theorem b0a(p a b:List Nat):a7a (p++a) (p++b)=a7a a b:=by
 induction p with
 |nil=>rfl
 |cons x p ih=>simp only [List.cons_append,a7a,if_true,ih]
theorem hAa(a:List Nat):a7a a a=false:=by
 induction a with
 |nil=>rfl
 |cons x a ih=>simp only [a7a,if_true,ih]
theorem fLa:∀ {a b:List Nat},a7a a b=true->a7a b a=true->False
 | [], [],h,_=>by cases h
 | [],_::_,_,h=>by cases h
 |_::_, [],h,_=>by cases h
 |a::as,b::bs,h1,h2=>by
  simp only [a7a] at h1 h2
  by_cases e:a=b
  ·rw [if_pos e] at h1;rw [if_pos e.symm] at h2;exact fLa h1 h2
  ·rw [if_neg e] at h1;rw [if_neg (Ne.symm e)] at h2
   simp only [decide_eq_true_eq] at h1 h2;omega
theorem cga{T:List aaa}(W:WF T){p x:Nat}(h:x∈caa T p):esa T p x= [0,(caa T p).idxOf x]:=by
 unfold esa;rw [if_pos (W.nsp p x h).2.2.2]
theorem bGa{T:List aaa}(W:WF T){p x:Nat}(h:x∈bea T p):esa T p x= [1,(bea T p).idxOf x]:=by
 unfold esa
 have e:=(W.att p x h).2.2.2
 rw [if_neg (by rw [e];decide),if_pos e]
theorem bka{T:List aaa}(W:WF T){p x:Nat}(h:x∈aFa T p):esa T p x= [2,(aFa T p).idxOf x]:=by
 unfold esa
 have e:=W.kid p x h
 rw [if_neg e.2.2.2.2.1,if_neg e.2.2.2.1]
theorem aQa{α β:Type}{S:α->α->Prop}{R:β->β->Prop}{f:α->List β}:∀ {l:List α},l.Pairwise S->(∀ a∈l,(f a).Pairwise R)->(∀ a∈l,∀ b∈l,S a b->∀ x∈f a,∀ y∈f b,R x y)->(l.flatMap f).Pairwise R
 | [],_,_,_=>by simp
 |a::l,h,h1,h2=>by
  rw [List.flatMap_cons,List.pairwise_append]
  have hc:=List.pairwise_cons.mp h
  refine⟨h1 a (.head _),aQa hc.2 (fun b hb=>h1 b (.tail _ hb)) (fun b hb c hc=>h2 b (.tail _ hb) c (.tail _ hc)), ?_⟩
  intro x hx y hy
  obtain⟨b,hb,hyb⟩:=List.mem_flatMap.mp hy
  exact h2 a (.head _) b (.tail _ hb) (hc.1 b hb) x hx y hyb
theorem cla{l:List Nat}(hn:l.Nodup):l.Pairwise fun a b=>l.idxOf a<l.idxOf b:=by
 rw [List.pairwise_iff_getElem]
 intro i j hi hj hij
 have at_:∀ k (hk:k<l.length),l.idxOf l[k]=k:=by
  intro k hk
  have e:l=l.take k++l[k]::l.drop (k+1):=by
   calc l=l.take k++l.drop k:=(List.take_append_drop _ _).symm
    _=_:=by rw [List.drop_eq_getElem_cons hk]
  rw [iJa e hn,List.length_take];omega
 rw [at_ i hi,at_ j hj];exact hij
theorem bVa{T:List aaa}(W:WF T):∀ k i,T.length-i≤k->∀ x∈aEa T i,∃ suf,aZa T x=aZa T i++suf:=by
 intro k
 induction k with
 |zero=>
  intro i hk x hx
  have h0:T[i]?=none:=List.getElem?_eq_none (by omega)
  rw [aKa W] at hx
  simp [aFa,caa,bea,h0] at hx
  subst hx;exact⟨[],by simp⟩
 |succ k ih=>
  intro i hk x hx
  rw [aKa W] at hx
  simp only [List.mem_append,List.mem_singleton] at hx
  rcases hx with((hx|hx)|hx)|hx
  ·subst hx;exact⟨[],by simp⟩
  ·exact⟨_,aza W (W.nsp i x hx).2.2.1⟩
  ·exact⟨_,aza W (W.att i x hx).2.2.1⟩
  ·obtain⟨c,hc,hx⟩:=List.mem_flatMap.mp hx
   have h1:=aJa W hc
   obtain⟨suf,e⟩:=ih c (by omega) x hx
   exact⟨esa T i c++suf,by rw [e,aza W (W.kid i c hc).2.2.1,List.append_assoc]⟩
theorem dta{T:List aaa}(W:WF T):∀ k i,T.length-i≤k->(aEa T i).Pairwise fun a b=>a7a (aZa T a) (aZa T b)=true:=by
 intro k
 induction k with
 |zero=>
  intro i hk
  have h0:T[i]?=none:=List.getElem?_eq_none (by omega)
  rw [aKa W]
  simp [aFa,caa,bea,h0]
 |succ k ih=>
  intro i hk
  have pn:∀ x∈caa T i,aZa T x=aZa T i++ [0,(caa T i).idxOf x]:=fun x hx=>by rw [aza W (W.nsp i x hx).2.2.1,cga W hx]
  have pa:∀ x∈bea T i,aZa T x=aZa T i++ [1,(bea T i).idxOf x]:=fun x hx=>by rw [aza W (W.att i x hx).2.2.1,bGa W hx]
  have pk:∀ x∈(aFa T i).flatMap (aEa T),∃ c∈aFa T i,x∈aEa T c∧∃ suf,aZa T x=aZa T i++(2::(aFa T i).idxOf c::suf):=fun x hx=>by
   obtain⟨c,hc,hx⟩:=List.mem_flatMap.mp hx
   obtain⟨suf,e⟩:=bVa W _ c (Nat.le_refl _) x hx
   exact⟨c,hc,hx,suf,by rw [e,aza W (W.kid i c hc).2.2.1,bka W hc];simp⟩
  rw [aKa W,List.pairwise_append,List.pairwise_append,List.pairwise_append]
  refine⟨⟨⟨List.pairwise_singleton _ _, ?_, ?_⟩, ?_, ?_⟩, ?_, ?_⟩
  ·refine(cla (W.nspN i)).imp_of_mem fun {a b} ha hb h=> ?_
   rw [pn a ha,pn b hb,b0a]
   simp only [a7a,if_true,if_neg (Nat.ne_of_lt h),decide_eq_true_eq];exact h
  ·intro a ha b hb
   rw [lsM ha,pn b hb]
   have:=b0a (aZa T i) [] [0,(caa T i).idxOf b]
   rw [List.append_nil] at this
   rw [this];rfl
  ·refine(cla (W.attN i)).imp_of_mem fun {a b} ha hb h=> ?_
   rw [pa a ha,pa b hb,b0a]
   simp only [a7a,if_true,if_neg (Nat.ne_of_lt h),decide_eq_true_eq];exact h
  ·intro a ha b hb
   rw [pa b hb]
   rcases laM ha with ha|ha
   ·rw [lsM ha]
    have:=b0a (aZa T i) [] [1,(bea T i).idxOf b]
    rw [List.append_nil] at this
    rw [this];rfl
   ·rw [pn a ha,b0a];rfl
  ·refine aQa (cla (W.kidN i)) (fun c hc=>ih c (by have:=aJa W hc;omega)) ?_
   intro a ha b hb hab x hx y hy
   obtain⟨s1,e1⟩:=bVa W _ a (Nat.le_refl _) x hx
   obtain⟨s2,e2⟩:=bVa W _ b (Nat.le_refl _) y hy
   rw [e1,e2,aza W (W.kid i a ha).2.2.1,aza W (W.kid i b hb).2.2.1,bka W ha,bka W hb,List.append_assoc,List.append_assoc,b0a]
   simp only [List.cons_append,List.nil_append,a7a,if_true,if_neg (Nat.ne_of_lt hab),decide_eq_true_eq];exact hab
  ·intro a ha b hb
   obtain⟨c,hc,hx,suf,e⟩:=pk b hb
   rw [e]
   rcases laM ha with ha|ha
   ·rcases laM ha with ha|ha
    ·rw [lsM ha]
     have:=b0a (aZa T i) [] (2::(aFa T i).idxOf c::suf)
     rw [List.append_nil] at this
     rw [this];rfl
    ·rw [pn a ha,b0a];rfl
   ·rw [pa a ha,b0a];rfl
theorem bLa{α:Type}{R:α->α->Prop}(asym:∀ a b,R a b->R b a->False):∀ {k l:List α},k.Perm l->k.Pairwise R->l.Pairwise R->k=l
 | [],l,h,_,_=>(List.nil_perm.mp h).symm
 |a::k, [],h,_,_=>absurd h.symm (by simp)
 |a::k,b::l,h,hk,hl=>by
  have h1:=List.pairwise_cons.mp hk
  have h2:=List.pairwise_cons.mp hl
  have e:a=b:=by
   refine Classical.byContradiction fun ne=> ?_
   have m1:a∈l:=by
    rcases lcM (h.mem_iff.mp List.mem_cons_self) with e|m
    ·exact absurd e ne
    ·exact m
   have m2:b∈k:=by
    rcases lcM (h.mem_iff.mpr List.mem_cons_self) with e|m
    ·exact absurd e.symm ne
    ·exact m
   exact asym a b (h1.1 b m2) (h2.1 a m1)
  subst e
  rw [bLa asym (List.perm_cons a|>.mp h) h1.2 h2.2]
theorem fxa{T:List aaa}(W:WF T)(i:Nat):(aEa T i).Nodup:=
 (dta W _ i (Nat.le_refl _)).imp fun {a b} h e=>by rw [e,hAa] at h;cases h
theorem dXa{k l:List Nat}(hk:k.Nodup)(hl:l.Nodup)(h:∀ x,x∈k↔x∈l):k.Perm l:=(List.perm_ext_iff_of_nodup hk hl).mpr h
theorem d9a{T:List aaa}(W:WF T){r:Nat}{xs ys:List Nat}(hx:xs.Nodup)(hs:∀ x∈xs,x∈aEa T r)(hp:ys.Perm xs)(hy:ys.Pairwise fun a b=>a7a (aZa T a) (aZa T b)=true):
 ys=(aEa T r).filter fun x=>decide (x∈xs):=by
 refine bLa (fun a b h1 h2=>fLa h1 h2) ?_ hy ((dta W _ r (Nat.le_refl _)).filter _)
 refine hp.trans (dXa hx ((fxa W r).filter _) fun x=> ?_)
 simp only [List.mem_filter,decide_eq_true_eq]
 exact⟨fun h=>⟨hs x h,h⟩,fun h=>h.2⟩
end Mine
namespace Mine
theorem ar9:True:=by
 k_with "ar9" =>with_reducible first|((show _<_);first|exact rPa ‹_› ‹_› ‹_› |exact fva ‹_› ‹_› |exact lSa ‹_› |exact lRa ‹_›)|exact pFa ‹_› ‹_› ‹_› |exact qKa ‹_› ‹_› |exact r3a ‹_› ‹_› |exact lPa ‹_› |exact(p3a ‹_› ‹_›).elim
 trivial
noncomputable def bga(T:List aaa)(i:Nat):List Nat:=(i::anc T i).reverse
theorem fIa{T:List aaa}(W:WF T){i:Nat}(hi:i<T.length):(bga T i).length<61:=by
 unfold bga
 have:=b1a W i
 have:=W.small
 rw [List.length_reverse,List.length_cons];omega
theorem dga{T:List aaa}{i:Nat}(h:par T i=none):bga T i= [i]:=by unfold bga;rw [aNa h];rfl
theorem dfa{T:List aaa}(W:WF T){i p:Nat}(h:par T i=some p):bga T i=bga T p++ [i]:=by unfold bga;rw [aka W h];simp
theorem jLa{T:List aaa}(W:WF T){i:Nat}(hi:i<T.length):∀ x∈bga T i,x<T.length:=by
 intro x hx
 unfold bga at hx
 rcases lcM (List.mem_reverse.mp hx) with rfl|hx
 ·exact hi
 ·have:=f1a W i x hx;omega
theorem jMa{T:List aaa}(W:WF T):∀ i,∀ k a b,(bga T i)[k]?=some a->(bga T i)[k+1]?=some b->par T b=some a:=by
 intro i
 induction i using Nat.strongRecOn with
 |_ i ih=>
  intro k a b ha hb
  cases hp:par T i with
  |none=>
   rw [dga hp] at hb
   simp at hb
  |some p=>
   rw [dfa W hp] at ha hb
   have hlt:=aja W hp
   by_cases h1:k+1<(bga T p).length
   ·rw [List.getElem?_append_left h1] at hb
    rw [List.getElem?_append_left (by omega)] at ha
    exact ih p hlt k a b ha hb
   ·have h2:k+1=(bga T p).length:=by
     have:=(List.getElem?_eq_some_iff.mp hb).1
     rw [List.length_append,List.length_singleton] at this;omega
    rw [h2,List.getElem?_append_right (Nat.le_refl _)] at hb
    simp at hb
    subst hb
    rw [List.getElem?_append_left (by omega)] at ha
    have h3:(bga T p)[k]?=some p:=by
     have:k=(i::anc T p).length-1:=by
      have h4:(bga T p).length=(anc T p).length+1:=by unfold bga;simp
      simp;omega
     cases hq:par T p with
     |none=>rw [dga hq] at h2 ⊢;simp at h2;subst h2;rfl
     |some q=>
      rw [dfa W hq] at h2 ⊢
      rw [List.length_append,List.length_singleton] at h2
      have:k=(bga T q).length:=by omega
      rw [this,List.getElem?_append_right (Nat.le_refl _)];simp
    rw [h3] at ha
    cases ha;exact hp
theorem jKa(T:List aaa)(i:Nat):bga T i≠ []:=by unfold bga;simp
theorem hza{T:List aaa}(W:WF T):∀ i,∃ r,(bga T i)[0]?=some r∧par T r=none:=by
 intro i
 induction i using Nat.strongRecOn with
 |_ i ih=>
  cases hp:par T i with
  |none=>exact⟨i,by rw [dga hp];rfl,hp⟩
  |some p=>
   obtain⟨r,h1,h2⟩:=ih p (aja W hp)
   refine⟨r, ?_,h2⟩
   rw [dfa W hp,List.getElem?_append_left (by
    have:=jKa T p
    exact List.length_pos_iff.mpr this)]
   exact h1
theorem hya{T:List aaa}(W:WF T)(i:Nat):(bga T i)[(bga T i).length-1]?=some i:=by
 unfold bga
 simp
theorem fEa{T:List aaa}(W:WF T):∀ i,(aZa T i).length≤2*i+1:=by
 intro i
 induction i using Nat.strongRecOn with
 |_ i ih=>
  cases hp:par T i with
  |none=>rw [bya hp];simp
  |some p=>
   have:=aja W hp
   have h2:=ih p this
   rw [aza W hp,List.length_append]
   have:(esa T p i).length=2:=by unfold esa;split<;>(try split)<;>rfl
   omega
theorem cWa{T:List aaa}(W:WF T):∀ i,aZa T i≠ []:=by
 intro i
 cases hp:par T i with
 |none=>rw [bya hp];simp
 |some p=>
  rw [aza W hp]
  have:(esa T p i).length=2:=by unfold esa;split<;>(try split)<;>rfl
  intro e
  have e2:(aZa T p++esa T p i).length=0:=by rw [e];rfl
  rw [List.length_append] at e2;omega
theorem kTa(T:List aaa)(p i:Nat):esa T p i≠ []:=by unfold esa;split<;>(try split)<;>simp
theorem cQa(T:List aaa)(p i:Nat):(esa T p i).length=2:=by unfold esa;split<;>(try split)<;>rfl
end Mine
namespace Mine
theorem ar10:True:=by
 k_with "ar10" =>with_reducible first|exact mBa ‹_› |exact mFa ‹_›
 trivial
theorem News.sub{h₀ h:Heap}{L:Addr}{l l':List (Addr×Obj)}(N:News h₀ L h l)(hs:∀ p∈l',p∈l):News h₀ L h l':=fun p hp=>N p (hs p hp)
section
variable {prog:Program} {w:World} {A:Around} {s:Shared} {K:Frag}
 {name qual:Str} {params:Arguments} {body:List Stmt} {scope:Scope} {dV kV doc pm cdv ct oc:Value} {an od:Option Addr} {osl:Array (Option Value)} {f:Addr} {vals:List Value} {Q E:Value->Shared->Prop} {n:Nat}
theorem fUa(H:i7a K A s.heap)(hr:jba A (n+1))
 (ho:K.lookup f=some ⟨oc,od, .func (fnOf name qual params body scope dV kV doc pm an cdv ct),osl⟩) (hcd:codeIn K cdv qual=true)
 (hbind:BindsTo s (fnOf name qual params body scope dV kV doc pm an cdv ct) ⟨vals, []⟩ ((params.args.map (·.arg)).zip vals)) (hkind:(((params.args.map (·.arg)).zip vals).all fun y=>scope.names.lookup y.1==some .local||scope.names.lookup y.1==some .cell)=true)
 (hnd:((cellsFrom 0 scope.names []).map (·.1)).Nodup)
 (h:∀ (A₀:Around) (base:Heap) (outer:List Env) (p:Program) (loose:List Str) (mean:ExcName->Option Value) (mg mb:Str->Option Value) (d u:Nat) (gd:Option (List Code)) (L':Addr) (h₁:Heap) (tk₁:Nat) (cells:List (Addr×Obj)),
   Below A₀ base outer s.heap->K.In s.heap->Top p loose mean mg mb s.heap->Fr s.heap L' h₁ (bindL (envOfC qual scope L' f cdv).kindOf ((params.args.map (·.arg)).zip vals) fun _=>none)->News s.heap L' h₁ cells->
   CellsAre (bindC (envOfC qual scope L' f cdv).kindOf ((params.args.map (·.arg)).zip vals) fun _=>none) (cellsFrom (L'+1) scope.names []) cells->d+n<recursionLimit->u+8*n+200<cLine->
   wpAny (model prog w) (dya d (envOfC qual scope L' f cdv) outer gd u) (execs body (envOfC qual scope L' f cdv))
    (kWa Q) (fun _ _=>False) {s with heap:=h₁,toks:=tk₁})
 (hco:scope.isCoroutine=false) (hgen:scope.isGenerator=false) (hk:scope.kind= .function):wpAny (model prog w) A (call (.ref f) vals) Q E s:=by
 obtain⟨X,hh,A₀,base,h₀,outer,env,L,m,p,loose,mean,mg,mb,B,F,T,hA,hf,hke⟩:=H
 have G:=groundX (R:=fun _ _=>True) (news:= []) B F News.nil hA hf hke
 have G2:Below A base (env::outer) s.heap:=G.2.1
 refine wpAny_call (codeAny_call_function (Nat.lt_of_le_of_lt (Nat.le_add_right _ _) hr.1) (X _ _ ho) rfl hco hgen rfl (codeRec_of X hcd) (hbind _ _ _ _ ?_))
 refine wpAny_newFunctionEnv_cells hk (kindsX hkind _) fun env' he s' x=> ?_
 subst he
 refine⟨T.nolimit.keeps x.toInCall.keep,codeAny_func ?_⟩
 obtain⟨h₁,tk,rfl,_⟩:=x.done
 have hk₁:=x.toInCall.keep
 obtain⟨cells,NC,Y⟩:=Cl.news (h₀:=s.heap) (Nat.le_refl _) fun n c hm=>⟨x.cell n c (lookup_of_mem_nodup (cellsFrom_names scope.names 0 (s.heap.objs.size+1) [] [] rfl▸hnd) hm),x.above n c hm⟩
 have hd:A.deeper (envOfC qual scope s.heap.objs.size f cdv)=dya (A.depth+1) (envOfC qual scope s.heap.objs.size f cdv) (env::outer) A.guards (A.units+3):=by
  obtain⟨hd,dp,fr,gs,u⟩:=A
  simp only at hh hA
  subst hh hA
  rfl
 have key:=h A base (env::outer) p loose mean mg mb (A.depth+1) (A.units+3) A.guards s.heap.objs.size h₁ tk cells G2 X T ⟨x.toInCall.ns,fun b o e=>hk₁ b o e,Nat.le_refl _⟩ NC Y (by have:=hr.1;omega) (by have:=hr.2;omega)
 rw [<-hd] at key
 exact wpAny_mono key (fun _ _ q=>q) fun _ _ q=>q.elim
end
end Mine
namespace Mine
theorem ar11:True:=by
 k_with "ar11" =>with_reducible first|exact kHa ‹_› |exact oIa|exact kGa ‹_› ‹_› ‹_› |exact rTa ‹_› ‹_›
 trivial
open PyProof.Rows.LCg (lst NsObj ns_obj lst_snoc)
section
variable {prog:Program} {w:World} {A:Around} {E:Value->Shared->Prop} {s:Shared} {env:Env} {h₀:Heap} {L:Addr} {m:Str->Option Value} {kx vx:Expr} {x:Str} {scope:Scope} {cl:List (Str×Addr)}
inductive kca(h₀:Heap)(L:Addr)(m:Str->Option Value)(J:List (Int×Value)->List (Addr×Obj)->Prop)(own:List (Addr×Obj))(bad:List Addr)(ys:List (Int×Value))(s₁ s₂:Shared):Prop
 |ik (h':_) (tk':_) (news':_)
  (f0:s₂= {s₁ with heap:=h',toks:=tk'})
  (f1:Fr h₀ L h' m)
  (f2:News h₀ L h' (own++news'))
  (f3:(∀ p∈news',p.1 ∉ bad))
  (f4:J ys news'):kca h₀ L m J own bad ys s₁ s₂
inductive ena(prog:Program)(w:World)(A:Around)(h₀:Heap)(L:Addr)(m:Str->Option Value)(env:Env)(kx vx:Expr)(x:Str)(scope:Scope)(cl:List (Str×Addr))(mf:Addr->Str->Option Value)(Fin:Addr->Shared->Prop)(it:Value)(s₂:Shared):Prop
 |ik (I:Addr) (fp:List Addr) (n:Nat) (P:Nat->Value->Prop) (St:Nat->Heap->Prop) (news:List (Addr×Obj)) (J:Nat->List (Int×Value)->List (Addr×Obj)->Prop)
  (f0:it= .ref I)
  (f1:Walks prog w A I fp [I] n P St)
  (f2:n≤sizeLine)
  (f3:L ∉ fp)
  (f4:h₀.get? I=none)
  (f5:(∀ b∈fp,b<s₂.heap.objs.size))
  (f6:(∀ p∈news,p.1≠I))
  (f7:St 0 s₂.heap)
  (f8:(∀ i h,St i h->∀ b∈fp,∃ o,h.get? b=some o))
  (f9:Fr h₀ L s₂.heap m)
  (f10:News h₀ L s₂.heap news)
  (f11:J 0 [] news)
  (f12:(∀ i v ys news₁ h₁ tk₁ own bad C oC m₂ E',i<n->P i v->ys.length≤i->J i ys news₁->(∀ b∈fp,h₀.get? b=none->∀ o,h₁.get? b=some o->(b,o)∈own)->(∀ p∈own,p.1∈fp∨p.1∈bad)->(∀ b∈bad,∃ o,(b,o)∈own)->(∀ b∈fp,∃ o,h₁.get? b=some o)->(∀ p∈news₁,p.1 ∉ bad)->(C,oC)∈own->NsObj oC m₂->m₂ x=some v->Fr h₀ L h₁ m->News h₀ L h₁ (own++news₁)->wpAny (model prog w) A (eval kx (compEnvC scope cl C env)) (fun kv s₃=>wpAny (model prog w) A (eval vx (compEnvC scope cl C env)) (fun y s₄=>∃ k t,kv= .int k t∧kca h₀ L m (fun ys nw=>J (i+1) ys nw) own bad (stored ys k y) {s₂ with heap:=h₁,toks:=tk₁} s₄) E' s₃) E' {s₂ with heap:=h₁,toks:=tk₁}))
  (f13:∀ D oD h' tk ys news',J n ys news'->ys.length≤n->Obj.IsDictOf (intKind prog w) oD ys-> @LT.lt Nat _ L D->Fr h₀ L h' (mf D)->News h₀ L h' ((D,oD)::news')->(∀ p∈news', @Ne Nat p.1 D)->Fin D {s₂ with heap:=h',toks:=tk}):ena prog w A h₀ L m env kx vx x scope cl mf Fin it s₂
inductive mxa(prog:Program)(w:World)(h₀:Heap)(L:Addr)(m:Str->Option Value)(n:Nat)(St:Nat->Heap->Prop)(J:Nat->List (Int×Value)->List (Addr×Obj)->Prop)(I D C:Addr)(s₂:Shared)(k:Nat)(s':Shared):Prop
 |ik (h':Heap) (tk:Nat) (i:Nat) (ys:List (Int×Value)) (oD:Obj) (m':Str->Option Value) (news':List (Addr×Obj))
  (f0:s'= {s₂ with heap:=h',toks:=tk}) (f1:i≤n) (f2:k=n+1-i) (f3:ys.length≤i) (f4:St i h') (f5:Fr h₀ L h' m) (f6:h'.Ns C m') (f7:Obj.IsDictOf (intKind prog w) oD ys) (f8:News h₀ L h' ((D,oD)::news')) (f9:(∀ p∈news',p.1≠I∧p.1≠D∧p.1≠C)) (f10:J i ys news'):mxa prog w h₀ L m n St J I D C s₂ k s'
inductive mza(h₀:Heap)(L:Addr)(m:Str->Option Value)(St:Nat->Heap->Prop)(J:Nat->List (Int×Value)->List (Addr×Obj)->Prop)(I D C:Addr)(s₂:Shared)(oC oD:Obj)(i:Nat)(zs:List (Int×Value))(s₅:Shared):Prop
 |ik (h₄:Heap) (tk₄:Nat) (news₄:List (Addr×Obj))
  (f0:s₅= {s₂ with heap:=h₄,toks:=tk₄}) (f1:Fr h₀ L h₄ m) (f2:h₄.get? C=some oC) (f3:h₄.get? D=some (oD)) (f4:News h₀ L h₄ news₄) (f5:St (i+1) h₄) (f6:(∀ p∈news₄,p.1≠I∧p.1≠D∧p.1≠C)) (f7:J (i+1) zs news₄):mza h₀ L m St J I D C s₂ oC oD i zs s₅
theorem gwa{iter:Expr}{px:Pos}{pos:Pos}{s₂:Shared}{it:Value}{mf:Addr->Str->Option Value}{Fin:Addr->Shared->Prop}{RR:Value->Addr->Result->Shared->Prop}
 (hcell:∀ y∈scope.names,y.2≠ .cell) (hkind:scope.kind= .function) (hx:scope.names.lookup x=some .local)
 (H:ena prog w A h₀ L m env kx vx x scope cl mf Fin it s₂)
 (hRR:∀ D C h tk m',Fr h₀ L h m->D≠L->h₀.get? D=none->h.Ns C m'->h₀.get? C=none->C≠L->C≠D->
   (∀ h' tk',Fr h₀ L h' (mf D)->(∀ b o,b≠C->b≠L->h.get? b=some o->h'.get? b=some o)->Fin D {s₂ with heap:=h',toks:=tk'})->RR (.ref D) C (.ok .next) {s₂ with heap:=h,toks:=tk}):
 wpAny (model prog w) A newDict (fun acc s₃=>wpAny (model prog w) A (newFunctionEnv scope env.globals cl [] env.qual none .none (some env)) (fun cenv s₄=>
  codeAny (model prog w) A (.compStart (.DictComp kx vx [⟨.Name x px,iter, [],0⟩] scope pos) 0 it acc {cenv with scope:=relabel scope env}) (RR acc cenv.locals) s₄) E s₃) E s₂:=by
 obtain⟨I,fp,n,P,St,news,J,rfl,W,hsz,hLf,hI₀,hfp,hnI,hst,hlive,F,N,hJ,step,done⟩:=H
 refine wpAny_newObj_type (wpAny_newFunctionEnv hcell (by intro y hy;simp at hy) (fun h₁ hns₁ hsb₁=> ?_) hkind)
 dsimp only at hns₁ hsb₁ ⊢
 have hnew:(s₂.heap.push {cls:= .type "dict",dict:=none,data:= .dict #[]}).DictOf (intKind prog w) s₂.heap.objs.size []:=Heap.DictOf.new s₂.heap
 generalize hH2:s₂.heap.push {cls:= .type "dict",dict:=none,data:= .dict #[]}=H2 at hns₁ hsb₁ hnew ⊢
 have hC:H2.objs.size=s₂.heap.objs.size+1:=by rw [<-hH2,Heap.size_push]
 have hDC:s₂.heap.objs.size≠H2.objs.size:=by rw [hC];exact Nat.ne_of_lt (Nat.lt_succ_self _)
 have below:∀ b,b<s₂.heap.objs.size->b≠H2.objs.size∧b≠s₂.heap.objs.size:=fun b hb=>⟨by rw [hC];exact Nat.ne_of_lt (Nat.lt_succ_of_lt hb),Nat.ne_of_lt hb⟩
 have hDf:s₂.heap.objs.size ∉ fp:=fun hm=>Nat.lt_irrefl _ (hfp _ hm)
 have hCf:H2.objs.size ∉ fp:=fun hm=>by have:=hfp _ hm;rw [hC] at this;exact Nat.lt_irrefl _ (Nat.lt_of_succ_lt this)
 have hIf:I∈fp:=W.sub I (lsR rfl)
 have hIlt:I<s₂.heap.objs.size:=hfp I hIf
 have old:∀ b o,s₂.heap.get? b=some o->h₁.get? b=some o:=fun b o e=>hsb₁.extBut b o (below b (Heap.lt_size e)).1 (Heap.get?_push_of_some _ (hH2▸Heap.get?_push_of_some _ e))
 have hacc:h₁.DictOf (intKind prog w) s₂.heap.objs.size []:=hnew.at fun o e=>hsb₁.extBut _ _ hDC (Heap.get?_push_of_some _ e)
 obtain⟨oD₀,hacc,hod₀⟩:=Heap.dictOf_iff.mp hacc
 have hst₁:St 0 h₁:=W.frame _ _ _ hst fun b _ o e=>old b o e
 have fresh₀:∀ a,s₂.heap.objs.size≤a->h₀.get? a=none:=fun a ha=>by
  cases e:h₀.get? a with
  |none=>rfl
  |some o'=>exact absurd (Heap.lt_size (F.keep a o' e)) (Nat.not_lt.mpr ha)
 have hD₀:h₀.get? s₂.heap.objs.size=none:=fresh₀ _ (Nat.le_refl _)
 have hC₀:h₀.get? H2.objs.size=none:=fresh₀ _ (by rw [hC];exact Nat.le_succ _)
 have hLlt:L<s₂.heap.objs.size:=F.ns.lt
 have hDL:s₂.heap.objs.size≠L:=Ne.symm (below L hLlt).2
 have hCL:H2.objs.size≠L:=Ne.symm (below L hLlt).1
 have hCI:I≠H2.objs.size:=(below I hIlt).1
 have hDI:I≠s₂.heap.objs.size:=(below I hIlt).2
 have hIL:L≠I:=fun e=>hLf (e▸hIf)
 generalize hDd:s₂.heap.objs.size=D at*
 generalize hCc:H2.objs.size=C at*
 have off₀:∀ p∈news,p.1≠D∧p.1≠C:=fun p hp=>⟨(below _ (by rw [<-hDd];exact Heap.lt_size (N p hp).1)).2,(below _ (by rw [<-hDd];exact Heap.lt_size (N p hp).1)).1⟩
 have loop:∀ s₃:Shared,s₃= {s₂ with heap:=h₁,toks:=s₂.toks+([]:List (Str×Value)).length}->
  codeAny (model prog w) A (.compLoop (.DictComp kx vx [⟨.Name x px,iter, [],0⟩] scope pos) 0 (.ref I) (.ref D) (compEnvC scope cl C env))
   (RR (.ref D) C) s₃:=by
  rintro s₃ rfl
  refine codeAny_compLoop_testsD
   (mxa prog w h₀ L m n St J I D C s₂) ?_ (n+1)
   ⟨h₁,_,0, [],oD₀,_,news,rfl,Nat.zero_le _,rfl,Nat.le_refl _,hst₁,F.keeps old,hns₁,hod₀,fun p hp=> ?_,fun p hp=>⟨hnI p hp,off₀ p hp⟩,hJ⟩
  ·rintro k s' ⟨h',tk,i,ys,oD,m',news',rfl,hi,rfl,hyl,hst',F',hn',hod,N',off',hJ'⟩
   by_cases hlt:i<n
   ·refine W.item i _ _ _ hlt hst' fun v h₂ tk₂ hPv hst₂ hk₂=> ?_
    refine wpAny_assign_Name (wpAny_storeName_local (lookup_relabel_local hx) (hn'.at' fun o e=>hk₂ _ o (by simpa using Ne.symm hCI) e) (fun h₃ hn₃ hs₃=> ?_) (by simp [compEnvC,relabel,hkind]))
    have hst₃:St (i+1) h₃:=W.frame _ _ _ hst₂ fun b hb o e=>hs₃.extBut b o (fun q=>hCf (by have q':b=C:=q;rw [<-q'];exact hb)) e
    obtain⟨oC,heC,hoC⟩:=ns_obj hn₃
    have F₃:Fr h₀ L h₃ m:=(LCg.fr_but F' hk₂ hIL hI₀).change hs₃ hCL hC₀
    have N₂:News h₀ L h₂ ((D,oD)::news'):=LCg.news_but N' hk₂ (fc (Ne.symm hDI) fun p hp=>(off' p hp).1)
    have hD₃:h₃.get? D=some (oD):=hs₃.extBut _ _ hDC (N₂ _ List.mem_cons_self).1
    have Nown:News h₀ L h₃ (PyProof.Rows.ownOf h₀ fp h₃):=news_ownOf hLf
    have N₃:News h₀ L h₃ ((PyProof.Rows.ownOf h₀ fp h₃++ [(C,oC),(D,oD)])++news'):=List.forall_mem_append.mpr ⟨List.forall_mem_append.mpr ⟨Nown,fc ⟨heC,hCL,hC₀⟩ (fc ⟨hD₃,hDL,hD₀⟩ fn)⟩,fun p hp=>⟨hs₃.extBut _ _ (off' p hp).2.2 (N₂ p (List.mem_cons_of_mem _ hp)).1,(N₂ p (List.mem_cons_of_mem _ hp)).2⟩⟩
    have hIown:∃ o,(I,o)∈PyProof.Rows.ownOf h₀ fp h₃:=by
     obtain⟨oI,hoI⟩:=hlive _ _ hst₃ I hIf
     exact⟨oI,mem_ownOf hIf hI₀ hoI⟩
    have T:=step i v ys news' h₃ (tk₂+1) (PyProof.Rows.ownOf h₀ fp h₃++ [(C,oC),(D,oD)]) [I,D,C] C oC _ (notedBy (model prog w) A (compEnvC scope cl C env) fun e s'=>RR (.ref D) C (.error e) s') hlt hPv hyl hJ'
     (fun b hb hn o e=>laL _ (mem_ownOf hb hn e)) (List.forall_mem_append.mpr ⟨fun p hp=> .inl (ownOf_sub p hp),fc (.inr (.tail _ (.tail _ (.head _)))) (fc (.inr (.tail _ (.head _))) fn)⟩)
     (fc (hIown.elim fun o ho=>⟨o,laL _ ho⟩) (fc ⟨oD,laG _ (.tail _ (.head _))⟩ (fc ⟨oC,laG _ (.head _)⟩ fn)))
     (hlive _ _ hst₃) (fun p hp hb=>(lcM hb).elim (off' p hp).1 fun hb=>(lcM hb).elim (off' p hp).2.1 fun hb=>(off' p hp).2.2 (lsM hb))
     (laG _ List.mem_cons_self) hoC (if_pos rfl) F₃ N₃
    have after:∀ zs s₅,kca h₀ L m (fun ys nw=>J (i+1) ys nw) (PyProof.Rows.ownOf h₀ fp h₃++ [(C,oC),(D,oD)]) [I,D,C] zs {s₂ with heap:=h₃,toks:=tk₂+1} s₅->
     mza h₀ L m St J I D C s₂ oC oD i zs s₅:=by
     rintro zs s₅ ⟨h₄,tk₄,news₄,rfl,F₄,N₄,hsep,hJ₄⟩
     have own_:∀ p∈PyProof.Rows.ownOf h₀ fp h₃++ [(C,oC),(D,oD)],h₄.get? p.1=some p.2:=fun p hp=>(N₄ p (laL _ hp)).1
     refine⟨h₄,tk₄,news₄,rfl,F₄,own_ (C,oC) (laG _ List.mem_cons_self),own_ (D,oD) (laG _ (List.mem_cons_of_mem _ List.mem_cons_self)),fun p hp=>N₄ p (laG _ hp), ?_,fun p hp=> ?_,hJ₄⟩
     ·refine W.frame _ _ _ hst₃ fun b hb o e=> ?_
      cases hn:h₀.get? b with
      |some o₀=>
       have:o₀=o:=by have q:=F₃.keep b o₀ hn;rw [e] at q;exact(Option.some.inj q).symm
       exact this▸F₄.keep b o₀ hn
      |none=>exact own_ (b,o) (laL _ (mem_ownOf hb hn e))
     ·exact⟨fun q=>hsep p hp (List.mem_cons.mpr (.inl q)),fun q=>hsep p hp (.tail _ (List.mem_cons.mpr (.inl q))),fun q=>hsep p hp (.tail _ (.tail _ (List.mem_cons.mpr (.inl q))))⟩
    refine wpAny_tests_nil ?_
    simp only [if_true]
    refine wpAny_mono T (fun kv s₄ hq=>wpAny_mono hq (fun y s₅ hq5=> ?_) fun _ _ e=>e) fun _ _ e=>e
    obtain⟨k,t,rfl,hq5⟩:=hq5
    obtain⟨h₄,tk₄,news₄,rfl,F₄,zC,zD,N₄,hst₄,off₄,hJ₄⟩:=after _ _ hq5
    refine wpAny_dictSet_pairs (hsz:=by omega) (intKind_is prog w k t) (Heap.dictOf_iff.mpr ⟨oD,zD,hod⟩) fun h₅ hl₅ hs₅=> ?_
    obtain⟨oD₅,hD₅,hod₅⟩:=Heap.dictOf_iff.mp hl₅
    refine⟨n+1-(i+1),by omega,h₅,_,i+1,stored ys k y,oD₅,_,news₄,rfl,hlt,rfl,by have:=stored_length_le ys k y;omega,W.frame _ _ _ hst₄ fun b hb o e=>hs₅.extBut b o (fun q=>hDf (q▸hb)) e,F₄.change hs₅ hDL hD₀,
     (hoC.ns zC).sameBut hs₅ (Ne.symm hDC),hod₅,fun p hp=> ?_,off₄,hJ₄⟩
    exact(fc ⟨hD₅,hDL,hD₀⟩ fun p hp=>⟨hs₅.extBut _ _ (off₄ p hp).2.1 (N₄ p hp).1,(N₄ p hp).2⟩:News h₀ L h₅ ((D,oD₅)::news₄)) p hp
   ·obtain rfl:i=n:=Nat.le_antisymm hi (Nat.not_lt.mp hlt)
    refine W.done _ _ _ hst' fun h₂ tk₂ hk₂=> ?_
    have N₂:News h₀ L h₂ ((D,oD)::news'):=LCg.news_but N' hk₂ (fc (Ne.symm hDI) fun p hp=>(off' p hp).1)
    refine hRR D C h₂ tk₂ _ (LCg.fr_but F' hk₂ hIL hI₀) hDL hD₀ (hn'.at' fun o e=>hk₂ _ o (by simpa using Ne.symm hCI) e) hC₀ hCL (Ne.symm hDC) fun h'' tk'' F'' hk''=> ?_
    refine done D oD h'' tk'' ys news' hJ' hyl hod hLlt F'' (fun p hp=> ?_) fun p hp=>(off' p hp).2.1
    have hp2:p.1≠C:=fc (p:=fun p=>p.1≠C) hDC (fun p hp=>(off' p hp).2.2) p hp
    exact⟨hk'' _ _ hp2 (N₂ p hp).2.1 (N₂ p hp).1,(N₂ p hp).2⟩
  ·rcases lcM hp with rfl|hp
   ·exact⟨hacc,hDL,hD₀⟩
   ·exact⟨old _ _ (N p hp).1,(N p hp).2⟩
 exact codeAny_compStart_dict (loop _ rfl) (W.self 0 _ _ _ hst₁ (loop _ rfl))
theorem hGa{iter:Expr}{px:Pos}{pos:Pos}{Q:Value->Shared->Prop}(_F₀:Fr h₀ L s.heap m)
 (hclos:closureFor scope env=pure cl) (hcell:∀ y∈scope.names,y.2≠ .cell) (hkind:scope.kind= .function)
 (hnames:∀ y∈scope.names,y.2= .local->scope.names.lookup y.1=some .local) (hx:scope.names.lookup x=some .local)
 (h:wpAny (model prog w) A (eval iter env) (fun xv s₁=>wpAny (model prog w) A (pyIter xv) (fun it s₂=>ena prog w A h₀ L m env kx vx x scope cl (fun _=>m) (fun D s'=>Q (.ref D) s') it s₂) E s₁) E s)
 (hs:∀ x,foldedSetIterable iter env x=pure x:=by intro _;rfl):
 wpAny (model prog w) A (eval (.DictComp kx vx [⟨.Name x px,iter, [],0⟩] scope pos) env) Q E s:=by
 rw [arm_eval_DictComp]
 refine wpAny_comprehension_free (use:=none) rfl hs hclos hkind hnames (wpAny_mono h (fun xv s₁ h₁=>wpAny_mono h₁ (fun it s₂ h₂=> ?_) fun _ _ e=>e) fun _ _ e=>e)
 refine gwa (RR:=fun acc C=>compPost (model prog w) A E none Q acc C) hcell hkind hx h₂ ?_
 intro D C h tk m' F hDL hD₀ hn hC₀ hCL hCD fin
 exact⟨m',hn,fun h'' hs''=>fin h'' tk (F.change hs'' hCL hC₀) fun b o hb _ e=>hs''.extBut b o hb e⟩
inductive b3a{σ:Type}(h₀:Heap)(L:Addr)(m:Str->Option Value)(Led:σ->List (Addr×Obj))(ys:σ->List (Int×Value))(J:σ->Prop)(rest:List (Addr×Obj))(out:List (Int×Value))(s₁ s₂:Shared):Prop
 |ik (c':_) (h':_) (tk':_) (news':_)
  (f0:s₂= {s₁ with heap:=h',toks:=tk'})
  (f1:Fr h₀ L h' m)
  (f2:News h₀ L h' news')
  (f3:(∀ p∈Led c'++rest,p∈news'))
  (f4:(∀ q∈Led c',∀ p∈rest, @Ne Nat p.1 q.1))
  (f5:ys c'=out)
  (f6:J c'):b3a h₀ L m Led ys J rest out s₁ s₂
theorem b3a.intro{σ:Type}{Led:σ->List (Addr×Obj)}{ys:σ->List (Int×Value)}{J:σ->Prop}{rest:List (Addr×Obj)}{out:List (Int×Value)}{s₁:Shared}{h':Heap}{tk':Nat}{news':List (Addr×Obj)}
 (c':σ) (F:Fr h₀ L h' m) (N:News h₀ L h' news') (mem:∀ p∈Led c'++rest,p∈news') (hy:ys c'=out) (hJ:J c') (sep:∀ q∈Led c',∀ p∈rest, @Ne Nat p.1 q.1):b3a h₀ L m Led ys J rest out s₁ {s₁ with heap:=h',toks:=tk'}:=
 ⟨c',h',tk',news',rfl,F,N,mem,sep,hy,hJ⟩
theorem jZa{σ:Type}{I:Addr}{fp:List Addr}{n:Nat}{P:Nat->Value->Prop}{St:Nat->Heap->Prop}{mf:Addr->Str->Option Value}{Fin:Addr->Shared->Prop}(Led:σ->List (Addr×Obj))(ys:σ->List (Int×Value))(J:Nat->σ->Prop)(c₀:σ)(fix:List (Addr×Obj)){news:List (Addr×Obj)}
 (W:Walks prog w A I fp [I] n P St) (hsz:n≤sizeLine) (hLf:L ∉ fp) (hI₀:h₀.get? I=none) (hfp:∀ b∈fp,b<s.heap.objs.size) (hst:St 0 s.heap) (hlive:∀ i h,St i h->∀ b∈fp,∃ o,h.get? b=some o)
 (F:Fr h₀ L s.heap m) (N:News h₀ L s.heap news) (hin:∀ p∈Led c₀++fix,p∈news) (hnI:∀ p∈Led c₀++fix,p.1≠I) (hoff:∀ q∈Led c₀,∀ p∈fix, @Ne Nat p.1 q.1) (hcf:∀ p∈Led c₀,p.1 ∉ fp) (hy0:ys c₀= []) (hj:J 0 c₀)
 (turn:∀ i v c h tk own C oC m₂ E',P i v->i<n->J i c->(ys c).length≤i->(C,oC)∈own->NsObj oC m₂->m₂ x=some v->Fr h₀ L h m->News h₀ L h (Led c++(fix++own))->(∀ q∈Led c,∀ p∈fix++own, @Ne Nat p.1 q.1)->
   wpAny (model prog w) A (eval kx (compEnvC scope cl C env)) (fun kv s₃=>wpAny (model prog w) A (eval vx (compEnvC scope cl C env)) (fun y s₄=>∃ k t,kv= .int k t∧b3a h₀ L m Led ys (J (i+1)) (fix++own) (stored (ys c) k y) {s with heap:=h,toks:=tk} s₄) E' s₃) E' {s with heap:=h,toks:=tk})
 (done:∀ D oD c h' tk,J n c->(ys c).length≤n->Obj.IsDictOf (intKind prog w) oD (ys c)-> @LT.lt Nat _ L D->Fr h₀ L h' (mf D)->News h₀ L h' ((D,oD)::(Led c++fix))->(∀ p∈Led c++fix, @Ne Nat p.1 D)->(∀ q∈Led c,∀ p∈fix, @Ne Nat p.1 q.1)->Fin D {s with heap:=h',toks:=tk}):
 ena prog w A h₀ L m env kx vx x scope cl mf Fin (.ref I) s:=by
 have hIf:I∈fp:=W.sub I (lsR rfl)
 refine⟨I,fp,n,P,St,Led c₀++fix,fun i zs nw=>∃ c,nw=Led c++fix∧zs=ys c∧(∀ q∈Led c,∀ p∈fix, @Ne Nat p.1 q.1)∧(∀ p∈Led c,p.1 ∉ fp)∧J i c,rfl,W,hsz,hLf,hI₀,hfp,hnI,hst,hlive,F,fun p hp=>N p (hin p hp),
  ⟨c₀,rfl,hy0.symm,hoff,hcf,hj⟩, ?_, ?_⟩
 ·rintro i v zs nw h₁ tk₁ own bad C oC m₂ E' hi hP hzl ⟨c,rfl,rfl,hof,hcf',hJ⟩ hall hown hbad hlv hnb hCm hoC hxv F₁ N₁
  have hsep:∀ q∈Led c,∀ p∈fix++own, @Ne Nat p.1 q.1:=fun q hq p hp=>by
   rcases laM hp with hp|hp
   ·exact hof q hq p hp
   ·intro e
    have e':p.1=q.1:=e
    rcases hown p hp with hpf|hpf
    ·exact hcf' q hq (by rw [<-e'];exact hpf)
    ·exact hnb q (laL _ hq) (by rw [<-e'];exact hpf)
  have N₂:News h₀ L h₁ (Led c++(fix++own)):=fun p hp=>N₁ p (by
   rcases laM hp with hp|hp
   ·exact laG _ (laL _ hp)
   ·rcases laM hp with hp|hp
    ·exact laG _ (laG _ hp)
    ·exact laL _ hp)
  have key:∀ out s₃,b3a h₀ L m Led ys (J (i+1)) (fix++own) out {s with heap:=h₁,toks:=tk₁} s₃->
   kca h₀ L m (fun zs nw=>∃ c,nw=Led c++fix∧zs=ys c∧(∀ q∈Led c,∀ p∈fix, @Ne Nat p.1 q.1)∧(∀ p∈Led c,p.1 ∉ fp)∧J (i+1) c) own bad out {s with heap:=h₁,toks:=tk₁} s₃:=by
   rintro out s₃ ⟨c',h',tk',news',rfl,F',N',hm,hs,rfl,hJ'⟩
   refine⟨h',tk',Led c'++fix,rfl,F',fun p hp=>N' p (hm p ?_),fun p hp hb=> ?_,c',rfl,rfl,fun q hq p hp=>hs q hq p (laL _ hp),fun p hp hb=> ?_,hJ'⟩
   ·rcases laM hp with hp|hp
    ·exact laG _ (laG _ hp)
    ·rcases laM hp with hp|hp
     ·exact laL _ hp
     ·exact laG _ (laL _ hp)
   ·rcases laM hp with hp|hp
    ·obtain⟨o,ho⟩:=hbad p.1 hb
     exact hs p hp (p.1,o) (laG _ ho) rfl
    ·exact hnb p (laG _ hp) hb
   ·obtain⟨o,ho⟩:=hlv p.1 hb
    have h0:=(N' p (hm p (laL _ hp))).2.2
    exact hs p hp (p.1,o) (laG _ (hall p.1 hb h0 o ho)) rfl
  refine wpAny_mono (turn i v c h₁ tk₁ own C oC m₂ E' hP hi hJ hzl hCm hoC hxv F₁ N₂ hsep) (fun kv s₃ hq=>wpAny_mono hq (fun y s₄ hq4=> ?_) fun _ _ e=>e) fun _ _ e=>e
  obtain⟨k,t,e,hq4⟩:=hq4
  exact⟨k,t,e,key _ _ hq4⟩
 ·rintro D oD h' tk zs nw ⟨c,rfl,rfl,hof,_,hJ⟩ hzl hoD hLD F' N' hD
  exact done D oD c h' tk hJ hzl hoD hLD F' N' hD hof
theorem hHa{σ:Type}{l:Addr}{vs:List Value}{mf:Addr->Str->Option Value}{Fin:Addr->Shared->Prop}(Led:σ->List (Addr×Obj))(ys:σ->List (Int×Value))(J:Nat->σ->Prop)(c₀:σ)(fix:List (Addr×Obj)){news:List (Addr×Obj)}
 (hh:A.handled=none) (hl:s.heap.IsList l vs.toArray) (hlL:l≠L) (hsz:vs.length≤sizeLine)
 (F:Fr h₀ L s.heap m) (N:News h₀ L s.heap news) (hin:∀ p∈Led c₀++fix,p∈news) (hoff:∀ q∈Led c₀,∀ p∈fix, @Ne Nat p.1 q.1) (hll:∀ p∈Led c₀, @Ne Nat p.1 l) (hy0:ys c₀= []) (hj:J 0 c₀)
 (turn:∀ i v c h tk own C oC m₂ E',vs[i]?=some v->i<vs.length->J i c->(ys c).length≤i->(C,oC)∈own->NsObj oC m₂->m₂ x=some v->Fr h₀ L h m->News h₀ L h (Led c++(fix++own))->(∀ q∈Led c,∀ p∈fix++own, @Ne Nat p.1 q.1)->
   wpAny (model prog w) A (eval kx (compEnvC scope cl C env)) (fun kv s₃=>wpAny (model prog w) A (eval vx (compEnvC scope cl C env)) (fun y s₄=>∃ k t,kv= .int k t∧b3a h₀ L m Led ys (J (i+1)) (fix++own) (stored (ys c) k y) {s with heap:=h,toks:=tk} s₄) E' s₃) E' {s with heap:=h,toks:=tk})
 (done:∀ D oD c h' tk,J vs.length c->(ys c).length≤vs.length->Obj.IsDictOf (intKind prog w) oD (ys c)-> @LT.lt Nat _ L D->Fr h₀ L h' (mf D)->News h₀ L h' ((D,oD)::(Led c++fix))->(∀ p∈Led c++fix, @Ne Nat p.1 D)->(∀ q∈Led c,∀ p∈fix, @Ne Nat p.1 q.1)->Fin D {s with heap:=h',toks:=tk}):
 wpAny (model prog w) A (pyIter (.ref l)) (fun it s₂=>ena prog w A h₀ L m env kx vx x scope cl mf Fin it s₂) E s:=by
 have hlt:l<s.heap.objs.size:=by obtain⟨_,e,_⟩:=hl;exact Heap.lt_size e
 refine wpAny_pyIter_list hl ?_
 have up:∀ b o,s.heap.get? b=some o->(s.heap.push {cls:= .type "list_iterator",data:= .fields #[.ref l, .int 0 0]}).get? b=some o:=fun b o e=>Heap.get?_push_of_some _ e
 have W:=Walks.list (prog:=prog) (w:=w) hh s.heap.objs.size l (Nat.ne_of_lt hlt) vs.toArray
 have hz:vs.toArray.size=vs.length:=by simp
 rw [hz] at W
 have hLlt:=F.ns.lt
 refine jZa (s:= {s with heap:=s.heap.push {cls:= .type "list_iterator",data:= .fields #[.ref l, .int 0 0]}}) Led ys J c₀ fix W hsz ?_ (next_is_new F) (fun b hb=> ?_) ⟨⟨_,Heap.get?_push_size _ rfl,rfl,rfl⟩,hl.push _⟩ ?_ (F.keeps up) (N.grown up) hin
  (fun p hp=>Nat.ne_of_lt (Heap.lt_size (N p (hin p hp)).1)) hoff (fun p hp hb=> ?_) hy0 hj (fun i v c h tk own C oC m₂ E' hP hi=>turn i v c h tk own C oC m₂ E' (by simpa using hP) hi) done
 ·intro hb
  rcases lcM hb with e|hb
  ·exact Nat.lt_irrefl _ (e▸hLlt)
  ·exact hlL (lsM hb).symm
 ·show b<(s.heap.push _).objs.size
  rw [Heap.size_push]
  rcases lcM hb with rfl|hb
  ·exact Nat.lt_succ_self _
  ·rw [lsM hb];exact Nat.lt_succ_of_lt hlt
 ·rintro i h ⟨⟨o1,ho1,_⟩,⟨o2,ho2,_⟩⟩ b hb
  rcases lcM hb with rfl|hb
  ·exact⟨_,ho1⟩
  ·rw [lsM hb];exact⟨_,ho2⟩
 ·rcases lcM hb with e|hb
  ·exact Nat.ne_of_lt (Heap.lt_size (N p (hin p (laL _ hp))).1) e
  ·exact hll p hp (lsM hb)
end
end Mine
namespace Mine
theorem ar12:True:=by
 k_with "ar12" =>with_reducible first|((show _<_);first|exact zq4 ‹_› |exact pWa ‹_› |exact sia ‹_› |exact mTa ‹_› ‹_› |exact qHa ‹_› ‹_› |exact pVa ‹_› ‹_› |exact fva ‹_› ‹_› |exact spa ‹_› ‹_› ‹_› |exact sma ‹_› ‹_› |exact o8a ‹_› ‹_› |exact pna ‹_› |exact pOa ‹_› ‹_› |exact pDa ‹_› |exact pxa ‹_› |exact mOa ‹_› |exact qEa ‹_› ‹_› |exact ppa ‹_› ‹_› ‹_› ‹_› |exact m2a ‹_› ‹_› |exact qGa ‹_› ‹_› |exact pra ‹_› ‹_› |exact oWa ‹_› ‹_› ‹_› ‹_› |exact rKa ‹_› ‹_› ‹_› ‹_› |exact jga ‹_› ‹_›)|((show _≤_);first|exact mDa ‹_› |exact rHa ‹_› |exact poa ‹_› ‹_› |exact o5a ‹_› |exact zq2 ‹_› |exact mRa|exact qza|exact pQa ‹_› |exact pHa ‹_› ‹_› |exact pia ‹_› |exact sla ‹_› |exact p6a ‹_› ‹_› |exact p4a ‹_› ‹_› |exact pEa ‹_› ‹_› |exact oMa ‹_› |exact rNa ‹_› ‹_› |exact pva ‹_› ‹_› |exact r1a ‹_›)|((show _=_);first|exact qKa ‹_› ‹_› |exact o3a ‹_› |exact rWa|exact pya ‹_› ‹_› |exact rQa ‹_› ‹_› |exact pba ‹_› ‹_› |exact zq8 ‹_› ‹_› |exact r7a ‹_› ‹_› |exact p0a ‹_› |exact pda|exact qMa ‹_› |exact o9a ‹_› ‹_›)|exact p7a ‹_› ‹_› ‹_› |exact pIa ‹_› ‹_› ‹_› |exact(sga ‹_› ‹_›).elim|exact(mGa ‹_›).elim|exact(rDa ‹_› ‹_›).elim|exact(pBa ‹_› ‹_› ‹_› ‹_›).elim|exact(pMa ‹_› ‹_› ‹_›).elim|exact(pha ‹_› ‹_› ‹_›).elim|exact(pwa ‹_› ‹_›).elim|exact(r5a ‹_› ‹_›).elim|exact(rMa ‹_› ‹_› ‹_›).elim|exact(rSa ‹_› ‹_›).elim|exact(pta ‹_› ‹_› ‹_› ‹_›).elim|exact(pja ‹_› ‹_›).elim|exact(r6a ‹_› ‹_› ‹_› ‹_›).elim|exact(sha ‹_› ‹_› ‹_› ‹_›).elim|exact(sea ‹_› ‹_› ‹_› ‹_›).elim|exact(pla ‹_› ‹_› ‹_› ‹_›).elim|exact(mAa ‹_›).elim|exact(pKa ‹_› ‹_›).elim|exact(sna ‹_› ‹_› ‹_›).elim|exact(kza ‹_› ‹_›).elim|exact(rRa ‹_›).elim
 trivial
noncomputable def KOk(lt:Nat->Nat->Bool)(P:Nat->Prop){α:Type}:KasT α->(α->Prop)->Prop
 | .ret a,Q=>Q a
 | .ask i j k,Q=>P i∧P j∧KOk lt P (k (lt i j)) Q
section
variable {lt:Nat->Nat->Bool} {P:Nat->Prop}
theorem KOk.mono{α:Type}{Q Q':α->Prop}(hq:∀ a,Q a->Q' a):∀ (t:KasT α),KOk lt P t Q->KOk lt P t Q'
 | .ret a,h=>hq a h
 | .ask _ _ k,h=>⟨h.1,h.2.1,KOk.mono hq (k _) h.2.2⟩
theorem KOk.bind{α β:Type}{f:α->KasT β}{Q:β->Prop}:∀ (t:KasT α),KOk lt P t (fun a=>KOk lt P (f a) Q)->KOk lt P (t.bind f) Q
 | .ret _,h=>h
 | .ask _ _ k,h=>⟨h.1,h.2.1,KOk.bind (k _) h.2.2⟩
theorem KOk.go{α:Type}{cmp:Nat->Nat->(Bool->Shared->Prop)->Shared->Prop}{Inv:Shared->Prop}{Q:α->Prop}{G:α->Shared->Prop}
 (hc:∀ i j C s,P i->P j->Inv s->(∀ s',Inv s'->C (lt i j) s')->cmp i j C s) (hG:∀ a s,Inv s->Q a->G a s):∀ (t:KasT α) (s:Shared),Inv s->KOk lt P t Q->t.kasWp cmp G s
 | .ret a,s,hs,h=>hG a s hs h
 | .ask i j k,s,hs,h=>hc i j _ s h.1 h.2.1 hs fun s' hs'=>KOk.go hc hG (k _) s' hs' h.2.2
structure Tot(lt:Nat->Nat->Bool)(P:Nat->Prop):Prop where
 tot:∀ i j,P i->P j->i≠j->lt i j=false->lt j i=true
 tr:∀ i j k,P i->P j->P k->lt i j=true->lt j k=true->lt i k=true
variable {n:Nat} {p:Array Nat}
noncomputable abbrev at0(p:Array Nat)(i:Nat):Nat:=p.getD i 0
structure epa(P:Nat->Prop)(n:Nat)(p:Array Nat):Prop where
 size:p.size=n
 in_:∀ i,i<n->P (at0 p i)
 ne:∀ i j,i<n->j<n->i≠j->at0 p i≠at0 p j
noncomputable def Asc(lt:Nat->Nat->Bool)(p:Array Nat)(m:Nat):Prop:=∀ a b,a<b->b<m->lt (at0 p a) (at0 p b)=true
noncomputable def Des(lt:Nat->Nat->Bool)(p:Array Nat)(m:Nat):Prop:=∀ a b,a<b->b<m->lt (at0 p b) (at0 p a)=true
theorem fYa{p q:Array Nat}{i j:Nat}(h:p[i]?=q[j]?):at0 p i=at0 q j:=by
 unfold at0;rw [Array.getD_eq_getD_getElem?,Array.getD_eq_getD_getElem?,h]
theorem Asc.up(T:Tot lt P)(G:epa P n p){m:Nat}(h:Asc lt p m)(h1:1≤m)(hm:m<n)(hl:lt (at0 p (m-1)) (at0 p m)=true):Asc lt p (m+1):=by
 intro a b hab hb
 by_cases e:b<m
 ·exact h a b hab e
 ·have:b=m:=by omega
  subst this
  by_cases e2:a=b-1
  ·subst e2;exact hl
  ·exact T.tr _ _ _ (G.in_ a (by omega)) (G.in_ (b-1) (by omega)) (G.in_ b hm) (h a (b-1) (by omega) (by omega)) hl
theorem Des.up(T:Tot lt P)(G:epa P n p){m:Nat}(h:Des lt p m)(h1:1≤m)(hm:m<n)(hl:lt (at0 p m) (at0 p (m-1))=true):Des lt p (m+1):=by
 intro a b hab hb
 by_cases e:b<m
 ·exact h a b hab e
 ·have:b=m:=by omega
  subst this
  by_cases e2:a=b-1
  ·subst e2;exact hl
  ·exact T.tr _ _ _ (G.in_ b hm) (G.in_ (b-1) (by omega)) (G.in_ a (by omega)) hl (h a (b-1) (by omega) (by omega))
theorem kxa(T:Tot lt P)(G:epa P n p):∀ (f a:Nat),1≤a->a+f≤n->Asc lt p a->
 KOk lt P (kas_asc p f a) (fun m=>a≤m∧m≤a+f∧Asc lt p m∧(m=a+f∨lt (at0 p m) (at0 p (m-1))=true)):=by
 intro f
 induction f with
 |zero=>intro a h1 h2 h3;exact⟨Nat.le_refl _,Nat.le_refl _,h3, .inl rfl⟩
 |succ f ih=>
  intro a h1 h2 h3
  refine⟨G.in_ a (by omega),G.in_ (a-1) (by omega), ?_⟩
  cases hl:lt (at0 p a) (at0 p (a-1)) with
  |true=>
   show KOk lt P (if true=true then KasT.ret a else kas_asc p f (a+1)) _
   rw [if_pos rfl]
   exact⟨Nat.le_refl _,by omega,h3, .inr hl⟩
  |false=>
   show KOk lt P (if false=true then KasT.ret a else kas_asc p f (a+1)) _
   rw [if_neg (by simp)]
   have hl2:=T.tot _ _ (G.in_ a (by omega)) (G.in_ (a-1) (by omega)) (G.ne _ _ (by omega) (by omega) (by omega)) hl
   refine KOk.mono ?_ _ (ih (a+1) (by omega) (by omega) (h3.up T G h1 (by omega) hl2))
   rintro m ⟨q1,q2,q3,q4⟩
   exact⟨by omega,by omega,q3,q4.imp (fun e=>by omega) id⟩
theorem lja(T:Tot lt P)(G:epa P n p):∀ (f a:Nat),1≤a->a+f≤n->Des lt p a->
 KOk lt P (kas_desc f p a 0) (fun r=>r.1=p∧r.2.2=0∧a≤r.2.1∧r.2.1≤a+f∧Des lt p r.2.1):=by
 intro f
 induction f with
 |zero=>intro a h1 h2 h3;exact⟨rfl,rfl,Nat.le_refl _,Nat.le_refl _,h3⟩
 |succ f ih=>
  intro a h1 h2 h3
  refine⟨G.in_ a (by omega),G.in_ (a-1) (by omega), ?_⟩
  cases hl:lt (at0 p a) (at0 p (a-1)) with
  |true=>
   show KOk lt P (if true=true then(if(0:Nat)>0 then kas_desc f (kas_rev p (a-(0+1)) a) (a+1) 0 else kas_desc f p (a+1) 0) else _) _
   rw [if_pos rfl,if_neg (by omega)]
   refine KOk.mono ?_ _ (ih (a+1) (by omega) (by omega) (h3.up T G h1 (by omega) hl))
   rintro m ⟨q1,q2,q3,q4,q5⟩
   exact⟨q1,q2,by omega,by omega,q5⟩
  |false=>
   have hl2:=T.tot _ _ (G.in_ a (by omega)) (G.in_ (a-1) (by omega)) (G.ne _ _ (by omega) (by omega) (by omega)) hl
   show KOk lt P (if false=true then _ else KasT.ask (p.getD (a-1) 0) (p.getD a 0) fun d=>if d=true then .ret (p,a,0) else kas_desc f p (a+1) (0+1)) _
   rw [if_neg (by simp)]
   refine⟨G.in_ (a-1) (by omega),G.in_ a (by omega), ?_⟩
   show KOk lt P (if lt (at0 p (a-1)) (at0 p a)=true then .ret (p,a,0) else kas_desc f p (a+1) (0+1)) _
   rw [if_pos hl2]
   exact⟨rfl,rfl,Nat.le_refl _,Nat.le_add_right _ _,h3⟩
theorem fDa(G:epa P n p){m i:Nat}(hm:m≤n):at0 (kas_rev p 0 m) i=if i<m then at0 p (m-1-i) else at0 p i:=by
 have h:=getElem?_mirror_all (xs:=p) (i:=0) (j:=m) (by rw [G.size];exact hm) i
 by_cases hi:i<m
 ·rw [if_pos hi]
  rw [if_pos ⟨Nat.zero_le _,hi⟩] at h
  exact fYa (h.trans (by congr 1;omega))
 ·rw [if_neg hi]
  rw [if_neg (by omega)] at h
  exact fYa h
theorem epa.rev(G:epa P n p){m:Nat}(hm:m≤n):epa P n (kas_rev p 0 m) where
 size:=(kas_rev_size _ _).trans G.size
 in_:=fun i hi=>by rw [fDa G hm];split<;>exact G.in_ _ (by omega)
 ne:=fun i j hi hj hij=>by
  rw [fDa G hm,fDa G hm]
  split<;>split<;>exact G.ne _ _ (by omega) (by omega) (by omega)
theorem Des.rev(G:epa P n p){m:Nat}(hm:m≤n)(h:Des lt p m):Asc lt (kas_rev p 0 m) m:=by
 intro a b hab hb
 rw [fDa G hm,fDa G hm,if_pos (by omega),if_pos hb]
 exact h _ _ (by omega) (by omega)
noncomputable def mva(lt:Nat->Nat->Bool)(P:Nat->Prop)(n:Nat)(r:Nat×Array Nat):Prop:=1≤r.1∧r.1≤n∧epa P n r.2∧Asc lt r.2 r.1
theorem j0a(T:Tot lt P)(G:epa P n p)(h1:1≤n):KOk lt P (kas_count n p) (mva lt P n):=by
 unfold kas_count
 refine KOk.bind _ (KOk.mono ?_ _ (kxa T G (n-1) 1 (Nat.le_refl _) (by omega) (fun a b hab hb=>by omega)))
 rintro m ⟨q1,q2,q3,q4⟩
 have hmn:m≤n:=by omega
 by_cases e:(m==n)=true
 ·rw [if_pos e]
  exact⟨q1,hmn,G,q3⟩
 ·rw [if_neg e]
  have hlt:m<n:=by
   have:m≠n:=fun q=>e (by rw [q];exact beq_self_eq_true _)
   omega
  by_cases e2:m>1
  ·rw [if_pos e2]
   refine⟨G.in_ 0 (by omega),G.in_ (m-1) (by omega), ?_⟩
   show KOk lt P (if lt (at0 p 0) (at0 p (m-1))=true then KasT.ret (m,p) else kas_descPart m n (kas_rev p 0 m)) _
   rw [if_pos (q3 0 (m-1) (by omega) (by omega))]
   exact⟨q1,hmn,G,q3⟩
  ·rw [if_neg e2]
   have em:m=1:=by omega
   subst em
   have hl:lt (at0 p 1) (at0 p 0)=true:=by
    rcases q4 with q4|q4
    ·omega
    ·exact q4
   have hd:Des lt p 2:=fun a b hab hb=>by
    have ha:a=0:=by omega
    have hb':b=1:=by omega
    subst ha hb';exact hl
   unfold kas_descPart
   refine KOk.bind _ (KOk.mono ?_ _ (lja T G (n-(1+1)) (1+1) (by omega) (by omega) hd))
   rintro⟨p',k,q⟩ ⟨rfl,rfl,r1,r2,r3⟩
   dsimp only at r1 r2 r3 ⊢
   rw [if_neg (by omega)]
   unfold kas_tail3
   refine KOk.bind _ (KOk.mono ?_ _ (kxa T (G.rev (by omega)) (n-k) k (by omega) (by omega) (r3.rev G (by omega))))
   rintro m ⟨s1,s2,s3,_⟩
   exact⟨by omega,by omega,G.rev (by omega),s3⟩
theorem jEa(T:Tot lt P)(G:epa P n p){k:Nat}(hk:k<n)(hs:Asc lt p k):∀ (f l r:Nat),l≤r->r≤k->r-l≤f->(∀ i,i<l->lt (at0 p i) (at0 p k)=true)->(∀ i,r≤i->i<k->lt (at0 p k) (at0 p i)=true)->
 KOk lt P (kas_place p k f l r) (fun m=>m≤k∧(∀ i,i<m->lt (at0 p i) (at0 p k)=true)∧(∀ i,m≤i->i<k->lt (at0 p k) (at0 p i)=true)):=by
 intro f
 induction f with
 |zero=>
  intro l r h1 h2 h3 h4 h5
  have:l=r:=by omega
  subst this
  exact⟨h2,h4,h5⟩
 |succ f ih=>
  intro l r h1 h2 h3 h4 h5
  unfold kas_place
  by_cases hlr:l≥r
  ·rw [if_pos hlr]
   have:l=r:=by omega
   subst this
   exact⟨h2,h4,h5⟩
  ·rw [if_neg hlr]
   refine⟨G.in_ k hk,G.in_ _ (by omega), ?_⟩
   generalize hm:(l+r)/2=c
   have hc1:l≤c:=by omega
   have hc2:c<r:=by omega
   cases hl:lt (at0 p k) (at0 p c) with
   |true=>
    dsimp only
    rw [if_pos rfl]
    refine ih l c hc1 (by omega) (by omega) h4 fun i hi1 hi2=> ?_
    by_cases e:i=c
    ·subst e;exact hl
    ·exact T.tr _ _ _ (G.in_ k hk) (G.in_ c (by omega)) (G.in_ i (by omega)) hl (hs c i (by omega) hi2)
   |false=>
    dsimp only
    rw [if_neg (by simp)]
    have hl2:=T.tot _ _ (G.in_ k hk) (G.in_ c (by omega)) (G.ne _ _ hk (by omega) (by omega)) hl
    refine ih (c+1) r (by omega) h2 (by omega) (fun i hi=> ?_) h5
    by_cases e:i=c
    ·subst e;exact hl2
    ·exact T.tr _ _ _ (G.in_ i (by omega)) (G.in_ c (by omega)) (G.in_ k hk) (hs i c (by omega) (by omega)) hl2
theorem fVa(G:epa P n p){k l i:Nat}(hk:k<n)(hl:l≤k):at0 (bubble p k (k-l)) i=if i=l then at0 p k else if l<i∧i≤k then at0 p (i-1) else at0 p i:=by
 have h:=getElem?_bubble (xs:=p) (src:=k) (by rw [G.size];exact hk) (k-l) (by omega) i
 rw [show k-(k-l)=l by omega] at h
 split
 ·rename_i e;rw [if_pos e] at h;exact fYa h
 ·rename_i e
  rw [if_neg e] at h
  split
  ·rename_i e2;rw [if_pos e2] at h;exact fYa h
  ·rename_i e2;rw [if_neg e2] at h;exact fYa h
theorem epa.bub(G:epa P n p){k l:Nat}(hk:k<n)(hl:l≤k):epa P n (bubble p k (k-l)) where
 size:=(bubble_size _ _ _).trans G.size
 in_:=fun i hi=>by
  rw [fVa G hk hl]
  repeat' split
  all_goals exact G.in_ _ (by omega)
 ne:=fun i j hi hj hij=>by
  rw [fVa G hk hl,fVa G hk hl]
  repeat' split
  all_goals first|exact G.ne _ _ (by omega) (by omega) (by omega)|(exfalso;omega)
theorem mma(T:Tot lt P):∀ (f:Nat) (p:Array Nat) (k:Nat),epa P n p->k+f≤n->Asc lt p k->KOk lt P (kas_bin f p k) (fun q=>epa P n q∧Asc lt q (k+f)):=by
 intro f
 induction f with
 |zero=>intro p k G h1 h2;exact⟨G,h2⟩
 |succ f ih=>
  intro p k G h1 h2
  have hk:k<n:=by omega
  unfold kas_bin
  refine KOk.bind _ (KOk.mono ?_ _ (jEa T G hk h2 k 0 k (Nat.zero_le _) (Nat.le_refl _) (by omega) (fun i hi=>by omega) (fun i h3 h4=>by omega)))
  rintro l ⟨r1,r2,r3⟩
  have h4:Asc lt (bubble p k (k-l)) (k+1):=by
   intro a b hab hb
   rw [fVa G hk r1,fVa G hk r1]
   by_cases ea:a=l
   ·rw [if_pos ea,if_neg (by omega),if_pos (by omega)]
    exact r3 _ (by omega) (by omega)
   ·rw [if_neg ea]
    by_cases eb:b=l
    ·rw [if_pos eb,if_neg (by omega)]
     exact r2 _ (by omega)
    ·rw [if_neg eb]
     by_cases ea2:l<a∧a≤k
     ·rw [if_pos ea2,if_pos (by omega)]
      exact h2 _ _ (by omega) (by omega)
     ·rw [if_neg ea2]
      by_cases eb2:l<b∧b≤k
      ·rw [if_pos eb2];exact h2 _ _ (by omega) (by omega)
      ·rw [if_neg eb2];exact h2 _ _ (by omega) (by omega)
  refine KOk.mono ?_ _ (ih _ (k+1) (G.bub hk r1) (by omega) h4)
  rintro q ⟨q1,q2⟩
  exact⟨q1,by rw [show k+(f+1)=k+1+f by omega];exact q2⟩
theorem kSa(T:Tot lt fun i=>i<n)(h1:1≤n):KOk lt (fun i=>i<n) (kas_sort n) (fun q=>epa (fun i=>i<n) n q∧Asc lt q n):=by
 have at_:∀ i,i<n->at0 (List.toArray (List.range n)) i=i:=fun i hi=>by
  unfold at0;simp [Array.getD,hi]
 have G:epa (fun i=>i<n) n (List.toArray (List.range n)):=
  ⟨by simp,fun i hi=>by rw [at_ i hi];exact hi,fun i j hi hj hij=>by rw [at_ i hi,at_ j hj];exact hij⟩
 unfold kas_sort
 refine KOk.bind _ (KOk.mono ?_ _ (j0a T G h1))
 rintro⟨m,p⟩ ⟨q1,q2,q3,q4⟩
 dsimp only at q1 q2 q3 q4 ⊢
 by_cases e:m<n
 ·rw [if_pos e]
  rw [show max m 1=m by omega]
  refine KOk.mono ?_ _ (mma T (n-m) p m q3 (by omega) q4)
  rintro q ⟨r1,r2⟩
  rw [show m+(n-m)=n by omega] at r2
  exact⟨r1,r2⟩
 ·rw [if_neg e]
  have:m=n:=by omega
  subst this
  exact⟨q3,q4⟩
end
theorem iLa{n:Nat}{p:Array Nat}(G:epa (fun i=>i<n) n p):p.toList.Perm (List.range n):=by
 have hl:p.toList.length=n:=by rw [Array.length_toList];exact G.size
 have ge:∀ i (hi:i<n),at0 p i=p.toList[i]'(by omega):=fun i hi=>by
  unfold at0;have:i<p.size:=by rw [G.size];exact hi
  simp [Array.getD,this]
 have nd:p.toList.Nodup:=by
  rw [List.nodup_iff_pairwise_ne,List.pairwise_iff_getElem]
  intro i j hi hj hij e
  refine G.ne i j (by omega) (by omega) (by omega) ?_
  rw [ge i (by omega),ge j (by omega)];exact e
 have sub:∀ x∈p.toList,x<n:=by
  intro x hx
  obtain⟨i,hi,e⟩:=List.mem_iff_getElem.mp hx
  have:=G.in_ i (by omega)
  rw [ge i (by omega),e] at this;exact this
 refine(List.perm_ext_iff_of_nodup nd List.nodup_range).mpr fun x=>⟨fun h=>List.mem_range.mpr (sub x h),fun h=> ?_⟩
 refine Classical.byContradiction fun hx=> ?_
 have hxn:=List.mem_range.mp h
 --n names out of n-1
 have h2:(x::p.toList).Nodup:=List.nodup_cons.mpr ⟨hx,nd⟩
 have h3:=baa h2 (fun y hy=>by rcases lcM hy with rfl|hy;exact hxn;exact sub y hy)
 rw [List.length_cons,hl] at h3;omega
theorem j6a{n:Nat}{lt:Nat->Nat->Bool}{p:Array Nat}(G:epa (fun i=>i<n) n p)(h:Asc lt p n):p.toList.Pairwise fun a b=>lt a b=true:=by
 have ge:∀ i (hi:i<p.toList.length),at0 p i=p.toList[i]:=fun i hi=>by
  unfold at0;have:i<p.size:=by simpa using hi
  simp [Array.getD,this]
 rw [List.pairwise_iff_getElem]
 intro i j hi hj hij
 have hj':j<n:=by rw [<-G.size];simpa using hj
 rw [<-ge i hi,<-ge j hj]
 exact h i j hij hj'
end Mine
namespace Mine
theorem ar13:True:=by
 k_with "ar13" =>with_reducible first|exact mBa ‹_› |exact mFa ‹_›
 trivial
noncomputable def RW(prog:Program)(w:World)(K:Frag)(f:Addr)(vals:List Value)(n:Nat)(pre:Heap->Heap->Prop)(post:Heap->Heap->Heap->Value->Prop):Prop:=
 ∀ (A:Around) (s:Shared) (g:Heap) (Q E:Value->Shared->Prop),i7a K A g->g.StaysIn s.heap->g.objs.size≤s.heap.objs.size->jba A n->pre g s.heap->
   (∀ (h':Heap) (tk':Nat) (r:Value),g.StaysIn h'->post g s.heap h' r->Q r {s with heap:=h',toks:=tk'})->
   wpAny (model prog w) A (call (.ref f) vals) Q E s
theorem hRW{prog:Program}{w:World}{K:Frag}{f:Addr}{vals:List Value}{n:Nat}{pre:Heap->Heap->Prop}{post:Heap->Heap->Heap->Value->Prop}
 (h:∀ (A:Around) (s:Shared) (g:Heap) (Q E:Value->Shared->Prop),i7a K A g->g.StaysIn s.heap->g.objs.size≤s.heap.objs.size->jba A n->pre g s.heap->(∀ (h':Heap) (tk':Nat) (r:Value),g.StaysIn h'->post g s.heap h' r->Q r {s with heap:=h',toks:=tk'})->wpAny (model prog w) A (call (.ref f) vals) Q E s):RW prog w K f vals n pre post:=h
noncomputable def Hid(g h:Heap)(l:List (Addr×Obj)):Prop:=∀ p∈l,h.get? p.1=some p.2∧g.get? p.1=none
theorem Hid.nil{g h:Heap}:Hid g h []:=fun _ hp=>nomatch hp
theorem Hid.sub{g h:Heap}{l l':List (Addr×Obj)}(H:Hid g h l)(hs:∀ p∈l',p∈l):Hid g h l':=fun p hp=>H p (hs p hp)
theorem Hid.app{g h:Heap}{l l':List (Addr×Obj)}(H:Hid g h l)(H':Hid g h l'):Hid g h (l++l'):=fun p hp=>(laM hp).elim (H p) (H' p)
theorem a5a{g h:Heap}{L:Addr}{l:List (Addr×Obj)}(N:News g L h l):Hid g h l:=fun p hp=>⟨(N p hp).1,(N p hp).2.2⟩
section
variable {prog:Program} {w:World} {A:Around} {s:Shared} {g:Heap} {K:Frag}
 {name qual:Str} {params:Arguments} {body:List Stmt} {scope:Scope} {dV kV doc pm cdv ct oc:Value} {an od:Option Addr} {osl:Array (Option Value)} {f:Addr} {vals:List Value} {Q E:Value->Shared->Prop} {n:Nat} {hid:List (Addr×Obj)}
theorem fTa(H:i7a K A g)(hst:g.StaysIn s.heap)(hsz:g.objs.size≤s.heap.objs.size)(hr:jba A (n+1))(hh:Hid g s.heap hid)
 (ho:K.lookup f=some ⟨oc,od, .func (fnOf name qual params body scope dV kV doc pm an cdv ct),osl⟩) (hcd:codeIn K cdv qual=true)
 (hbind:BindsTo s (fnOf name qual params body scope dV kV doc pm an cdv ct) ⟨vals, []⟩ ((params.args.map (·.arg)).zip vals)) (hloc:∀ y∈(params.args.map (·.arg)).zip vals,scope.names.lookup y.1=some .local)
 (h:∀ (A₀:Around) (base:Heap) (outer:List Env) (p:Program) (loose:List Str) (mean:ExcName->Option Value) (mg mb:Str->Option Value) (d u:Nat) (gd:Option (List Code)) (L':Addr) (h₁:Heap) (tk₁:Nat),
   Below A₀ base outer g->K.In g->Top p loose mean mg mb g->Fr g L' h₁ (fun y=>((params.args.map (·.arg)).zip vals).reverse.lookup y)->News g L' h₁ hid->(∀ p∈hid,p.1<L')->d+n<recursionLimit->u+8*n+200<cLine->
   wpAny (model prog w) (dya d (envOf qual scope L' f cdv) outer gd u) (execs body (envOf qual scope L' f cdv))
    (kWa Q) (fun _ _=>False) {s with heap:=h₁,toks:=tk₁})
 (hco:scope.isCoroutine=false) (hgen:scope.isGenerator=false) (hk:scope.kind= .function)
 (hcell:∀ x∈scope.names,x.2≠ .cell):wpAny (model prog w) A (call (.ref f) vals) Q E s:=by
 obtain⟨X,hhd,A₀,base,h₀,outer,env,L,m,p,loose,mean,mg,mb,B,F,T,hA,hf,hke⟩:=H
 have G2:Below A base (env::outer) g:=by
  have G:=groundX (s:= {s with heap:=g}) (R:=fun _ _=>True) (news:= []) B F News.nil hA hf hke
  exact G.2.1
 refine wpAny_call (codeAny_call_def (fd:=fnOf name qual params body scope dV kV doc pm an cdv ct) (body:=body) (binds:=(params.args.map (·.arg)).zip vals) (Nat.lt_of_le_of_lt (Nat.le_add_right _ _) hr.1) (hst _ _ (X _ _ ho)) rfl (T.nolimit.keeps hst) ((codeRec_of X hcd).keeps hst) rfl hbind hcell hloc (fun h₁ hns hk₁=> ?_) hco hgen hk)
 have hd:A.deeper (envOf qual scope s.heap.objs.size f cdv)=dya (A.depth+1) (envOf qual scope s.heap.objs.size f cdv) (env::outer) A.guards (A.units+3):=by
  obtain⟨hd,dp,fr,gs,u⟩:=A
  simp only at hhd hA
  subst hhd hA
  rfl
 have key:=h A base (env::outer) p loose mean mg mb (A.depth+1) (A.units+3) A.guards s.heap.objs.size h₁ (s.toks+((params.args.map (·.arg)).zip vals).length) G2 X T ⟨hns,fun b o e=>hk₁ b o (hst b o e),hsz⟩
  (fun p hp=>⟨hk₁ _ _ (hh p hp).1,Nat.ne_of_lt (Heap.lt_size (hh p hp).1),(hh p hp).2⟩) (fun p hp=>Heap.lt_size (hh p hp).1) (by have:=hr.1;omega) (by have:=hr.2;omega)
 rw [<-hd] at key
 exact wpAny_mono key (fun _ _ q=>q) fun _ _ q=>q.elim
theorem eVa(H:i7a K A g)(hst:g.StaysIn s.heap)(hsz:g.objs.size≤s.heap.objs.size)(hr:jba A (n+1))(hh:Hid g s.heap hid)
 (ho:K.lookup f=some ⟨oc,od, .func (fnOf name qual params body scope dV kV doc pm an cdv ct),osl⟩) (hcd:codeIn K cdv qual=true)
 (hbind:BindsTo s (fnOf name qual params body scope dV kV doc pm an cdv ct) ⟨vals, []⟩ ((params.args.map (·.arg)).zip vals)) (hkind:(((params.args.map (·.arg)).zip vals).all fun y=>scope.names.lookup y.1==some .local||scope.names.lookup y.1==some .cell)=true)
 (hnd:((cellsFrom 0 scope.names []).map (·.1)).Nodup)
 (h:∀ (A₀:Around) (base:Heap) (outer:List Env) (p:Program) (loose:List Str) (mean:ExcName->Option Value) (mg mb:Str->Option Value) (d u:Nat) (gd:Option (List Code)) (L':Addr) (h₁:Heap) (tk₁:Nat) (cells:List (Addr×Obj)),
   Below A₀ base outer g->K.In g->Top p loose mean mg mb g->Fr g L' h₁ (bindL (envOfC qual scope L' f cdv).kindOf ((params.args.map (·.arg)).zip vals) fun _=>none)->News g L' h₁ (cells++hid)->(∀ p∈hid,p.1<L')->
   CellsAre (bindC (envOfC qual scope L' f cdv).kindOf ((params.args.map (·.arg)).zip vals) fun _=>none) (cellsFrom (L'+1) scope.names []) cells->d+n<recursionLimit->u+8*n+200<cLine->
   wpAny (model prog w) (dya d (envOfC qual scope L' f cdv) outer gd u) (execs body (envOfC qual scope L' f cdv))
    (kWa Q) (fun _ _=>False) {s with heap:=h₁,toks:=tk₁})
 (hco:scope.isCoroutine=false) (hgen:scope.isGenerator=false) (hk:scope.kind= .function):wpAny (model prog w) A (call (.ref f) vals) Q E s:=by
 obtain⟨X,hhd,A₀,base,h₀,outer,env,L,m,p,loose,mean,mg,mb,B,F,T,hA,hf,hke⟩:=H
 have G2:Below A base (env::outer) g:=by
  have G:=groundX (s:= {s with heap:=g}) (R:=fun _ _=>True) (news:= []) B F News.nil hA hf hke
  exact G.2.1
 refine wpAny_call (codeAny_call_function (Nat.lt_of_le_of_lt (Nat.le_add_right _ _) hr.1) (hst _ _ (X _ _ ho)) rfl hco hgen rfl ((codeRec_of X hcd).keeps hst) (hbind _ _ _ _ ?_))
 refine wpAny_newFunctionEnv_cells hk (kindsX hkind _) fun env' he s' x=> ?_
 subst he
 refine⟨(T.nolimit.keeps hst).keeps x.toInCall.keep,codeAny_func ?_⟩
 obtain⟨h₁,tk,rfl,_⟩:=x.done
 have hk₁:=x.toInCall.keep
 obtain⟨cells,NC,Y⟩:=Cl.news (h₀:=s.heap) (Nat.le_refl _) fun n c hm=>⟨x.cell n c (lookup_of_mem_nodup (cellsFrom_names scope.names 0 (s.heap.objs.size+1) [] [] rfl▸hnd) hm),x.above n c hm⟩
 have hd:A.deeper (envOfC qual scope s.heap.objs.size f cdv)=dya (A.depth+1) (envOfC qual scope s.heap.objs.size f cdv) (env::outer) A.guards (A.units+3):=by
  obtain⟨hd,dp,fr,gs,u⟩:=A
  simp only at hhd hA
  subst hhd hA
  rfl
 have key:=h A base (env::outer) p loose mean mg mb (A.depth+1) (A.units+3) A.guards s.heap.objs.size h₁ tk cells G2 X T ⟨x.toInCall.ns,fun b o e=>hk₁ b o (hst b o e),hsz⟩ (fun p hp=>by
  rcases laM hp with hp|hp
  ·refine⟨(NC p hp).1,(NC p hp).2.1, ?_⟩
   cases q:g.get? p.1 with
   |none=>rfl
   |some o=>have:=hst _ _ q;rw [(NC p hp).2.2] at this;cases this
  ·exact⟨hk₁ _ _ (hh p hp).1,Nat.ne_of_lt (Heap.lt_size (hh p hp).1),(hh p hp).2⟩) (fun p hp=>Heap.lt_size (hh p hp).1) Y (by have:=hr.1;omega) (by have:=hr.2;omega)
 rw [<-hd] at key
 exact wpAny_mono key (fun _ _ q=>q) fun _ _ q=>q.elim
end
section
variable {prog:Program} {w:World} {K:Frag} {A₀:Around} {base g:Heap} {outer:List Env} {p:Program} {loose:List Str} {mean:ExcName->Option Value} {mg mb:Str->Option Value} {d u:Nat} {gd:Option (List Code)} {L:Addr} {m:Str->Option Value} {env:Env}
 {f:Addr} {vals:List Value} {n k:Nat} {pre:Heap->Heap->Prop} {post:Heap->Heap->Heap->Value->Prop} {s:Shared} {Q E:Value->Shared->Prop} {news:List (Addr×Obj)}
theorem bra(S:RW prog w K f vals n pre post)(B:Below A₀ base outer g)(X:K.In g)(T:Top p loose mean mg mb g)(F:Fr g L s.heap m)(N:News g L s.heap news)(hd:d+n<recursionLimit)(hu:u+8*n+200<cLine)
 (hid rest:List (Addr×Obj)) (h1:∀ p∈hid,p∈news) (h2:∀ p∈rest,p∈news) (h3:∀ p∈rest,∀ q∈hid, @Ne Nat p.1 q.1)
 (hp:∀ g',g.StaysIn g'->Hid g' s.heap hid->(∀ p∈rest,g'.get? p.1=some p.2)->g'.StaysIn s.heap->pre g' s.heap)
 (h:∀ (g' h':Heap) (tk':Nat) (r:Value),Fr g L h' m->News g L h' rest->g.StaysIn g'->(∀ l,Hid g' h' l->News g L h' l)->(∀ p∈rest,g'.get? p.1=some p.2)->post g' s.heap h' r->Q r {s with heap:=h',toks:=tk'})
 (hf:env.frame=some L) (hk:env.scope.kind= .function):
 wpAny (model prog w) (dya d env outer gd u) (call (.ref f) vals) Q E s:=by
 have Nh:News g L s.heap hid:=fun q hq=>N q (h1 q hq)
 have G:=groundX (R:=fun _ _=>True) (A:=dya d env outer gd u) B F Nh rfl hf hk
 obtain⟨FG,BG,st,_⟩:=G
 have stS:(hideAll s.heap (hid.map (·.1))).StaysIn s.heap:=fun b o e=>of_hideAll _ e
 have kp:∀ q∈rest,(hideAll s.heap (hid.map (·.1))).get? q.1=some q.2:=fun q hq=>hideAll_get _ (N q (h2 q hq)).1 fun hm=>by
  obtain⟨x,hx,e⟩:=List.mem_map.mp hm
  exact h3 q hq x hx e.symm
 have hH:Hid (hideAll s.heap (hid.map (·.1))) s.heap hid:=fun q hq=>⟨(Nh q hq).1,hideAll_none _ (List.mem_map_of_mem hq)⟩
 refine S _ s (hideAll s.heap (hid.map (·.1))) Q E ⟨X.keeps (fun b o e=>st b o e),rfl,A₀,base,g,outer,env,L,m,p,loose,mean,mg,mb,B,FG,T.keeps (fun b o e=>st b o e),rfl,hf,hk⟩ stS (Nat.le_of_eq (hideAll_size _ _)) ⟨hd,hu⟩ (hp _ st hH kp stS) fun h' tk' r st' q=> ?_
 have F':Fr g L h' m:=⟨FG.ns.keeps st',fun b o e=>st' b o (st b o e),FG.above⟩
 refine h _ h' tk' r F' (fun q hq=>⟨st' _ _ (kp q hq),(N q (h2 q hq)).2⟩) st (fun l hl q hq=>⟨(hl q hq).1,fun e=> ?_, ?_⟩) kp q
 ·obtain⟨oL,_,_,hL,_⟩:=FG.ns
  have:=(hl q hq).2
  rw [e,hL] at this;cases this
 ·cases e:g.get? q.1 with
  |none=>rfl
  |some o=>have:=st _ _ e;rw [(hl q hq).2] at this;cases this
end
inductive f5a(P:Addr)(line col:Nat)(qual:Str):List (Addr×Obj)->Prop
 |fresh:f5a P line col qual [(P,tabObj #[])]
 |made {c':Addr} {oc:Obj} {vs:Array Value} {t:Tok}:oc.data= .fields vs->vs[1]?=some (.str qual t)-> @Ne Nat c' P->f5a P line col qual [(P,tabObj #[rawInt line,rawInt col, .ref c']),(c',oc)]
end Mine
namespace Mine
theorem ar14:True:=by
 k_with "ar14" =>with_reducible first|((show _<_);first|exact zq1 ‹_› ‹_› |exact fva ‹_› ‹_› |exact jga ‹_› ‹_› |exact qFa ‹_› ‹_› |exact r0a ‹_› ‹_› ‹_› |exact sda ‹_› |exact oTa ‹_› ‹_› |exact lRa ‹_›)|((show _≤_);first|exact rYa ‹_› ‹_› |exact pka ‹_› ‹_› |exact rLa ‹_› |exact zq0 ‹_›)|((show _=_);first|exact oUa ‹_› |exact o2a ‹_› |exact pLa ‹_› ‹_› |exact oPa ‹_› |exact qMa ‹_›)|exact(qBa ‹_› ‹_› ‹_›).elim|exact(paa ‹_›).elim|exact(kza ‹_› ‹_›).elim|exact(pRa ‹_› ‹_›).elim|exact(o7a ‹_› ‹_›).elim
 trivial
theorem fKa:∀ {a b:List Nat},a≠b->a7a a b=false->a7a b a=true
 | [], [],h,_=>absurd rfl h
 | [],_::_,_,h=>by cases h
 |_::_, [],_,_=>rfl
 |a::as,b::bs,hn,h=>by
  simp only [a7a] at h ⊢
  by_cases e:a=b
  ·rw [if_pos e] at h;rw [if_pos e.symm]
   exact fKa (fun q=>hn (by rw [e,q])) h
  ·rw [if_neg e] at h;rw [if_neg (Ne.symm e)]
   simp only [decide_eq_true_eq,decide_eq_false_iff_not] at h ⊢;omega
theorem fJa:∀ {a b c:List Nat},a7a a b=true->a7a b c=true->a7a a c=true
 | [], [],_,h,_=>by cases h
 | [],_::_, [],_,h=>by cases h
 | [],_::_,_::_,_,_=>rfl
 |_::_, [],_,h,_=>by cases h
 |_::_,_::_, [],_,h=>by cases h
 |a::as,b::bs,c::cs,h1,h2=>by
  simp only [a7a] at h1 h2 ⊢
  by_cases e1:a=b
  ·subst e1
   rw [if_pos rfl] at h1
   by_cases e2:a=c
   ·subst e2;rw [if_pos rfl] at h2 ⊢;exact fJa h1 h2
   ·rw [if_neg e2] at h2 ⊢;exact h2
  ·rw [if_neg e1] at h1
   by_cases e2:b=c
   ·subst e2;rw [if_neg e1];exact h1
   ·rw [if_neg e2] at h2
    simp only [decide_eq_true_eq] at h1 h2
    rw [if_neg (by omega)]
    simp only [decide_eq_true_eq];omega
section
variable {prog:Program} {w:World} {A:Around} {E:Value->Shared->Prop} {s:Shared}
theorem hCa{Q:Bool->Shared->Prop}{a:List Nat}:∀ {xs ys:List Value} {b:List Nat} (i:Nat) (fin:Bool),NV xs a->NV ys b->(∀ k,a.length=k+b.length->fin=false)->(∀ k,b.length=k+1+a.length->fin=true)->Q (a7a a b) s->
 KatLex prog w A true fin Q (xs.zip ys) i s:=by
 induction a with
 |nil=>
  intro xs ys b i fin hx hy h1 h2 hq
  cases hx
  cases b with
  |nil=>
   have:fin=false:=h1 0 rfl
   subst this;exact hq
  |cons b bs=>
   have:fin=true:=h2 bs.length (by simp)
   subst this;exact hq
 |cons a as ih=>
  intro xs ys b i fin hx hy h1 h2 hq
  cases hx with
  |cons _ t r=>
  cases b with
  |nil=>
   cases hy
   have:fin=false:=h1 (as.length+1) (by simp)
   subst this;exact hq
  |cons b bs=>
   cases hy with
   |cons _ u q=>
   rw [List.zip_cons_cons]
   refine kat_cons (wpAny_eqBool_int ?_)
   have e:((Int.ofNat a:Int)==(Int.ofNat b:Int))=decide (a=b):=by
    by_cases hab:a=b
    ·subst hab;simp
    ·simp [hab];omega
   rw [e]
   by_cases hab:a=b
   ·subst hab
    rw [decide_eq_true rfl]
    refine kat_yes (ih (i+1) fin r q (fun k hk=>h1 k (by simp;omega)) (fun k hk=>h2 k (by simp;omega)) ?_)
    simp only [a7a,if_true] at hq;exact hq
   ·rw [decide_eq_false hab]
    refine kat_no ?_
    simp only [a7a,if_neg hab] at hq
    have e2:decide ((Int.ofNat a:Int)<(Int.ofNat b:Int))=decide (a<b):=decide_eq_decide.mpr Int.ofNat_lt
    cases hi:(i==0) with
    |true=>exact oneLt_int (by rw [e2];exact hq)
    |false=>
     refine kat_one _ _ (PyProof.Rows.lt_int ?_)
     rw [e2];exact hq
theorem gua{l:List Nat}{a b:Nat}(ha:a∈l)(hb:b∈l)(h:l.idxOf a=l.idxOf b):a=b:=by
 have p1:=List.getElem_idxOf (List.idxOf_lt_length_of_mem ha)
 have p2:=List.getElem_idxOf (List.idxOf_lt_length_of_mem hb)
 rw [<-p1,<-p2]
 congr 1
noncomputable def KV(news:List (Addr×Obj))(ky:Nat->List Nat):List Nat->List Value->Prop
 | [], []=>True
 |n::ns,v::vs=>(∃ t us,v= .ref t∧(t,aea (List.toArray us))∈news∧NV us (ky n))∧KV news ky ns vs
 |_,_=>False
theorem KV.length{news:List (Addr×Obj)}{ky:Nat->List Nat}:∀ {ns:List Nat} {vs:List Value},KV news ky ns vs->vs.length=ns.length
 | [], [],_=>rfl
 | [],_::_,h=>h.elim
 |_::_, [],h=>h.elim
 |_::_,_::_,h=>by simp [KV.length h.2]
theorem KV.get{news:List (Addr×Obj)}{ky:Nat->List Nat}:∀ {ns:List Nat} {vs:List Value} {i n:Nat},KV news ky ns vs->ns[i]?=some n->∃ t us,vs[i]?=some (.ref t)∧(t,aea (List.toArray us))∈news∧NV us (ky n)
 | [],_,_,_,_,h=>by simp at h
 |_::_, [],_,_,h,_=>h.elim
 |n::ns,v::vs,0,m,h,e=>by
  simp at e;subst e
  obtain⟨⟨t,us,rfl,hm,hu⟩,_⟩:=h
  exact⟨t,us,rfl,hm,hu⟩
 |n::ns,v::vs,i+1,m,h,e=>by
  have e':ns[i]?=some m:=by simpa using e
  obtain⟨t,us,h1,h2⟩:=KV.get h.2 e'
  exact⟨t,us,by simpa using h1,h2⟩
theorem KV.snoc{news:List (Addr×Obj)}{ky:Nat->List Nat}:∀ {ns:List Nat} {vs:List Value} {n:Nat} {v:Value},KV news ky ns vs->(∃ t us,v= .ref t∧(t,aea (List.toArray us))∈news∧NV us (ky n))->KV news ky (ns++ [n]) (vs++ [v])
 | [], [],_,_,_,h=>⟨h,trivial⟩
 | [],_::_,_,_,h,_=>h.elim
 |_::_, [],_,_,h,_=>h.elim
 |_::_,_::_,_,_,h,h'=>⟨h.1,KV.snoc h.2 h'⟩
theorem KV.more{news news':List (Addr×Obj)}{ky:Nat->List Nat}(hs:∀ p∈news,p∈news'):∀ {ns:List Nat} {vs:List Value},KV news ky ns vs->KV news' ky ns vs
 | [], [],_=>trivial
 | [],_::_,h=>h.elim
 |_::_, [],h=>h.elim
 |_::_,_::_,h=>⟨let ⟨t,us,e,hm,hu⟩:=h.1;⟨t,us,e,hs _ hm,hu⟩,KV.more hs h.2⟩
theorem ixa{h₀:Heap}{L:Addr}{h:Heap}{news:List (Addr×Obj)}{ky:Nat->List Nat}(N:News h₀ L h news)(hne:∀ n,ky n≠ []):∀ {ns:List Nat} {vs:List Value},KV news ky ns vs->∃ fs,KatTups h vs fs∧fs.length=ns.length∧∀ f∈fs,∃ n t,f= .int n t
 | [], [],_=>⟨[],trivial,rfl,fun _ hf=>nomatch hf⟩
 | [],_::_,h=>h.elim
 |_::_, [],h=>h.elim
 |n::ns,v::vs,h=>by
  obtain⟨⟨t,us,rfl,hm,hu⟩,h2⟩:=h
  obtain⟨fs,h3,h4,h5⟩:=ixa N hne h2
  have hk:=hne n
  cases hkk:ky n with
  |nil=>exact absurd hkk hk
  |cons a r=>
   rw [hkk] at hu
   obtain⟨ta,us',rfl,_⟩:=NV.head hu
   refine⟨.int a ta::fs,KatTups.cons (N _ hm).1 rfl rfl rfl h3,by simp [h4],fun f hf=> ?_⟩
   rcases lcM hf with rfl|hf
   ·exact⟨_,_,rfl⟩
   ·exact h5 f hf
end
section
variable {prog:Program} {w:World} {A:Around} {E:Value->Shared->Prop} {s:Shared} {h₀:Heap} {L a kS:Addr} {m:Str->Option Value} {news:List (Addr×Obj)} {vs ks:List Value} {ns:List Nat} {ky:Nat->List Nat}
theorem kQa{G:Array Nat->Shared->Prop}{h1:Heap}{tk1:Nat}(N:News h₀ L h1 news)(hv:KV news ky ns ks)(hinj:∀ x∈ns,∀ y∈ns,x≠y->ky x≠ky y)(hnd:ns.Nodup)(hn:1≤ns.length)
 (hG:∀ p:Array Nat,p.toList.Perm (List.range ns.length)->p.toList.Pairwise (fun i j=>a7a (ky (ns.getD i 0)) (ky (ns.getD j 0))=true)->G p {s with heap:=h1,toks:=tk1}):
 (kas_sort ns.length).kasWp (kas_ask prog w A (tuples' true) ks) G {s with heap:=h1,toks:=tk1}:=by
 let lt:Nat->Nat->Bool:=fun i j=>a7a (ky (ns.getD i 0)) (ky (ns.getD j 0))
 have gd:∀ i,i<ns.length->ns[i]?=some (ns.getD i 0):=fun i hi=>by simp [hi]
 have mem:∀ i,i<ns.length->ns.getD i 0∈ns:=fun i hi=>List.mem_of_getElem? (gd i hi)
 have T:Tot lt (fun i=>i<ns.length):=by
  refine⟨fun i j hi hj hij h=> ?_,fun i j k _ _ _ h1 h2=>fJa h1 h2⟩
  refine fKa (hinj _ (mem i hi) _ (mem j hj) fun e=>hij ?_) h
  have e1:=gd i hi
  have e2:=gd j hj
  rw [e,<-e2] at e1
  exact(List.getElem?_inj hi hnd).mp e1
 refine KOk.go (lt:=lt) (P:=fun i=>i<ns.length) (Inv:=fun s'=>s'= {s with heap:=h1,toks:=tk1}) ?_ ?_ _ _ rfl (kSa T hn)
 ·rintro i j C s' hi hj rfl hC
  obtain⟨t1,u1,e1,m1,v1⟩:=hv.get (gd i hi)
  obtain⟨t2,u2,e2,m2,v2⟩:=hv.get (gd j hj)
  unfold kas_ask
  have g1:ks.getD i Value.none= .ref t1:=by rw [List.getD_eq_getElem?_getD,e1];rfl
  have g2:ks.getD j Value.none= .ref t2:=by rw [List.getD_eq_getElem?_getD,e2];rfl
  rw [g1,g2]
  refine kat_lt (N _ m1).1 rfl (N _ m2).1 rfl ?_
  have l1:=v1.len
  have l2:=v2.len
  refine hCa 0 _ (by simpa using v1) (by simpa using v2) (fun k hk=> ?_) (fun k hk=> ?_) (hC _ rfl)
  ·simp only [List.size_toArray,decide_eq_false_iff_not];omega
  ·simp only [List.size_toArray,decide_eq_true_eq];omega
 ·rintro p s' rfl ⟨g1,g2⟩
  exact hG p (iLa g1) (j6a g1 g2)
theorem kRa {e e1:Nat} {P:PySem.Fin->Shared->Prop} (F:Fr h₀ L s.heap m) (N:News h₀ L s.heap ((kS,seqObj "list" (List.toArray ks) e)::(a,seqObj "list" #[] e1)::news)) (hka: @Ne Nat kS a) (hnk:∀ p∈news,p.1≠kS) (hna:∀ p∈news,p.1≠a)
 (hv:KV news ky ns ks) (hi:NV vs ns) (hne:∀ n,ky n≠ []) (hinj:∀ x∈ns,∀ y∈ns,x≠y->ky x≠ky y) (hnd:ns.Nodup) (h64:ns.length<64)
 (h:∀ h' tk out ns' c,Fr h₀ L h' m->News h₀ L h' ((a,listOf (List.toArray out) c)::news)->NV out ns'->ns'.Perm ns->ns'.Pairwise (fun x y=>a7a (ky x) (ky y)=true)->P (.done (.ret .none)) {s with heap:=h',toks:=tk}):
 wpAny (model prog w) A (ksk_end a false vs.toArray e1 (.ref kS) (List.toArray ks)) P E s:=by
 have hkl:=hv.length
 have hvl:=hi.len
 have hl:ks.length=vs.length:=by omega
 have Nn:News h₀ L s.heap news:=fun p hp=>N p (.tail _ (.tail _ hp))
 have fin:∀ (out:List Value) (ns':List Nat) (tk:Nat),NV out ns'->ns'.Perm ns->ns'.Pairwise (fun x y=>a7a (ky x) (ky y)=true)->KatFin h₀ L m kS a ks e e1 out (fun s'=>P (.done (.ret .none)) s') {s with toks:=tk}:=by
  intro out ns' tk ho hp hs
  refine KatFin.intro F N (UpdF.head ?_) fun h' c F' N'=>KasFin.intro F' N' (UpdF.tail ?_ (UpdF.head ?_)) fun h2 c2 F2 N2=>h h2 tk out ns' c2 F2 (fun p hp=>N2 p (.tail _ hp)) ho hp hs
  ·intro p hp
   rcases lcM hp with rfl|hp
   ·exact fun q=>hka q.symm
   ·exact hnk p hp
  ·exact hka
  ·exact hna
 by_cases h2:2≤vs.length
 ·refine kat_end (h₀:=h₀) (L:=L) (m:=m) (e:=e) hl h2 (by omega) ?_
  obtain⟨fs,t1,t2,t3⟩:=ixa N (news:=(kS,seqObj "list" (List.toArray ks) e)::(a,seqObj "list" #[] e1)::news) hne (hv.more fun p hp=> .tail _ (.tail _ hp))
  refine kat_kind (T:= .type "int") t1 (by omega) (fun v hv=>by obtain⟨n,t,rfl⟩:=t3 v hv;exact Looks.of_pure rfl) (by rfl) ?_
  have e2:((Value.type "int" :Value) !=Value.type "tuple")=true:=by decide
  rw [e2]
  show(kas_sort vs.length).kasWp (kas_ask prog w A (tuples' true) ks) _ s
  rw [hvl]
  refine kQa (s:=s) (h1:=s.heap) (tk1:=s.toks) Nn hv hinj hnd (by omega) fun p hp hs=> ?_
  show KatFin h₀ L m kS a ks e e1 (p.toList.map fun i=>vs.getD i Value.none) _ _
  refine fin _ (p.toList.map fun i=>ns.getD i 0) s.toks ?_ ?_ ?_
  ·have sub:∀ i∈p.toList,i<ns.length:=fun i hi=>List.mem_range.mp (hp.mem_iff.mp hi)
   generalize p.toList=l at sub
   induction l with
   |nil=>exact .nil
   |cons i l ih=>
    have hin:=sub i (.head _)
    obtain⟨t,ht⟩:=hi.get' (i:=i) (n:=ns.getD i 0) (by simp [hin])
    have:vs.getD i Value.none= .int (ns.getD i 0:Nat) t:=by rw [List.getD_eq_getElem?_getD,ht];rfl
    show NV (vs.getD i Value.none::_) (ns.getD i 0::_)
    rw [this]
    exact .cons _ _ (ih fun j hj=>sub j (.tail _ hj))
  ·refine(hp.map _).trans ?_
   have:(List.range ns.length).map (fun i=>ns.getD i 0)=ns:=by
    apply List.ext_getElem
    ·simp
    ·intro i h1 h2
     simp at h1
     simp [h1]
   rw [this]
  ·rw [List.pairwise_map];exact hs
 ·unfold ksk_end
  try dsimp only
  simp only [Bool.false_eq_true,if_false]
  have hn2:vs.toArray.size<2:=by rw [List.size_toArray];omega
  rw [if_pos hn2,if_pos hn2]
  refine wpAny_bind (wpAny_pure (wpAny_bind (wpAny_pure ?_)))
  refine kat_tail (h₀:=h₀) (L:=L) (m:=m) (e:=e) (ks:=ks) (b:=false) (out:=vs) ?_ (by omega) (by omega) rfl ?_
  ·apply Array.toList_inj.mp
   show(((List.toArray ks).zip vs.toArray).map (·.2)).toList=vs
   rw [Array.toList_map,ksk_zip]
   exact List.map_snd_zip (by simp;omega)
  ·refine fin vs ns s.toks hi (List.Perm.refl _) ?_
   have:ns.length<2:=by omega
   match ns,this with
   | [],_=>exact List.Pairwise.nil
   | [x],_=>exact List.pairwise_singleton _ _
   |_::_::_,h=>(simp at h;omega)
theorem jxa{f:Value}{Fin:List Value->Nat->Shared->Prop}{e₀:Nat}{xs:List Value}
 (hf:∀ (i n:Nat) (v:Value) (t:Tok) (s₁:Shared) (nw:List (Addr×Obj)) (Q:Value->Shared->Prop),ns[i]?=some n->xs[i]?=some v->(∃ h tk,s₁= {s with heap:=h,toks:=tk})->(∀ p∈news,p∈nw)->Fr h₀ L s₁.heap m->News h₀ L s₁.heap nw->
   (∀ h' tk',Fr h₀ L h' m->News h₀ L h' nw->Q v {s with heap:=h',toks:=tk'})->wpAny (model prog w) A (call f [.int (n:Nat) t]) Q (fun _ _=>False) s₁)
 (hxs:xs.length=ns.length) (hka: @Ne Nat kS a) (hnk:∀ p∈news,p.1≠kS):
 ∀ (k:Nat) (vs':List Value) (e:Nat) (h:Heap) (tk:Nat),NV vs' (ns.drop k)->k≤ns.length->Fr h₀ L h m->News h₀ L h ((kS,seqObj "list" (List.toArray (xs.take k)) e)::(a,seqObj "list" #[] e₀)::news)->
   (∀ e' h' tk',Fr h₀ L h' m->News h₀ L h' ((kS,seqObj "list" (List.toArray xs) e')::(a,seqObj "list" #[] e₀)::news)->Fin xs e' {s with heap:=h',toks:=tk'})->
   KatKeys prog w A h₀ L m kS f Fin vs' (xs.take k) e {s with heap:=h,toks:=tk}:=by
 have key:∀ (j k:Nat) (vs':List Value) (e:Nat) (h:Heap) (tk:Nat),k+j=ns.length->NV vs' (ns.drop k)->Fr h₀ L h m->News h₀ L h ((kS,seqObj "list" (List.toArray (xs.take k)) e)::(a,seqObj "list" #[] e₀)::news)->
  (∀ e' h' tk',Fr h₀ L h' m->News h₀ L h' ((kS,seqObj "list" (List.toArray xs) e')::(a,seqObj "list" #[] e₀)::news)->Fin xs e' {s with heap:=h',toks:=tk'})->
  KatKeys prog w A h₀ L m kS f Fin vs' (xs.take k) e {s with heap:=h,toks:=tk}:=by
  intro j
  induction j with
  |zero=>
   intro k vs' e h tk hk hv F N fin
   have e1:k=ns.length:=by omega
   subst e1
   rw [List.drop_length] at hv
   cases hv
   have e2:xs.take ns.length=xs:=by rw [<-hxs,List.take_length]
   rw [e2] at N ⊢
   exact KatKeys.nil (fin e h tk F N)
  |succ j ih=>
   intro k vs' e h tk hk hv F N fin
   have hkl:k<ns.length:=by omega
   rw [List.drop_eq_getElem_cons hkl] at hv
   cases hv with
   |cons _ t r=>
   have hx:xs[k]?=some (xs[k]'(by omega)):=by simp [hxs,hkl]
   refine KatKeys.cons (hf k ns[k] _ t _ _ _ (by simp [hkl]) hx ⟨h,tk,rfl⟩ (fun p hp=> .tail _ (.tail _ hp)) F N fun h' tk' F' N'=> ?_)
   have et:xs.take k++ [xs[k]'(by omega)]=xs.take (k+1):=by rw [List.take_add_one,hx];rfl
   refine KatBack.intro F' N' (UpdF.head ?_) fun h2 c2 F2 N2=> ?_
   ·intro p hp
    rcases lcM hp with rfl|hp
    ·exact fun q=>hka q.symm
    ·exact hnk p hp
   ·rw [et] at N2 ⊢
    exact ih (k+1) _ c2 h2 tk' (by omega) r F2 N2 fin
 intro k vs' e h tk hv hk
 exact key (ns.length-k) k vs' e h tk (by omega) hv
theorem jwa {f:Value} {e1:Nat} {P:PySem.Fin->Shared->Prop} (hk:s.heap.get? kS=some (seqObj "list" #[] 0)) (h64:vs.length<64)
 (h:KatKeys prog w A h₀ L m kS f (fun ks e s'=>wpAny (model prog w) A (ksk_end a false vs.toArray e1 (.ref kS) (List.toArray ks)) P E s') vs [] 0 s):
 wpAny (model prog w) A (ksk_rest a f false vs.toArray e1 (.ref kS)) P E s:=by
 unfold ksk_rest
 refine wpAny_bind (wpAny_rule ?_)
 first
  |rw [List.forIn_toArray]
  |(rw [<-Array.forIn_toList];simp only [List.toList_toArray])
  |rw [<-Array.forIn_toList]
 refine wpAny_bind (wpAny_mono (kat_fold h64 (fun x ks e s' C hz hx=> ?_) vs [] 0 s (by simp) hk h) (fun _ s' hd=> ?_) fun _ _ x=>x)
 ·refine wpAny_bind (wpAny_attempt (wpAny_mono hx (fun k s'' hk=> ?_) fun _ _ hF=>hF.elim))
  obtain⟨news',g,F',N',U,c⟩:=hk
  obtain⟨pre,post,e0,hg,x1,x2⟩:=U.split
  rw [e0] at N'
  have nk:=N' (kS,seqObj "list" (List.toArray ks) e) (laG _ (.head _))
  have s1:=Heap.SameBut.update s''.heap kS (Obj.mapSeq (·.push k))
  have ea:(List.toArray ks).push k=List.toArray (ks++ [k]):=by simp
  obtain⟨c2,hc2⟩:∃ c2,(s''.heap.update kS (Obj.mapSeq (·.push k))).get? kS=some (seqObj "list" (List.toArray (ks++ [k])) c2):=⟨_,by rw [<-ea];exact get?_update_seq nk.1 (·.push k)⟩
  try dsimp only
  refine wpAny_bind (listUpdate_at nk.1 rfl ?_ (by rw [List.size_toArray,sizeLine_eq];omega) (Nat.le_trans (Nat.le_of_eq (Array.size_push ..)) (by rw [List.size_toArray,sizeLine_eq];omega)))
  exact wpAny_pure ⟨rfl,k,c2,hc2,c _ c2 (kas_fr F' s1 nk.2.1 nk.2.2) (by rw [hg];exact news_set N' x1 x2 s1 hc2)⟩
 ·obtain⟨ks,e,hk',hl,fin⟩:=hd
  try dsimp only
  refine wpAny_bind (listItems_at hk' rfl ?_)
  exact fin
theorem jva {f:Value} {n:Nat} {P:PySem.Fin->Shared->Prop} {xs:List Value} (F:Fr h₀ L s.heap m) (N:News h₀ L s.heap news) (ho:s.heap.get? a=some (seqObj "list" vs.toArray n)) (haL:a≠L) (ha0:h₀.get? a=none) (hna:∀ p∈news,p.1≠a)
 (hv:KV news ky ns xs) (hi:NV vs ns) (hne:∀ n,ky n≠ []) (hinj:∀ x∈ns,∀ y∈ns,x≠y->ky x≠ky y) (hnd:ns.Nodup) (h64:ns.length<64)
 (hf:∀ (i n:Nat) (v:Value) (t:Tok) (s₁:Shared) (nw:List (Addr×Obj)) (Q:Value->Shared->Prop),ns[i]?=some n->xs[i]?=some v->(∃ h tk,s₁= {s with heap:=h,toks:=tk})->(∀ p∈news,p∈nw)->Fr h₀ L s₁.heap m->News h₀ L s₁.heap nw->
   (∀ h' tk',Fr h₀ L h' m->News h₀ L h' nw->Q v {s with heap:=h',toks:=tk'})->wpAny (model prog w) A (call f [.int (n:Nat) t]) Q (fun _ _=>False) s₁)
 (h:∀ h' tk out ns' c,Fr h₀ L h' m->News h₀ L h' ((a,listOf (List.toArray out) c)::news)->NV out ns'->ns'.Perm ns->ns'.Pairwise (fun x y=>a7a (ky x) (ky y)=true)->P (.done (.ret .none)) {s with heap:=h',toks:=tk}):
 wpAny (model prog w) A (ksk_tree a f false) P E s:=by
 have ha:a<s.heap.objs.size:=Heap.lt_size ho
 have hvl:=hi.len
 have s1:=Heap.SameBut.update s.heap a (Obj.mapSeq fun _=>(#[]:Array Value))
 obtain⟨e1,ho1⟩:∃ e1,(s.heap.update a (Obj.mapSeq fun _=>(#[]:Array Value))).get? a=some (seqObj "list" #[] e1):=⟨_,get?_update_seq ho fun _=> #[]⟩
 have F1:=kas_fr F s1 haL ha0
 have N1:=kas_news N s1 hna
 have hkS:((s.heap.update a (Obj.mapSeq fun _=>(#[]:Array Value))).push (seqObj "tuple" vs.toArray 0)).objs.size=s.heap.objs.size+1:=by rw [size_push',Heap.size_update]
 have hLk:L<((s.heap.update a (Obj.mapSeq fun _=>(#[]:Array Value))).push (seqObj "tuple" vs.toArray 0)).objs.size:=(F1.push _).ns.lt
 unfold ksk_tree
 refine wpAny_bind (listItems_at ho rfl ?_)
 refine wpAny_bind (listUpdate_at ho rfl ?_ (by rw [List.size_toArray,sizeLine_eq];omega) (Nat.zero_le _))
 refine wpAny_bind (seqEpoch_at ho1 rfl ?_)
 refine wpAny_bind (wpAny_newTuple ?_ (by show vs.length≤_;rw [sizeLine_eq];omega))
 refine wpAny_bind (wpAny_newList ?_ (Nat.zero_le _))
 refine wpAny_holding ?_
 have hka: @Ne Nat ((s.heap.update a (Obj.mapSeq fun _=>(#[]:Array Value))).push (seqObj "tuple" vs.toArray 0)).objs.size a:=by rw [hkS];exact Nat.ne_of_gt (Nat.lt_succ_of_lt ha)
 have hnk:∀ p∈news,p.1≠((s.heap.update a (Obj.mapSeq fun _=>(#[]:Array Value))).push (seqObj "tuple" vs.toArray 0)).objs.size:=fun p hp=>by
  rw [hkS];exact Nat.ne_of_lt (Nat.lt_succ_of_lt (Heap.lt_size (N p hp).1))
 have N3:News h₀ L (((s.heap.update a (Obj.mapSeq fun _=>(#[]:Array Value))).push (seqObj "tuple" vs.toArray 0)).push (seqObj "list" #[] 0)) ((((s.heap.update a (Obj.mapSeq fun _=>(#[]:Array Value))).push (seqObj "tuple" vs.toArray 0)).objs.size,seqObj "list" #[] 0)::(a,seqObj "list" #[] e1)::news):=fun p hp=>by
  rcases lcM hp with rfl|hp
  ·exact⟨Heap.get?_push_size _ rfl,Nat.ne_of_gt hLk,Heap.get?_none_of_le (Nat.le_trans F.above (Nat.le_of_lt hLk))⟩
  ·rcases lcM hp with rfl|hp
   ·exact⟨Heap.get?_push_of_some _ (Heap.get?_push_of_some _ ho1),haL,ha0⟩
   ·exact⟨Heap.get?_push_of_some _ (Heap.get?_push_of_some _ (N1 p hp).1),(N1 p hp).2⟩
 refine jwa (h₀:=h₀) (L:=L) (m:=m) (s:= {s with heap:=((s.heap.update a (Obj.mapSeq fun _=>(#[]:Array Value))).push (seqObj "tuple" vs.toArray 0)).push (seqObj "list" #[] 0)}) (kS:=((s.heap.update a (Obj.mapSeq fun _=>(#[]:Array Value))).push (seqObj "tuple" vs.toArray 0)).objs.size)
  (Heap.get?_push_size _ rfl) (by omega) ?_
 refine jxa (s:=s) (a:=a) (e₀:=e1) (xs:=xs) (ns:=ns) (news:=news) hf hv.length hka hnk 0 vs 0 _ s.toks (by rw [List.drop_zero];exact hi) (Nat.zero_le _) ((F1.push _).push _) N3 fun e' h' tk' F' N'=> ?_
 exact kRa (s:= {s with heap:=h',toks:=tk'}) F' N' hka hnk hna hv hi hne hinj hnd h64 h
theorem dZa:∀ {l:List Value} {ns:List Nat},l.length=ns.length->(∀ (j:Nat) (v:Value) (n:Nat),l[j]?=some v->ns[j]?=some n->∃ t,v=Value.int (n:Nat) t)->NV l ns
 | [], [],_,_=> .nil
 | [],_::_,h,_=>by simp at h
 |_::_, [],h,_=>by simp at h
 |v::l,n::ns,h,hp=>by
  obtain⟨t,rfl⟩:=hp 0 v n rfl rfl
  exact .cons _ t (dZa (by simpa using h) fun j v' n' h1 h2=>hp (j+1) v' n' (by simpa using h1) (by simpa using h2))
theorem iea{d q:Addr}{o:Obj}{kvs:List (Int×Value)}{Q:Value->Shared->Prop}(hh:A.handled=none)(F:Fr h₀ L s.heap m)(N:News h₀ L s.heap news)(hp:(d,o)∈news)(hd:o.IsDictOf (PySem.intKind prog w) kvs)(lo:(d==sysModules)=false)
 (hks:kvs.map (·.1)=ns.map Int.ofNat) (hv:KV news ky ns (kvs.map (·.2))) (hne:∀ n,ky n≠ []) (hinj:∀ x∈ns,∀ y∈ns,x≠y->ky x≠ky y) (hnd:ns.Nodup) (h64:ns.length<64)
 (hf:∀ (i n:Nat) (v:Value) (t:Tok) (s₁:Shared) (nw:List (Addr×Obj)) (Q:Value->Shared->Prop),ns[i]?=some n->(kvs.map (·.2))[i]?=some v->(∃ h tk,s₁= {s with heap:=h,toks:=tk})->(∀ p∈news,p∈nw)->Fr h₀ L s₁.heap m->News h₀ L s₁.heap nw->
   (∀ h' tk',Fr h₀ L h' m->News h₀ L h' nw->Q v {s with heap:=h',toks:=tk'})->wpAny (model prog w) A.in1.in1 (call (.ref q) [.int (n:Nat) t]) Q (fun _ _=>False) s₁)
 (h:∀ D h' tk out ns' c,Fr h₀ L h' m->News h₀ L h' ((D,listOf (List.toArray out) c)::news)->(∀ p∈news,p.1<D)->NV out ns'->ns'.Perm ns->ns'.Pairwise (fun x y=>a7a (ky x) (ky y)=true)->Q (.ref D) {s with heap:=h',toks:=tk}):
 wpAny (model prog w) A (call (.builtin "sorted") [.ref d] [(Str.ofString "key", .ref q)]) Q E s:=by
 have hkl:kvs.length=ns.length:=by have:=congrArg List.length hks;simpa using this
 refine call_function_entry_kw kind_sorted plain_sorted entry_sorted (ksk_s1 _ _) ?_
 unfold Builtin.«sorted»
 refine wpAny_bind (m:=checkCount "sorted" 1 1 _) (wpAny_pure ?_)
 obtain⟨ep,hat⟩:=(kda_dict N hp hd).dictAt
 refine wpAny_bind (kdu_collect (A:=A.in1) (kdl_dict (knd:=PySem.intKind prog w) (kvs:=kvs) (ep:=ep) lo) hh hat (by rw [sizeLine_eq];omega) fun h1 tk1 acc hk1 hacc=> ?_)
 have hi:NV acc.toList ns:=by
  refine dZa (by rw [Array.length_toList,hacc.1,hkl]) fun j v n h1 h2=> ?_
  obtain⟨k,x,hx,hk⟩:=hacc.2 j v (by rw [<-Array.getElem?_toList];exact h1)
  have e1:(kvs.map (·.1))[j]?=some k:=by rw [List.getElem?_map,hx];rfl
  have e2:(ns.map Int.ofNat)[j]?=some (Int.ofNat n):=by rw [List.getElem?_map,h2];rfl
  rw [hks,e2] at e1
  have e3:k=Int.ofNat n:=by simpa using e1.symm
  subst e3
  obtain⟨t,rfl⟩:=Value.isInt_shape hk
  exact⟨t,rfl⟩
 have hal:=hi.len
 refine wpAny_bind (wpAny_newList ?_ (by rw [sizeLine_eq];omega))
 have F1:=F.keeps hk1
 have N1:=N.grown hk1
 have hoL:(h1.push (seqObj "list" acc.toList.toArray 0)).get? h1.objs.size=some (seqObj "list" acc.toList.toArray 0):=Heap.get?_push_size _ rfl
 have keep:∀ b o,h1.get? b=some o->(h1.push (seqObj "list" acc.toList.toArray 0)).get? b=some o:=fun b o e=>Heap.get?_push_of_some _ e
 have hL:L<h1.objs.size:=F1.ns.lt
 show wpAny _ _ _ _ _ {s with heap:=h1.push (seqObj "list" acc.toList.toArray 0),toks:=tk1}
 refine wpAny_bind (wpAny_holding (wpAny_call_entry_kw slot_list_sort ⟨_,hoL,rfl⟩ entry_list_sort ?body (ksk_l1 _ _)))
 case body=>
  show wpAny (model prog w) A.in1.in1 (Builtin.«list.sort» ⟨[.ref h1.objs.size], [(Str.ofString "key", .ref q)]⟩) _ _ _
  rw [ksk_t1]
  refine jva (s:= {s with heap:=h1.push (seqObj "list" acc.toList.toArray 0),toks:=tk1}) (vs:=acc.toList) (F1.kept keep) (N1.grown keep) hoL (Nat.ne_of_gt hL) (Heap.get?_none_of_le (Nat.le_trans F.above (Nat.le_of_lt hL)))
   (fun p hp=>Nat.ne_of_lt (Heap.lt_size (N1 p hp).1)) hv hi hne hinj hnd h64 (fun i n v t s₁ nw Q h1 h2 h3=>hf i n v t s₁ nw Q h1 h2 (by obtain⟨h,tk,e⟩:=h3;exact⟨h,tk,e⟩)) fun h' tk' out ns' c F' N' ho hp' hs'=> ?_
  exact⟨_,rfl,wpAny_pure ⟨_,rfl,h _ h' tk' out ns' c F' N' (fun p hp=>Heap.lt_size (N1 p hp).1) ho hp' hs'⟩⟩
theorem gea{kvs:List (Int×Value)}{ns:List Nat}{i n:Nat}{v:Value}(h1:kvs.map (·.1)=(ns.take i).map Int.ofNat)(hnd:ns.Nodup)(hn:ns[i]?=some n):stored kvs (n:Int) v=kvs++ [((n:Int),v)]:=by
 refine stored_absent (valueAt_none_of_not_mem fun hm=> ?_) v
 rw [h1] at hm
 obtain⟨x,hx,e⟩:=List.mem_map.mp hm
 have e':x=n:=Int.ofNat.inj e
 subst e'
 obtain⟨j,hj,e2⟩:=List.mem_iff_getElem.mp hx
 have hj2:j<i:=by rw [List.length_take] at hj;omega
 rw [List.getElem_take] at e2
 have hil:i<ns.length:=(List.getElem?_eq_some_iff.mp hn).1
 have e3:ns[i]=x:=(List.getElem?_eq_some_iff.mp hn).2
 have hjl:j<ns.length:=by omega
 have:=(List.getElem?_inj hjl hnd).mp (show ns[j]?=ns[i]? by rw [hn,List.getElem?_eq_getElem hjl,e2])
 omega
end
theorem ira{T:List aaa}(W:WF T):∀ {a b:Nat},aZa T a=aZa T b->a=b:=by
 intro a
 induction a using Nat.strongRecOn with
 |_ a ih=>
  intro b h
  cases hp:par T a with
  |none=>
   rw [bya hp] at h
   cases hq:par T b with
   |none=>rw [bya hq] at h;simpa using h
   |some q=>
    rw [aza W hq] at h
    have h1:=congrArg List.length h
    have h2:=cQa T q b
    rw [List.length_append] at h1
    simp only [List.length_cons,List.length_nil] at h1
    have h3:(aZa T q).length=0:=by omega
    exact absurd (List.eq_nil_of_length_eq_zero h3) (cWa W q)
  |some p=>
   rw [aza W hp] at h
   cases hq:par T b with
   |none=>
    rw [bya hq] at h
    have h1:=congrArg List.length h
    have h2:=cQa T p a
    rw [List.length_append] at h1
    simp only [List.length_cons,List.length_nil] at h1
    have h3:(aZa T p).length=0:=by omega
    exact absurd (List.eq_nil_of_length_eq_zero h3) (cWa W p)
   |some q=>
    rw [aza W hq] at h
    have h4:=List.append_inj' h (by rw [cQa,cQa])
    have e:=ih p (aja W hp) h4.1
    subst e
    have hs:=h4.2
    have ha:=faa W hp
    have hb:=faa W hq
    rcases ha with ha|ha|ha<;>rcases hb with hb|hb|hb
    ·rw [cga W ha,cga W hb] at hs;simp at hs;exact gua ha hb hs
    ·rw [cga W ha,bGa W hb] at hs;simp at hs
    ·rw [cga W ha,bka W hb] at hs;simp at hs
    ·rw [bGa W ha,cga W hb] at hs;simp at hs
    ·rw [bGa W ha,bGa W hb] at hs;simp at hs;exact gua ha hb hs
    ·rw [bGa W ha,bka W hb] at hs;simp at hs
    ·rw [bka W ha,cga W hb] at hs;simp at hs
    ·rw [bka W ha,bGa W hb] at hs;simp at hs
    ·rw [bka W ha,bka W hb] at hs;simp at hs;exact gua ha hb hs
end Mine
namespace Mine
theorem ar15:True:=by
 k_with "ar15" =>with_reducible first|exact oLa ‹_› |exact zq2 ‹_› |exact rOa ‹_› ‹_› |exact pza ‹_› ‹_›
 trivial
section
variable {prog:Program} {w:World} {A:Around} {E:Value->Shared->Prop} {s:Shared} {env:Env} {h₀:Heap} {x:Str} {body:List Stmt} {Q:Flow->Shared->Prop} {m₀:Str->Option Value} {l:Addr} {vs:List Value}
theorem jSa{L:Addr}(hL:env.locals=L){σ:Type}(Led:σ->List (Addr×Obj))(ps:σ->List (Str×Value))(st:List Str)(J:Nat->σ->Prop)(c₀:σ)(fix:List (Addr×Obj)){news:List (Addr×Obj)}
 (hh:A.handled=none) (hl:s.heap.IsTuple l vs.toArray) (hlL:l≠L) (F:Fr h₀ L s.heap m₀) (N:News h₀ L s.heap news) (hin:∀ p∈Led c₀++fix,p∈news)
 (hoff:∀ q∈Led c₀,∀ p∈fix, @Ne Nat p.1 q.1) (hll:∀ k c,J k c->∀ p∈Led c, @Ne Nat p.1 l)
 (hps:∀ p∈ps c₀,m₀ p.1=some p.2) (hj:J 0 c₀)
 (turn:∀ i v c u h tk own,vs[i]?=some v->i<vs.length->J i c->Fr h₀ L h (fun y=>if y=x then some v else bXa (ps c) (x::st) u m₀ y)->News h₀ L h (Led c++(fix++own))->(∀ q∈Led c,∀ p∈fix++own, @Ne Nat p.1 q.1)->
   wpAny (model prog w) A (execs body env) (bOa h₀ L Led ps st m₀ x (J (i+1)) (fix++own) {s with heap:=h,toks:=tk} Q) E {s with heap:=h,toks:=tk})
 (done:∀ c u h tk,J vs.length c->Fr h₀ L h (bXa (ps c) (x::st) u m₀)->News h₀ L h (Led c++fix)->(∀ q∈Led c,∀ p∈fix, @Ne Nat p.1 q.1)->Q .next {s with heap:=h,toks:=tk}):
 wpAny (model prog w) A (pyIter (.ref l)) (fun it s₂=>LoopAtV prog w A h₀ env x body Q E it s₂) E s:=by
 subst hL
 obtain⟨ol,hol,_⟩:=id hl
 have hlt:l<s.heap.objs.size:=Heap.lt_size hol
 have hne:l≠s.heap.objs.size:=Nat.ne_of_lt hlt
 refine wpAny_pyIter_tuple hl ?_
 have W:=Walks.tuple (prog:=prog) (w:=w) hh s.heap.objs.size l hne vs.toArray
 have hsz:vs.toArray.size=vs.length:=by simp
 rw [hsz] at W
 have up:∀ b o,s.heap.get? b=some o->(s.heap.push {cls:= .type "tuple_iterator",data:= .fields #[.ref l, .int 0 0]}).get? b=some o:=fun b o e=>Heap.get?_push_of_some _ e
 refine dia W Led ps st J c₀ fix ⟨_,Heap.get?_push_size _ rfl⟩ ?_ (next_is_new F) ⟨⟨_,Heap.get?_push_size _ rfl,rfl,rfl⟩,hl.at fun o e=>up _ o e⟩ (F.push _) (fun p hp=>⟨up _ _ (N p hp).1,(N p hp).2⟩) hin
  (fun p hp=>Nat.ne_of_lt (Heap.lt_size (N p (hin p hp)).1)) hoff (fun k c hJc p hp hI hm=> ?_) hps hj (fun i h hSt=> ?_) (fun i v c u h tk own hP hi=>turn i v c u h tk own (by simpa using hP) hi) done
 ·intro hm
  rcases lcM hm with e|hm
  ·exact absurd F.ns.lt (e▸Nat.lt_irrefl _)
  ·exact hlL (lsM hm).symm
 ·rcases lcM hm with e|hm
  ·exact hI e
  ·exact hll k c hJc p hp (lsM hm)
 ·obtain⟨⟨o,e,_⟩,_⟩:=hSt;exact⟨o,e⟩
end
noncomputable def fya(ns:List Nat):List Nat:=ns.foldl (fun acc n=>if n∈acc then acc else acc++ [n]) []
theorem h0a{ns:List Nat}{k n:Nat}(h:ns[k]?=some n):fya (ns.take (k+1))=if n∈fya (ns.take k) then fya (ns.take k) else fya (ns.take k)++ [n]:=by
 unfold fya
 rw [List.take_add_one,h]
 simp only [Option.toList_some,List.foldl_append,List.foldl_cons,List.foldl_nil]
theorem h1a(ns:List Nat):∀ acc:List Nat,acc.Nodup->(ns.foldl (fun acc n=>if n∈acc then acc else acc++ [n]) acc).Nodup∧∀ x,x∈ns.foldl (fun acc n=>if n∈acc then acc else acc++ [n]) acc↔x∈acc∨x∈ns:=by
 induction ns with
 |nil=>intro acc h;exact⟨h,fun x=>by simp⟩
 |cons n ns ih=>
  intro acc h
  simp only [List.foldl_cons]
  by_cases hn:n∈acc
  ·rw [if_pos hn]
   refine⟨(ih acc h).1,fun x=> ?_⟩
   rw [(ih acc h).2 x]
   simp only [List.mem_cons]
   constructor
   ·rintro(h1|h1)
    ·exact .inl h1
    ·exact .inr (.inr h1)
   ·rintro(h1|rfl|h1)
    ·exact .inl h1
    ·exact .inl hn
    ·exact .inr h1
  ·rw [if_neg hn]
   have h2:(acc++ [n]).Nodup:=by
    rw [List.nodup_append]
    exact⟨h,by simp,fun a ha b hb e=>hn (by rw [<-lsM hb,<-e];exact ha)⟩
   refine⟨(ih _ h2).1,fun x=> ?_⟩
   rw [(ih _ h2).2 x]
   simp only [List.mem_cons,List.mem_append,List.not_mem_nil,or_false,or_assoc]
theorem eAa(ns:List Nat):(fya ns).Nodup:=(h1a ns [] List.nodup_nil).1
theorem gDa(ns:List Nat)(x:Nat):x∈fya ns↔x∈ns:=by
 have:=(h1a ns [] List.nodup_nil).2 x
 simpa [fya] using this
theorem gEa(ns:List Nat):(fya ns).length≤ns.length:=by
 unfold fya
 have:∀ (l acc:List Nat),(l.foldl (fun acc n=>if n∈acc then acc else acc++ [n]) acc).length≤acc.length+l.length:=by
  intro l
  induction l with
  |nil=>intro acc;simp
  |cons n l ih=>
   intro acc
   simp only [List.foldl_cons,List.length_cons]
   split
   ·have:=ih acc;omega
   ·have:=ih (acc++ [n]);rw [List.length_append,List.length_singleton] at this;omega
 simpa using this ns []
theorem gfa{kvs:List (Int×Value)}{us:List Nat}{n:Nat}{v:Value}(h:kvs.map (·.1)=us.map Int.ofNat):(stored kvs (n:Int) v).map (·.1)=(if n∈us then us else us++ [n]).map Int.ofNat:=by
 have hiff:(n:Int)∈kvs.map (·.1)↔n∈us:=by
  rw [h]
  constructor
  ·intro hm
   obtain⟨x,hx,e⟩:=List.mem_map.mp hm
   have:x=n:=Int.ofNat.inj e
   subst this;exact hx
  ·intro hm;exact List.mem_map.mpr ⟨n,hm,rfl⟩
 unfold stored
 by_cases hn:n∈us
 ·rw [if_pos hn]
  have ha:(kvs.any fun kv=>decide (kv.1=(n:Int)))=true:=by
   obtain⟨kv,hkv,e⟩:=List.mem_map.mp (hiff.mpr hn)
   exact List.any_eq_true.mpr ⟨kv,hkv,by simpa using e⟩
  rw [ha]
  simp only [if_true]
  rw [List.map_map,<-h]
  refine List.map_congr_left fun kv _=> ?_
  simp only [Function.comp]
  split<;>rfl
 ·rw [if_neg hn]
  have ha:(kvs.any fun kv=>decide (kv.1=(n:Int)))=false:=by
   rw [List.any_eq_false]
   intro kv hkv e
   exact hn (hiff.mp (List.mem_map.mpr ⟨kv,hkv,by simpa using e⟩))
  rw [ha]
  simp [h]
theorem dwa:∀ {l:List Value} {ns:List Nat},l.length=ns.length->(∀ (j:Nat) (v:Value) (n:Nat),l[j]?=some v->ns[j]?=some n->∃ t,v=Value.int (n:Nat) t)->NV l ns
 | [], [],_,_=> .nil
 | [],_::_,h,_=>by simp at h
 |_::_, [],h,_=>by simp at h
 |v::l,n::ns,h,hp=>by
  obtain⟨t,rfl⟩:=hp 0 v n rfl rfl
  exact .cons _ t (dwa (by simpa using h) fun j v' n' h1 h2=>hp (j+1) v' n' (by simpa using h1) (by simpa using h2))
section
variable {prog:Program} {w:World} {A:Around} {E:Value->Shared->Prop} {s:Shared} {h₀:Heap} {L d:Addr} {m:Str->Option Value} {news:List (Addr×Obj)} {o:Obj} {kvs:List (Int×Value)} {ns:List Nat}
theorem k6a{Q:Value->Shared->Prop}(hh:A.handled=none)(F:Fr h₀ L s.heap m)(N:News h₀ L s.heap news)(hp:(d,o)∈news)(hd:o.IsDictOf (PySem.intKind prog w) kvs)(lo:(d==sysModules)=false)(hks:kvs.map (·.1)=ns.map Int.ofNat)(hn:ns.length<2^20)
 (h:∀ (D:Addr) c h' tk (vs:List Value),Fr h₀ L h' m->News h₀ L h' ((D,listOf vs.toArray c)::news)->(∀ q∈news,q.1<D)->NV vs ns->Q (.ref D) {s with heap:=h',toks:=tk}):
 wpAny (model prog w) A (call (.type "list") [.ref d]) Q E s:=by
 have hkl:kvs.length=ns.length:=by have:=congrArg List.length hks;simpa using this
 obtain⟨ep,hat⟩:=(kda_dict N hp hd).dictAt
 refine kdl_N (kdl_dict (knd:=PySem.intKind prog w) (kvs:=kvs) (ep:=ep) lo) hh F N hat (by rw [sizeLine_eq];omega) fun D c h' tk vs F' N' l1 hl hv=> ?_
 refine h D c h' tk vs F' N' l1 (dwa (by omega) fun j v n h1 h2=> ?_)
 obtain⟨k,x,hx,hk⟩:=hv j v h1
 have e1:(kvs.map (·.1))[j]?=some k:=by rw [List.getElem?_map,hx];rfl
 have e2:(ns.map Int.ofNat)[j]?=some (Int.ofNat n):=by rw [List.getElem?_map,h2];rfl
 rw [hks,e2] at e1
 have e3:k=Int.ofNat n:=by simpa using e1.symm
 subst e3
 obtain⟨t,rfl⟩:=Value.isInt_shape hk
 exact⟨t,rfl⟩
end
theorem gca{P:Addr}{line col:Nat}{qual:Str}{tl:List (Addr×Obj)}{g h:Heap}{a:Addr}{va:Array Value}{ca:Nat}(x:f5a P line col qual tl)(H:Hid g h tl)(e:h.get? a=some (listOf va ca)):∀ q∈tl, @Ne Nat a q.1:=by
 intro q hq ea
 have ea':a=q.1:=ea
 have h1:=(H q hq).1
 rw [<-ea',e] at h1
 have h2:q.2=listOf va ca:=(Option.some.inj h1).symm
 have h3:∃ vs,q.2.data= .fields vs:=by
  cases x with
  |fresh=>rw [lsM hq];exact⟨_,rfl⟩
  |made hd hv hne=>
   rcases lcM hq with rfl|hq
   ·exact⟨_,rfl⟩
   ·rw [lsM hq];exact⟨_,hd⟩
 obtain⟨vs,hv⟩:=h3
 rw [h2] at hv
 cases hv
end Mine
namespace Mine
theorem ar16:True:=by
 k_with "ar16" =>with_reducible first|exact fva ‹_› ‹_› |exact jfa ‹_› ‹_›
 trivial
theorem dNa{T:List aaa}(W:WF T){l:List Nat}(h:∀ x∈l,x<T.length){y:Nat}(hy:y∈ada T l):y<T.length:=by
 unfold ada at hy
 obtain⟨a,ha,hy⟩:=List.mem_flatMap.mp hy
 rcases lcM hy with rfl|hy
 ·exact h _ ha
 ·exact(aAa W a y hy).2
theorem dQa{T:List aaa}(W:WF T){p c:Nat}(h:c∈aFa T p):aPa T c=aPa T p:=asa W (W.kid p c h).2.2.1
theorem cta{T:List aaa}(W:WF T){n:Nat}:∀ x,x∈a3a T n->aPa T x=aPa T n:=by
 intro x
 induction x using Nat.strongRecOn with
 |_ x ih=>
  intro hx
  obtain⟨p,e1,e2,e3⟩:=cwa W n x hx
  rw [asa W e1]
  rcases e3 with rfl|e3
  ·rfl
  ·exact ih p (aja W e1) e3
theorem cNa{T:List aaa}(W:WF T):∀ n x,x∈anc T n->aPa T x=aPa T n:=by
 intro n
 induction n using Nat.strongRecOn with
 |_ n ih=>
  intro x hx
  cases hp:par T n with
  |none=>rw [aNa hp] at hx;cases hx
  |some p=>
   rw [aka W hp] at hx
   rw [asa W hp]
   rcases lcM hx with rfl|hx
   ·rfl
   ·exact ih p (aja W hp) x hx
theorem gFa{T:List aaa}(W:WF T){l:List Nat}{r:Nat}(h:∀ x∈l,aPa T x=r){y:Nat}(hy:y∈ada T l):aPa T y=r:=by
 unfold ada at hy
 obtain⟨a,ha,hy⟩:=List.mem_flatMap.mp hy
 rcases lcM hy with rfl|hy
 ·exact h _ ha
 ·rw [cta W y hy];exact h _ ha
theorem eDa{T:List aaa}(W:WF T){n x:Nat}(h:x∈cya T n):aPa T x=aPa T n:=by
 unfold cya at h
 cases hp:par T n with
 |none=>rw [hp] at h;cases h
 |some p=>
  rw [hp] at h
  simp only at h
  split at h
  ·cases h
  ·rw [asa W hp];exact dQa W (List.mem_of_mem_drop h)
theorem eEa{T:List aaa}(W:WF T){n x:Nat}(h:x∈cRa T n):aPa T x=aPa T n:=by
 unfold cRa at h
 cases hp:par T n with
 |none=>rw [hp] at h;cases h
 |some p=>
  rw [hp] at h
  simp only at h
  split at h
  ·cases h
  ·rw [asa W hp];exact dQa W (List.mem_of_mem_take (List.mem_reverse.mp h))
theorem cAa{T:List aaa}(W:WF T){n x:Nat}(h:x∈aqa T n):aPa T x=aPa T n:=by
 unfold aqa at h
 obtain⟨a,ha,hx⟩:=List.mem_flatMap.mp h
 have e:aPa T a=aPa T n:=by
  rcases lcM ha with rfl|ha
  ·rfl
  ·exact cNa W n a ha
 exact gFa W (fun y hy=>(eDa W hy).trans e) hx
theorem cza{T:List aaa}(W:WF T){n x:Nat}(h:x∈ana T n):aPa T x=aPa T n:=by
 unfold ana at h
 obtain⟨a,ha,hx⟩:=List.mem_flatMap.mp h
 have e:aPa T a=aPa T n:=by
  rcases lcM ha with rfl|ha
  ·rfl
  ·exact cNa W n a ha
 unfold b4a at hx
 obtain⟨b,hb,hx⟩:=List.mem_flatMap.mp hx
 refine gFa W (l:= [b]) (fun y hy=> ?_) (List.mem_reverse.mp hx)
 rw [lsM hy];exact(eEa W hb).trans e
theorem i2a{T:List aaa}(W:WF T){n x:Nat}(hn:n<T.length)(h:x∈anc T n):x<T.length:=by have:=f1a W n x h;omega
theorem eda{T:List aaa}(W:WF T){n x:Nat}(h:x∈aqa T n):x<T.length:=by
 unfold aqa at h
 obtain⟨a,ha,hx⟩:=List.mem_flatMap.mp h
 exact dNa W (fun y hy=>e6a W hy) hx
theorem dVa{T:List aaa}(W:WF T){n x:Nat}(h:x∈ana T n):x<T.length:=by
 unfold ana at h
 obtain⟨a,ha,hx⟩:=List.mem_flatMap.mp h
 unfold b4a at hx
 obtain⟨b,hb,hx⟩:=List.mem_flatMap.mp hx
 refine dNa W (l:= [b]) (fun y hy=> ?_) (List.mem_reverse.mp hx)
 rw [lsM hy];exact e7a W hb
theorem lra{T:List aaa}(W:WF T){n:Nat}(hn:n<T.length)(name:Str){x:Nat}(h:x∈aDa T n name):x<T.length∧aPa T x=aPa T n:=by
 have hfoll:∀ y,y∈g2a T n->y<T.length∧aPa T y=aPa T n:=by
  intro y hy
  unfold g2a at hy
  split at hy
  ·cases hp:par T n with
   |none=>rw [hp] at hy;cases hy
   |some q=>
    rw [hp] at hy
    rw [asa W hp]
    rcases laM hy with hy|hy
    ·exact⟨(aAa W q y hy).2,cta W y hy⟩
    ·exact⟨eda W hy,cAa W hy⟩
  ·exact⟨eda W hy,cAa W hy⟩
 have hprec:∀ y,y∈gma T n->y<T.length∧aPa T y=aPa T n:=by
  intro y hy
  unfold gma at hy
  split at hy
  ·cases hp:par T n with
   |none=>rw [hp] at hy;cases hy
   |some q=>
    rw [hp] at hy
    rw [asa W hp]
    exact⟨dVa W hy,cza W hy⟩
  ·exact⟨dVa W hy,cza W hy⟩
 unfold aDa at h
 split at h
 ·exact⟨(W.kid n x h).2.1,dQa W h⟩
 split at h
 ·rw [lsM h];exact⟨hn,rfl⟩
 split at h
 ·cases hp:par T n with
  |none=>rw [hp] at h;cases h
  |some q=>
   rw [hp] at h
   rw [lsM h]
   have:=aja W hp
   exact⟨by omega,(asa W hp).symm⟩
 split at h
 ·exact⟨(W.att n x h).2.1,asa W (W.att n x h).2.2.1⟩
 split at h
 ·exact⟨e6a W h,eDa W h⟩
 split at h
 ·exact⟨e7a W h,eEa W h⟩
 split at h
 ·exact⟨(aAa W n x h).2,cta W x h⟩
 split at h
 ·rcases lcM h with rfl|h
  ·exact⟨hn,rfl⟩
  ·exact⟨(aAa W n x h).2,cta W x h⟩
 split at h
 ·exact⟨i2a W hn h,cNa W n x h⟩
 split at h
 ·rcases lcM h with rfl|h
  ·exact⟨hn,rfl⟩
  ·exact⟨i2a W hn h,cNa W n x h⟩
 split at h
 ·exact hfoll x h
 ·exact hprec x h
theorem gza{T:List aaa}(W:WF T){n:Nat}(hn:n<T.length)(name:Str){x:Nat}(h:x∈aDa T n name):x<T.length:=(lra W hn name h).1
noncomputable def qca(T:List aaa)(r:Nat)(ns:List Nat)(name:Str):List Nat:=(aEa T r).filter fun x=>decide (∃ n∈ns,x∈aDa T n name)
end Mine
namespace Mine
theorem dja{α:Type}{f:α->List Nat}{k:Nat}:∀ {l:List α},(∀ a∈l,(f a).length≤k)->(l.flatMap f).length≤k*l.length
 | [],_=>by simp
 |a::l,h=>by
  rw [List.flatMap_cons,List.length_append,List.length_cons,Nat.mul_succ]
  have h1:=h a (.head _)
  have h2:=dja (l:=l) fun b hb=>h b (.tail _ hb)
  omega
end Mine
namespace Mine
noncomputable def qOa(T:List aaa)(r:Nat)(ns:List Nat)(nms:List Str):List Nat:=nms.foldl (fun acc nm=>qca T r acc nm) ns
noncomputable def cLa(P:Addr->Str->Prop):List Value->List Str->Prop
 | [], []=>True
 |v::vs,n::ns=>(∃ a,v= .ref a∧P a n)∧cLa P vs ns
 |_,_=>False
theorem cLa.len{P:Addr->Str->Prop}:∀ {vs:List Value} {ns:List Str},cLa P vs ns->vs.length=ns.length
 | [], [],_=>rfl
 | [],_::_,h=>h.elim
 |_::_, [],h=>h.elim
 |_::_,_::_,h=>by simp [cLa.len h.2]
theorem cLa.get{P:Addr->Str->Prop}:∀ {vs:List Value} {ns:List Str} {i:Nat} {v:Value},cLa P vs ns->vs[i]?=some v->∃ a n,v= .ref a∧ns[i]?=some n∧P a n
 | [],_,_,_,_,h=>by simp at h
 |_::_, [],_,_,h,_=>h.elim
 |v::vs,n::ns,0,u,h,e=>by
  simp at e;subst e
  obtain⟨⟨a,rfl,hp⟩,_⟩:=h
  exact⟨a,n,rfl,rfl,hp⟩
 |v::vs,n::ns,i+1,u,h,e=>by
  have e':vs[i]?=some u:=by simpa using e
  obtain⟨a,m,h1,h2,h3⟩:=cLa.get h.2 e'
  exact⟨a,m,h1,by simpa using h2,h3⟩
theorem cLa.snoc{P:Addr->Str->Prop}:∀ {vs:List Value} {ns:List Str} {a:Addr} {n:Str},cLa P vs ns->P a n->cLa P (vs++ [.ref a]) (ns++ [n])
 | [], [],a,_,_,h=>⟨⟨a,rfl,h⟩,trivial⟩
 | [],_::_,_,_,h,_=>h.elim
 |_::_, [],_,_,h,_=>h.elim
 |_::_,_::_,_,_,h,h'=>⟨h.1,cLa.snoc h.2 h'⟩
theorem cLa.mono{P P':Addr->Str->Prop}(hp:∀ a n,P a n->P' a n):∀ {vs:List Value} {ns:List Str},cLa P vs ns->cLa P' vs ns
 | [], [],_=>trivial
 | [],_::_,h=>h.elim
 |_::_, [],h=>h.elim
 |_::_,_::_,h=>⟨let ⟨a,e,h1⟩:=h.1;⟨a,e,hp a _ h1⟩,cLa.mono hp h.2⟩
end Mine
namespace Mine
noncomputable def SV:List Value->List Str->Prop
 | [], []=>True
 |v::vs,n::ns=>(∃ t,v= .str n t)∧SV vs ns
 |_,_=>False
theorem SV.len:∀ {vs:List Value} {ns:List Str},SV vs ns->vs.length=ns.length
 | [], [],_=>rfl
 | [],_::_,h=>h.elim
 |_::_, [],h=>h.elim
 |_::_,_::_,h=>by simp [SV.len h.2]
theorem SV.get:∀ {vs:List Value} {ns:List Str} {i:Nat} {v:Value},SV vs ns->vs[i]?=some v->∃ n t,ns[i]?=some n∧v= .str n t
 | [],_,_,_,_,h=>by simp at h
 |_::_, [],_,_,h,_=>h.elim
 |v::vs,n::ns,0,u,h,e=>by
  simp at e;subst e
  obtain⟨⟨t,rfl⟩,_⟩:=h
  exact⟨n,t,rfl,rfl⟩
 |v::vs,n::ns,i+1,u,h,e=>by
  have e':vs[i]?=some u:=by simpa using e
  obtain⟨m,t,h1,h2⟩:=SV.get h.2 e'
  exact⟨m,t,by simpa using h1,h2⟩
inductive qua(h:Heap)(l:Addr)(nms:List Str):Prop
 |ik (vs:_)
  (f0:h.IsList l (List.toArray vs))
  (f1:SV vs nms):qua h l nms
end Mine
namespace Mine
theorem ar17:True:=by
 k_with "ar17" =>with_reducible first|exact oQa ‹_› |exact pCa ‹_› |exact lNa|exact p1a
 trivial
section
variable {prog:Program} {w:World} {A:Around} {s:Shared} {K:Frag} {C fI:Addr}
 {name qual:Str} {params:Arguments} {body:List Stmt} {scope:Scope} {dV kV doc pm cdv ct oc:Value} {an od:Option Addr} {osl:Array (Option Value)} {vals:List Value} {Q E:Value->Shared->Prop} {n:Nat}
theorem iWa (H:i7a K A s.heap) (hr:jba A (n+2)) (hm:makesIn K C=true) (hi:findIn K (.ref C) "__init__" =some (some (.ref fI))) (hf:isFn K (.ref fI)=true)
 (ho:K.lookup fI=some ⟨oc,od, .func (fnOf name qual params body scope dV kV doc pm an cdv ct),osl⟩) (hcd:codeIn K cdv qual=true)
 (hbind:∀ (x:Addr) (s':Shared),BindsTo s' (fnOf name qual params body scope dV kV doc pm an cdv ct) ⟨.ref x::vals, []⟩ ((params.args.map (·.arg)).zip (.ref x::vals))) (hloc:∀ x:Addr,∀ y∈(params.args.map (·.arg)).zip (.ref x::vals),scope.names.lookup y.1=some .local)
 (h:∀ (A₀:Around) (base:Heap) (outer:List Env) (p:Program) (loose:List Str) (mean:ExcName->Option Value) (mg mb:Str->Option Value) (d u:Nat) (gd:Option (List Code)) (L':Addr) (h₁:Heap) (tk₁:Nat) (x dx:Addr),
   Below A₀ base outer s.heap->K.In s.heap->Top p loose mean mg mb s.heap->Fr s.heap L' h₁ (fun y=>((params.args.map (·.arg)).zip (.ref x::vals)).reverse.lookup y)->News s.heap L' h₁ [(x,instObj C dx),(dx,dictOf [] 0)]-> @LT.lt Nat _ dx x-> @LT.lt Nat _ x L'->d+n<recursionLimit->u+8*n+200<cLine->
   wpAny (model prog w) (dya d (envOf qual scope L' fI cdv) outer gd u) (execs body (envOf qual scope L' fI cdv))
    (fun fl s'=>(match fl with| .ret v=>v|_=> .none)=Value.none∧Q (.ref x) s') (fun _ _=>False) {s with heap:=h₁,toks:=tk₁})
 (hco:scope.isCoroutine=false) (hgen:scope.isGenerator=false) (hk:scope.kind= .function)
 (hcell:∀ x∈scope.names,x.2≠ .cell):wpAny (model prog w) A (call (.ref C) vals) Q E s:=by
 obtain⟨X,hhd,A₀,base,h₀,outer,env,L,m,p,loose,mean,mg,mb,B,F,T,hA,hfr,hke⟩:=H
 refine wpAny_call ?_
 obtain⟨hp,gg,dr,tk,os⟩:=s
 refine make_core (makes_of X hm) (looks_findIn X hi) (fun self=>bind_fn X self (beq_iff_eq.mp hf)) (.inl rfl) ?_
 have st:hp.StaysIn ((hp.push emptyDict).push (instObj C hp.objs.size)):=fun b o e=>Heap.get?_push_of_some _ (Heap.get?_push_of_some _ e)
 have G2:Below A base (env::outer) hp:=by
  have G:=groundX (s:=(⟨hp,gg,dr,tk,os⟩:Shared)) (R:=fun _ _=>True) (news:= []) B F News.nil hA hfr hke
  exact G.2.1
 have hsz:((hp.push emptyDict).push (instObj C hp.objs.size)).objs.size=hp.objs.size+2:=by rw [Heap.size_push,Heap.size_push]
 refine codeAny_call_def (s:=(⟨(hp.push emptyDict).push (instObj C hp.objs.size),gg,dr,tk,os⟩:Shared)) (fd:=fnOf name qual params body scope dV kV doc pm an cdv ct) (body:=body) (binds:=(params.args.map (·.arg)).zip (.ref (hp.objs.size+1)::vals)) (show A.depth+1<recursionLimit from Nat.lt_of_le_of_lt (by omega) hr.1) (st _ _ (X _ _ ho)) rfl (T.nolimit.keeps st) ((codeRec_of X hcd).keeps st) rfl (hbind _ _) hcell (hloc _) (fun h₁ hns hk₁=> ?_) hco hgen hk
 have hd:(A.under (.builtin "type.__call__" ⟨.ref C::vals, []⟩)).deeper (envOf qual scope ((hp.push emptyDict).push (instObj C hp.objs.size)).objs.size fI cdv)=dya (A.depth+1+1) (envOf qual scope ((hp.push emptyDict).push (instObj C hp.objs.size)).objs.size fI cdv) (env::outer) (A.under (.builtin "type.__call__" ⟨.ref C::vals, []⟩)).guards (A.units+1+3):=by
  obtain⟨hd,dp,fr,gs,u⟩:=A
  simp only at hhd hA
  subst hhd hA
  rfl
 have key:=h A base (env::outer) p loose mean mg mb (A.depth+1+1) (A.units+1+3) (A.under (.builtin "type.__call__" ⟨.ref C::vals, []⟩)).guards ((hp.push emptyDict).push (instObj C hp.objs.size)).objs.size h₁ (tk+((params.args.map (·.arg)).zip (.ref (hp.objs.size+1)::vals)).length) (hp.objs.size+1) hp.objs.size G2 X T
  ⟨hns,fun b o e=>hk₁ b o (st b o e),by rw [hsz];exact Nat.le_add_right _ _⟩ (fun q hq=> ?_) (Nat.lt_succ_self _) (by rw [hsz];exact Nat.lt_succ_self _) (by have:=hr.1;omega) (by have:=hr.2;omega)
 ·rw [<-hd] at key
  refine wpAny_mono key (fun fl s' q=> ?_) fun _ _ q=>q.elim
  exact q
 ·have e1:((hp.push emptyDict).push (instObj C hp.objs.size)).get? (hp.objs.size+1)=some (instObj C hp.objs.size):=by
   have:=Heap.get?_push_size (h:=hp.push emptyDict) (o:=instObj C hp.objs.size) rfl
   rwa [Heap.size_push] at this
  have e2:((hp.push emptyDict).push (instObj C hp.objs.size)).get? hp.objs.size=some (dictOf [] 0):=Heap.get?_push_of_some _ (Heap.get?_push_size _ rfl)
  rcases lcM hq with rfl|hq
  ·exact⟨hk₁ _ _ e1,by rw [hsz];exact Nat.ne_of_lt (Nat.lt_succ_self _),Heap.get?_none_of_le (Nat.le_succ _)⟩
  ·rw [lsM hq]
   exact⟨hk₁ _ _ e2,by rw [hsz];exact Nat.ne_of_lt (by omega),Heap.get?_none_of_le (Nat.le_refl _)⟩
end
theorem aia{d:Nat}{l:List (Addr×Obj)}(h:AllLt d l)(p:Addr×Obj)(hp:p∈l): @LT.lt Nat _ p.1 d:=by
 induction l with
 |nil=>cases hp
 |cons q l ih=>
  cases hp with
  |head=>exact h.1
  |tail _ hp=>exact ih h.2 hp
theorem ffa{h:Heap}{a b:Addr}{o:Obj}(e:h.get? a=none)(e2:h.get? b=some o): @Ne Nat b a:=fun q=>by
 have q':b=a:=q
 rw [q',e] at e2;cases e2
end Mine
namespace Mine
theorem ar18:True:=by
 k_with "ar18" =>with_reducible first|exact mNa ‹_› |exact lTa ‹_› ‹_› |exact(kza ‹_› ‹_›).elim|exact(qBa ‹_› ‹_› ‹_›).elim|exact(jha ‹_› ‹_›).elim|exact(rZa ‹_› ‹_› ‹_› ‹_›).elim|exact(r4a ‹_› ‹_›).elim|exact(sfa ‹_› ‹_› ‹_› ‹_› ‹_›).elim|exact(pAa ‹_› ‹_› ‹_›).elim
 trivial
set_option genInjectivity false in
set_option genSizeOf false in
structure bha where
 r:aaa
 a:Addr
 d:Addr
 lc:Addr
 la:Addr
 ln:Addr
 k1:Nat
 k2:Nat
 k3:Nat
 k4:Nat
 k5:Nat
 k6:Nat
 k7:Nat
 k8:Nat
 k9:Nat
 t1:Nat
 t2:Nat
 t3:Nat
 t4:Nat
 t5:Nat
 ep:Nat
 pv:Value
 vc:List Value
 va:List Value
 vn:List Value
 nc:Nat
 na:Nat
 nn:Nat
noncomputable def bha.dict(P:Params)(m:bha):Obj:=dictOf (dTa P m.k1 m.k2 m.k3 m.k4 m.k5 m.k6 m.k7 m.k8 m.k9 (.str m.r.kind m.t1) (.str m.r.name m.t2) (.str m.r.uri m.t3) (.str m.r.loc m.t4) (.str m.r.value m.t5) m.pv (.ref m.lc) (.ref m.la) (.ref m.ln)) m.ep
noncomputable def bha.objs(R:Addr)(P:Params)(m:bha):List (Addr×Obj):=
 [(m.a,instObj R m.d),(m.d,m.dict P),(m.lc,listOf m.vc.toArray m.nc),(m.la,listOf m.va.toArray m.na),(m.ln,listOf m.vn.toArray m.nn)]
set_option genInjectivity false in
set_option genSizeOf false in
structure bha.ok(m:bha):Prop where
 p:b2a m.r.parent m.pv
 c:NV m.vc m.r.children
 t:NV m.va m.r.attrs
 n:NV m.vn m.r.nss
set_option genInjectivity false in
set_option genSizeOf false in
structure bha.tags(tag:Addr->Nat×Nat)(i:Nat)(m:bha):Prop where
 a:tag m.a=(i+1,0)
 d:tag m.d=(i+1,1)
 lc:tag m.lc=(i+1,2)
 la:tag m.la=(i+1,3)
 ln:tag m.ln=(i+1,4)
set_option genInjectivity false in
set_option genSizeOf false in
structure aha where
 t:Addr
 dt:Addr
 rl:Addr
 tk:Nat
 ep1:Nat
 ep2:Nat
 ms:List bha
noncomputable def aha.rest (C:Addr) (P:Params) (M:aha):List (Addr×Obj):= [(M.t,instObj C M.dt),(M.dt,dictOf [⟨PyData.keyHash P (Str.ofString "rows"), .str (Str.ofString "rows") M.tk, .ref M.rl⟩] M.ep1)]
noncomputable def aha.vs(M:aha):List Value:=M.ms.map fun m=> .ref m.a
noncomputable def aha.led(C R:Addr)(P:Params)(M:aha):List (Addr×Obj):=
 (M.t,instObj C M.dt)::(M.dt,dictOf [⟨PyData.keyHash P (Str.ofString "rows"), .str (Str.ofString "rows") M.tk, .ref M.rl⟩] M.ep1)::(M.rl,listOf M.vs.toArray M.ep2)::M.ms.flatMap (bha.objs R P)
set_option genInjectivity false in
set_option genSizeOf false in
structure aha.ok(M:aha)(tag:Addr->Nat×Nat):Prop where
 t:tag M.t=(0,0)
 dt:tag M.dt=(0,1)
 rl:tag M.rl=(0,2)
 row:∀ (i:Nat) (m:bha),M.ms[i]?=some m->m.ok∧m.tags tag i
inductive ela(C R:Addr)(P:Params)(t:Addr)(T:List aaa)(l:List (Addr×Obj)):Prop
 |ik (M:aha) (tag:Addr->Nat×Nat)
  (f0:M.t=t)
  (f1:M.ms.map (·.r)=T)
  (f2:M.ok tag)
  (f3:l=M.led C R P):ela C R P t T l
theorem bha.at(R:Addr)(P:Params){h:Heap}{m:bha}(ho:m.ok)(hm:∀ p∈m.objs R P,h.get? p.1=some p.2):f6a R P h m.a m.r:=
 ⟨m.d,m.lc,m.la,m.ln,m.k1,m.k2,m.k3,m.k4,m.k5,m.k6,m.k7,m.k8,m.k9,m.t1,m.t2,m.t3,m.t4,m.t5,m.ep,m.pv,hm _ (.head _),hm _ (.tail _ (.head _)),ho.p,
   ⟨m.vc,m.nc,hm _ (.tail _ (.tail _ (.head _))),ho.c⟩,⟨m.va,m.na,hm _ (.tail _ (.tail _ (.tail _ (.head _)))),ho.t⟩,⟨m.vn,m.nn,hm _ (.tail _ (.tail _ (.tail _ (.tail _ (.head _))))),ho.n⟩⟩
theorem aha.mem_row{C R:Addr}{P:Params}{M:aha}{i:Nat}{m:bha}(h:M.ms[i]?=some m):∀ p∈m.objs R P,p∈M.led C R P:=
 fun p hp=> .tail _ (.tail _ (.tail _ (List.mem_flatMap.mpr ⟨m,List.mem_of_getElem? h,hp⟩)))
theorem ela.at{C R:Addr}{P:Params}{h:Heap}{t:Addr}{T:List aaa}{l:List (Addr×Obj)}(H:ela C R P t T l)(hl:∀ p∈l,h.get? p.1=some p.2):cDa C R P h t T:=by
 obtain⟨M,tag,rfl,rfl,ho,rfl⟩:=H
 refine⟨M.dt,M.rl,M.tk,M.ep1,M.ep2,M.vs,hl _ (.head _),hl _ (.tail _ (.head _)),hl _ (.tail _ (.tail _ (.head _))),by simp [aha.vs],fun i r hi=> ?_⟩
 rw [List.getElem?_map] at hi
 obtain⟨m,hm,rfl⟩:=Option.map_eq_some_iff.mp hi
 refine⟨m.a, ?_,bha.at R P (ho.row i m hm).1 fun p hp=>hl p (aha.mem_row hm p hp)⟩
 unfold aha.vs
 rw [List.getElem?_map,hm];rfl
theorem aUa{tag:Addr->Nat×Nat}{a b:Addr}{x y:Nat×Nat}(h1:tag a=x)(h2:tag b=y)(h:x≠y): @Ne Nat a b:=fun e=>h (by have e':a=b:=e;rw [<-h1,<-h2,e'])
theorem aha.tag_of{C R:Addr}{P:Params}{M:aha}{tag:Addr->Nat×Nat}(ho:M.ok tag){p:Addr×Obj}(hp:p∈M.led C R P):
 (p=(M.t,instObj C M.dt)∨p=(M.dt,dictOf [⟨PyData.keyHash P (Str.ofString "rows"), .str (Str.ofString "rows") M.tk, .ref M.rl⟩] M.ep1)∨p=(M.rl,listOf M.vs.toArray M.ep2))∨∃ (i:Nat) (m:bha),M.ms[i]?=some m∧p∈m.objs R P:=by
 rcases lcM hp with rfl|hp
 ·exact .inl (.inl rfl)
 rcases lcM hp with rfl|hp
 ·exact .inl (.inr (.inl rfl))
 rcases lcM hp with rfl|hp
 ·exact .inl (.inr (.inr rfl))
 ·obtain⟨m,hm,hp⟩:=List.mem_flatMap.mp hp
  obtain⟨i,hi⟩:=List.getElem?_of_mem hm
  exact .inr ⟨i,m,hi,hp⟩
theorem bha.tag_of{R:Addr}{P:Params}{tag:Addr->Nat×Nat}{i:Nat}{m:bha}(ho:m.tags tag i){p:Addr×Obj}(hp:p∈m.objs R P):∃ j,tag p.1=(i+1,j):=by
 unfold bha.objs at hp
 simp only [List.mem_cons,List.not_mem_nil,or_false] at hp
 rcases hp with rfl|rfl|rfl|rfl|rfl
 ·exact⟨_,ho.a⟩
 ·exact⟨_,ho.d⟩
 ·exact⟨_,ho.lc⟩
 ·exact⟨_,ho.la⟩
 ·exact⟨_,ho.ln⟩
theorem k9a{α β:Type}{f:α->β}{l:List α}(h:(l.map f).Nodup){p q:α}(hp:p∈l)(hq:q∈l)(e:f p=f q):p=q:=by
 induction l with
 |nil=>cases hp
 |cons a l ih=>
  have h:=List.nodup_cons.mp h
  rcases lcM hp with rfl|hp'<;>rcases lcM hq with rfl|hq'
  ·rfl
  ·exact absurd (e▸List.mem_map_of_mem hq') h.1
  ·exact absurd (e▸List.mem_map_of_mem hp') h.1
  ·exact ih h.2 hp' hq'
theorem aha.one{C R:Addr}{P:Params}{M:aha}{tag:Addr->Nat×Nat}(ho:M.ok tag){p q:Addr×Obj}(hp:p∈M.led C R P)(hq:q∈M.led C R P)(h:p.1=q.1):p=q:=by
 have ht:tag p.1=tag q.1:=by rw [h]
 rcases aha.tag_of ho hp with hp|⟨i,m,hm,hp⟩
 ·rcases aha.tag_of ho hq with hq|⟨j,m',hm',hq⟩
  ·rcases hp with rfl|rfl|rfl<;>rcases hq with rfl|rfl|rfl<;>first|rfl|(simp only [ho.t,ho.dt,ho.rl] at ht;cases ht)
  ·obtain⟨k,hk⟩:=bha.tag_of (ho.row j m' hm').2 hq
   rcases hp with rfl|rfl|rfl<;>(simp only [ho.t,ho.dt,ho.rl,hk] at ht;cases ht)
 ·rcases aha.tag_of ho hq with hq|⟨j,m',hm',hq⟩
  ·obtain⟨k,hk⟩:=bha.tag_of (ho.row i m hm).2 hp
   rcases hq with rfl|rfl|rfl<;>(simp only [ho.t,ho.dt,ho.rl,hk] at ht;cases ht)
  ·obtain⟨k,hk⟩:=bha.tag_of (ho.row i m hm).2 hp
   obtain⟨k',hk'⟩:=bha.tag_of (ho.row j m' hm').2 hq
   have e:i=j:=by rw [hk,hk'] at ht;simpa using (Prod.mk.inj ht).1
   subst e
   rw [hm] at hm'
   cases hm'
   have o:=(ho.row i m hm).2
   exact k9a (f:=fun p=>(tag p.1).2) (by unfold bha.objs;simp only [List.map,o.a,o.d,o.lc,o.la,o.ln];decide) hp hq (congrArg Prod.snd ht)
noncomputable def but(l:List (Addr×Obj))(a:Addr):List (Addr×Obj):=l.filter fun p=> !Nat.beq p.1 a
theorem g8a{l:List (Addr×Obj)}{a:Addr}:∀ p∈but l a,p.1≠a:=fun p hp e=>by
 have:=(List.mem_filter.mp hp).2
 rw [e] at this
 simp at this
theorem dla{l:List (Addr×Obj)}{a:Addr}{p:Addr×Obj}(h:p∈l)(hn:p.1≠a):p∈but l a:=List.mem_filter.mpr ⟨h,by
 cases e:Nat.beq p.1 a with
 |false=>rfl
 |true=>exact absurd (Nat.eq_of_beq_eq_true e) hn⟩
theorem gxa{l:List (Addr×Obj)}{a:Addr}:∀ p∈but l a,p∈l:=fun p hp=>(List.mem_filter.mp hp).1
theorem aha.turn{C R:Addr}{P:Params}{M:aha}{tag:Addr->Nat×Nat}(ho:M.ok tag){i:Nat}{m m':bha}(hm:M.ms[i]?=some m)(ea:m'.a=m.a)(ed:m'.d=m.d)(ec:m'.lc=m.lc)(et:m'.la=m.la)(en:m'.ln=m.ln)(hok:m'.ok):
 aha.ok {M with ms:=M.ms.set i m'} tag∧(∀ p∈aha.led C R P {M with ms:=M.ms.set i m'},p∈m'.objs R P∨(p∈M.led C R P∧∀ q∈m.objs R P,p.1≠q.1)):=by
 have o:=(ho.row i m hm).2
 have hi:=(List.getElem?_eq_some_iff.mp hm).1
 refine⟨⟨ho.t,ho.dt,ho.rl,fun j x hx=> ?_⟩,fun p hp=> ?_⟩
 ·rw [List.getElem?_set] at hx
  by_cases hj:i=j
  ·subst hj
   rw [if_pos rfl,if_pos hi] at hx
   cases hx
   exact⟨hok,⟨by rw [ea];exact o.a,by rw [ed];exact o.d,by rw [ec];exact o.lc,by rw [et];exact o.la,by rw [en];exact o.ln⟩⟩
  ·rw [if_neg hj] at hx
   exact ho.row j x hx
 ·have hvs:aha.vs {M with ms:=M.ms.set i m'}=M.vs:=by
   unfold aha.vs
   apply List.ext_getElem?
   intro j
   simp only [List.getElem?_map,List.getElem?_set]
   by_cases hj:i=j
   ·subst hj
    rw [if_pos rfl,if_pos hi,hm]
    simp only [Option.map_some,ea]
   ·rw [if_neg hj]
  unfold aha.led at hp ⊢
  rw [hvs] at hp
  have far:∀ k,∀ q∈m.objs R P,∀ b:Addr,tag b=(0,k)->b≠q.1:=fun k q hq b hb e=>by
   obtain⟨x,hx⟩:=bha.tag_of o hq
   rw [e,hx] at hb
   cases hb
  rcases lcM hp with rfl|hp
  ·exact .inr ⟨.head _,fun q hq=>far _ q hq _ ho.t⟩
  rcases lcM hp with rfl|hp
  ·exact .inr ⟨.tail _ (.head _),fun q hq=>far _ q hq _ ho.dt⟩
  rcases lcM hp with rfl|hp
  ·exact .inr ⟨.tail _ (.tail _ (.head _)),fun q hq=>far _ q hq _ ho.rl⟩
  obtain⟨x,hx,hp⟩:=List.mem_flatMap.mp hp
  obtain⟨j,hj⟩:=List.getElem?_of_mem hx
  simp only [List.getElem?_set] at hj
  by_cases e:i=j
  ·subst e
   rw [if_pos rfl,if_pos hi] at hj
   cases hj
   exact .inl hp
  ·rw [if_neg e] at hj
   refine .inr ⟨.tail _ (.tail _ (.tail _ (List.mem_flatMap.mpr ⟨x,List.mem_of_getElem? hj,hp⟩))),fun q hq e2=> ?_⟩
   obtain⟨k,hk⟩:=bha.tag_of (ho.row j x hj).2 hp
   obtain⟨k',hk'⟩:=bha.tag_of o hq
   rw [e2,hk'] at hk
   have:=(Prod.mk.inj hk).1
   omega
theorem aha.push{C R:Addr}{P:Params}{M:aha}{tag:Addr->Nat×Nat}(ho:M.ok tag){m:bha}(hok:m.ok)(e:Nat)(hd:(m.objs R P).Pairwise fun p q=> @Ne Nat p.1 q.1)(hn:∀ p∈m.objs R P,∀ q∈M.led C R P, @Ne Nat q.1 p.1):
 (∃ tag',aha.ok {M with ms:=M.ms++ [m],ep2:=e} tag')∧(∀ p∈aha.led C R P {M with ms:=M.ms++ [m],ep2:=e},p=(M.rl,listOf (M.vs++ [Value.ref m.a]).toArray e)∨p∈m.objs R P∨(p∈M.led C R P∧p.1≠M.rl)):=by
 constructor
 ·refine⟨fun b=>if Nat.beq b m.a then(M.ms.length+1,0) else if Nat.beq b m.d then(M.ms.length+1,1) else if Nat.beq b m.lc then(M.ms.length+1,2) else if Nat.beq b m.la then(M.ms.length+1,3) else if Nat.beq b m.ln then(M.ms.length+1,4) else tag b, ?_⟩
  have nb:∀ {x y:Nat},x≠y->Nat.beq x y=false:=fun {x y} h=>by
   cases e:Nat.beq x y with
   |false=>rfl
   |true=>exact absurd (Nat.eq_of_beq_eq_true e) h
  have old:∀ q∈M.led C R P,(fun b=>if Nat.beq b m.a then(M.ms.length+1,0) else if Nat.beq b m.d then(M.ms.length+1,1) else if Nat.beq b m.lc then(M.ms.length+1,2) else if Nat.beq b m.la then(M.ms.length+1,3) else if Nat.beq b m.ln then(M.ms.length+1,4) else tag b) q.1=tag q.1:=by
   intro q hq
   have h1:=hn _ (.head _) q hq
   have h2:=hn _ (.tail _ (.head _)) q hq
   have h3:=hn _ (.tail _ (.tail _ (.head _))) q hq
   have h4:=hn _ (.tail _ (.tail _ (.tail _ (.head _)))) q hq
   have h5:=hn _ (.tail _ (.tail _ (.tail _ (.tail _ (.head _))))) q hq
   simp only [nb h1,nb h2,nb h3,nb h4,nb h5,Bool.false_eq_true,if_false]
  refine⟨(old _ (.head _)).trans ho.t,(old _ (.tail _ (.head _))).trans ho.dt,(old _ (.tail _ (.tail _ (.head _)))).trans ho.rl,fun j x hx=> ?_⟩
  by_cases hj:j<M.ms.length
  ·rw [List.getElem?_append_left hj] at hx
   obtain⟨h1,h2⟩:=ho.row j x hx
   have mr:=aha.mem_row (C:=C) (R:=R) (P:=P) hx
   exact⟨h1,(old _ (mr _ (.head _))).trans h2.a,(old _ (mr _ (.tail _ (.head _)))).trans h2.d,(old _ (mr _ (.tail _ (.tail _ (.head _))))).trans h2.lc,(old _ (mr _ (.tail _ (.tail _ (.tail _ (.head _)))))).trans h2.la,(old _ (mr _ (.tail _ (.tail _ (.tail _ (.tail _ (.head _))))))).trans h2.ln⟩
  ·rw [List.getElem?_append_right (by omega)] at hx
   have ej:j=M.ms.length:=by have:=(List.getElem?_eq_some_iff.mp hx).1;simp at this;omega
   subst ej
   simp at hx
   subst hx
   simp only [bha.objs,List.pairwise_cons,List.mem_cons,List.not_mem_nil,or_false,forall_eq_or_imp,forall_eq] at hd
   obtain⟨⟨a1,a2,a3,a4⟩,⟨b1,b2,b3⟩,⟨c1,c2⟩,d1,_⟩:=hd
   refine⟨hok,⟨?_, ?_, ?_, ?_, ?_⟩⟩
   ·simp
   ·simp [nb (Ne.symm a1)]
   ·simp [nb (Ne.symm a2),nb (Ne.symm b1)]
   ·simp [nb (Ne.symm a3),nb (Ne.symm b2),nb (Ne.symm c1)]
   ·simp [nb (Ne.symm a4),nb (Ne.symm b3),nb (Ne.symm c2),nb (Ne.symm d1)]
 ·intro p hp
  have hvs:aha.vs {M with ms:=M.ms++ [m],ep2:=e}=M.vs++ [.ref m.a]:=by simp [aha.vs]
  unfold aha.led at hp
  rw [hvs] at hp
  rcases lcM hp with rfl|hp
  ·exact .inr (.inr ⟨.head _,aUa ho.t ho.rl (fun e=>nomatch e)⟩)
  rcases lcM hp with rfl|hp
  ·exact .inr (.inr ⟨.tail _ (.head _),aUa ho.dt ho.rl (fun e=>nomatch e)⟩)
  rcases lcM hp with rfl|hp
  ·exact .inl rfl
  rw [List.flatMap_append] at hp
  rcases laM hp with hp|hp
  ·obtain⟨x,hx,hp⟩:=List.mem_flatMap.mp hp
   obtain⟨j,hj⟩:=List.getElem?_of_mem hx
   obtain⟨k,hk⟩:=bha.tag_of (ho.row j x hj).2 hp
   exact .inr (.inr ⟨.tail _ (.tail _ (.tail _ (List.mem_flatMap.mpr ⟨x,hx,hp⟩))),aUa hk ho.rl (fun e=>nomatch e)⟩)
  ·simp only [List.flatMap_cons,List.flatMap_nil,List.append_nil] at hp
   exact .inr (.inl hp)
theorem bha.made{h h':Heap}{R:Addr}{P:Params}{x dx lc la ln:Addr}{k1 k2 k3 k4 k5 k6 k7 k8 k9 t1 t2 t3 t4 t5 ep:Nat}{kind name uri loc value:Str}{po:Option Nat}{pv:Value}(hpv:b2a po pv)
 (H:Hid h h' [(ln,listOf #[] 0),(la,listOf #[] 0),(lc,listOf #[] 0),(x,instObj R dx),(dx,dictOf (dTa P k1 k2 k3 k4 k5 k6 k7 k8 k9 (.str kind t1) (.str name t2) (.str uri t3) (.str loc t4) (.str value t5) pv (.ref lc) (.ref la) (.ref ln)) ep)])
 (l1: @LT.lt Nat _ dx x) (l2: @LT.lt Nat _ x lc) (l3: @LT.lt Nat _ lc la) (l4: @LT.lt Nat _ la ln):
 ∃ m:bha,Value.ref x= .ref m.a∧m.r=⟨kind,name,uri,loc,value,po, [], [], []⟩∧m.ok∧Hid h h' (m.objs R P)∧(m.objs R P).Pairwise fun p q=> @Ne Nat p.1 q.1:=by
 refine⟨⟨⟨kind,name,uri,loc,value,po, [], [], []⟩,x,dx,lc,la,ln,k1,k2,k3,k4,k5,k6,k7,k8,k9,t1,t2,t3,t4,t5,ep,pv, [], [], [],0,0,0⟩,rfl,rfl,⟨hpv,NV.nil,NV.nil,NV.nil⟩, ?_, ?_⟩
 ·intro p hp
  simp only [bha.objs,List.mem_cons,List.not_mem_nil,or_false] at hp
  refine H p ?_
  rcases hp with rfl|rfl|rfl|rfl|rfl
  ·exact .tail _ (.tail _ (.tail _ (.head _)))
  ·exact .tail _ (.tail _ (.tail _ (.tail _ (.head _))))
  ·exact .tail _ (.tail _ (.head _))
  ·exact .tail _ (.head _)
  ·exact .head _
 ·simp only [bha.objs,List.pairwise_cons,List.mem_cons,List.not_mem_nil,or_false,forall_eq_or_imp,forall_eq,List.Pairwise.nil,and_true,false_implies,implies_true]
  refine⟨⟨?_, ?_, ?_, ?_⟩,⟨?_, ?_, ?_⟩,⟨?_, ?_⟩, ?_⟩<;>omega
theorem fda{g h h1:Heap}{L:Addr}{m:Str->Option Value}{news l:List (Addr×Obj)}(F:Fr g L h m)(N:News g L h1 news)(H:Hid h h1 l):News g L h1 (l++news):=fun p hp=>by
 rcases laM hp with hp|hp
 ·have a:=H p hp
  refine⟨a.1,fun e=> ?_, ?_⟩
  ·obtain⟨oL,_,_,hL,_⟩:=F.ns
   rw [e,hL] at a;cases a.2
  ·cases q:g.get? p.1 with
   |none=>rfl
   |some o=>have:=F.keep _ _ q;rw [a.2] at this;cases this
 ·exact N p hp
theorem fNa{h h1:Heap}{l:List (Addr×Obj)}(H:Hid h h1 l){b:Addr}{o:Obj}(e:h.get? b=some o):∀ p∈l, @Ne Nat p.1 b:=fun p hp q=>by
 have q':p.1=b:=q
 have:=(H p hp).2
 rw [q',e] at this;cases this
theorem aha.vs_len(M:aha):M.vs.length=M.ms.length:=by simp [aha.vs]
theorem kqa{a b:Int}{t:Tok}(h:a=b):∃ tk,Value.int a t= .int b tk:=⟨t,by rw [h]⟩
noncomputable abbrev aha.top (C:Addr) (P:Params) (M:aha) (r:List (Addr×Obj)):List (Addr×Obj):=(M.t,instObj C M.dt)::(M.dt,dictOf [⟨PyData.keyHash P (Str.ofString "rows"), .str (Str.ofString "rows") M.tk, .ref M.rl⟩] M.ep1)::(M.rl,listOf M.vs.toArray M.ep2)::r
noncomputable abbrev bha.ent(P:Params)(m:bha):Obj:=dictOf (dTa P m.k1 m.k2 m.k3 m.k4 m.k5 m.k6 m.k7 m.k8 m.k9 (.str m.r.kind m.t1) (.str m.r.name m.t2) (.str m.r.uri m.t3) (.str m.r.loc m.t4) (.str m.r.value m.t5) m.pv (.ref m.lc) (.ref m.la) (.ref m.ln)) m.ep
theorem aha.pick_lc{C R:Addr}{P:Params}{M:aha}{tag:Addr->Nat×Nat}(ho:M.ok tag){i:Nat}{m:bha}(hm:M.ms[i]?=some m){g h:Heap}{L:Addr}(N:News g L h (M.led C R P)):
 News g L h ((m.lc,listOf m.vc.toArray m.nc)::M.top C P ((m.a,instObj R m.d)::(m.d,m.ent P)::but (M.led C R P) m.lc))∧∀ p∈M.top C P ((m.a,instObj R m.d)::(m.d,m.ent P)::but (M.led C R P) m.lc),p.1≠m.lc:=by
 have o:=(ho.row i m hm).2
 have mr:=aha.mem_row (C:=C) (R:=R) (P:=P) hm
 refine⟨News.sub N (fc (mr _ (.tail _ (.tail _ (.head _)))) (fc (.head _) (fc (.tail _ (.head _)) (fc (.tail _ (.tail _ (.head _))) (fc (mr _ (.head _)) (fc (mr _ (.tail _ (.head _))) (fun p hp=>gxa p hp))))))), ?_⟩
 ·exact List.forall_mem_cons.mpr ⟨aUa ho.t o.lc (by simp),List.forall_mem_cons.mpr ⟨aUa ho.dt o.lc (by simp),List.forall_mem_cons.mpr ⟨aUa ho.rl o.lc (by simp),List.forall_mem_cons.mpr ⟨aUa o.a o.lc (by simp),List.forall_mem_cons.mpr ⟨aUa o.d o.lc (by simp),g8a⟩⟩⟩⟩⟩
theorem aha.lay_lc{C R:Addr}{P:Params}{M:aha}{tag:Addr->Nat×Nat}(ho:M.ok tag){i:Nat}{m:bha}(hm:M.ms[i]?=some m){g h:Heap}{x n:Nat}{tx:Tok}
 (H:Hid g h ((m.lc,listOf (m.vc++ [Value.int x tx]).toArray n)::M.top C P ((m.a,instObj R m.d)::(m.d,m.ent P)::but (M.led C R P) m.lc))):
 ∃ l,ela C R P M.t ((M.ms.map (·.r)).set i {m.r with children:=m.r.children++ [x]}) l∧Hid g h l:=by
 obtain⟨h1,h2⟩:=ho.row i m hm
 obtain⟨a,b⟩:=aha.turn (C:=C) (R:=R) (P:=P) ho hm (m':= {m with r:= {m.r with children:=m.r.children++ [x]},vc:=m.vc++ [.int x tx],nc:=n}) rfl rfl rfl rfl rfl (by first|exact⟨h1.p,h1.c.snoc x tx,h1.t,h1.n⟩|exact⟨h1.p,h1.c,h1.t.snoc x tx,h1.n⟩|exact⟨h1.p,h1.c,h1.t,h1.n.snoc x tx⟩)
 refine⟨_,⟨{M with ms:=M.ms.set i {m with r:= {m.r with children:=m.r.children++ [x]},vc:=m.vc++ [.int x tx],nc:=n}},tag,rfl,by simp [List.map_set],a,rfl⟩,fun p hp=> ?_⟩
 have mr:=aha.mem_row (C:=C) (R:=R) (P:=P) hm
 have old:∀ q∈m.objs R P,q.1≠m.lc->h.get? q.1=some q.2∧g.get? q.1=none:=fun q hq hn=>H q (.tail _ (.tail _ (.tail _ (.tail _ (.tail _ (.tail _ (dla (mr q hq) hn)))))))
 rcases b p hp with hp|⟨hp,hn⟩
 ·simp only [bha.objs,List.mem_cons,List.not_mem_nil,or_false] at hp
  rcases hp with rfl|rfl|rfl|rfl|rfl
  ·exact old _ (.head _) (aUa h2.a h2.lc (by simp))
  ·exact old _ (.tail _ (.head _)) (aUa h2.d h2.lc (by simp))
  ·first|exact H _ (.head _)|exact old _ (.tail _ (.tail _ (.head _))) (aUa h2.lc h2.lc (by simp))
  ·first|exact H _ (.head _)|exact old _ (.tail _ (.tail _ (.tail _ (.head _)))) (aUa h2.la h2.lc (by simp))
  ·first|exact H _ (.head _)|exact old _ (.tail _ (.tail _ (.tail _ (.tail _ (.head _))))) (aUa h2.ln h2.lc (by simp))
 ·exact H p (.tail _ (.tail _ (.tail _ (.tail _ (.tail _ (.tail _ (dla hp (hn (m.lc,listOf m.vc.toArray m.nc) (.tail _ (.tail _ (.head _)))))))))))
theorem aha.pick_la{C R:Addr}{P:Params}{M:aha}{tag:Addr->Nat×Nat}(ho:M.ok tag){i:Nat}{m:bha}(hm:M.ms[i]?=some m){g h:Heap}{L:Addr}(N:News g L h (M.led C R P)):
 News g L h ((m.la,listOf m.va.toArray m.na)::M.top C P ((m.a,instObj R m.d)::(m.d,m.ent P)::but (M.led C R P) m.la))∧∀ p∈M.top C P ((m.a,instObj R m.d)::(m.d,m.ent P)::but (M.led C R P) m.la),p.1≠m.la:=by
 have o:=(ho.row i m hm).2
 have mr:=aha.mem_row (C:=C) (R:=R) (P:=P) hm
 refine⟨News.sub N (fc (mr _ (.tail _ (.tail _ (.tail _ (.head _))))) (fc (.head _) (fc (.tail _ (.head _)) (fc (.tail _ (.tail _ (.head _))) (fc (mr _ (.head _)) (fc (mr _ (.tail _ (.head _))) (fun p hp=>gxa p hp))))))), ?_⟩
 ·exact List.forall_mem_cons.mpr ⟨aUa ho.t o.la (by simp),List.forall_mem_cons.mpr ⟨aUa ho.dt o.la (by simp),List.forall_mem_cons.mpr ⟨aUa ho.rl o.la (by simp),List.forall_mem_cons.mpr ⟨aUa o.a o.la (by simp),List.forall_mem_cons.mpr ⟨aUa o.d o.la (by simp),g8a⟩⟩⟩⟩⟩
theorem aha.lay_la{C R:Addr}{P:Params}{M:aha}{tag:Addr->Nat×Nat}(ho:M.ok tag){i:Nat}{m:bha}(hm:M.ms[i]?=some m){g h:Heap}{x n:Nat}{tx:Tok}
 (H:Hid g h ((m.la,listOf (m.va++ [Value.int x tx]).toArray n)::M.top C P ((m.a,instObj R m.d)::(m.d,m.ent P)::but (M.led C R P) m.la))):
 ∃ l,ela C R P M.t ((M.ms.map (·.r)).set i {m.r with attrs:=m.r.attrs++ [x]}) l∧Hid g h l:=by
 obtain⟨h1,h2⟩:=ho.row i m hm
 obtain⟨a,b⟩:=aha.turn (C:=C) (R:=R) (P:=P) ho hm (m':= {m with r:= {m.r with attrs:=m.r.attrs++ [x]},va:=m.va++ [.int x tx],na:=n}) rfl rfl rfl rfl rfl (by first|exact⟨h1.p,h1.c.snoc x tx,h1.t,h1.n⟩|exact⟨h1.p,h1.c,h1.t.snoc x tx,h1.n⟩|exact⟨h1.p,h1.c,h1.t,h1.n.snoc x tx⟩)
 refine⟨_,⟨{M with ms:=M.ms.set i {m with r:= {m.r with attrs:=m.r.attrs++ [x]},va:=m.va++ [.int x tx],na:=n}},tag,rfl,by simp [List.map_set],a,rfl⟩,fun p hp=> ?_⟩
 have mr:=aha.mem_row (C:=C) (R:=R) (P:=P) hm
 have old:∀ q∈m.objs R P,q.1≠m.la->h.get? q.1=some q.2∧g.get? q.1=none:=fun q hq hn=>H q (.tail _ (.tail _ (.tail _ (.tail _ (.tail _ (.tail _ (dla (mr q hq) hn)))))))
 rcases b p hp with hp|⟨hp,hn⟩
 ·simp only [bha.objs,List.mem_cons,List.not_mem_nil,or_false] at hp
  rcases hp with rfl|rfl|rfl|rfl|rfl
  ·exact old _ (.head _) (aUa h2.a h2.la (by simp))
  ·exact old _ (.tail _ (.head _)) (aUa h2.d h2.la (by simp))
  ·first|exact H _ (.head _)|exact old _ (.tail _ (.tail _ (.head _))) (aUa h2.lc h2.la (by simp))
  ·first|exact H _ (.head _)|exact old _ (.tail _ (.tail _ (.tail _ (.head _)))) (aUa h2.la h2.la (by simp))
  ·first|exact H _ (.head _)|exact old _ (.tail _ (.tail _ (.tail _ (.tail _ (.head _))))) (aUa h2.ln h2.la (by simp))
 ·exact H p (.tail _ (.tail _ (.tail _ (.tail _ (.tail _ (.tail _ (dla hp (hn (m.la,listOf m.va.toArray m.na) (.tail _ (.tail _ (.tail _ (.head _))))))))))))
theorem ela.made{h h':Heap}{C R:Addr}{P:Params}{x dx rl:Addr}{k ep:Nat}
 (H:Hid h h' [(rl,listOf #[] 0),(x,instObj C dx),(dx,dictOf [⟨PyData.keyHash P (Str.ofString "rows"), .str (Str.ofString "rows") k, .ref rl⟩] ep)]) (l1: @LT.lt Nat _ dx x) (l2: @LT.lt Nat _ x rl):
 ∃ (t:Addr) (l:List (Addr×Obj)),Value.ref x= .ref t∧ela C R P t [] l∧Hid h h' l:=by
 refine⟨x,_,rfl,⟨⟨x,dx,rl,k,ep,0, []⟩,fun b=>if Nat.beq b x then(0,0) else if Nat.beq b dx then(0,1) else(0,2),rfl,rfl,⟨?_, ?_, ?_,fun i m hm=>by cases hm⟩,rfl⟩,fun p hp=> ?_⟩
 ·simp
 ·have:Nat.beq dx x=false:=by
   cases e:Nat.beq dx x with
   |false=>rfl
   |true=>have:=Nat.eq_of_beq_eq_true e;omega
  simp [this]
 ·have h1:Nat.beq rl x=false:=by
   cases e:Nat.beq rl x with
   |false=>rfl
   |true=>have:=Nat.eq_of_beq_eq_true e;omega
  have h2:Nat.beq rl dx=false:=by
   cases e:Nat.beq rl dx with
   |false=>rfl
   |true=>have:=Nat.eq_of_beq_eq_true e;omega
  simp [h1,h2]
 ·simp only [aha.led,aha.vs,List.map_nil,List.flatMap_nil,List.mem_cons,List.not_mem_nil,or_false] at hp
  rcases hp with rfl|rfl|rfl
  ·exact H _ (.tail _ (.head _))
  ·exact H _ (.tail _ (.tail _ (.head _)))
  ·exact H _ (.head _)
theorem aha.get{M:aha}{T:List aaa}(h:M.ms.map (·.r)=T){i:Nat}{r:aaa}(hi:T[i]?=some r):∃ m,M.ms[i]?=some m∧m.r=r∧M.vs[i]?=some (Value.ref m.a):=by
 subst h
 rw [List.getElem?_map] at hi
 obtain⟨m,hm,rfl⟩:=Option.map_eq_some_iff.mp hi
 exact⟨m,hm,rfl,by unfold aha.vs;rw [List.getElem?_map,hm];rfl⟩
noncomputable abbrev bha.ent2(P:Params)(m:bha)(name value:Str)(t2 t5 ep:Nat):Obj:=dictOf (dTa P m.k1 m.k2 m.k3 m.k4 m.k5 m.k6 m.k7 m.k8 m.k9 (.str m.r.kind m.t1) (.str name t2) (.str m.r.uri m.t3) (.str m.r.loc m.t4) (.str value t5) m.pv (.ref m.lc) (.ref m.la) (.ref m.ln)) ep
noncomputable abbrev aha.view(C R:Addr)(P:Params)(M:aha)(m:bha):List (Addr×Obj):=M.top C P ((m.a,instObj R m.d)::(m.d,m.ent P)::(m.lc,listOf m.vc.toArray m.nc)::(m.la,listOf m.va.toArray m.na)::(m.ln,listOf m.vn.toArray m.nn)::M.led C R P)
theorem aha.view_sub{C R:Addr}{P:Params}{M:aha}{i:Nat}{m:bha}(hm:M.ms[i]?=some m):∀ p∈M.view C R P m,p∈M.led C R P:=by
 have mr:=aha.mem_row (C:=C) (R:=R) (P:=P) hm
 exact(fc (.head _) (fc (.tail _ (.head _)) (fc (.tail _ (.tail _ (.head _))) (fc (mr _ (.head _)) (fc (mr _ (.tail _ (.head _))) (fc (mr _ (.tail _ (.tail _ (.head _)))) (fc (mr _ (.tail _ (.tail _ (.tail _ (.head _))))) (fc (mr _ (.tail _ (.tail _ (.tail _ (.tail _ (.head _)))))) (fun _ hp=>hp)))))))))
end Mine
namespace Mine
theorem ar19:True:=by
 k_with "ar19" =>with_reducible first|((show _<_);first|exact rVa ‹_› ‹_› |exact rIa ‹_› ‹_› ‹_› |exact zq6 ‹_› |exact pSa ‹_› ‹_› |exact fva ‹_› ‹_› |exact mCa ‹_›)|exact mNa ‹_› |exact qIa ‹_› ‹_› |exact(kza ‹_› ‹_›).elim|exact(mGa ‹_›).elim|exact(pYa ‹_› ‹_› ‹_›).elim
 trivial
theorem WF.grow{T T':List aaa}(W:WF T)(hn:T.length<59)(hlen:T'.length=T.length+1){i:Nat}(hi:i<T.length)(kd:Str)
 (par':∀ x,par T' x=if x=T.length then some i else par T x) (kind':∀ x,kindOf T' x=if x=T.length then kd else kindOf T x)
 (kids':∀ x,aFa T' x=if x=i∧kd≠afa∧kd≠sNs then aFa T x++ [T.length] else aFa T x)
 (atts':∀ x,bea T' x=if x=i∧kd=afa then bea T x++ [T.length] else bea T x)
 (nsps':∀ x,caa T' x=if x=i∧kd=sNs then caa T x++ [T.length] else caa T x)
 (hk:kd≠sRoot) (hpar:kindOf T i=aLa∨(kindOf T i=sRoot∧kd≠afa∧kd≠sNs)):WF T':=by
 have pl:∀ x,x<T.length->par T' x=par T x:=fun x hx=>by rw [par',if_neg (by omega)]
 have kl:∀ x,x<T.length->kindOf T' x=kindOf T x:=fun x hx=>by rw [kind',if_neg (by omega)]
 have pn:par T' T.length=some i:=by rw [par',if_pos rfl]
 have kn:kindOf T' T.length=kd:=by rw [kind',if_pos rfl]
 have nk:∀ x,aFa T x= []∨x<T.length:=fun x=>by
  by_cases h:x<T.length
  ·exact .inr h
  ·exact .inl (by unfold aFa;rw [List.getElem?_eq_none (by omega)])
 constructor
 ·omega
 ·intro x c hc
  rw [kids'] at hc
  have old:c∈aFa T x->x<c∧c<T'.length∧par T' c=some x∧kindOf T' c≠afa∧kindOf T' c≠sNs∧kindOf T' c≠sRoot:=fun hc=>by
   obtain⟨a1,a2,a3,a4⟩:=W.kid x c hc
   exact⟨a1,by omega,by rw [pl c a2];exact a3,by rw [kl c a2];exact a4⟩
  split at hc
  ·rename_i h
   rcases laM hc with hc|hc
   ·exact old hc
   ·rw [lsM hc,h.1,pn,kn]
    exact⟨hi,by omega,rfl,h.2.1,h.2.2,hk⟩
  ·exact old hc
 ·intro x c hc
  rw [atts'] at hc
  have old:c∈bea T x->x<c∧c<T'.length∧par T' c=some x∧kindOf T' c=afa:=fun hc=>by
   obtain⟨a1,a2,a3,a4⟩:=W.att x c hc
   exact⟨a1,by omega,by rw [pl c a2];exact a3,by rw [kl c a2];exact a4⟩
  split at hc
  ·rename_i h
   rcases laM hc with hc|hc
   ·exact old hc
   ·rw [lsM hc,h.1,pn,kn]
    exact⟨hi,by omega,rfl,h.2⟩
  ·exact old hc
 ·intro x c hc
  rw [nsps'] at hc
  have old:c∈caa T x->x<c∧c<T'.length∧par T' c=some x∧kindOf T' c=sNs:=fun hc=>by
   obtain⟨a1,a2,a3,a4⟩:=W.nsp x c hc
   exact⟨a1,by omega,by rw [pl c a2];exact a3,by rw [kl c a2];exact a4⟩
  split at hc
  ·rename_i h
   rcases laM hc with hc|hc
   ·exact old hc
   ·rw [lsM hc,h.1,pn,kn]
    exact⟨hi,by omega,rfl,h.2⟩
  ·exact old hc
 ·intro x
  rw [kids']
  split
  ·exact List.nodup_append.mpr ⟨W.kidN x,by simp,fun a ha b hb e=>by
    have:=(W.kid x a ha).2.1
    rw [lsM hb] at e;omega⟩
  ·exact W.kidN x
 ·intro x
  rw [atts']
  split
  ·exact List.nodup_append.mpr ⟨W.attN x,by simp,fun a ha b hb e=>by
    have:=(W.att x a ha).2.1
    rw [lsM hb] at e;omega⟩
  ·exact W.attN x
 ·intro x
  rw [nsps']
  split
  ·exact List.nodup_append.mpr ⟨W.nspN x,by simp,fun a ha b hb e=>by
    have:=(W.nsp x a ha).2.1
    rw [lsM hb] at e;omega⟩
  ·exact W.nspN x
 ·intro c p hp
  by_cases hc:c=T.length
  ·subst hc
   rw [pn] at hp
   cases hp
   rw [kn,kl i hi]
   refine⟨hi,hpar.imp id And.left, ?_⟩
   rw [atts',nsps',kids']
   by_cases h1:kd=afa
   ·simp [h1]
   ·by_cases h2:kd=sNs
    ·have:¬sNs=afa:=by decide
     simp [h2,this]
    ·simp [h1,h2]
  ·rw [par',if_neg hc] at hp
   have hcl:=cja hp
   obtain⟨a1,a2,a3⟩:=W.up c p hp
   rw [kl c hcl,kl p (by omega)]
   refine⟨a1,a2, ?_⟩
   rw [atts',nsps',kids']
   split at a3
   ·rename_i h;rw [if_pos h];split
    ·exact laL _ a3
    ·exact a3
   ·rename_i h;rw [if_neg h]
    split at a3
    ·rename_i h;rw [if_pos h];split
     ·exact laL _ a3
     ·exact a3
    ·rename_i h;rw [if_neg h];split
     ·exact laL _ a3
     ·exact a3
 ·intro c hc
  by_cases h:c=T.length
  ·subst h
   rw [pn,kn]
   exact⟨fun e=>(nomatch e),fun e=>absurd e hk⟩
  ·rw [pl c (by omega),kl c (by omega)]
   exact W.root c (by omega)
 ·intro x h1 h2
  rw [kids']
  rcases nk x with h|h
  ·split
   ·rename_i q;exact absurd q.1 (fun e=>by
     subst e
     rw [kl x hi] at h1 h2
     rcases hpar with h|h
     ·exact h1 h
     ·exact h2 h.1)
   ·exact h
  ·rw [kl x h] at h1 h2
   rw [if_neg (fun q=>by
    rw [q.1] at h1 h2
    rcases hpar with h|h
    ·exact h1 h
    ·exact h2 h.1)]
   exact W.holds x h1 h2
 ·intro x h1
  have hx:x<T.length->¬x=i∨(kd≠afa∧kd≠sNs):=fun h=>by
   rw [kl x h] at h1
   by_cases e:x=i
   ·subst e
    rcases hpar with h|h
    ·exact absurd h h1
    ·exact .inr h.2
   ·exact .inl e
  by_cases hl:x<T.length
  ·have o:=W.holds2 x (by rw [kl x hl] at h1;exact h1)
   rw [atts',nsps']
   rcases hx hl with h|h
   ·rw [if_neg (fun q=>h q.1),if_neg (fun q=>h q.1)];exact o
   ·rw [if_neg (fun q=>h.1 q.2),if_neg (fun q=>h.2 q.2)];exact o
  ·have:¬x=i:=by omega
   rw [atts',nsps',if_neg (fun q=>this q.1),if_neg (fun q=>this q.1)]
   refine⟨?_, ?_⟩
   ·unfold bea;rw [List.getElem?_eq_none (by omega)]
   ·unfold caa;rw [List.getElem?_eq_none (by omega)]
theorem lWa:WF []:=by
 constructor<;>simp [aFa,bea,caa,par,kindOf]
theorem eca{T:List aaa}{r:aaa}(x:Nat):(T++ [r])[x]?=if x=T.length then some r else T[x]?:=by
 by_cases h:x<T.length
 ·rw [List.getElem?_append_left h,if_neg (by omega)]
 ·by_cases e:x=T.length
  ·subst e;simp
  ·rw [if_neg e,List.getElem?_eq_none (by simp;omega),List.getElem?_eq_none (by omega)]
theorem eba{T:List aaa}{r:aaa}{i:Nat}(hi:i<T.length)(x:Nat):(T.set i r)[x]?=if x=i then some r else T[x]?:=by
 rw [List.getElem?_set]
 by_cases h:x=i
 ·subst h;rw [if_pos rfl,if_pos hi,if_pos rfl]
 ·rw [if_neg (fun e=>h e.symm),if_neg h]
theorem dca{T:List aaa}{x:Nat}(h:¬x<T.length):T[x]?=none:=List.getElem?_eq_none (by omega)
theorem kJa{T:List aaa}(W:WF T)(hn:T.length<59){r:aaa}(hk:r.kind=sRoot)(hp:r.parent=none)(hc:r.children= [])(ha:r.attrs= [])(hs:r.nss= []):WF (T++ [r])∧∀ x,x<T.length->kindOf (T++ [r]) x=kindOf T x∧par (T++ [r]) x=par T x:=by
 have o:∀ x,(T++ [r])[x]?=if x=T.length then some r else T[x]?:=fun x=>eca x
 have z:T[T.length]?=none:=dca (by omega)
 have par':∀ x,par (T++ [r]) x=par T x:=fun x=>by
  unfold par;rw [o]
  by_cases e:x=T.length
  ·subst e;rw [if_pos rfl,z];exact hp
  ·rw [if_neg e]
 have kids':∀ x,aFa (T++ [r]) x=aFa T x:=fun x=>by
  unfold aFa;rw [o]
  by_cases e:x=T.length
  ·subst e;rw [if_pos rfl,z];exact hc
  ·rw [if_neg e]
 have atts':∀ x,bea (T++ [r]) x=bea T x:=fun x=>by
  unfold bea;rw [o]
  by_cases e:x=T.length
  ·subst e;rw [if_pos rfl,z];exact ha
  ·rw [if_neg e]
 have nsps':∀ x,caa (T++ [r]) x=caa T x:=fun x=>by
  unfold caa;rw [o]
  by_cases e:x=T.length
  ·subst e;rw [if_pos rfl,z];exact hs
  ·rw [if_neg e]
 have kind':∀ x,x<T.length->kindOf (T++ [r]) x=kindOf T x:=fun x h=>by
  unfold kindOf;rw [o,if_neg (by omega)]
 have kindn:kindOf (T++ [r]) T.length=sRoot:=by unfold kindOf;rw [o,if_pos rfl];exact hk
 refine⟨?_,fun x hx=>⟨kind' x hx,par' x⟩⟩
 have hlen:(T++ [r]).length=T.length+1:=by simp
 constructor
 ·omega
 ·intro i c hc;rw [kids'] at hc
  obtain⟨a1,a2,a3,a4⟩:=W.kid i c hc
  exact⟨a1,by omega,by rw [par'];exact a3,by rw [kind' c a2];exact a4⟩
 ·intro i c hc;rw [atts'] at hc
  obtain⟨a1,a2,a3,a4⟩:=W.att i c hc
  exact⟨a1,by omega,by rw [par'];exact a3,by rw [kind' c a2];exact a4⟩
 ·intro i c hc;rw [nsps'] at hc
  obtain⟨a1,a2,a3,a4⟩:=W.nsp i c hc
  exact⟨a1,by omega,by rw [par'];exact a3,by rw [kind' c a2];exact a4⟩
 ·intro i;rw [kids'];exact W.kidN i
 ·intro i;rw [atts'];exact W.attN i
 ·intro i;rw [nsps'];exact W.nspN i
 ·intro c i hp;rw [par'] at hp
  have h1:=cja hp
  have h2:=(W.up c i hp).1
  rw [kind' c h1,kind' i (by omega),atts',nsps',kids'];exact W.up c i hp
 ·intro c hc
  by_cases h:c=T.length
  ·subst h
   rw [par',kindn]
   refine⟨fun _=>rfl,fun _=> ?_⟩
   unfold par;rw [z]
  ·rw [par',kind' c (by omega)];exact W.root c (by omega)
 ·intro i h1 h2
  rw [kids']
  by_cases h:i<T.length
  ·rw [kind' i h] at h1 h2;exact W.holds i h1 h2
  ·unfold aFa;rw [dca h]
 ·intro i h1
  rw [atts',nsps']
  by_cases h:i<T.length
  ·rw [kind' i h] at h1;exact W.holds2 i h1
  ·unfold bea caa;rw [dca h];exact⟨rfl,rfl⟩
theorem bma{T:List aaa}{i:Nat}(h:i<T.length):∃ r,T[i]?=some r:=⟨_,List.getElem?_eq_getElem h⟩
theorem hZa{T:List aaa}(W:WF T)(hn:T.length<59){i:Nat}{ri ri' r:aaa}(hi:T[i]?=some ri)(hp:r.parent=some i)(hc:r.children= [])(ha:r.attrs= [])(hs:r.nss= [])
 (hk:r.kind≠sRoot) (hpar:ri.kind=aLa∨(ri.kind=sRoot∧r.kind≠afa∧r.kind≠sNs)) (k':ri'.kind=ri.kind) (p':ri'.parent=ri.parent)
 (c':ri'.children=if r.kind≠afa∧r.kind≠sNs then ri.children++ [T.length] else ri.children) (a':ri'.attrs=if r.kind=afa then ri.attrs++ [T.length] else ri.attrs)
 (s':ri'.nss=if r.kind=sNs then ri.nss++ [T.length] else ri.nss):
 WF ((T++ [r]).set i ri')∧(∀ x,x<T.length->kindOf ((T++ [r]).set i ri') x=kindOf T x∧par ((T++ [r]).set i ri') x=par T x)∧kindOf ((T++ [r]).set i ri') T.length=r.kind:=by
 have hil:=(List.getElem?_eq_some_iff.mp hi).1
 have o:∀ x,((T++ [r]).set i ri')[x]?=if x=i then some ri' else if x=T.length then some r else T[x]?:=fun x=>by rw [eba (by simp;omega),eca]
 have z:T[T.length]?=none:=dca (by omega)
 have par':∀ x,par ((T++ [r]).set i ri') x=if x=T.length then some i else par T x:=fun x=>by
  unfold par;rw [o]
  by_cases h1:x=i
  ·subst h1;rw [if_pos rfl,if_neg (by omega),hi];exact p'
  ·rw [if_neg h1]
   by_cases h2:x=T.length
   ·rw [if_pos h2,if_pos h2];exact hp
   ·rw [if_neg h2,if_neg h2]
 have kind':∀ x,kindOf ((T++ [r]).set i ri') x=if x=T.length then r.kind else kindOf T x:=fun x=>by
  unfold kindOf;rw [o]
  by_cases h1:x=i
  ·subst h1;rw [if_pos rfl,if_neg (by omega),hi];exact k'
  ·rw [if_neg h1]
   by_cases h2:x=T.length
   ·rw [if_pos h2,if_pos h2]
   ·rw [if_neg h2,if_neg h2]
 refine⟨WF.grow W hn (by simp) hil r.kind par' kind' ?_ ?_ ?_ hk (by rw [aXa hi];exact hpar),fun x hx=>⟨by rw [kind',if_neg (by omega)],by rw [par',if_neg (by omega)]⟩,by rw [kind',if_pos rfl]⟩
 ·intro x
  by_cases h1:x=i
  ·subst h1
   rw [cIa (r:=ri') (by rw [o,if_pos rfl]),cIa hi,c'];simp
  ·rw [if_neg (fun q=>h1 q.1)]
   unfold aFa;rw [o,if_neg h1]
   by_cases h2:x=T.length
   ·subst h2;rw [if_pos rfl,z];exact hc
   ·rw [if_neg h2]
 ·intro x
  by_cases h1:x=i
  ·subst h1
   rw [bFa (r:=ri') (by rw [o,if_pos rfl]),bFa hi,a'];simp
  ·rw [if_neg (fun q=>h1 q.1)]
   unfold bea;rw [o,if_neg h1]
   by_cases h2:x=T.length
   ·subst h2;rw [if_pos rfl,z];exact ha
   ·rw [if_neg h2]
 ·intro x
  by_cases h1:x=i
  ·subst h1
   rw [goa (r:=ri') (by rw [o,if_pos rfl]),goa hi,s'];simp
  ·rw [if_neg (fun q=>h1 q.1)]
   unfold caa;rw [o,if_neg h1]
   by_cases h2:x=T.length
   ·subst h2;rw [if_pos rfl,z];exact hs
   ·rw [if_neg h2]
end Mine
namespace Mine
noncomputable def qPa(T:List aaa)(r:Nat):List Nat:=(aEa T r).filter fun x=> !aoa T x
end Mine
namespace Mine
section
variable {prog:Program} {w:World} {A:Around} {E:Value->Shared->Prop} {s:Shared} {env:Env} {h₀:Heap} {x:Str} {body:List Stmt} {Q:Flow->Shared->Prop} {m₀:Str->Option Value}
theorem ePa{L r:Addr}{a b:Int}{t₀ u₀ v₀:Tok}{n:Nat}(hL:env.locals=L){σ:Type}(Led:σ->List (Addr×Obj))(ps:σ->List (Str×Value))(st:List Str)(J:Nat->σ->Prop)(c₀:σ)(fix:List (Addr×Obj)){news:List (Addr×Obj)}
 (hh:A.handled=none) (hr:IsRange s.heap r a b 1 t₀ u₀ v₀) (hsmall:Builtin.Range.small a b 1=true) (hn:Builtin.Range.rangeSize a b 1=((n:Nat):Int)) (F:Fr h₀ L s.heap m₀) (N:News h₀ L s.heap news) (hin:∀ p∈Led c₀++fix,p∈news)
 (hoff:∀ q∈Led c₀,∀ p∈fix, @Ne Nat p.1 q.1)
 (hps:∀ p∈ps c₀,m₀ p.1=some p.2) (hj:J 0 c₀)
 (turn:∀ (i:Nat) t c u h tk own,i<n->J i c->Fr h₀ L h (fun y=>if y=x then some (.int (a+(i:Nat)) t) else bXa (ps c) (x::st) u m₀ y)->News h₀ L h (Led c++(fix++own))->(∀ q∈Led c,∀ p∈fix++own, @Ne Nat p.1 q.1)->
   wpAny (model prog w) A (execs body env) (bOa h₀ L Led ps st m₀ x (J (i+1)) (fix++own) {s with heap:=h,toks:=tk} Q) E {s with heap:=h,toks:=tk})
 (done:∀ c u h tk,J n c->Fr h₀ L h (bXa (ps c) (x::st) u m₀)->News h₀ L h (Led c++fix)->(∀ q∈Led c,∀ p∈fix, @Ne Nat p.1 q.1)->Q .next {s with heap:=h,toks:=tk}):
 wpAny (model prog w) A (pyIter (.ref r)) (fun it s₂=>LoopAtV prog w A h₀ env x body Q E it s₂) E s:=by
 subst hL
 refine wpAny_pyIter_range hr hsmall ?_
 have W:Walks prog w A s.heap.objs.size [s.heap.objs.size] [s.heap.objs.size] n (fun i v=>i<n∧∃ t,v= .int (a+i*1) t)
  (fun i h=>IsRangeIter h s.heap.objs.size (a+(i:Nat)*1) ((n:Int)-(i:Nat)) 1):=(Walks.range hh _ a 1 n).bound
 refine dia W Led ps st J c₀ fix ⟨_,Heap.get?_push_size _ rfl⟩ ?_ (next_is_new F) (by show IsRangeIter _ _ _ _ _;rw [hn];simpa using Heap.get?_push_size _ rfl) (F.push _) (fun p hp=>⟨Heap.get?_push_of_some _ (N p hp).1,(N p hp).2⟩) hin
  (fun p hp=>Nat.ne_of_lt (Heap.lt_size (N p (hin p hp)).1)) hoff (fun k c hJc p hp hI hm=>hI (lsM hm)) hps hj (fun i h hSt=>⟨_,hSt⟩) (fun i v c u h tk own hP hi hJ F N hs=> ?_) done
 ·intro hm
  exact absurd F.ns.lt ((lsM hm)▸Nat.lt_irrefl _)
 ·obtain⟨_,t,rfl⟩:=hP
  have e:a+(i:Int)*1=a+(i:Nat):=by omega
  rw [e] at F
  exact turn i t c u h tk own hi hJ F N hs
end
theorem c2a{g h:Heap}{l rest:List (Addr×Obj)}(H:Hid g h l)(kp:∀ p∈rest,g.get? p.1=some p.2):∀ p∈l,∀ q∈rest, @Ne Nat q.1 p.1:=fun p hp q hq e=>by
 have a:=(H p hp).2
 have b:=kp q hq
 have e':q.1=p.1:=e
 rw [e',a] at b;cases b
theorem cXa{g h:Heap}{L:Addr}{l rest:List (Addr×Obj)}(H:News g L h l)(H':News g L h rest):News g L h (l++rest):=fun p hp=>(laM hp).elim (H p) (H' p)
inductive TLH(C:Addr)(P:Params)(t:Addr)(l:List (Addr×Obj)):Prop
 |ik (dt rl:Addr) (tk ep:Nat) (l':List (Addr×Obj)) (e:l=(t,instObj C dt)::(dt,dictOf [⟨PyData.keyHash P (Str.ofString "rows"), .str (Str.ofString "rows") tk, .ref rl⟩] ep)::l'):TLH C P t l
theorem ela.head{C R:Addr}{P:Params}{t:Addr}{T:List aaa}{l:List (Addr×Obj)}(H:ela C R P t T l):TLH C P t l:=by
 obtain⟨M,tag,rfl,_,_,rfl⟩:=H
 exact⟨M.dt,M.rl,M.tk,M.ep1,_,rfl⟩
theorem TLH.ex {C:Addr} {P:Params} {t:Addr} {l:List (Addr×Obj)} (H:TLH C P t l):∃ (dt rl:Addr) (tk ep:Nat) (l':List (Addr×Obj)),l=(t,instObj C dt)::(dt,dictOf [⟨PyData.keyHash P (Str.ofString "rows"), .str (Str.ofString "rows") tk, .ref rl⟩] ep)::l':=by
 obtain⟨a,b,c,d,e,f⟩:=H
 exact⟨a,b,c,d,e,f⟩
theorem iva{α:Type}{a b c x:α}(h:x∈ [a,b,c]):x=a∨x=b∨x=c:=by simpa using h
end Mine
namespace Mine
theorem ar20:True:=by
 k_with "ar20" =>with_reducible first|exact kHa ‹_› |exact lNa|((show _≤_);first|exact lQa|exact mDa ‹_› |exact kGa ‹_› ‹_› ‹_› |exact mQa ‹_›)
 trivial
open PyProof.Rows.LCg (lst NsObj ns_obj lst_snoc)
section
variable {prog:Program} {w:World} {A:Around} {E:Value->Shared->Prop} {s:Shared} {env:Env} {h₀:Heap} {L:Addr} {m:Str->Option Value} {elt:Expr} {x:Str} {ifs:List Expr} {scope:Scope} {cl:List (Str×Addr)}
noncomputable def qva (names:List (Str×NameKind)) (x:Str):Prop:=(∀ (n:Nat) (acc:List (Str×Addr)),cellsFrom n names acc=(x,n)::acc)∧∀ h,pushCells h names=h.push {cls:= .type "cell",data:= .cell none}
inductive lya(prog:Program)(w:World)(A:Around)(h₀:Heap)(L:Addr)(m:Str->Option Value)(env:Env)(elt:Expr)(x:Str)(ifs:List Expr)(scope:Scope)(cl:List (Str×Addr))(mf:Addr->Str->Option Value)(Fin:Addr->Shared->Prop)(it:Value)(s₂:Shared):Prop
 |ik (I:Addr) (fp:List Addr) (n:Nat) (P:Nat->Value->Prop) (St:Nat->Heap->Prop) (news:List (Addr×Obj)) (J:Nat->List Value->List (Addr×Obj)->Prop)
  (f0:it= .ref I)
  (f1:Walks prog w A I fp [I] n P St)
  (f2:n≤sizeLine)
  (f3:L ∉ fp)
  (f4:h₀.get? I=none)
  (f5:(∀ b∈fp,b<s₂.heap.objs.size))
  (f6:(∀ p∈news,p.1≠I))
  (f7:St 0 s₂.heap)
  (f8:(∀ i h,St i h->∀ b∈fp,∃ o,h.get? b=some o))
  (f9:Fr h₀ L s₂.heap m)
  (f10:News h₀ L s₂.heap news)
  (f11:J 0 [] news)
  (f12:(∀ i v ys news₁ h₁ tk₁ own bad C X oX E',i<n->P i v->ys.length≤i->J i ys news₁->(∀ b∈fp,h₀.get? b=none->∀ o,h₁.get? b=some o->(b,o)∈own)->(∀ p∈own,p.1∈fp∨p.1∈bad)->(∀ b∈bad,∃ o,(b,o)∈own)->(∀ b∈fp,∃ o,h₁.get? b=some o)->(∀ p∈news₁,p.1 ∉ bad)->(X,oX)∈own->oX.data= .cell (some v)->Fr h₀ L h₁ m->News h₀ L h₁ (own++news₁)->wpAny (model prog w) A (boa ifs (compEnvC scope ((x,X)::cl) C env)) (fun ok s₃=>if ok=true then wpAny (model prog w) A (eval elt (compEnvC scope ((x,X)::cl) C env)) (fun y s₄=>eza h₀ L m (fun ys nw=>J (i+1) ys nw) own bad (ys++ [y]) {s₂ with heap:=h₁,toks:=tk₁} s₄) E' s₃ else eza h₀ L m (fun ys nw=>J (i+1) ys nw) own bad ys {s₂ with heap:=h₁,toks:=tk₁} s₃) E' {s₂ with heap:=h₁,toks:=tk₁}))
  (f13:∀ D h' tk ys news',J n ys news'->ys.length≤n->Fr h₀ L h' (mf D)->News h₀ L h' ((D,lst ys)::news')->(∀ p∈news', @Ne Nat p.1 D)->Fin D {s₂ with heap:=h',toks:=tk}):lya prog w A h₀ L m env elt x ifs scope cl mf Fin it s₂
inductive qxa(h₀:Heap)(L:Addr)(m:Str->Option Value)(n:Nat)(St:Nat->Heap->Prop)(J:Nat->List Value->List (Addr×Obj)->Prop)(I D C X:Addr)(s₂:Shared)(k:Nat)(s':Shared):Prop
 |ik (h':Heap) (tk:Nat) (i:Nat) (ys:List Value) (m':Str->Option Value) (news':List (Addr×Obj))
  (f0:s'= {s₂ with heap:=h',toks:=tk}) (f1:i≤n) (f2:k=n+1-i) (f3:ys.length≤i) (f4:St i h') (f5:Fr h₀ L h' m) (f6:h'.Ns C m') (f7:(∃ oX v₀,h'.get? X=some oX∧oX.data= .cell v₀)) (f8:News h₀ L h' ((D,lst ys)::news')) (f9:(∀ p∈news',p.1≠I∧p.1≠D∧p.1≠C∧p.1≠X)) (f10:J i ys news'):qxa h₀ L m n St J I D C X s₂ k s'
inductive qya(h₀:Heap)(L:Addr)(m:Str->Option Value)(St:Nat->Heap->Prop)(J:Nat->List Value->List (Addr×Obj)->Prop)(I D C X:Addr)(s₂:Shared)(oC oD oX₃:Obj)(i:Nat)(zs:List Value)(s₅:Shared):Prop
 |ik (h₄:Heap) (tk₄:Nat) (news₄:List (Addr×Obj))
  (f0:s₅= {s₂ with heap:=h₄,toks:=tk₄}) (f1:Fr h₀ L h₄ m) (f2:h₄.get? C=some oC) (f3:h₄.get? D=some oD) (f4:h₄.get? X=some oX₃) (f5:News h₀ L h₄ news₄) (f6:St (i+1) h₄) (f7:(∀ p∈news₄,p.1≠I∧p.1≠D∧p.1≠C∧p.1≠X)) (f8:J (i+1) zs news₄):qya h₀ L m St J I D C X s₂ oC oD oX₃ i zs s₅
end
end Mine
namespace Mine
section
variable {prog:Program} {w:World} {A:Around} {E:Value->Shared->Prop} {s:Shared} {env:Env} {h₀:Heap} {x:Str} {body:List Stmt} {Q:Flow->Shared->Prop} {m₀:Str->Option Value} {l:Addr} {vs:List Value}
end
end Mine
namespace Mine
noncomputable abbrev bSa:Str:=Str.ofString "instruction"
noncomputable abbrev ika:Str:=Str.ofString "text"
noncomputable abbrev ila:Str:=Str.ofString "comment"
noncomputable abbrev sB:Str:=Str.ofString "b"
noncomputable def bHa (T:List aaa) (i:Nat):Str:=match T[i]? with|some r=>r.name|none=>Str.ofString ""
theorem d2a{T:List aaa}{i:Nat}{r:aaa}(h:T[i]?=some r):bHa T i=r.name:=by unfold bHa;rw [h]
noncomputable def fta (T:List aaa):Prop:=∀ (i:Nat) (r:aaa),T[i]?=some r->r.kind≠sNs∧((r.kind=aLa∨r.kind=afa)->r.loc=r.name∧r.uri=Str.ofString "")
inductive Tst where|node|any|nameB|kd (k:Str)|instr (o:Option Str)
 deriving Inhabited
inductive Prd where|num (m:Nat)|last|odd|isB
 deriving Inhabited
inductive Vl where|tup (a:Nat)|bl (b:Bool)|st (y:Bool)
 deriving Inhabited
noncomputable def eoa(ax:Str):Str:=if ax=afa then afa else aLa
theorem sxa{ax:Str}(hn:ax≠sNs)(h:([afa,sNs].any fun x=>x==ax)=true):eoa ax=ax:=by
 unfold eoa
 rcases(show afa=ax∨sNs=ax by simpa using h) with e|e
 ·rw [if_pos e.symm,e]
 ·exact absurd e.symm hn
theorem swa{ax:Str}(h:([afa,sNs].any fun x=>x==ax)=false):eoa ax=aLa:=by
 unfold eoa
 have h2:¬afa=ax∧¬sNs=ax:=by simpa using h
 rw [if_neg fun e=>h2.1 e.symm]
theorem sua{ax:Str}(h:(ax==afa)=true):eoa ax=afa:=by unfold eoa;rw [if_pos (by simpa using h)]
theorem sva{ax:Str}(h:(ax==afa)=false):eoa ax=aLa:=by unfold eoa;rw [if_neg (by simpa using h)]
theorem sQa{ax a b c:Str}(h:([a,b,c].any fun x=>x==ax)=true):ax=a∨ax=b∨ax=c:=by
 have h2:a=ax∨b=ax∨c=ax:=by simpa using h
 exact h2.imp Eq.symm (Or.imp Eq.symm Eq.symm)
theorem sPa{ax a b c d:Str}(h:([a,b,c,d].any fun x=>x==ax)=true):ax=a∨ax=b∨ax=c∨ax=d:=by
 have h2:a=ax∨b=ax∨c=ax∨d=ax:=by simpa using h
 exact h2.imp Eq.symm (Or.imp Eq.symm (Or.imp Eq.symm Eq.symm))
theorem lsa {ax:Str} (h:ax∈aga++aya) (h1:([Str.ofString "self",Str.ofString "parent",Str.ofString "ancestor",Str.ofString "ancestor-or-self"].any fun x=>x==ax)=false) (h2:([Str.ofString "child",Str.ofString "descendant",Str.ofString "descendant-or-self"].any fun x=>x==ax)=false)
 (h3:(ax==Str.ofString "attribute")=false) (h4:(ax==Str.ofString "following-sibling")=false) (h5:(ax==Str.ofString "preceding-sibling")=false) (h6:(ax==Str.ofString "following")=false):ax=Str.ofString "preceding" :=by
 simp only [List.any_cons,List.any_nil,Bool.or_false,Bool.or_eq_false_iff,beq_eq_false_iff_ne] at h1 h2 h3 h4 h5 h6
 simp only [aga,aya,List.cons_append,List.nil_append,List.mem_cons,List.not_mem_nil,or_false] at h
 obtain⟨a1,a2,a3,a4⟩:=h1
 obtain⟨b1,b2,b3⟩:=h2
 rcases h with h|h|h|h|h|h|h|h|h|h|h|h
 ·exact absurd h.symm b1
 ·exact absurd h.symm a1
 ·exact absurd h.symm a2
 ·exact absurd h h3
 ·exact absurd h h4
 ·exact absurd h h5
 ·exact absurd h.symm b2
 ·exact absurd h.symm b3
 ·exact absurd h.symm a3
 ·exact absurd h.symm a4
 ·exact absurd h h6
 ·exact h
theorem mpa{a b c:Bool}(h1:a=true)(h2:b=true):Value.bool c= .bool (a&&(b&&c)):=by rw [h1,h2];rfl
theorem moa{a b c:Bool}(h1:a=true)(h2:b=false):Value.bool b= .bool (a&&(b&&c)):=by rw [h1,h2];rfl
theorem mna{a b c:Bool}(h1:a=false):Value.bool a= .bool (a&&(b&&c)):=by rw [h1];rfl
theorem hba{a b:Bool}(h1:a=true):Value.bool b= .bool (a&&b):=by rw [h1];rfl
theorem haa{a b:Bool}(h1:a=false):Value.bool a= .bool (a&&b):=by rw [h1];rfl
noncomputable def dYa(T:List aaa)(i:Nat)(ax:Str):Tst->Bool
 | .node=>true
 | .kd k=>kindOf T i==k
 | .instr none=>kindOf T i==bSa
 | .instr (some s)=>kindOf T i==bSa&&bHa T i==s
 | .any=>kindOf T i==eoa ax
 | .nameB=>kindOf T i==eoa ax&&bHa T i==sB
noncomputable def kea(T:List aaa)(p:Prd)(n pos size:Nat):Vl:=match p with
 | .num m=> .tup m
 | .last=> .tup size
 | .odd=> .bl (pos%2==1)
 | .isB=> .st (bHa T n==sB)
noncomputable def iKa(v:Vl)(pos:Nat):Bool:=match v with
 | .tup a=>a==pos
 | .bl b=>b
 | .st y=>y
noncomputable def b6a(T:List aaa)(p:Prd)(ns:List Nat)(x:Nat×Nat):Bool:=iKa (kea T p x.1 (x.2+1) ns.length) (x.2+1)
noncomputable def fja(T:List aaa)(p:Prd)(ns:List Nat):List Nat:=(ns.zipIdx.filter (b6a T p ns)).map (·.1)
noncomputable def c0a(T:List aaa)(ps:List Prd)(ns:List Nat):List Nat:=ps.foldl (fun ns p=>fja T p ns) ns
noncomputable def a1a(T:List aaa):List Nat:=(List.range T.length).filter fun x=>kindOf T x !=afa
noncomputable def a8a(T:List aaa)(i:Nat):List Nat:=(a1a T).filter fun x=>decide (i∈anc T x)
noncomputable def bDa(T:List aaa)(i:Nat):List Nat:=(a1a T).filter fun x=>kindOf T i !=afa&&(decide (par T x=par T i)&&decide (x≠i))
theorem csa{T:List aaa}{x:Nat}(h:x∈a1a T):x<T.length:=List.mem_range.mp (List.mem_filter.mp h).1
theorem dOa(T:List aaa):(a1a T).length≤T.length:=Nat.le_trans (List.length_filter_le _ _) (by rw [List.length_range];exact Nat.le_refl _)
theorem hXa{T:List aaa}{i x:Nat}(h:x∈a8a T i):x<T.length:=csa (List.mem_filter.mp h).1
theorem fWa{T:List aaa}{i x:Nat}(h:x∈bDa T i):x<T.length:=csa (List.mem_filter.mp h).1
theorem hda(T:List aaa)(i:Nat):(a8a T i).length≤T.length:=Nat.le_trans (List.length_filter_le _ _) (dOa T)
theorem hLa(T:List aaa)(i:Nat):(bDa T i).length≤T.length:=Nat.le_trans (List.length_filter_le _ _) (dOa T)
structure Ord(T:List aaa):Prop where
 up:∀ y,0<y->y<T.length->∃ p,par T y=some p∧(p=y-1∨p∈anc T (y-1))
 att:∀ y,y<T.length->kindOf T y=afa->par T y=some (y-1)∨(kindOf T (y-1)=afa∧par T (y-1)=par T y)
 kidA:∀ i,(aFa T i).Pairwise (· < ·)
 attA:∀ i,(bea T i).Pairwise (· < ·)
 noNs:∀ i,kindOf T i≠sNs
structure Stp where
 ax:Str
 tst:Tst
 prd:List Prd
 deriving Inhabited
noncomputable def d4a(T:List aaa)(st:Stp)(i:Nat):List Nat:=c0a T st.prd ((aDa T i st.ax).filter fun x=>dYa T x st.ax st.tst)
noncomputable def jNa(T:List aaa)(st:Stp)(ns:List Nat):List Nat:=(List.range T.length).filter fun x=>decide (∃ n∈ns,x∈d4a T st n)
noncomputable def cZa(T:List aaa)(sts:List Stp)(ns:List Nat):List Nat:=sts.foldl (fun ns st=>jNa T st ns) ns
theorem iCa{T:List aaa}{p:Prd}{ns:List Nat}{x:Nat}(h:x∈fja T p ns):x∈ns:=by
 obtain⟨⟨a,b⟩,h1,rfl⟩:=List.mem_map.mp h
 have h2:=List.mem_filter.mp h1
 exact List.mem_of_getElem? (List.mem_zipIdx_iff_getElem?.mp h2.1)
theorem iDa{T:List aaa}{p:Prd}{ns:List Nat}:(fja T p ns).length≤ns.length:=by
 unfold fja
 rw [List.length_map]
 exact Nat.le_trans (List.length_filter_le _ _) (by rw [List.length_zipIdx];exact Nat.le_refl _)
theorem cva{T:List aaa}:∀ {ps:List Prd} {ns:List Nat} {x:Nat},x∈c0a T ps ns->x∈ns
 | [],_,_,h=>h
 |p::ps,ns,_,h=>iCa (cva (ps:=ps) (ns:=fja T p ns) h)
theorem bia{T:List aaa}:∀ {ps:List Prd} {ns:List Nat},(c0a T ps ns).length≤ns.length
 | [],_=>Nat.le_refl _
 |p::ps,ns=>Nat.le_trans (bia (ps:=ps) (ns:=fja T p ns)) iDa
theorem eJa {T:List aaa} (WN:fta T) {i:Nat} {r:aaa} (h:T[i]?=some r) (ax:Str):((([aLa,afa].any fun x=>x==kindOf T i)&&(r.loc==sB&&r.uri==Str.ofString ""))&&kindOf T i==eoa ax)=dYa T i ax .nameB:=by
 obtain⟨h1,h2⟩:=WN i r h
 show _=(kindOf T i==eoa ax&&bHa T i==sB)
 rw [aXa h,d2a h]
 cases hk:r.kind==eoa ax with
 |false=>simp
 |true=>
  have hk:r.kind=eoa ax:=by simpa using hk
  have h3:r.kind=aLa∨r.kind=afa:=by
   rw [hk];unfold eoa;split
   ·exact .inr rfl
   ·exact .inl rfl
  obtain⟨e1,e2⟩:=h2 h3
  rw [e1,e2,show([aLa,afa].any fun x=>x==r.kind)=true by rcases h3 with e|e<;>rw [e]<;>decide]
  simp
theorem k7a{T:List aaa}{x:Stp}{ns:List Nat}{y:Nat}(h:y∈jNa T x ns):y<T.length:=List.mem_range.mp (List.mem_filter.mp h).1
theorem gVa{T:List aaa}(hT:T.length<60)(x:Stp)(ns:List Nat):(jNa T x ns).length<60:=Nat.lt_of_le_of_lt (List.length_filter_le _ _) (by rw [List.length_range];exact hT)
theorem eNa{T:List aaa}{xs:List Stp}{ns:List Nat}{k:Nat}{x:Stp}(h:xs[k]?=some x):cZa T (xs.take (k+1)) ns=jNa T x (cZa T (xs.take k) ns):=by
 unfold cZa
 rw [List.take_add_one,h,List.foldl_append]
 rfl
theorem dJa{T:List aaa}:∀ {ns:List Nat} (_:∀ y∈ns,y<T.length) (xs:List Stp),∀ y∈cZa T xs ns,y<T.length
 |_,h, []=>h
 |_,_,_::xs=>dJa (fun _ hy=>k7a hy) xs
theorem cka{T:List aaa}(hT:T.length<60):∀ {ns:List Nat} (_:ns.length<60) (xs:List Stp),(cZa T xs ns).length<60
 |_,h, []=>h
 |_,_,x::xs=>cka hT (gVa hT x _) xs
noncomputable def bna(P:Addr->Stp->Prop):List Value->List Stp->Prop
 | [], []=>True
 |v::vs,n::ns=>(∃ a,v= .ref a∧P a n)∧bna P vs ns
 |_,_=>False
theorem bna.len{P:Addr->Stp->Prop}:∀ {vs:List Value} {ns:List Stp},bna P vs ns->vs.length=ns.length
 | [], [],_=>rfl
 | [],_::_,h=>h.elim
 |_::_, [],h=>h.elim
 |_::_,_::_,h=>by simp [bna.len h.2]
theorem bna.get{P:Addr->Stp->Prop}:∀ {vs:List Value} {ns:List Stp} {i:Nat} {v:Value},bna P vs ns->vs[i]?=some v->∃ a n,v= .ref a∧ns[i]?=some n∧P a n
 | [],_,_,_,_,h=>by simp at h
 |_::_, [],_,_,h,_=>h.elim
 |v::vs,n::ns,0,u,h,e=>by
  simp at e;subst e
  obtain⟨⟨a,rfl,hp⟩,_⟩:=h
  exact⟨a,n,rfl,rfl,hp⟩
 |v::vs,n::ns,i+1,u,h,e=>by
  have e':vs[i]?=some u:=by simpa using e
  obtain⟨a,m,h1,h2,h3⟩:=bna.get h.2 e'
  exact⟨a,m,h1,by simpa using h2,h3⟩
theorem bna.snoc{P:Addr->Stp->Prop}:∀ {vs:List Value} {ns:List Stp} {a:Addr} {n:Stp},bna P vs ns->P a n->bna P (vs++ [.ref a]) (ns++ [n])
 | [], [],a,_,_,h=>⟨⟨a,rfl,h⟩,trivial⟩
 | [],_::_,_,_,h,_=>h.elim
 |_::_, [],_,_,h,_=>h.elim
 |_::_,_::_,_,_,h,h'=>⟨h.1,bna.snoc h.2 h'⟩
theorem bna.mono{P P':Addr->Stp->Prop}(hp:∀ a n,P a n->P' a n):∀ {vs:List Value} {ns:List Stp},bna P vs ns->bna P' vs ns
 | [], [],_=>trivial
 | [],_::_,h=>h.elim
 |_::_, [],h=>h.elim
 |_::_,_::_,h=>⟨let ⟨a,e,h1⟩:=h.1;⟨a,e,hp a _ h1⟩,bna.mono hp h.2⟩
inductive cqa(h:Heap)(a:Addr):Tst->Prop
 |node (t:Tok):h.get? a=some (aea #[.str (Str.ofString "node") t])->cqa h a .node
 |any (t:Tok):h.get? a=some (aea #[.str (Str.ofString "any") t])->cqa h a .any
 |text (t:Tok):h.get? a=some (aea #[.str ika t])->cqa h a (.kd ika)
 |comm (t:Tok):h.get? a=some (aea #[.str ila t])->cqa h a (.kd ila)
 |nameB (t t1 t2:Tok):h.get? a=some (aea #[.str (Str.ofString "name") t, .str (Str.ofString "") t1, .str sB t2])->cqa h a .nameB
 |instN (t:Tok):h.get? a=some (aea #[.str bSa t, .none])->cqa h a (.instr none)
 |instS (t t1:Tok) (s:Str):h.get? a=some (aea #[.str bSa t, .str s t1])->cqa h a (.instr (some s))
theorem cqa.stays{h h':Heap}{a:Addr}{x:Tst}(X:cqa h a x)(st:h.StaysIn h'):cqa h' a x:=by
 cases X with
 |node t e=>exact .node t (st _ _ e)
 |any t e=>exact .any t (st _ _ e)
 |text t e=>exact .text t (st _ _ e)
 |comm t e=>exact .comm t (st _ _ e)
 |nameB t t1 t2 e=>exact .nameB t t1 t2 (st _ _ e)
 |instN t e=>exact .instN t (st _ _ e)
 |instS t t1 s e=>exact .instS t t1 s (st _ _ e)
inductive jca:Prd->Value->Prop
 |num (m:Nat) (t:Tok):m<3->jca (.num m) (.int m t)
 |last (t:Tok):jca .last (.str (Str.ofString "last") t)
 |odd (t:Tok):jca .odd (.str (Str.ofString "odd") t)
 |isB (t:Tok):jca .isB (.str sB t)
inductive cca:List Value->List Prd->Prop
 |nil:cca [] []
 |cons {v:Value} {p:Prd} {vs:List Value} {ps:List Prd}:jca p v->cca vs ps->cca (v::vs) (p::ps)
inductive dMa(h:Heap)(v:Value):Vl->Prop
 |tup (a:Nat) (t:Addr) (t1 t2:Tok):v= .ref t->h.get? t=some (aea #[.int a t1, .int 1 t2])->dMa h v (.tup a)
 |bl (b:Bool):v= .bool b->dMa h v (.bl b)
 |yes (t:Tok):v= .str (Str.ofString "yes") t->dMa h v (.st true)
 |no (t:Tok):v= .str (Str.ofString "") t->dMa h v (.st false)
theorem dMa.reads{h:Heap}{t:Addr}{a:Nat}{t1 t2:Tok}(e:h.get? t=some (aea #[.int a t1, .int 1 t2])):∃ as,Reads h (.ref t) (.tuple [.int a, .int 1]) as:=
 ⟨_,reads_tuple_at e rfl rfl (ReadsAll.cons (Reads.int _ _) (ReadsAll.cons (Reads.int _ _) ReadsAll.nil))⟩
theorem dMa.stays{h h':Heap}{v:Value}{x:Vl}(X:dMa h v x)(st:h.StaysIn h'):dMa h' v x:=by
 cases X with
 |tup a t t1 t2 e e1=>exact .tup a t t1 t2 e (st _ _ e1)
 |bl b e=>exact .bl b e
 |yes t e=>exact .yes t e
 |no t e=>exact .no t e
theorem dMa.ofYes {h:Heap} {T:List aaa} {i pos size:Nat} {r:aaa} {t:Tok} (hri:T[i]?=some r) (e:(r.name==sB)=true):dMa h (.str (Str.ofString "yes") t) (kea T .isB i pos size):=by
 show dMa h _ (.st (bHa T i==sB))
 rw [d2a hri,e];exact .yes _ rfl
theorem dMa.ofNo {h:Heap} {T:List aaa} {i pos size:Nat} {r:aaa} {t:Tok} (hri:T[i]?=some r) (e:(r.name==sB)=false):dMa h (.str (Str.ofString "") t) (kea T .isB i pos size):=by
 show dMa h _ (.st (bHa T i==sB))
 rw [d2a hri,e];exact .no _ rfl
inductive lxa(h:Heap)(l:Addr)(ns:List Nat):Prop
 |ik (vs:List Value) (c:Nat) (f0:h.get? l=some (listOf vs.toArray c)) (f1:NV vs ns):lxa h l ns
theorem cca.get{vs:List Value}{ps:List Prd}(h:cca vs ps):∀ {k:Nat} {v:Value},vs[k]?=some v->∃ p,ps[k]?=some p∧jca p v:=by
 induction h with
 |nil=>intro k v e;simp at e
 |cons h1 _ ih=>
  intro k v e
  cases k with
  |zero=>simp at e;subst e;exact⟨_,rfl,h1⟩
  |succ k=>simp at e;obtain⟨p,e1,e2⟩:=ih e;exact⟨p,by simpa using e1,e2⟩
theorem cca.len{vs:List Value}{ps:List Prd}(h:cca vs ps):vs.length=ps.length:=by
 induction h with
 |nil=>rfl
 |cons _ _ ih=>simp [ih]
theorem d6a{T:List aaa}{ps:List Prd}{ns:List Nat}{k:Nat}{p:Prd}(h:ps[k]?=some p):c0a T (ps.take (k+1)) ns=fja T p (c0a T (ps.take k) ns):=by
 unfold c0a
 rw [List.take_add_one,h,List.foldl_append]
 rfl
theorem dHa{T:List aaa}{p:Prd}{ns:List Nat}{k n:Nat}(h:ns[k]?=some n):((ns.zipIdx.take (k+1)).filter (b6a T p ns)).map (·.1)=((ns.zipIdx.take k).filter (b6a T p ns)).map (·.1)++if b6a T p ns (n,k)=true then [n] else []:=by
 rw [List.take_add_one,List.getElem?_zipIdx,h,List.filter_append,List.map_append]
 simp only [Option.map_some,Option.toList_some,List.filter_cons,List.filter_nil,Nat.zero_add]
 split<;>simp
inductive lwa(h:Heap)(i:Nat)(r:aaa)(v:Value):Prop
 |ik (a:Addr) (t1 t2 t3:Tok) (pv:Value) (f0:v= .ref a) (f1:h.get? a=some (aea #[.int i t1, .str r.kind t2, .str r.name t3,pv])) (f2:b2a r.parent pv):lwa h i r v
inductive b9a(h:Heap)(l:Addr)(T:List aaa):Prop
 |ik (vs:List Value) (f0:h.IsList l vs.toArray) (f1:vs.length=T.length) (f2:∀ (i:Nat) (r:aaa),T[i]?=some r->∃ v,vs[i]?=some v∧lwa h i r v):b9a h l T
theorem lwa.stays{h h':Heap}{i:Nat}{r:aaa}{v:Value}(X:lwa h i r v)(st:h.StaysIn h'):lwa h' i r v:=by
 obtain⟨a,t1,t2,t3,pv,e,e1,e2⟩:=X
 exact⟨a,t1,t2,t3,pv,e,st _ _ e1,e2⟩
theorem b9a.stays{h h':Heap}{l:Addr}{T:List aaa}(X:b9a h l T)(st:h.StaysIn h'):b9a h' l T:=by
 obtain⟨vs,⟨o,a,b⟩,e1,e2⟩:=X
 refine⟨vs,⟨o,st _ _ a,b⟩,e1,fun i r hi=> ?_⟩
 obtain⟨v,hv,hr⟩:=e2 i r hi
 exact⟨v,hv,hr.stays st⟩
end Mine
namespace Mine
theorem ar21:True:=by
 k_with "ar21" =>with_reducible first|exact(pNa ‹_› ‹_›).elim
 trivial
theorem ck(L a b:Nat)(h:a≠b): @Ne Nat (L+a) (L+b):=by omega
theorem gOa(p:Nat->Bool)(k:Nat):(List.range (k+1)).filter p=(List.range k).filter p++if p k=true then [k] else []:=by
 rw [List.range_succ,List.filter_append,List.filter_cons,List.filter_nil]
theorem h3a(p:Nat->Bool){l:List Nat}{k n:Nat}(h:l[k]?=some n):(l.take (k+1)).filter p=(l.take k).filter p++if p n=true then [n] else []:=by
 rw [List.take_add_one,h,List.filter_append,Option.toList_some,List.filter_cons,List.filter_nil]
theorem e9a{p:Nat->Bool}{k:Nat}{ys:List Value}{tk:Tok}(h:NV ys ((List.range k).filter p))(hp:p k=true):NV (ys++ [.int (k:Nat) tk]) ((List.range (k+1)).filter p):=by
 rw [gOa,if_pos hp];exact h.snoc _ _
theorem fCa{p:Nat->Bool}{k:Nat}{ys:List Value}(h:NV ys ((List.range k).filter p))(hp:p k=false):NV ys ((List.range (k+1)).filter p):=by
 rw [gOa,if_neg (by rw [hp];decide),List.append_nil];exact h
theorem cOa{p:Nat->Bool}{l:List Nat}{k n:Nat}{ys:List Value}{tk:Tok}(h:NV ys ((l.take k).filter p))(hn:l[k]?=some n)(hp:p n=true):NV (ys++ [.int (n:Nat) tk]) ((l.take (k+1)).filter p):=by
 rw [h3a p hn,if_pos hp];exact h.snoc _ _
theorem c9a{p:Nat->Bool}{l:List Nat}{k n:Nat}{ys:List Value}(h:NV ys ((l.take k).filter p))(hn:l[k]?=some n)(hp:p n=false):NV ys ((l.take (k+1)).filter p):=by
 rw [h3a p hn,if_neg (by rw [hp];decide),List.append_nil];exact h
theorem iHa(a b:Nat):Value.bool ((a:Int)==(b:Int))= .bool (a==b):=by
 congr 1
 rw [Bool.eq_iff_iff,beq_iff_eq,beq_iff_eq]
 omega
section
variable {prog:Program} {w:World} {A:Around} {E:Value->Shared->Prop} {s:Shared} {Q:Value->Shared->Prop}
theorem kra{l:Addr}{x y1 y2:Value}{b1 b2:Bool}(hl:s.heap.IsList l [y1,y2].toArray)(h1:SeqAt.EqAt A.in1 s y1 x b1)(h2:SeqAt.EqAt A.in1 s y2 x b2)(hne:y1≠y2)(h:Q (.bool (b1||b2)) s):wpAny (model prog w) A (compareOp .In x (.ref l)) Q E s:=by
 refine SeqAt.in_listAt (fun y=> @ite _ (y=y1) (Classical.propDecidable _) b1 b2) hl (fun y hy=> ?_) ?_
 ·rcases(show y=y1∨y=y2 by simpa using hy) with rfl|rfl
  ·simpa using h1
  ·simpa [hne.symm] using h2
 ·simpa [hne.symm] using h
theorem fFa{l:Addr}{x y1 y2:Value}{b1 b2:Bool}(hl:s.heap.IsList l [y1,y2].toArray)(h1:SeqAt.EqAt A.in1 s y1 x b1)(h2:SeqAt.EqAt A.in1 s y2 x b2)(hne:y1≠y2)(h:Q (.bool (!(b1||b2))) s):wpAny (model prog w) A (compareOp .NotIn x (.ref l)) Q E s:=by
 refine SeqAt.notIn_listAt (fun y=> @ite _ (y=y1) (Classical.propDecidable _) b1 b2) hl (fun y hy=> ?_) ?_
 ·rcases(show y=y1∨y=y2 by simpa using hy) with rfl|rfl
  ·simpa using h1
  ·simpa [hne.symm] using h2
 ·simpa [hne.symm] using h
theorem qea{o1 o2:Option Nat}{v1 v2:Value}(h1:b2a o1 v1)(h2:b2a o2 v2)(h:Q (.bool (decide (o1=o2))) s):wpAny (model prog w) A (compareOp .Eq v1 v2) Q E s:=by
 cases h1 with
 |none=>
  cases h2 with
  |none=>exact EqNone.eq_none_none h
  |some b t=>exact EqNone.eq_none_int h
 |some a u=>
  cases h2 with
  |none=>exact EqNone.eq_int_none h
  |some b t=>exact eq_int (by rw [show((a:Int)==(b:Int))=decide (some a=some b) by rw [Bool.eq_iff_iff,beq_iff_eq,decide_eq_true_eq,Option.some.injEq];omega];exact h)
theorem eq_none_none:SeqAt.EqAt A s .none .none true:=fun prog w E Q h=>by
 unfold eqBool
 refine wpAny_holding ?_
 refine wpAny_ite_split (fun _=>wpAny_bind (wpAny_rule (wpAny_pure h))) (fun _=> ?_)
 exact wpAny_bind (SeqAt.RcAt.none_none prog w E _ (wpAny_truthy_bool h))
end
end Mine
namespace Mine
theorem ar22:True:=by
 k_with "ar22" =>with_reducible first|((show _<_);first|exact fva ‹_› ‹_› |exact qGa ‹_› ‹_› |exact lMa|exact lSa ‹_› |exact pma ‹_› |exact mOa ‹_› |exact zq4 ‹_› |exact qEa ‹_› ‹_› |exact pGa ‹_› ‹_›)|((show _≤_);first|exact mSa ‹_› |exact pqa ‹_› ‹_› |exact pua ‹_› ‹_› |exact sqa ‹_› ‹_› |exact mEa ‹_› ‹_› |exact p5a ‹_› ‹_› |exact pga ‹_›)|exact(kza ‹_› ‹_›).elim|exact(soa ‹_› ‹_›).elim|exact(jha ‹_› ‹_›).elim|exact(psa ‹_› ‹_›).elim|exact(mGa ‹_›).elim|exact(kEa ‹_› ‹_›).elim|exact(mPa ‹_› ‹_›).elim|exact(mAa ‹_›).elim|exact(oNa ‹_› ‹_› ‹_›).elim|exact(qJa ‹_› ‹_›).elim
 trivial
theorem j7a{T:List aaa}(W:WF T)(i:Nat):(anc T i).take 1=match par T i with|none=> []|some q=> [q]:=by
 cases h:par T i with
 |none=>rw [aNa h];rfl
 |some q=>rw [aka W h];rfl
theorem cpa{k l:List Nat}(hk:k.Pairwise (· < ·))(hl:l.Pairwise (· < ·))(h:∀ x,x∈k↔x∈l):k=l:=
 bLa (fun _ _ h1 h2=>Nat.lt_asymm h1 h2) (dXa (hk.imp Nat.ne_of_lt) (hl.imp Nat.ne_of_lt) h) hk hl
theorem dUa(n:Nat):(List.range n).Pairwise (· < ·):=List.pairwise_lt_range
theorem aTa(T:List aaa):(a1a T).Pairwise (· < ·):=(dUa _).filter _
theorem cia{T:List aaa}{x:Nat}:x∈a1a T↔x<T.length∧kindOf T x≠afa:=by
 unfold a1a
 rw [List.mem_filter,List.mem_range]
 simp
theorem f0a{T:List aaa}(W:WF T){i p:Nat}(h1:i∈anc T p):∀ y,p∈anc T y->i∈anc T y:=by
 intro y
 induction y using Nat.strongRecOn with
 |_ y ih=>
  intro h
  cases hp:par T y with
  |none=>rw [aNa hp] at h;cases h
  |some q=>
   rw [aka W hp] at h ⊢
   rcases lcM h with rfl|h
   ·exact List.mem_cons_of_mem _ h1
   ·exact List.mem_cons_of_mem _ (ih q (aja W hp) h)
theorem i1a{T:List aaa}(W:WF T)(O:Ord T){i y:Nat}(hy:i<y):∀ x,x<T.length->y≤x->i∈anc T x->i∈anc T y:=by
 intro x
 induction x with
 |zero=>intro _ h _;omega
 |succ x ih=>
  intro hx hyx h
  by_cases e:y=x+1
  ·subst e;exact h
  ·obtain⟨p,hp,hq⟩:=O.up (x+1) (by omega) hx
   rw [Nat.add_sub_cancel] at hq
   refine ih (by omega) (by omega) ?_
   rw [aka W hp] at h
   rcases hq with rfl|hq
   ·rcases lcM h with rfl|h
    ·omega
    ·exact h
   ·rcases lcM h with rfl|h
    ·exact hq
    ·exact f0a W h _ hq
theorem bAa{T:List aaa}(O:Ord T)(x:Nat):aoa T x=false↔kindOf T x≠afa:=by
 cases hb:aoa T x with
 |false=>exact⟨fun _ e=>(by rw [a6a.mpr (.inl e)] at hb;cases hb),fun _=>rfl⟩
 |true=>
  refine⟨fun e=>(nomatch e),fun e=> ?_⟩
  rcases a6a.mp hb with h|h
  ·exact absurd h e
  ·exact absurd h (O.noNs x)
theorem d0a{T:List aaa}(W:WF T){i a b:Nat}(pa:par T a=some i)(pb:par T b=some i):a ∉ anc T b:=by
 intro h
 rw [aka W pb] at h
 have h1:=aja W pa
 rcases lcM h with rfl|h
 ·omega
 ·have:=f1a W i a h;omega
theorem g4a{T:List aaa}(W:WF T)(O:Ord T):∀ i,(a3a T i).Pairwise (· < ·):=by
 have key:∀ k i,T.length-i≤k->(a3a T i).Pairwise (· < ·):=by
  intro k
  induction k with
  |zero=>
   intro i hk
   have:a3a T i= []:=List.eq_nil_iff_forall_not_mem.mpr fun x hx=>by have:=aAa W i x hx;omega
   rw [this];exact List.Pairwise.nil
  |succ k ih=>
   intro i hk
   rw [bpa W]
   refine aQa (O.kidA i) (fun c hc=> ?_) ?_
   ·have h1:=aJa W hc
    exact List.pairwise_cons.mpr ⟨fun x hx=>(aAa W c x hx).1,ih c (by omega)⟩
   ·intro a ha b hb hab x hx y hy
    have pa:=(W.kid i a ha).2.2.1
    have pb:=(W.kid i b hb).2.2.1
    have lb:=aJa W hb
    have hyb:b≤y:=by
     rcases lcM hy with rfl|hy
     ·exact Nat.le_refl _
     ·exact Nat.le_of_lt (aAa W b y hy).1
    rcases lcM hx with rfl|hx
    ·omega
    ·refine Nat.lt_of_not_le fun hyx=> ?_
     have hxl:=(aAa W a x hx).2
     have hax:=(fla W (n:=a) x (eTa W hx)).mp hx
     exact d0a W pa pb (i1a W O hab x hxl (by omega) hax)
 exact fun i=>key _ i (Nat.le_refl _)
theorem fga{T:List aaa}(W:WF T)(O:Ord T){i x:Nat}:x∈a3a T i↔x<T.length∧kindOf T x≠afa∧i∈anc T x:=by
 constructor
 ·intro h
  have hb:=eTa W h
  exact⟨(aAa W i x h).2,(bAa O x).mp hb,(fla W x hb).mp h⟩
 ·rintro⟨_,h2,h3⟩
  exact(fla W x ((bAa O x).mpr h2)).mpr h3
theorem eLa{T:List aaa}{i x:Nat}:x∈a8a T i↔x<T.length∧kindOf T x≠afa∧i∈anc T x:=by
 unfold a8a
 rw [List.mem_filter,cia,decide_eq_true_iff,and_assoc]
theorem ega{T:List aaa}(W:WF T)(O:Ord T){i:Nat}:a8a T i=a3a T i:=
 cpa ((aTa T).filter _) (g4a W O i) fun x=>by rw [eLa,fga W O]
theorem eWa{T:List aaa}(W:WF T)(O:Ord T){i:Nat}(_:i<T.length):a8a T i=a3a T i:=ega W O
theorem gBa{T:List aaa}(W:WF T)(O:Ord T){i:Nat}(_:i<T.length):((a8a T i).filter fun x=>decide (par T x=some i))=aFa T i:=by
 refine cpa (((aTa T).filter _).filter _) (O.kidA i) fun x=> ?_
 rw [List.mem_filter,eLa,decide_eq_true_iff]
 constructor
 ·rintro⟨⟨_,h2,_⟩,h3⟩
  exact(iAa W ((bAa O x).mpr h2)).mpr h3
 ·intro h
  obtain⟨h1,h2,h3,h4,_⟩:=W.kid i x h
  refine⟨⟨h2,h4, ?_⟩,h3⟩
  rw [aka W h3];exact List.mem_cons_self
theorem hRa{T:List aaa}(W:WF T)(O:Ord T){i:Nat}(_:i<T.length):((List.range T.length).filter fun x=>kindOf T x==afa&&decide (par T x=some i))=bea T i:=by
 refine cpa ((dUa _).filter _) (O.attA i) fun x=> ?_
 rw [List.mem_filter,List.mem_range,Bool.and_eq_true,beq_iff_eq,decide_eq_true_iff]
 constructor
 ·rintro⟨_,h2,h3⟩
  have h4:=(W.up x i h3).2.2
  rw [if_pos h2] at h4;exact h4
 ·intro h
  obtain⟨h1,h2,h3,h4⟩:=W.att i x h
  exact⟨h2,h4,h3⟩
theorem e3a{T:List aaa}(W:WF T)(O:Ord T){x:Nat}(hx:x<T.length)(h:par T x=none):x=0:=by
 rcases Nat.eq_zero_or_pos x with e|e
 ·exact e
 ·obtain⟨p,hp,_⟩:=O.up x e hx
  rw [h] at hp;cases hp
theorem eMa{T:List aaa}{i x:Nat}:x∈bDa T i↔x<T.length∧kindOf T x≠afa∧kindOf T i≠afa∧par T x=par T i∧x≠i:=by
 unfold bDa
 rw [List.mem_filter,cia,Bool.and_eq_true,Bool.and_eq_true,decide_eq_true_iff,decide_eq_true_iff,bne_iff_ne,and_assoc]
theorem dIa{T:List aaa}(W:WF T)(O:Ord T){i:Nat}(hi:i<T.length)(h:par T i=none∨aoa T i=true):bDa T i= []:=by
 refine List.eq_nil_iff_forall_not_mem.mpr fun x hx=> ?_
 obtain⟨h1,h2,h3,h4,h5⟩:=eMa.mp hx
 rcases h with h|h
 ·rw [h] at h4
  exact h5 ((e3a W O h1 h4).trans (e3a W O hi h).symm)
 ·exact absurd h (by rw [(bAa O i).mpr h3];decide)
theorem ifa{T:List aaa}(W:WF T)(O:Ord T){i q x:Nat}(hq:par T i=some q)(hb:aoa T i=false):x∈bDa T i↔x∈aFa T q∧x≠i:=by
 rw [eMa,hq]
 constructor
 ·rintro⟨h1,h2,h3,h4,h5⟩
  exact⟨(iAa W ((bAa O x).mpr h2)).mpr h4,h5⟩
 ·rintro⟨h,h5⟩
  obtain⟨h1,h2,h3,h4,_⟩:=W.kid q x h
  exact⟨h2,h4,(bAa O i).mp hb,h3,h5⟩
theorem coa{l A B:List Nat}{i:Nat}(h:l=A++i::B)(ha:l.Pairwise (· < ·)):(∀ x,x∈A↔x∈l∧x<i)∧(∀ x,x∈B↔x∈l∧i<x):=by
 subst h
 obtain⟨h1,h2,h3⟩:=List.pairwise_append.mp ha
 obtain⟨h4,h5⟩:=List.pairwise_cons.mp h2
 have kA:∀ x∈A,x<i:=fun x hx=>h3 x hx i List.mem_cons_self
 refine⟨fun x=>⟨fun h=>⟨laL _ h,kA x h⟩,fun h=> ?_⟩,fun x=>⟨fun h=>⟨laG _ (List.mem_cons_of_mem _ h),h4 x h⟩,fun h=> ?_⟩⟩
 ·rcases laM h.1 with q|q
  ·exact q
  ·rcases lcM q with q|q
   ·have:=h.2;omega
   ·have:=h4 x q;have:=h.2;omega
 ·rcases laM h.1 with q|q
  ·have:=kA x q;have:=h.2;omega
  ·rcases lcM q with q|q
   ·have:=h.2;omega
   ·exact q
theorem iZa{k l:List Nat}(hl:l.Pairwise (· < ·))(h:k.Sublist l):k.Pairwise (· < ·):=hl.sublist h
theorem kaa{T:List aaa}(W:WF T)(O:Ord T){i:Nat}(hi:i<T.length):((bDa T i).filter fun x=>decide (i<x))=cya T i:=by
 cases hp:par T i with
 |none=>rw [dIa W O hi (.inl hp),gJa hp];rfl
 |some q=>
  cases hb:aoa T i with
  |true=>
   rw [dIa W O hi (.inr hb)]
   unfold cya;rw [hp];simp [hb]
  |false=>
   rw [eGa hp hb]
   refine cpa (((aTa T).filter _).filter _) (iZa (O.kidA q) (List.drop_sublist _ _)) fun x=> ?_
   rw [List.mem_filter,ifa W O hp hb,decide_eq_true_iff,(coa (bWa (bZa W hp hb)) (O.kidA q)).2 x]
   exact⟨fun h=>⟨h.1.1,h.2⟩,fun h=>⟨⟨h.1,by have:=h.2;omega⟩,h.2⟩⟩
theorem j9a{T:List aaa}(W:WF T)(O:Ord T){i:Nat}(hi:i<T.length):((bDa T i).filter fun x=>decide (x<i)).reverse=cRa T i:=by
 cases hp:par T i with
 |none=>rw [dIa W O hi (.inl hp),gLa hp];rfl
 |some q=>
  cases hb:aoa T i with
  |true=>
   rw [dIa W O hi (.inr hb)]
   unfold cRa;rw [hp];simp [hb]
  |false=>
   rw [eHa hp hb]
   congr 1
   refine cpa (((aTa T).filter _).filter _) (iZa (O.kidA q) (List.take_sublist _ _)) fun x=> ?_
   rw [List.mem_filter,ifa W O hp hb,decide_eq_true_iff,(coa (bWa (bZa W hp hb)) (O.kidA q)).1 x]
   exact⟨fun h=>⟨h.1.1,h.2⟩,fun h=>⟨⟨h.1,by have:=h.2;omega⟩,h.2⟩⟩
theorem eCa{T:List aaa}(W:WF T)(O:Ord T):∀ x,x<T.length->aPa T x=0:=by
 intro x
 induction x using Nat.strongRecOn with
 |_ x ih=>
  intro hx
  cases hp:par T x with
  |none=>rw [bRa hp,e3a W O hx hp]
  |some p=>rw [asa W hp];have:=aja W hp;exact ih p this (by omega)
theorem gRa{T:List aaa}(W:WF T):par T 0=none:=by
 cases h:par T 0 with
 |none=>rfl
 |some p=>have:=aja W h;omega
theorem hca{T:List aaa}(W:WF T)(h:0<T.length):aoa T 0=false:=by
 cases hb:aoa T 0 with
 |false=>rfl
 |true=>obtain⟨q,hq⟩:=bUa W h hb;rw [gRa W] at hq;cases hq
theorem hYa{T:List aaa}(W:WF T)(O:Ord T)(h:0<T.length):a1a T=0::a3a T 0:=by
 refine cpa (aTa T) (List.pairwise_cons.mpr ⟨fun x hx=>(aAa W 0 x hx).1,g4a W O 0⟩) fun x=> ?_
 rw [cia,List.mem_cons,fga W O]
 constructor
 ·rintro⟨h1,h2⟩
  rcases Nat.eq_zero_or_pos x with e|e
  ·exact .inl e
  ·refine .inr ⟨h1,h2, ?_⟩
   clear h2
   induction x using Nat.strongRecOn with
   |_ x ih=>
    obtain⟨p,hp,_⟩:=O.up x e h1
    have:=aja W hp
    rw [aka W hp]
    rcases Nat.eq_zero_or_pos p with e2|e2
    ·subst e2;exact List.mem_cons_self
    ·exact List.mem_cons_of_mem _ (ih p this (by omega) e2)
 ·rintro(rfl|⟨h1,h2,_⟩)
  ·exact⟨h,(bAa O 0).mp (hca W h)⟩
  ·exact⟨h1,h2⟩
theorem cFa{T:List aaa}(W:WF T)(O:Ord T){i:Nat}(hi:i<T.length)(hb:aoa T i=false):a1a T=fqa T i++i::(a3a T i++aqa T i):=by
 have h:=eea W i hb
 rw [eCa W O i hi,<-hYa W O (by omega)] at h
 rw [h];simp
theorem jVa{T:List aaa}(W:WF T)(O:Ord T){i:Nat}(hi:i<T.length)(hb:aoa T i=false):((aqa T i).Pairwise (· < ·))∧∀ x,x∈aqa T i↔x∈a1a T∧i<x∧x ∉ a3a T i:=by
 have h:=cFa W O hi hb
 have ha:=aTa T
 have h2:=(coa h ha).2
 rw [h] at ha
 have h3:=(List.pairwise_cons.mp (List.pairwise_append.mp ha).2.1).2
 obtain⟨h4,h5,h6⟩:=List.pairwise_append.mp h3
 refine⟨h5,fun x=>⟨fun hx=> ?_,fun hx=> ?_⟩⟩
 ·have:=(h2 x).mp (laG _ hx)
  exact⟨this.1,this.2,fun q=>Nat.lt_irrefl _ (h6 x q x hx)⟩
 ·rcases laM ((h2 x).mpr ⟨hx.1,hx.2.1⟩) with q|q
  ·exact absurd q hx.2.2
  ·exact q
theorem gAa{T:List aaa}(W:WF T)(O:Ord T){q:Nat}:∀ i,i<T.length->kindOf T i=afa->par T i=some q->∀ y,q<y->y≤i->kindOf T y=afa:=by
 intro i
 induction i using Nat.strongRecOn with
 |_ i ih=>
  intro hi hk hp y hy hyi
  have hq:=aja W hp
  by_cases e:y=i
  ·subst e;exact hk
  ·rcases O.att i hi hk with h|⟨h1,h2⟩
   ·rw [hp] at h;cases h;omega
   ·rw [hp] at h2
    exact ih (i-1) (by omega) (by omega) h1 h2 y hy (by omega)
theorem j5a{T:List aaa}(W:WF T){i:Nat}(hk:kindOf T i=afa):∀ x,i ∉ anc T x:=by
 intro x
 induction x using Nat.strongRecOn with
 |_ x ih=>
  intro h
  cases hp:par T x with
  |none=>rw [aNa hp] at h;cases h
  |some p=>
   rw [aka W hp] at h
   rcases lcM h with rfl|h
   ·rcases(W.up x _ hp).2.1 with q|q<;>(rw [hk] at q;exact absurd q (by decide))
   ·exact ih p (aja W hp) h
theorem hQa{T:List aaa}(W:WF T)(O:Ord T){i:Nat}(hi:i<T.length):((a1a T).filter fun x=>decide (i<x)&& !decide (x∈a8a T i))=g2a T i:=by
 unfold g2a
 have hm:∀ x,x∈((a1a T).filter fun x=>decide (i<x)&& !decide (x∈a8a T i))↔x∈a1a T∧i<x∧x ∉ a3a T i:=fun x=>by
  rw [List.mem_filter,Bool.and_eq_true,decide_eq_true_iff,Bool.not_eq_true',decide_eq_false_iff_not,ega W O]
 cases hb:aoa T i with
 |false=>
  obtain⟨h1,h2⟩:=jVa W O hi hb
  rw [if_neg (by decide)]
  exact cpa ((aTa T).filter _) h1 fun x=>by rw [hm,h2]
 |true=>
  obtain⟨q,hq⟩:=bUa W hi hb
  have hql:=aja W hq
  have hbq:=bba W hq
  have hk:kindOf T i=afa:=by
   rcases a6a.mp hb with h|h
   ·exact h
   ·exact absurd h (O.noNs i)
  have h:=cFa W O (i:=q) (by omega) hbq
  have ha:=aTa T
  have h2:=(coa h ha).2
  rw [h] at ha
  have h3:=(List.pairwise_cons.mp (List.pairwise_append.mp ha).2.1).2
  rw [if_pos rfl,hq]
  refine cpa ((aTa T).filter _) h3 fun x=> ?_
  rw [hm,h2]
  constructor
  ·rintro⟨a,b,_⟩;exact⟨a,by omega⟩
  ·rintro⟨a,b⟩
   refine⟨a,Nat.lt_of_not_le fun hle=> ?_,fun hd=> ?_⟩
   ·exact(cia.mp a).2 (gAa W O i hi hk hq x b hle)
   ·exact j5a W hk x ((fga W O).mp hd).2.2
theorem jCa{T:List aaa}(W:WF T):∀ i,aoa T i=false->(ana T i).reverse.Sublist (fqa T i):=by
 intro i
 induction i using Nat.strongRecOn with
 |_ i ih=>
  intro hb
  cases hp:par T i with
  |none=>rw [doa hp,bYa hp];exact List.Sublist.refl _
  |some p=>
   rw [dna W hp,cTa W hp hb,List.reverse_append,List.reverse_reverse]
   exact(ih p (aja W hp) (bba W hp)).append (List.Sublist.cons p (List.Sublist.refl _))
theorem gPa{T:List aaa}(W:WF T)(O:Ord T){i:Nat}(hi:i<T.length)(hb:aoa T i=false):((ana T i).reverse.Pairwise (· < ·))∧∀ x,x∈(ana T i).reverse↔x∈a1a T∧x<i∧x ∉ anc T i:=by
 have h:=cFa W O hi hb
 have ha:=aTa T
 have h2:=(coa h ha).1
 rw [h] at ha
 have h3:=(List.pairwise_append.mp ha).1
 have hp:=eXa W i hb
 have hn:(anc T i++ana T i).Nodup:=(hp.nodup_iff).mp (h3.imp Nat.ne_of_lt)
 refine⟨h3.sublist (jCa W i hb),fun x=> ?_⟩
 rw [List.mem_reverse]
 constructor
 ·intro hx
  have:=(h2 x).mp (hp.mem_iff.mpr (laG _ hx))
  exact⟨this.1,this.2,fun q=>(List.nodup_append.mp hn).2.2 x q x hx rfl⟩
 ·rintro⟨a,b,c⟩
  rcases laM (hp.mem_iff.mp ((h2 x).mpr ⟨a,b⟩)) with q|q
  ·exact absurd q c
  ·exact q
theorem hPa{T:List aaa}(W:WF T)(O:Ord T){i:Nat}(hi:i<T.length):((a1a T).filter fun x=>decide (x<i)&& !decide (x∈anc T i)).reverse=gma T i:=by
 unfold gma
 have hm:∀ x,x∈((a1a T).filter fun x=>decide (x<i)&& !decide (x∈anc T i))↔x∈a1a T∧x<i∧x ∉ anc T i:=fun x=>by
  rw [List.mem_filter,Bool.and_eq_true,decide_eq_true_iff,Bool.not_eq_true',decide_eq_false_iff_not]
 have up:∀ {L R:List Nat},L=R.reverse->L.reverse=R:=fun h=>by rw [h,List.reverse_reverse]
 cases hb:aoa T i with
 |false=>
  obtain⟨h1,h2⟩:=gPa W O hi hb
  rw [if_neg (by decide)]
  exact up (cpa ((aTa T).filter _) h1 fun x=>by rw [hm,h2])
 |true=>
  obtain⟨q,hq⟩:=bUa W hi hb
  have hql:=aja W hq
  have hbq:=bba W hq
  have hk:kindOf T i=afa:=by
   rcases a6a.mp hb with h|h
   ·exact h
   ·exact absurd h (O.noNs i)
  obtain⟨h1,h2⟩:=gPa W O (i:=q) (by omega) hbq
  rw [if_pos rfl,hq]
  refine up (cpa ((aTa T).filter _) h1 fun x=> ?_)
  rw [hm,h2,aka W hq,List.mem_cons,not_or]
  constructor
  ·rintro⟨a,b,c,d⟩
   refine⟨a,Nat.lt_of_not_le fun hle=> ?_,d⟩
   exact(cia.mp a).2 (gAa W O i hi hk hq x (by omega) (by omega))
  ·rintro⟨a,b,c⟩;exact⟨a,by omega,by omega,c⟩
theorem hga{T:List aaa}(W:WF T):∀ k i,T.length-i≤k->∀ x∈aEa T i,x=i∨i∈anc T x:=by
 intro k
 induction k with
 |zero=>
  intro i hk x hx
  rw [aKa W] at hx
  have e1:caa T i= []:=by unfold caa;rw [List.getElem?_eq_none (by omega)]
  have e2:bea T i= []:=by unfold bea;rw [List.getElem?_eq_none (by omega)]
  have e3:aFa T i= []:=by unfold aFa;rw [List.getElem?_eq_none (by omega)]
  rw [e1,e2,e3] at hx
  simp at hx
  exact .inl hx
 |succ k ih=>
  intro i hk x hx
  rw [aKa W] at hx
  rcases laM hx with hx|hx
  ·rcases laM hx with hx|hx
   ·rcases laM hx with hx|hx
    ·exact .inl (lsM hx)
    ·refine .inr ?_;rw [aka W (W.nsp i x hx).2.2.1];exact List.mem_cons_self
   ·refine .inr ?_;rw [aka W (W.att i x hx).2.2.1];exact List.mem_cons_self
  ·obtain⟨c,hc,hx⟩:=List.mem_flatMap.mp hx
   have h1:=W.kid i c hc
   have hic:i∈anc T c:=by rw [aka W h1.2.2.1];exact List.mem_cons_self
   refine .inr ?_
   rcases ih c (by omega) x hx with rfl|h
   ·exact hic
   ·exact f0a W hic x h
theorem hfa{T:List aaa}(W:WF T)(O:Ord T):∀ k i,i<T.length->T.length-i≤k->(aEa T i).Pairwise (· < ·):=by
 intro k
 induction k with
 |zero=>intro i hi hk;omega
 |succ k ih=>
  intro i hi hk
  rw [aKa W]
  have e1:caa T i= []:=List.eq_nil_iff_forall_not_mem.mpr fun x hx=>O.noNs x (W.nsp i x hx).2.2.2
  rw [e1,List.append_nil]
  have geC:∀ y∈(aFa T i).flatMap (aEa T),∃ c∈aFa T i,c≤y:=fun y hy=>by
   obtain⟨c,hc,hx⟩:=List.mem_flatMap.mp hy
   exact⟨c,hc,(bxa W (W.kid i c hc).2.1 y hx).1⟩
  refine List.pairwise_append.mpr ⟨List.pairwise_append.mpr ⟨List.pairwise_singleton _ _,O.attA i,fun x hx y hy=> ?_⟩,aQa (O.kidA i) (fun c hc=>ih c (W.kid i c hc).2.1 (by have:=W.kid i c hc;omega)) ?_,fun x hx y hy=> ?_⟩
  ·rw [lsM hx];exact(W.att i y hy).1
  ·intro a ha b hb hab x hx y hy
   have pa:=(W.kid i a ha).2.2.1
   have pb:=(W.kid i b hb).2.2.1
   have lb:=aJa W hb
   have la:=aJa W ha
   have hyb:=(bxa W lb.2 y hy).1
   have hxl:=(bxa W la.2 x hx).2
   rcases hga W _ a (Nat.le_refl _) x hx with rfl|h
   ·omega
   ·refine Nat.lt_of_not_le fun hyx=> ?_
    exact d0a W pa pb (i1a W O hab x hxl (by omega) h)
  ·obtain⟨c,hc,hcy⟩:=geC y hy
   have hic:=W.kid i c hc
   rcases laM hx with hx|hx
   ·rw [lsM hx];omega
   ·obtain⟨b1,b2,b3,b4⟩:=W.att i x hx
    refine Nat.lt_of_lt_of_le (Nat.lt_of_not_le fun hle=> ?_) hcy
    exact hic.2.2.2.1 (gAa W O x b2 b4 b3 c hic.1 hle)
theorem fwa{T:List aaa}(W:WF T)(O:Ord T)(h:0<T.length):aEa T 0=List.range T.length:=by
 refine cpa (hfa W O _ 0 h (Nat.le_refl _)) (dUa _) fun x=> ?_
 rw [hea W h (gRa W),List.mem_range]
 exact⟨fun q=>q.1,fun q=>⟨q,eCa W O x q⟩⟩
end Mine
namespace Mine
theorem ar23:True:=by
 k_with "ar23" =>with_reducible first|((show _<_);first|exact m2a ‹_› ‹_› |exact mCa ‹_› |exact qHa ‹_› ‹_› |exact fva ‹_› ‹_› |exact p8a ‹_› ‹_› |exact mOa ‹_›)|exact qIa ‹_› ‹_› |exact rFa ‹_› ‹_› |exact oKa ‹_› ‹_› |exact(jha ‹_› ‹_›).elim|exact(kza ‹_› ‹_›).elim|exact(pJa ‹_› ‹_› ‹_›).elim|exact(rEa ‹_› ‹_›).elim|exact(pZa ‹_› ‹_›).elim
 trivial
structure dra(T T':List aaa)(r:aaa):Prop where
 len:T'.length=T.length+1
 row:∀ x,x<T.length->∃ a b:aaa,T[x]?=some a∧T'[x]?=some b∧b.kind=a.kind∧b.name=a.name∧b.parent=a.parent∧b.loc=a.loc∧b.uri=a.uri
 new:T'[T.length]?=some r
theorem g0a{T:List aaa}{i:Nat}{ri ri' r:aaa}(hi:T[i]?=some ri)(h1:ri'.kind=ri.kind)(h2:ri'.name=ri.name)(h3:ri'.parent=ri.parent)(h4:ri'.loc=ri.loc)(h5:ri'.uri=ri.uri):dra T ((T++ [r]).set i ri') r:=by
 have hil:=(List.getElem?_eq_some_iff.mp hi).1
 have o:∀ x,((T++ [r]).set i ri')[x]?=if x=i then some ri' else if x=T.length then some r else T[x]?:=fun x=>by rw [eba (by simp;omega),eca]
 refine⟨by simp,fun x hx=> ?_,by rw [o,if_neg (by omega),if_pos rfl]⟩
 by_cases e:x=i
 ·subst e
  exact⟨ri,ri',hi,by rw [o,if_pos rfl],h1,h2,h3,h4,h5⟩
 ·obtain⟨a,ha⟩:=bma hx
  exact⟨a,a,ha,by rw [o,if_neg e,if_neg (by omega)];exact ha,rfl,rfl,rfl,rfl,rfl⟩
section
variable {T T':List aaa} {r:aaa} {i:Nat}
theorem dra.kind(G:dra T T' r){x:Nat}(hx:x<T.length):kindOf T' x=kindOf T x:=by
 obtain⟨a,b,h1,h2,h3,_⟩:=G.row x hx
 rw [aXa h2,aXa h1,h3]
theorem dra.par(G:dra T T' r){x:Nat}(hx:x<T.length):par T' x=par T x:=by
 obtain⟨a,b,h1,h2,_,_,h3,_⟩:=G.row x hx
 rw [bBa h2,bBa h1,h3]
theorem dra.kindN(G:dra T T' r):kindOf T' T.length=r.kind:=aXa G.new
theorem dra.parN(G:dra T T' r):Mine.par T' T.length=r.parent:=bBa G.new
theorem dra.anc(G:dra T T' r)(W:WF T)(W':WF T'):∀ x,x<T.length->anc T' x=anc T x:=by
 intro x
 induction x using Nat.strongRecOn with
 |_ x ih=>
  intro hx
  cases hp:Mine.par T x with
  |none=>rw [aNa hp,aNa ((G.par hx).trans hp)]
  |some p=>
   have:=aja W hp
   rw [aka W hp,aka W' ((G.par hx).trans hp),ih p this (by omega)]
theorem dra.ancN(G:dra T T' r)(W:WF T)(W':WF T')(hp:r.parent=some i)(hi:i<T.length):Mine.anc T' T.length=i::Mine.anc T i:=by
 rw [aka W' (G.parN.trans hp),G.anc W W' i hi]
theorem g9a{l:List Nat}{n:Nat}(h:l.Pairwise (· < ·))(hb:∀ x∈l,x<n):(l++ [n]).Pairwise (· < ·):=
 List.pairwise_append.mpr ⟨h,List.pairwise_singleton _ _,fun a ha b hb'=>by rw [lsM hb'];exact hb a ha⟩
theorem Ord.grow(O:Ord T)(W:WF T)(W':WF T')(G:dra T T' r)(hp:r.parent=some i)(hi:i<T.length)(hl:i=T.length-1∨i∈anc T (T.length-1))
 (ha:r.kind=afa->i=T.length-1∨(kindOf T (T.length-1)=afa∧par T (T.length-1)=some i)) (hn:r.kind≠sNs)
 (kk:∀ x,aFa T' x=aFa T x∨aFa T' x=aFa T x++ [T.length]) (aa:∀ x,bea T' x=bea T x∨bea T' x=bea T x++ [T.length]):Ord T':=by
 constructor
 ·intro y h0 hy
  rw [G.len] at hy
  by_cases e:y=T.length
  ·subst e
   refine⟨i,G.parN.trans hp,hl.imp id fun h=> ?_⟩
   rw [G.anc W W' _ (by omega)];exact h
  ·obtain⟨p,h1,h2⟩:=O.up y h0 (by omega)
   refine⟨p,(G.par (by omega)).trans h1,h2.imp id fun h=> ?_⟩
   rw [G.anc W W' _ (by omega)];exact h
 ·intro y hy hk
  rw [G.len] at hy
  by_cases e:y=T.length
  ·subst e
   rw [G.kindN] at hk
   rw [G.parN,hp,G.kind (by omega),G.par (by omega)]
   exact(ha hk).imp (congrArg some) id
  ·rw [G.kind (by omega)] at hk
   rw [G.par (by omega),G.kind (by omega),G.par (by omega)]
   exact O.att y (by omega) hk
 ·intro x
  rcases kk x with h|h<;>rw [h]
  ·exact O.kidA x
  ·exact g9a (O.kidA x) fun y hy=>(W.kid x y hy).2.1
 ·intro x
  rcases aa x with h|h<;>rw [h]
  ·exact O.attA x
  ·exact g9a (O.attA x) fun y hy=>(W.att x y hy).2.1
 ·intro x
  by_cases h1:x<T.length
  ·rw [G.kind h1];exact O.noNs x
  ·by_cases h2:x=T.length
   ·subst h2;rw [G.kindN];exact hn
   ·unfold kindOf;rw [List.getElem?_eq_none (by rw [G.len];omega)];decide
theorem fta.grow (Nm:fta T) (G:dra T T' r) (hn:r.kind≠sNs) (h:(r.kind=aLa∨r.kind=afa)->r.loc=r.name∧r.uri=Str.ofString ""):fta T':=by
 intro x q hq
 have hx:=(List.getElem?_eq_some_iff.mp hq).1
 rw [G.len] at hx
 by_cases e:x=T.length
 ·subst e
  rw [G.new] at hq;cases hq
  exact⟨hn,h⟩
 ·obtain⟨a,b,h1,h2,k1,k2,k3,k4,k5⟩:=G.row x (by omega)
  rw [h2] at hq;cases hq
  rw [k1,k4,k2,k5]
  exact Nm x a h1
structure Stk(T:List aaa)(st:List Nat):Prop where
 chain:st.Pairwise fun a b=>a∈anc T b
 last:∀ o∈st,o=T.length-1∨o∈anc T (T.length-1)
 lt:∀ o∈st,o<T.length
 kind:∀ o∈st,kindOf T o=aLa∨kindOf T o=sRoot
 el:∀ o∈st,o≠0->kindOf T o=aLa
theorem Stk.sub{st st':List Nat}(S:Stk T st)(h:st'.Sublist st):Stk T st':=
 ⟨S.chain.sublist h,fun o ho=>S.last o (h.subset ho),fun o ho=>S.lt o (h.subset ho),fun o ho=>S.kind o (h.subset ho),fun o ho=>S.el o (h.subset ho)⟩
theorem Stk.top{st:List Nat}(S:Stk T (st++ [i])):∀ o∈st++ [i],o=i∨o∈anc T i:=by
 intro o ho
 rcases laM ho with h|h
 ·exact .inr ((List.pairwise_append.mp S.chain).2.2 o h i List.mem_cons_self)
 ·exact .inl (lsM h)
theorem Stk.grow{st:List Nat}(S:Stk T (st++ [i]))(W:WF T)(W':WF T')(G:dra T T' r)(hp:r.parent=some i):Stk T' (st++ [i]):=by
 have hi:=S.lt i (by simp)
 have tp:=S.top
 refine⟨S.chain.imp_of_mem fun {a b} ha hb h=> ?_,fun o ho=> .inr ?_,fun o ho=> ?_,fun o ho=> ?_,fun o ho h0=> ?_⟩
 ·rw [G.anc W W' _ (S.lt b hb)];exact h
 ·rw [G.len,Nat.add_sub_cancel,G.ancN W W' hp hi]
  exact List.mem_cons.mpr (tp o ho)
 ·rw [G.len];have:=S.lt o ho;omega
 ·rw [G.kind (S.lt o ho)];exact S.kind o ho
 ·rw [G.kind (S.lt o ho)];exact S.el o ho h0
theorem Stk.push{st:List Nat}(S:Stk T (st++ [i]))(W:WF T)(W':WF T')(G:dra T T' r)(hp:r.parent=some i)(hk:r.kind=aLa):Stk T' (st++ [i]++ [T.length]):=by
 have hi:=S.lt i (by simp)
 have S':=S.grow W W' G hp
 have tp:=S.top
 refine⟨List.pairwise_append.mpr ⟨S'.chain,List.pairwise_singleton _ _,fun a ha b hb=> ?_⟩,fun o ho=> ?_,fun o ho=> ?_,fun o ho=> ?_,fun o ho h0=> ?_⟩
 ·rw [lsM hb,G.ancN W W' hp hi];exact List.mem_cons.mpr (tp a ha)
 all_goals rcases laM ho with h|h
 ·exact S'.last o h
 ·rw [lsM h,G.len];exact .inl rfl
 ·exact S'.lt o h
 ·rw [lsM h,G.len];exact Nat.lt_succ_self _
 ·exact S'.kind o h
 ·rw [lsM h,G.kindN];exact .inl hk
 ·exact S'.el o h h0
 ·rw [lsM h,G.kindN];exact hk
end
theorem jFa{T:List aaa}(W:WF T)(h1:T.length=1)(hk:kindOf T 0=sRoot):Ord T:=by
 have ge:∀ x,0<x->T[x]?=none:=fun x hx=>List.getElem?_eq_none (by omega)
 constructor
 ·intro y h0 hy;omega
 ·intro y hy hk2
  have:y=0:=by omega
  subst this
  rw [hk] at hk2;exact absurd hk2 (by decide)
 ·intro i
  rw [show aFa T i= [] from List.eq_nil_iff_forall_not_mem.mpr fun x hx=>by have:=W.kid i x hx;omega];exact List.Pairwise.nil
 ·intro i
  rw [show bea T i= [] from List.eq_nil_iff_forall_not_mem.mpr fun x hx=>by have:=W.att i x hx;omega];exact List.Pairwise.nil
 ·intro x
  rcases Nat.eq_zero_or_pos x with e|e
  ·subst e;rw [hk];decide
  ·unfold kindOf;rw [ge x e];decide
inductive mra(os:List (Addr×Obj))(i:Nat)(r:aaa)(v:Value):Prop
 |ik (a:Addr) (t1 t2 t3:Tok) (pv:Value) (f0:v= .ref a) (f1:(a,aea #[.int i t1, .str r.kind t2, .str r.name t3,pv])∈os) (f2:b2a r.parent pv):mra os i r v
structure b8a(os:List (Addr×Obj))(rv:List Value)(T:List aaa):Prop where
 len:rv.length=T.length
 row:∀ (i:Nat) (r:aaa),T[i]?=some r->∃ v,rv[i]?=some v∧mra os i r v
theorem b8a.get{os:List (Addr×Obj)}{rv:List Value}{T:List aaa}(H:b8a os rv T){i:Nat}(hi:i<T.length):∃ (a:Addr) (t1 t2 t3:Tok) (k n:Str) (pv:Value),rv[i]?=some (.ref a)∧(a,aea #[.int i t1, .str k t2, .str n t3,pv])∈os:=by
 obtain⟨r,hr⟩:=bma hi
 obtain⟨v,hv,a,t1,t2,t3,pv,rfl,h1,h2⟩:=H.row i r hr
 exact⟨a,t1,t2,t3,_,_,pv,hv,h1⟩
theorem b8a.at{os:List (Addr×Obj)}{rv:List Value}{T:List aaa}(H:b8a os rv T){h:Heap}{l:Addr}(hl:h.IsList l rv.toArray)(hs:∀ p∈os,h.get? p.1=some p.2):b9a h l T:=by
 refine⟨rv,hl,H.len,fun i r hr=> ?_⟩
 obtain⟨v,hv,a,t1,t2,t3,pv,e,h1,h2⟩:=H.row i r hr
 exact⟨v,hv,a,t1,t2,t3,pv,e,hs _ h1,h2⟩
theorem b8a.grow{os:List (Addr×Obj)}{rv:List Value}{T T':List aaa}{r:aaa}(H:b8a os rv T)(G:dra T T' r){a:Addr}{t1 t2 t3:Tok}{pv:Value}(hp:b2a r.parent pv):b8a ((a,aea #[.int (T.length:Nat) t1, .str r.kind t2, .str r.name t3,pv])::os) (rv++ [.ref a]) T':=by
 refine⟨by rw [G.len,List.length_append,H.len];rfl,fun i q hq=> ?_⟩
 have hi:=(List.getElem?_eq_some_iff.mp hq).1
 rw [G.len] at hi
 by_cases e:i=T.length
 ·subst e
  rw [G.new] at hq;cases hq
  exact⟨.ref a,by rw [<-H.len];simp,a,t1,t2,t3,pv,rfl, .head _,hp⟩
 ·obtain⟨x,y,h1,h2,k1,k2,k3,_⟩:=G.row i (by omega)
  rw [h2] at hq;cases hq
  obtain⟨v,hv,b,u1,u2,u3,qv,e1,e2,e3⟩:=H.row i x h1
  refine⟨v,by rw [List.getElem?_append_left (by rw [H.len];omega)];exact hv,b,u1,u2,u3,qv,e1, ?_, ?_⟩
  ·rw [k1,k2];exact .tail _ e2
  ·rw [k3];exact e3
theorem b8a.root{a:Addr}{t1 t2 t3:Tok}{r:aaa}{pv:Value}(hp:b2a r.parent pv):b8a [(a,aea #[.int (0:Nat) t1, .str r.kind t2, .str r.name t3,pv])] [.ref a] [r]:=by
 refine⟨rfl,fun i q hq=> ?_⟩
 have hi:=(List.getElem?_eq_some_iff.mp hq).1
 have:i=0:=by simpa using hi
 subst this
 cases hq
 exact⟨.ref a,rfl,a,t1,t2,t3,pv,rfl, .head _,hp⟩
theorem fOa{T:List aaa}{i:Nat}{ri ri' r:aaa}(hi:T[i]?=some ri)(hc:r.children= [])(c':ri'.children=ri.children∨ri'.children=ri.children++ [T.length])(x:Nat):aFa ((T++ [r]).set i ri') x=aFa T x∨aFa ((T++ [r]).set i ri') x=aFa T x++ [T.length]:=by
 have hil:=(List.getElem?_eq_some_iff.mp hi).1
 have o:((T++ [r]).set i ri')[x]?=if x=i then some ri' else if x=T.length then some r else T[x]?:=by rw [eba (by simp;omega),eca]
 by_cases h1:x=i
 ·subst h1
  rw [cIa (r:=ri') (by rw [o,if_pos rfl]),cIa hi];exact c'
 ·left
  unfold aFa;rw [o,if_neg h1]
  by_cases h2:x=T.length
  ·subst h2;rw [if_pos rfl,dca (Nat.lt_irrefl _)];exact hc
  ·rw [if_neg h2]
theorem fPa{T:List aaa}{i:Nat}{ri ri' r:aaa}(hi:T[i]?=some ri)(hc:r.attrs= [])(c':ri'.attrs=ri.attrs∨ri'.attrs=ri.attrs++ [T.length])(x:Nat):bea ((T++ [r]).set i ri') x=bea T x∨bea ((T++ [r]).set i ri') x=bea T x++ [T.length]:=by
 have hil:=(List.getElem?_eq_some_iff.mp hi).1
 have o:((T++ [r]).set i ri')[x]?=if x=i then some ri' else if x=T.length then some r else T[x]?:=by rw [eba (by simp;omega),eca]
 by_cases h1:x=i
 ·subst h1
  rw [bFa (r:=ri') (by rw [o,if_pos rfl]),bFa hi];exact c'
 ·left
  unfold bea;rw [o,if_neg h1]
  by_cases h2:x=T.length
  ·subst h2;rw [if_pos rfl,dca (Nat.lt_irrefl _)];exact hc
  ·rw [if_neg h2]
structure Doc(T:List aaa):Prop where
 wf:WF T
 ord:Ord T
 nm:fta T
 pos:0<T.length
 root:kindOf T 0=sRoot
theorem iPa{T:List aaa}(D:Doc T)(hn:T.length<59){i:Nat}{ri r:aaa}(hi:T[i]?=some ri)(hk:ri.kind=aLa∨ri.kind=sRoot)(hp:r.parent=some i)(hc:r.children= [])(ha:r.attrs= [])(hs:r.nss= [])(h1:r.kind≠sRoot)(h2:r.kind≠afa)(h3:r.kind≠sNs)
 (hl:i=T.length-1∨i∈anc T (T.length-1)) (hm:r.kind=aLa->r.loc=r.name∧r.uri=Str.ofString ""):
 Doc ((T++ [r]).set i {ri with children:=ri.children++ [T.length]})∧dra T ((T++ [r]).set i {ri with children:=ri.children++ [T.length]}) r:=by
 have hil:=(List.getElem?_eq_some_iff.mp hi).1
 have G:dra T ((T++ [r]).set i {ri with children:=ri.children++ [T.length]}) r:=g0a hi rfl rfl rfl rfl rfl
 obtain⟨W',-,-⟩:=hZa D.wf hn (ri':= {ri with children:=ri.children++ [T.length]}) hi hp hc ha hs h1 (hk.imp id fun h=>⟨h,h2,h3⟩) rfl rfl (by rw [if_pos ⟨h2,h3⟩]) (by rw [if_neg h2]) (by rw [if_neg h3])
 refine⟨⟨W',D.ord.grow D.wf W' G hp hil hl (fun e=>absurd e h2) h3 (fOa hi hc (.inr rfl)) (fPa hi ha (.inl rfl)),D.nm.grow G h3 fun e=>e.elim hm fun e=>absurd e h2,by rw [G.len];exact Nat.succ_pos _, ?_⟩,G⟩
 rw [G.kind D.pos];exact D.root
theorem lfa{T:List aaa}(D:Doc T)(hn:T.length<59){i:Nat}{ri:aaa}(name value:Str)(hi:T[i]?=some ri)(hk:ri.kind=aLa)(hl:i=T.length-1∨i∈anc T (T.length-1))(ha:i=T.length-1∨(kindOf T (T.length-1)=afa∧par T (T.length-1)=some i)):
 Doc ((T++ [(⟨afa,name,Str.ofString "",name,value,some i, [], [], []⟩:aaa)]).set i {ri with attrs:=ri.attrs++ [T.length]})∧dra T ((T++ [(⟨afa,name,Str.ofString "",name,value,some i, [], [], []⟩:aaa)]).set i {ri with attrs:=ri.attrs++ [T.length]}) ⟨afa,name,Str.ofString "",name,value,some i, [], [], []⟩:=by
 have hil:=(List.getElem?_eq_some_iff.mp hi).1
 have G:dra T ((T++ [(⟨afa,name,Str.ofString "",name,value,some i, [], [], []⟩:aaa)]).set i {ri with attrs:=ri.attrs++ [T.length]}) ⟨afa,name,Str.ofString "",name,value,some i, [], [], []⟩:=g0a hi rfl rfl rfl rfl rfl
 obtain⟨W',-,-⟩:=hZa D.wf hn (r:=⟨afa,name,Str.ofString "",name,value,some i, [], [], []⟩) (ri':= {ri with attrs:=ri.attrs++ [T.length]}) hi rfl rfl rfl rfl (show afa≠sRoot by decide) (.inl hk) rfl rfl (by rw [if_neg (show¬(afa≠afa∧afa≠sNs) by decide)]) (by rw [if_pos rfl]) (by rw [if_neg (show¬afa=sNs by decide)])
 refine⟨⟨W',D.ord.grow D.wf W' G rfl hil hl (fun _=>ha) (show afa≠sNs by decide) (fOa hi rfl (.inl rfl)) (fPa hi rfl (.inr rfl)),D.nm.grow G (show afa≠sNs by decide) fun _=>⟨rfl,rfl⟩,by rw [G.len];exact Nat.succ_pos _, ?_⟩,G⟩
 rw [G.kind D.pos];exact D.root
theorem jWa:Doc [⟨sRoot,Str.ofString "",Str.ofString "",Str.ofString "",Str.ofString "",none, [], [], []⟩]:=by
 obtain⟨W,-⟩:=kJa lWa (by simp) (r:=⟨sRoot,Str.ofString "",Str.ofString "",Str.ofString "",Str.ofString "",none, [], [], []⟩) rfl rfl rfl rfl rfl
 refine⟨W,jFa W rfl rfl,fun i r hi=> ?_,by decide,rfl⟩
 have h0:i=0:=by simpa using (List.getElem?_eq_some_iff.mp hi).1
 subst h0
 cases hi
 exact⟨show sRoot≠sNs by decide,fun e=>absurd e (by show¬ (sRoot=aLa∨sRoot=afa);decide)⟩
theorem gHa:Stk [⟨sRoot,Str.ofString "",Str.ofString "",Str.ofString "",Str.ofString "",none, [], [], []⟩] [0]:=
 ⟨List.pairwise_singleton _ _,fun o ho=> .inl (lsM ho),fun o ho=>by rw [lsM ho];decide,fun o ho=>by rw [lsM ho];exact .inr rfl,fun o ho h=>absurd (lsM ho) h⟩
theorem Doc.last0{T:List aaa}(D:Doc T):0=T.length-1∨0∈anc T (T.length-1):=by
 have key:∀ y,y<T.length->0=y∨0∈anc T y:=by
  intro y
  induction y using Nat.strongRecOn with
  |_ y ih=>
   intro hy
   rcases Nat.eq_zero_or_pos y with e|e
   ·exact .inl e.symm
   ·obtain⟨p,hp,_⟩:=D.ord.up y e hy
    have:=aja D.wf hp
    rw [aka D.wf hp]
    rcases ih p this (by omega) with h|h
    ·rw [<-h];exact .inr List.mem_cons_self
    ·exact .inr (List.mem_cons_of_mem _ h)
 exact key _ (by have:=D.pos;omega)
end Mine
namespace Mine
theorem ar24:True:=by
 k_with "ar24" =>with_reducible first|exact mBa ‹_› |exact mFa ‹_›
 trivial
theorem eSa{q:Addr}{h h':Heap}(X:FnAt q h)(st:h.StaysIn h'):FnAt q h':=let ⟨a,b,c,d,e⟩:=X;⟨a,b,c,d,st _ _ e⟩
section
variable {prog:Program} {w:World} {A:Around} {E:Value->Shared->Prop} {s:Shared} {env:Env} {h₀:Heap} {x:Str} {body:List Stmt} {Q:Flow->Shared->Prop} {m₀:Str->Option Value}
theorem iFa{L:Addr}(hL:env.locals=L){σ:Type}{elts:List Expr}{k:Nat}{pos:Pos}{l1:Addr}{xs:List Value}(Led:σ->List (Addr×Obj))(ps:σ->List (Str×Value))(st:List Str)(J:Nat->σ->Prop)(c₀:σ)(fix:List (Addr×Obj)){news:List (Addr×Obj)}
 (hh:A.handled=none) (hl1:s.heap.IsList l1 xs.toArray) (h1L:l1≠L) (F:Fr h₀ L s.heap m₀) (N:News h₀ L s.heap news) (hin:∀ p∈Led c₀++fix,p∈news)
 (hoff:∀ q∈Led c₀,∀ p∈fix, @Ne Nat p.1 q.1) (hll:∀ p∈Led c₀, @Ne Nat p.1 l1)
 (hps:∀ p∈ps c₀,m₀ p.1=some p.2) (hj:J 0 c₀)
 (turn:∀ i T a t c u h tk own,xs[i]?=some a->h.IsTuple T #[.int (i:Nat) t,a]->J i c->Fr h₀ L h (bXa (ps c) (x::st) u m₀)->News h₀ L h (Led c++(fix++own))->(∀ q∈Led c,∀ p∈fix++own, @Ne Nat p.1 q.1)->
   wpAny (model prog w) A (assign (.Tuple elts k pos) env (.ref T)) (fun _ s₂=>wpAny (model prog w) A (execs body env) (bOa h₀ L Led ps st m₀ x (J (i+1)) (fix++own) {s with heap:=h,toks:=tk} Q) E s₂) E {s with heap:=h,toks:=tk})
 (done:∀ c u h tk,J xs.length c->Fr h₀ L h (bXa (ps c) (x::st) u m₀)->News h₀ L h (Led c++fix)->(∀ q∈Led c,∀ p∈fix, @Ne Nat p.1 q.1)->Q .next {s with heap:=h,toks:=tk}):
 wpAny (model prog w) A (call (.type "enumerate") [.ref l1]) (fun xv s₁=>wpAny (model prog w) A (pyIter xv) (fun it s₂=>TurnsAt prog w A h₀ env (.Tuple elts k pos) body Q E it s₂) E s₁) E s:=by
 subst hL
 have hlt1:l1<s.heap.objs.size:=by obtain⟨_,e,_⟩:=hl1;exact Heap.lt_size e
 have hLs:env.locals<s.heap.objs.size:=F.ns.lt
 refine call_enumerate_list hl1 fun h' hE hI hsz hk=> ?_
 refine wpAny_pyIter_enum hE ?_
 have W:=KTurns.ofWalksU (elts:=elts) (k:=k) (pos:=pos) (WalksT.enumerate (prog:=prog) (w:=w) hh (s.heap.objs.size+1) s.heap.objs.size l1 (Nat.succ_ne_self _) (ktu_ne 1 hlt1) (Nat.ne_of_lt hlt1) xs.toArray).toU
 have hn:xs.toArray.size=xs.length:=by simp
 rw [hn] at W
 refine d7a W Led ps st J c₀ fix ?_ ?_ ⟨⟨_,hE⟩,hI,hl1.at fun o e=>hk l1 o e⟩ (F.keeps hk) (N.grown hk) hin ?_ hoff ?_ hps hj ?_ ?_ done
 ·exact fGa (fc (ktu_ne 1 hLs) (fc (Nat.ne_of_lt hLs) (fc (Ne.symm (h1L)) fn)))
 ·exact(fc (ktu_new F (Nat.le_add_right _ _)) (fc (ktu_new F (Nat.le_refl _)) fn))
 ·intro p hp
  have hlp:=Heap.lt_size (N p (hin p hp)).1
  exact fGa (fc (ktu_ne 1 hlp) (fc (Nat.ne_of_lt hlp) fn))
 ·intro p hp
  have hlp:=Heap.lt_size (N p (hin p (laL _ hp))).1
  exact fGa (fc (ktu_ne 1 hlp) (fc (Nat.ne_of_lt hlp) (fc (hll p hp) fn)))
 ·rintro i h ⟨⟨old,hz⟩,⟨o1,ho1,_⟩,⟨o2,ho2,_⟩⟩
  exact(fc ⟨_,hz⟩ (fc ⟨_,ho1⟩ (fc ⟨_,ho2⟩ fn)))
 ·rintro i v c u h tk own ⟨T,vals,rfl,⟨t,a,hx,rfl⟩,hT⟩ hi hJ F N hs
  exact turn i T a t c u h tk own (by simpa using hx) hT hJ F N hs
end
section
variable {prog:Program} {w:World} {A:Around} {s:Shared} {K:Frag}
 {name qual:Str} {params:Arguments} {body:Expr} {scope:Scope} {cl:List (Str×Addr)} {pm ctv:Value} {c' f:Addr} {vals:List Value} {binds:List (Str×Value)} {Q E:Value->Shared->Prop} {n:Nat}
theorem j2a(H:i7a K A s.heap)(hr:jba A (n+1))
 (ho:s.heap.get? f=some (kla_obj name qual params body scope cl pm c' ctv)) (hcd:s.heap.CodeRec (.ref c') qual)
 (hbind:bindArgs (kla_fn name qual params body scope cl pm (.ref c') ctv) ⟨vals, []⟩=pure binds) (hloc:∀ y∈binds,scope.names.lookup y.1=some .local)
 (h:∀ (A₀:Around) (base:Heap) (outer:List Env) (p:Program) (loose:List Str) (mean:ExcName->Option Value) (mg mb:Str->Option Value) (d u:Nat) (gd:Option (List Code)) (L':Addr) (h₁:Heap) (tk₁:Nat),
   Below A₀ base outer s.heap->K.In s.heap->Top p loose mean mg mb s.heap->Fr s.heap L' h₁ (fun y=>binds.reverse.lookup y)->News s.heap L' h₁ []->d+n<recursionLimit->u+8*n+200<cLine->
   wpAny (model prog w) (dya d (envX qual scope L' f (.ref c') cl) outer gd u) (eval body (envX qual scope L' f (.ref c') cl)) Q (fun _ _=>False) {s with heap:=h₁,toks:=tk₁})
 (hco:scope.isCoroutine=false) (hgen:scope.isGenerator=false) (hk:scope.kind= .function)
 (hcell:∀ x∈scope.names,x.2≠ .cell):wpAny (model prog w) A (call (.ref f) vals) Q E s:=by
 obtain⟨X,hh,A₀,base,h₀,outer,env,L,m,p,loose,mean,mg,mb,B,F,T,hA,hf,hke⟩:=H
 have G:=groundX (R:=fun _ _=>True) (news:= []) B F News.nil hA hf hke
 have G2:Below A base (env::outer) s.heap:=G.2.1
 refine wpAny_call (kla_callFunE (Nat.lt_of_le_of_lt (Nat.le_add_right _ _) hr.1) ho rfl hco hgen rfl hcd ?_)
 rw [hbind]
 refine wpAny_pure (wpAny_newFunctionEnv hcell hloc (fun h₁ hns hsb=>⟨T.nolimit.fresh _ hsb, ?_⟩) hk)
 have hd:A.deeper (envX qual scope s.heap.objs.size f (.ref c') cl)=dya (A.depth+1) (envX qual scope s.heap.objs.size f (.ref c') cl) (env::outer) A.guards (A.units+3):=by
  obtain⟨hd,dp,fr,gs,u⟩:=A
  simp only at hh hA
  subst hh hA
  rfl
 have hk₁:∀ b o,s.heap.get? b=some o->h₁.get? b=some o:=fun b o e=>hsb.extBut b o (Nat.ne_of_lt (Heap.lt_size e)) (Heap.get?_push_of_some _ e)
 have key:=h A base (env::outer) p loose mean mg mb (A.depth+1) (A.units+3) A.guards s.heap.objs.size h₁ (s.toks+binds.length) G2 X T ⟨hns,hk₁,Nat.le_refl _⟩ News.nil (by have:=hr.1;omega) (by have:=hr.2;omega)
 rw [<-hd] at key
 exact kla_codeExpr (wpAny_mono key (fun _ _ q=>q) fun _ _ q=>q.elim)
end
end Mine
namespace Mine
theorem ar25:True:=by
 k_with "ar25" =>with_reducible first|exact kHa ‹_› |((show _≤_);first|exact lQa|exact mDa ‹_› |exact kGa ‹_› ‹_› ‹_› |exact mQa ‹_›)
 trivial
open PyProof.Rows.LCg (lst NsObj ns_obj lst_snoc)
section
variable {prog:Program} {w:World} {A:Around} {R:Result->Shared->Prop} {s:Shared}
theorem hKa{elt target iter:Expr}{ifs:List Expr}{scope:Scope}{pos:Pos}{it acc:Value}{env:Env}(I:Nat->Shared->Prop)
 (turn:∀ n s,I n s->wpAny (model prog w) A (pyNext it) (fun r s₁=>match r with
   |none=>R (.ok .next) s₁
   |some v=>wpAny (model prog w) A (letOwnedTupleGo target it v) (fun _ s₁'=>wpAny (model prog w) A (assign target env v) (fun _ s₂=>
     wpAny (model prog w) A (boa ifs env) (fun ok s₃=>
      if ok=true then wpAny (model prog w) A (eval elt env) (fun x s₄=>
       wpAny (model prog w) A (call (.builtin "list.append") [acc,x]) (fun _ s₅=>∃ m,m<n∧I m s₅) (notedBy (model prog w) A env fun e s'=>R (.error e) s') s₄) (notedBy (model prog w) A env fun e s'=>R (.error e) s') s₃
      else∃ m,m<n∧I m s₃) (notedBy (model prog w) A env fun e s'=>R (.error e) s') s₂) (notedBy (model prog w) A env fun e s'=>R (.error e) s') s₁') (notedBy (model prog w) A env fun e s'=>R (.error e) s') s₁) (notedBy (model prog w) A env fun e s'=>R (.error e) s') s)
 (n:Nat) (h:I n s):
 codeAny (model prog w) A (.compLoop (.ListComp elt [⟨target,iter,ifs,0⟩] scope pos) 0 it acc env) R s:=by
 refine codeAny_loop rfl I (fun n s hI=> ?_) n h
 show wpAny _ A ((compTurn (.ListComp elt [⟨target,iter,ifs,0⟩] scope pos) 0 it acc env).onRaise (fun x=>do noteFrame x env;theTreesLotGoes x)) _ _ s
 refine wpAny_noted ?_
 rw [compTurn_list]
 refine wpAny_bind (wpAny_standAt (wpAny_bind (wpAny_mono (turn n s hI) (fun r s₁ h₁=> ?_) fun _ _ h'=>h')))
 cases r with
 |none=>exact wpAny_pure h₁
 |some v=>
  refine wpAny_bind (wpAny_mono h₁ (fun _ s₁' h₁'=> ?_) fun _ _ h'=>h')
  refine wpAny_bind (wpAny_mono h₁' (fun _ s₂ h₂=>wpAny_bind (wpAny_mono h₂ (fun ok s₃ h₃=> ?_) fun _ _ h'=>h')) fun _ _ h'=>h')
  cases ok with
  |false=>exact wpAny_pure ⟨rfl,h₃⟩
  |true=>
   exact wpAny_bind (wpAny_bind (wpAny_mono h₃ (fun x s₄ h₄=>wpAny_bind (wpAny_mono h₄ (fun _ s₅ h₅=>wpAny_pure (wpAny_pure ⟨rfl,h₅⟩)) fun _ _ h'=>h')) fun _ _ h'=>h'))
end
theorem kta{h₀ h h':Heap}{L:Addr}{m:Str->Option Value}{wr:List Addr}(F:Fr h₀ L h m)(hk:∀ b o,b ∉ wr->h.get? b=some o->h'.get? b=some o)(hL:L ∉ wr)(hI:∀ b∈wr,h₀.get? b=none):Fr h₀ L h' m:=
 ⟨F.ns.at' fun o e=>hk L o hL e,fun b o e=>hk b o (fun hm=>by rw [hI b hm] at e;cases e) (F.keep b o e),F.above⟩
theorem gTa{h₀ h h':Heap}{L:Addr}{news:List (Addr×Obj)}{wr:List Addr}(N:News h₀ L h news)(hk:∀ b o,b ∉ wr->h.get? b=some o->h'.get? b=some o)(off:∀ p∈news,p.1 ∉ wr):News h₀ L h' news:=
 fun p hp=>⟨hk _ _ (off p hp) (N p hp).1,(N p hp).2⟩
section
variable {prog:Program} {w:World} {A:Around} {E:Value->Shared->Prop} {s:Shared} {env:Env} {h₀:Heap} {L:Addr} {m:Str->Option Value} {elt target:Expr} {ifs:List Expr} {scope:Scope} {cl:List (Str×Addr)}
inductive bPa(prog:Program)(w:World)(A:Around)(h₀:Heap)(L:Addr)(m:Str->Option Value)(env:Env)(elt target:Expr)(ifs:List Expr)(scope:Scope)(cl:List (Str×Addr))(mf:Addr->Str->Option Value)(Fin:Addr->Shared->Prop)(it:Value)(s₂:Shared):Prop
 |ik (I:Addr) (fp wr:List Addr) (n:Nat) (P Md:Nat->Value->Heap->Prop) (St:Nat->Heap->Prop) (news:List (Addr×Obj)) (J:Nat->List Value->List (Addr×Obj)->Prop) (AS:Nat->(Str->Option Value)->Prop)
  (f0:it= .ref I)
  (f1:KTurns prog w A target I fp wr n P Md St)
  (fself:∀ (s:Shared) (Q E:Value->Shared->Prop),St 0 s.heap->Q (.ref I) s->wpAny (model prog w) A (pyIter (.ref I)) Q E s)
  (fas:∀ (i:Nat) (v:Value) (C:Addr) (s:Shared) (m':Str->Option Value) (Q:Unit->Shared->Prop) (E:Value->Shared->Prop),i<n->P i v s.heap->s.heap.Ns C m'->(∀ h₃ tk m₂,h₃.Ns C m₂->AS i m₂->(∀ b o,b≠C->s.heap.get? b=some o->h₃.get? b=some o)->Q () {s with heap:=h₃,toks:=tk})->wpAny (model prog w) A (assign target (compEnvC scope cl C env) v) Q E s)
  (f2:n≤sizeLine)
  (f3:L ∉ fp)
  (f4:∀ b∈wr,h₀.get? b=none)
  (f5:(∀ b∈fp,b<s₂.heap.objs.size))
  (f6:(∀ p∈news,p.1 ∉ wr))
  (f7:St 0 s₂.heap)
  (f8:(∀ i h,St i h->∀ b∈fp,∃ o,h.get? b=some o))
  (f9:Fr h₀ L s₂.heap m)
  (f10:News h₀ L s₂.heap news)
  (f11:J 0 [] news)
  (f12:(∀ i ys news₁ h₁ tk₁ own bad C oC m₂ E',i<n->AS i m₂->ys.length≤i->J i ys news₁->(∀ b∈fp,h₀.get? b=none->∀ o,h₁.get? b=some o->(b,o)∈own)->(∀ p∈own,p.1∈fp∨p.1∈bad)->(∀ b∈bad,∃ o,(b,o)∈own)->(∀ b∈fp,∃ o,h₁.get? b=some o)->(∀ p∈news₁,p.1 ∉ bad)->(C,oC)∈own->NsObj oC m₂->Fr h₀ L h₁ m->News h₀ L h₁ (own++news₁)->wpAny (model prog w) A (boa ifs (compEnvC scope cl C env)) (fun ok s₃=>if ok=true then wpAny (model prog w) A (eval elt (compEnvC scope cl C env)) (fun y s₄=>eza h₀ L m (fun ys nw=>J (i+1) ys nw) own bad (ys++ [y]) {s₂ with heap:=h₁,toks:=tk₁} s₄) E' s₃ else eza h₀ L m (fun ys nw=>J (i+1) ys nw) own bad ys {s₂ with heap:=h₁,toks:=tk₁} s₃) E' {s₂ with heap:=h₁,toks:=tk₁}))
  (f13:∀ D h' tk ys news',J n ys news'->ys.length≤n->Fr h₀ L h' (mf D)->News h₀ L h' ((D,lst ys)::news')->(∀ p∈news', @Ne Nat p.1 D)->Fin D {s₂ with heap:=h',toks:=tk}):bPa prog w A h₀ L m env elt target ifs scope cl mf Fin it s₂
inductive mwa(h₀:Heap)(L:Addr)(m:Str->Option Value)(n:Nat)(St:Nat->Heap->Prop)(J:Nat->List Value->List (Addr×Obj)->Prop)(wr:List Addr)(D C:Addr)(s₂:Shared)(k:Nat)(s':Shared):Prop
 |ik (h':Heap) (tk:Nat) (i:Nat) (ys:List Value) (m':Str->Option Value) (news':List (Addr×Obj))
  (f0:s'= {s₂ with heap:=h',toks:=tk}) (f1:i≤n) (f2:k=n+1-i) (f3:ys.length≤i) (f4:St i h') (f5:Fr h₀ L h' m) (f6:h'.Ns C m') (f7:News h₀ L h' ((D,lst ys)::news')) (f8:(∀ p∈news',p.1 ∉ wr∧p.1≠D∧p.1≠C)) (f9:J i ys news'):mwa h₀ L m n St J wr D C s₂ k s'
inductive mya(h₀:Heap)(L:Addr)(m:Str->Option Value)(St:Nat->Heap->Prop)(J:Nat->List Value->List (Addr×Obj)->Prop)(wr:List Addr)(D C:Addr)(s₂:Shared)(oC oD:Obj)(i:Nat)(zs:List Value)(s₅:Shared):Prop
 |ik (h₄:Heap) (tk₄:Nat) (news₄:List (Addr×Obj))
  (f0:s₅= {s₂ with heap:=h₄,toks:=tk₄}) (f1:Fr h₀ L h₄ m) (f2:h₄.get? C=some oC) (f3:h₄.get? D=some oD) (f4:News h₀ L h₄ news₄) (f5:St (i+1) h₄) (f6:(∀ p∈news₄,p.1 ∉ wr∧p.1≠D∧p.1≠C)) (f7:J (i+1) zs news₄):mya h₀ L m St J wr D C s₂ oC oD i zs s₅
theorem eha{iter:Expr}{pos:Pos}{s₂:Shared}{it:Value}{mf:Addr->Str->Option Value}{Fin:Addr->Shared->Prop}{RR:Value->Addr->Result->Shared->Prop}
 (hcell:∀ y∈scope.names,y.2≠ .cell) (hkind:scope.kind= .function)
 (H:bPa prog w A h₀ L m env elt target ifs scope cl mf Fin it s₂)
 (hRR:∀ D C h tk m',Fr h₀ L h m->D≠L->h₀.get? D=none->h.Ns C m'->h₀.get? C=none->C≠L->C≠D->
   (∀ h' tk',Fr h₀ L h' (mf D)->(∀ b o,b≠C->b≠L->h.get? b=some o->h'.get? b=some o)->Fin D {s₂ with heap:=h',toks:=tk'})->RR (.ref D) C (.ok .next) {s₂ with heap:=h,toks:=tk}):
 wpAny (model prog w) A (newList []) (fun acc s₃=>wpAny (model prog w) A (newFunctionEnv scope env.globals cl [] env.qual none .none (some env)) (fun cenv s₄=>
  codeAny (model prog w) A (.compStart (.ListComp elt [⟨target,iter,ifs,0⟩] scope pos) 0 it acc {cenv with scope:=relabel scope env}) (RR acc cenv.locals) s₄) E s₃) E s₂:=by
 obtain⟨I,fp,wr,n,P,Md,St,news,J,AS,rfl,W,Wself,hAs,hsz,hLf,hI₀,hfp,hnI,hst,hlive,F,N,hJ,step,done⟩:=H
 refine wpAny_newObj_type (wpAny_newFunctionEnv hcell (by intro y hy;simp at hy) (fun h₁ hns₁ hsb₁=> ?_) hkind)
 dsimp only at hns₁ hsb₁ ⊢
 generalize hH2:s₂.heap.push {cls:= .type "list",dict:=none,data:= .seq ([]:List Value).toArray}=H2 at hns₁ hsb₁ ⊢
 have hC:H2.objs.size=s₂.heap.objs.size+1:=by rw [<-hH2,Heap.size_push]
 have hDC:s₂.heap.objs.size≠H2.objs.size:=by rw [hC];exact Nat.ne_of_lt (Nat.lt_succ_self _)
 have below:∀ b,b<s₂.heap.objs.size->b≠H2.objs.size∧b≠s₂.heap.objs.size:=fun b hb=>⟨by rw [hC];exact Nat.ne_of_lt (Nat.lt_succ_of_lt hb),Nat.ne_of_lt hb⟩
 have hDf:s₂.heap.objs.size ∉ fp:=fun hm=>Nat.lt_irrefl _ (hfp _ hm)
 have hCf:H2.objs.size ∉ fp:=fun hm=>by have:=hfp _ hm;rw [hC] at this;exact Nat.lt_irrefl _ (Nat.lt_of_succ_lt this)
 have old:∀ b o,s₂.heap.get? b=some o->h₁.get? b=some o:=fun b o e=>hsb₁.extBut b o (below b (Heap.lt_size e)).1 (Heap.get?_push_of_some _ (hH2▸Heap.get?_push_of_some _ e))
 have hacc:h₁.get? s₂.heap.objs.size=some (lst []):=hsb₁.extBut _ _ hDC (Heap.get?_push_of_some _ (hH2▸Heap.get?_push_size _ rfl))
 have hst₁:St 0 h₁:=W.frame _ _ _ hst fun b _ o e=>old b o e
 have fresh₀:∀ a,s₂.heap.objs.size≤a->h₀.get? a=none:=fun a ha=>by
  cases e:h₀.get? a with
  |none=>rfl
  |some o'=>exact absurd (Heap.lt_size (F.keep a o' e)) (Nat.not_lt.mpr ha)
 have hD₀:h₀.get? s₂.heap.objs.size=none:=fresh₀ _ (Nat.le_refl _)
 have hC₀:h₀.get? H2.objs.size=none:=fresh₀ _ (by rw [hC];exact Nat.le_succ _)
 have hLlt:L<s₂.heap.objs.size:=F.ns.lt
 have hDL:s₂.heap.objs.size≠L:=Ne.symm (below L hLlt).2
 have hCL:H2.objs.size≠L:=Ne.symm (below L hLlt).1
 have hLw:L ∉ wr:=fun q=>hLf (W.sub _ q)
 have hCw:H2.objs.size ∉ wr:=fun q=>hCf (W.sub _ q)
 have hDw:s₂.heap.objs.size ∉ wr:=fun q=>hDf (W.sub _ q)
 generalize hDd:s₂.heap.objs.size=D at*
 generalize hCc:H2.objs.size=C at*
 have off₀:∀ p∈news,p.1≠D∧p.1≠C:=fun p hp=>⟨(below _ (by rw [<-hDd];exact Heap.lt_size (N p hp).1)).2,(below _ (by rw [<-hDd];exact Heap.lt_size (N p hp).1)).1⟩
 have loop:∀ s₃:Shared,s₃= {s₂ with heap:=h₁,toks:=s₂.toks+([]:List (Str×Value)).length}->
  codeAny (model prog w) A (.compLoop (.ListComp elt [⟨target,iter,ifs,0⟩] scope pos) 0 (.ref I) (.ref D) (compEnvC scope cl C env))
   (RR (.ref D) C) s₃:=by
  rintro s₃ rfl
  refine hKa
   (mwa h₀ L m n St J wr D C s₂) ?_ (n+1)
   ⟨h₁,_,0, [],_,news,rfl,Nat.zero_le _,rfl,Nat.le_refl _,hst₁,F.keeps old,hns₁,fun p hp=> ?_,fun p hp=>⟨hnI p hp,off₀ p hp⟩,hJ⟩
  ·rintro k s' ⟨h',tk,i,ys,m',news',rfl,hi,rfl,hyl,hst',F',hn',N',off',hJ'⟩
   have offD:∀ p∈(D,lst ys)::news',p.1 ∉ wr:=fc hDw fun p hp=>(off' p hp).1
   by_cases hlt:i<n
   ·refine W.item i _ _ _ hlt hst' fun v h₂ tk₂ hMd hk₂=> ?_
    refine W.go i v _ _ _ hMd fun h₂' hPv hst₂ hk₂'=> ?_
    have hkk:∀ b o,b ∉ wr->h'.get? b=some o->h₂'.get? b=some o:=fun b o hb e=>hk₂' b o hb (hk₂ b o hb e)
    refine hAs i v C _ m' _ _ hlt hPv (hn'.at' fun o e=>hkk _ o hCw e) fun h₃ tk₃ m₂ hn₃ hAS hs₃=> ?_
    have hst₃:St (i+1) h₃:=W.frame _ _ _ hst₂ fun b hb o e=>hs₃ b o (fun q=>hCf (by have q':b=C:=q;rw [<-q'];exact hb)) e
    obtain⟨oC,heC,hoC⟩:=ns_obj hn₃
    have F₂:Fr h₀ L h₂' m:=kta F' hkk hLw hI₀
    have F₃:Fr h₀ L h₃ m:=⟨F₂.ns.at' fun o e=>hs₃ L o (Ne.symm hCL) e,fun b o e=>hs₃ b o (fun q=>by rw [q,hC₀] at e;cases e) (F₂.keep b o e),F₂.above⟩
    have N₂:News h₀ L h₂' ((D,lst ys)::news'):=gTa N' hkk offD
    have hD₃:h₃.get? D=some (lst ys):=hs₃ _ _ hDC (N₂ _ List.mem_cons_self).1
    have Nown:News h₀ L h₃ (PyProof.Rows.ownOf h₀ fp h₃):=news_ownOf hLf
    have N₃:News h₀ L h₃ ((PyProof.Rows.ownOf h₀ fp h₃++ [(C,oC),(D,lst ys)])++news'):=
     fQa (fQa Nown (fc ⟨heC,hCL,hC₀⟩ (fc ⟨hD₃,hDL,hD₀⟩ fn))) fun p hp=>⟨hs₃ _ _ (off' p hp).2.2 (N₂ p (List.mem_cons_of_mem _ hp)).1,(N₂ p (List.mem_cons_of_mem _ hp)).2⟩
    have hIown:∀ b∈wr,∃ o,(b,o)∈PyProof.Rows.ownOf h₀ fp h₃:=fun b hb=>by
     obtain⟨oI,hoI⟩:=hlive _ _ hst₃ b (W.sub _ hb)
     exact⟨oI,mem_ownOf (W.sub _ hb) (hI₀ b hb) hoI⟩
    have T:=step i ys news' h₃ tk₃ (PyProof.Rows.ownOf h₀ fp h₃++ [(C,oC),(D,lst ys)]) (wr++ [D,C]) C oC _ (notedBy (model prog w) A (compEnvC scope cl C env) fun e s'=>RR (.ref D) C (.error e) s') hlt hAS hyl hJ'
     (fun b hb hn o e=>laL _ (mem_ownOf hb hn e)) (fQa (fun p hp=> .inl (ownOf_sub p hp)) (fc (.inr (laG _ (List.mem_cons_of_mem _ List.mem_cons_self))) (fc (.inr (laG _ List.mem_cons_self)) fn)))
     (fQa (fun b hb=>(hIown b hb).elim fun o ho=>⟨o,laL _ ho⟩) (fc ⟨lst ys,laG _ (List.mem_cons_of_mem _ List.mem_cons_self)⟩ (fc ⟨oC,laG _ List.mem_cons_self⟩ fn)))
     (hlive _ _ hst₃) (fun p hp=>fGa (fQa (fun b hb e=>(off' p hp).1 (e▸hb)) (fc (off' p hp).2.1 (fc (off' p hp).2.2 fn))))
     (laG _ List.mem_cons_self) hoC F₃ N₃
    have after:∀ zs s₅,eza h₀ L m (fun ys nw=>J (i+1) ys nw) (PyProof.Rows.ownOf h₀ fp h₃++ [(C,oC),(D,lst ys)]) (wr++ [D,C]) zs {s₂ with heap:=h₃,toks:=tk₃} s₅->
     mya h₀ L m St J wr D C s₂ oC (lst ys) i zs s₅:=by
     rintro zs s₅ ⟨h₄,tk₄,news₄,rfl,F₄,N₄,hsep,hJ₄⟩
     have own_:∀ p∈PyProof.Rows.ownOf h₀ fp h₃++ [(C,oC),(D,lst ys)],h₄.get? p.1=some p.2:=fun p hp=>(N₄ p (laL _ hp)).1
     refine⟨h₄,tk₄,news₄,rfl,F₄,own_ (C,oC) (laG _ List.mem_cons_self),own_ (D,lst ys) (laG _ (List.mem_cons_of_mem _ List.mem_cons_self)),fun p hp=>N₄ p (laG _ hp), ?_,fun p hp=> ?_,hJ₄⟩
     ·refine W.frame _ _ _ hst₃ fun b hb o e=> ?_
      cases hn:h₀.get? b with
      |some o₀=>
       have:o₀=o:=by have q:=F₃.keep b o₀ hn;rw [e] at q;exact(Option.some.inj q).symm
       exact this▸F₄.keep b o₀ hn
      |none=>exact own_ (b,o) (laL _ (mem_ownOf hb hn e))
     ·exact⟨fun q=>hsep p hp (laL _ q),fun q=>hsep p hp (laG _ (List.mem_cons.mpr (.inl q))),fun q=>hsep p hp (laG _ (List.mem_cons_of_mem _ (List.mem_cons.mpr (.inl q))))⟩
    refine wpAny_mono T (fun ok s₄ hq=> ?_) fun _ _ e=>e
    cases ok with
    |false=>
     simp only [Bool.false_eq_true,if_false] at hq ⊢
     obtain⟨h₄,tk₄,news₄,rfl,F₄,zC,zD,N₄,hst₄,off₄,hJ₄⟩:=after _ _ hq
     refine⟨n+1-(i+1),by omega,h₄,tk₄,i+1,ys,_,news₄,rfl,hlt,rfl,by omega,hst₄,F₄,hoC.ns zC,fc ⟨zD,hDL,hD₀⟩ N₄,off₄,hJ₄⟩
    |true=>
     simp only [if_true] at hq ⊢
     refine wpAny_mono hq (fun y s₅ hq5=> ?_) fun _ _ e=>e
     obtain⟨h₄,tk₄,news₄,rfl,F₄,zC,zD,N₄,hst₄,off₄,hJ₄⟩:=after _ _ hq5
     refine append_at (hsz:=by show ys.toArray.size≤sizeLine;rw [List.size_toArray];omega) zD fun h₅ hs₅ hD₅=> ?_
     refine⟨n+1-(i+1),by omega,h₅,tk₄,i+1,ys++ [y],_,news₄,rfl,hlt,rfl,by rw [List.length_append,List.length_singleton];omega,W.frame _ _ _ hst₄ fun b hb o e=>hs₅.extBut b o (fun q=>hDf (q▸hb)) e,F₄.change hs₅ hDL hD₀,
      (hoC.ns zC).sameBut hs₅ (Ne.symm hDC),fc ⟨hD₅.trans (congrArg some (lst_snoc ys y)),hDL,hD₀⟩ fun p hp=>⟨hs₅.extBut _ _ (off₄ p hp).2.1 (N₄ p hp).1,(N₄ p hp).2⟩,off₄,hJ₄⟩
   ·obtain rfl:i=n:=Nat.le_antisymm hi (Nat.not_lt.mp hlt)
    refine W.done _ _ _ hst' fun h₂ tk₂ hk₂=> ?_
    have N₂:News h₀ L h₂ ((D,lst ys)::news'):=gTa N' hk₂ offD
    refine hRR D C h₂ tk₂ _ (kta F' hk₂ hLw hI₀) hDL hD₀ (hn'.at' fun o e=>hk₂ _ o hCw e) hC₀ hCL (Ne.symm hDC) fun h'' tk'' F'' hk''=> ?_
    refine done D h'' tk'' ys news' hJ' hyl F'' (fun p hp=> ?_) fun p hp=>(off' p hp).2.1
    have hp2:p.1≠C:=fc (p:=fun p=>p.1≠C) hDC (fun p hp=>(off' p hp).2.2) p hp
    exact⟨hk'' _ _ hp2 (N₂ p hp).2.1 (N₂ p hp).1,(N₂ p hp).2⟩
  ·rcases lcM hp with rfl|hp
   ·exact⟨hacc,hDL,hD₀⟩
   ·exact⟨old _ _ (N p hp).1,(N p hp).2⟩
 exact codeAny_compStart_list (loop _ rfl) (Wself _ _ _ hst₁ (loop _ rfl))
theorem dka{iter:Expr}{pos:Pos}{Q:Value->Shared->Prop}(_F₀:Fr h₀ L s.heap m)
 (hclos:closureFor scope env=pure cl) (hcell:∀ y∈scope.names,y.2≠ .cell) (hkind:scope.kind= .function)
 (hnames:∀ y∈scope.names,y.2= .local->scope.names.lookup y.1=some .local)
 (h:wpAny (model prog w) A (eval iter env) (fun xv s₁=>wpAny (model prog w) A (pyIter xv) (fun it s₂=>bPa prog w A h₀ L m env elt target ifs scope cl (fun _=>m) (fun D s'=>Q (.ref D) s') it s₂) E s₁) E s)
 (hs:∀ x,foldedSetIterable iter env x=pure x:=by intro _;rfl):
 wpAny (model prog w) A (eval (.ListComp elt [⟨target,iter,ifs,0⟩] scope pos) env) Q E s:=by
 rw [eval_ListComp]
 refine wpAny_comprehension_free (use:=none) rfl hs hclos hkind hnames (wpAny_mono h (fun xv s₁ h₁=>wpAny_mono h₁ (fun it s₂ h₂=> ?_) fun _ _ e=>e) fun _ _ e=>e)
 refine eha (RR:=fun acc C=>compPost (model prog w) A E none Q acc C) hcell hkind h₂ ?_
 intro D C h tk m' F hDL hD₀ hn hC₀ hCL hCD fin
 exact⟨m',hn,fun h'' hs''=>fin h'' tk (F.change hs'' hCL hC₀) fun b o hb _ e=>hs''.extBut b o hb e⟩
theorem cna{iter:Expr}{y:Str}{py:Pos}{pos spos:Pos}{Q:Flow->Shared->Prop}(_F₀:Fr h₀ L s.heap m)(hLe:env.locals=L)
 (hsw:swapsWith (.ListComp elt [⟨target,iter,ifs,0⟩] scope pos) (some (.Name y py)) spos.line env=pure true)
 (hclos:closureFor scope env=pure cl) (hcell:∀ z∈scope.names,z.2≠ .cell) (hkind:scope.kind= .function)
 (hnames:∀ z∈scope.names,z.2= .local->scope.names.lookup z.1=some .local)
 (hy:env.kindOf y=some .local) (hp:(env.scope.kind== .class||(env.scope.kind== .module&&env.locals !=env.globals))=false)
 (h:wpAny (model prog w) A (eval iter env) (fun xv s₁=>wpAny (model prog w) A (pyIter xv) (fun it s₂=>bPa prog w A h₀ L m env elt target ifs scope cl (fun D z=>if z=y then some (.ref D) else m z) (fun _ s'=>Q .next s') it s₂) E s₁) E s)
 (hs:∀ x,foldedSetIterable iter env x=pure x:=by intro _;rfl):
 wpAny (model prog w) A (exec (.Assign [.Name y py] (.ListComp elt [⟨target,iter,ifs,0⟩] scope pos) spos) env) Q E s:=by
 subst hLe
 rw [exec_Assign_Name_used _ _ _ _ hsw]
 refine wpAny_bind (wpAny_standAt (wpAny_bind ?_))
 show wpAny _ A (do let _<-comprehension (.ListComp elt [⟨target,iter,ifs,0⟩] scope pos) scope env _ (newList []) false (eval iter env) (some (assign (.Name y py) env))) _ _ s
 refine wpAny_bind (wpAny_mono (wpAny_comprehension_free (use:=some (assign (.Name y py) env)) (Q:=fun _ s'=>Q .next s') rfl hs hclos hkind hnames
  (wpAny_mono h (fun xv s₁ h₁=>wpAny_mono h₁ (fun it s₂ h₂=> ?_) fun _ _ e=>e) fun _ _ e=>e)) (fun _ s' hq=>wpAny_pure (wpAny_pure hq)) fun _ _ e=>e)
 refine eha (RR:=fun acc C=>compPost (model prog w) A E (some (assign (.Name y py) env)) (fun _ s'=>Q .next s') acc C) hcell hkind h₂ ?_
 intro D C h tk m' F hDL hD₀ hn hC₀ hCL hCD fin
 show wpAny _ A (assign (.Name y py) env (.ref D)) _ _ _
 refine wpAny_assign_Name (wpAny_storeName_local hy F.ns (fun h₂ hn₂ hs₂=> ?_) hp)
 have hL₀:h₀.get? env.locals=none:=Heap.get?_none_of_le F.above
 have F₂:Fr h₀ env.locals h₂ (fun z=>if z=y then some (.ref D) else m z):=⟨hn₂,fun b o e=>hs₂.extBut b o (fun q=>by rw [q,hL₀] at e;cases e) (F.keep b o e),F.above⟩
 refine⟨m',hn.sameBut hs₂ hCL,fun h'' hs''=>fin h'' _ (F₂.change hs'' hCL hC₀) fun b o hb hbL e=>hs''.extBut b o hb (hs₂.extBut b o hbL e)⟩
theorem dAa.toT{x:Str}{px:Pos}{mf:Addr->Str->Option Value}{Fin:Addr->Shared->Prop}{it:Value}{s₂:Shared}(H:dAa prog w A h₀ L m env elt x ifs scope cl mf Fin it s₂)(hkind:scope.kind= .function)(hx:scope.names.lookup x=some .local):
 bPa prog w A h₀ L m env elt (.Name x px) ifs scope cl mf Fin it s₂:=by
 obtain⟨I,fp,n,P,St,news,J,rfl,W,hsz,hLf,hI₀,hfp,hnI,hst,hlive,F,N,hJ,step,done⟩:=H
 exact⟨I,fp, [I],n,fun i v _=>P i v,fun i v h=>P i v∧St (i+1) h,St,news,J,fun i m₂=>∃ v,P i v∧m₂ x=some v,rfl,KTurns.ofWalks W (fun _ _ _ _ _ _ q=>wpAny_pure q),fun s Q E=>W.self 0 s Q E,
  fun i v C s m' Q E hi hP hn hQ=>wpAny_assign_Name (wpAny_storeName_local (lookup_relabel_local hx) hn (fun h₃ hn₃ hs₃=>hQ h₃ _ _ hn₃ ⟨v,hP,by simp⟩ fun b o hb e=>hs₃.extBut b o hb e) (by simp [compEnvC,relabel,hkind])),
  hsz,hLf,fun b hb=>by rw [lsM hb];exact hI₀,hfp,fun p hp hb=>hnI p hp (lsM hb),hst,hlive,F,N,hJ,
  fun i ys news₁ h₁ tk₁ own bad C oC m₂ E' hi ⟨v,hP,hv⟩ hy hJ1 a b c d e f g F1 N1=>step i v ys news₁ h₁ tk₁ own bad C oC m₂ E' hi hP hy hJ1 a b c d e f g hv F1 N1,done⟩
theorem aGa{iter:Expr}{px:Pos}{pos:Pos}{Q:Value->Shared->Prop}(_F₀:Fr h₀ L s.heap m)
 (hclos:closureFor scope env=pure cl) (hcell:∀ y∈scope.names,y.2≠ .cell) (hkind:scope.kind= .function)
 (hnames:∀ y∈scope.names,y.2= .local->scope.names.lookup y.1=some .local) (hx:scope.names.lookup x=some .local)
 (h:wpAny (model prog w) A (eval iter env) (fun xv s₁=>wpAny (model prog w) A (pyIter xv) (fun it s₂=>dAa prog w A h₀ L m env elt x ifs scope cl (fun _=>m) (fun D s'=>Q (.ref D) s') it s₂) E s₁) E s)
 (hs:∀ x,foldedSetIterable iter env x=pure x:=by intro _;rfl):
 wpAny (model prog w) A (eval (.ListComp elt [⟨.Name x px,iter,ifs,0⟩] scope pos) env) Q E s:=
 dka _F₀ hclos hcell hkind hnames (wpAny_mono h (fun _ _ h₁=>wpAny_mono h₁ (fun _ _ h₂=>h₂.toT hkind hx) fun _ _ e=>e) fun _ _ e=>e) hs
theorem cKa{iter:Expr}{y:Str}{px py:Pos}{pos spos:Pos}{Q:Flow->Shared->Prop}(_F₀:Fr h₀ L s.heap m)(hLe:env.locals=L)
 (hsw:swapsWith (.ListComp elt [⟨.Name x px,iter,ifs,0⟩] scope pos) (some (.Name y py)) spos.line env=pure true)
 (hclos:closureFor scope env=pure cl) (hcell:∀ z∈scope.names,z.2≠ .cell) (hkind:scope.kind= .function)
 (hnames:∀ z∈scope.names,z.2= .local->scope.names.lookup z.1=some .local) (hx:scope.names.lookup x=some .local)
 (hy:env.kindOf y=some .local) (hp:(env.scope.kind== .class||(env.scope.kind== .module&&env.locals !=env.globals))=false)
 (h:wpAny (model prog w) A (eval iter env) (fun xv s₁=>wpAny (model prog w) A (pyIter xv) (fun it s₂=>dAa prog w A h₀ L m env elt x ifs scope cl (fun D z=>if z=y then some (.ref D) else m z) (fun _ s'=>Q .next s') it s₂) E s₁) E s)
 (hs:∀ x,foldedSetIterable iter env x=pure x:=by intro _;rfl):
 wpAny (model prog w) A (exec (.Assign [.Name y py] (.ListComp elt [⟨.Name x px,iter,ifs,0⟩] scope pos) spos) env) Q E s:=
 cna _F₀ hLe hsw hclos hcell hkind hnames hy hp (wpAny_mono h (fun _ _ h₁=>wpAny_mono h₁ (fun _ _ h₂=>h₂.toT hkind hx) fun _ _ e=>e) fun _ _ e=>e) hs
end
end Mine
namespace Mine
open PyProof.Rows.LCg (lst NsObj ns_obj lst_snoc)
theorem KTurns.keep{prog:Program}{w:World}{A:Around}{target:Expr}{I:Addr}{fp wr:List Addr}{n:Nat}{P Md:Nat->Value->Heap->Prop}{St:Nat->Heap->Prop}(W:KTurns prog w A target I fp wr n P Md St)(ks:List (Addr×Obj))(hk:∀ p∈ks,p.1 ∉ wr):
 KTurns prog w A target I (fp++ks.map (·.1)) wr n (fun i v h=>P i v h∧∀ p∈ks,h.get? p.1=some p.2) (fun i v h=>Md i v h∧∀ p∈ks,h.get? p.1=some p.2) (fun i h=>St i h∧∀ p∈ks,h.get? p.1=some p.2) where
 sub:=fun b hb=>laL _ (W.sub b hb)
 frame:=fun i h h' st hkk=>⟨W.frame i h h' st.1 fun b hb=>hkk b (laL _ hb),fun p hp=>hkk _ (laG _ (List.mem_map_of_mem hp)) _ (st.2 p hp)⟩
 item:=fun i s Q E hi st hQ=>W.item i s Q E hi st.1 fun v h' tk hm hkk=>hQ v h' tk ⟨hm,fun p hp=>hkk _ _ (hk p hp) (st.2 p hp)⟩ hkk
 go:=fun i v s Q E hm hQ=>W.go i v s Q E hm.1 fun h' hp st hkk=>hQ h' ⟨hp,fun p hq=>hkk _ _ (hk p hq) (hm.2 p hq)⟩ ⟨st,fun p hq=>hkk _ _ (hk p hq) (hm.2 p hq)⟩ hkk
 done:=fun s Q E st hQ=>W.done s Q E st.1 hQ
section
variable {prog:Program} {w:World} {A:Around} {E:Value->Shared->Prop} {s:Shared} {env:Env} {h₀:Heap} {L:Addr} {m:Str->Option Value} {elt target:Expr} {ifs:List Expr} {scope:Scope} {cl:List (Str×Addr)}
theorem dKa{σ:Type}{I:Addr}{fp wr:List Addr}{n:Nat}{P Md:Nat->Value->Heap->Prop}{St:Nat->Heap->Prop}(AS:Nat->(Str->Option Value)->Prop){mf:Addr->Str->Option Value}{Fin:Addr->Shared->Prop}(Led:σ->List (Addr×Obj))(ys:σ->List Value)(J:Nat->σ->Prop)(c₀:σ)(fix:List (Addr×Obj)){news:List (Addr×Obj)}
 (W:KTurns prog w A target I fp wr n P Md St) (Wself:∀ (s:Shared) (Q E:Value->Shared->Prop),St 0 s.heap->Q (.ref I) s->wpAny (model prog w) A (pyIter (.ref I)) Q E s)
 (has:∀ (i:Nat) (v:Value) (C:Addr) (s:Shared) (m':Str->Option Value) (Q:Unit->Shared->Prop) (E:Value->Shared->Prop),i<n->P i v s.heap->s.heap.Ns C m'->(∀ h₃ tk m₂,h₃.Ns C m₂->AS i m₂->(∀ b o,b≠C->s.heap.get? b=some o->h₃.get? b=some o)->Q () {s with heap:=h₃,toks:=tk})->wpAny (model prog w) A (assign target (compEnvC scope cl C env) v) Q E s)
 (hsz:n≤sizeLine) (hLf:L ∉ fp) (hI₀:∀ b∈wr,h₀.get? b=none) (hfp:∀ b∈fp,b<s.heap.objs.size) (hst:St 0 s.heap) (hlive:∀ i h,St i h->∀ b∈fp,∃ o,h.get? b=some o)
 (F:Fr h₀ L s.heap m) (N:News h₀ L s.heap news) (hin:∀ p∈Led c₀++fix,p∈news) (hnI:∀ p∈Led c₀++fix,p.1 ∉ wr) (hoff:∀ q∈Led c₀,∀ p∈fix, @Ne Nat p.1 q.1) (hcf:∀ p∈Led c₀,p.1 ∉ fp) (hy0:ys c₀= []) (hj:J 0 c₀)
 (turn:∀ i c h tk own C oC m₂ E',AS i m₂->i<n->J i c->(ys c).length≤i->(C,oC)∈own->NsObj oC m₂->Fr h₀ L h m->News h₀ L h (Led c++(fix++own))->(∀ q∈Led c,∀ p∈fix++own, @Ne Nat p.1 q.1)->
   wpAny (model prog w) A (boa ifs (compEnvC scope cl C env)) (fun ok s₃=>if ok=true then wpAny (model prog w) A (eval elt (compEnvC scope cl C env)) (fun y s₄=>aba h₀ L m Led ys (J (i+1)) (fix++own) (ys c++ [y]) {s with heap:=h,toks:=tk} s₄) E' s₃
    else aba h₀ L m Led ys (J (i+1)) (fix++own) (ys c) {s with heap:=h,toks:=tk} s₃) E' {s with heap:=h,toks:=tk})
 (done:∀ D c h' tk,J n c->(ys c).length≤n->Fr h₀ L h' (mf D)->News h₀ L h' ((D,lst (ys c))::(Led c++fix))->(∀ p∈Led c++fix, @Ne Nat p.1 D)->(∀ q∈Led c,∀ p∈fix, @Ne Nat p.1 q.1)->Fin D {s with heap:=h',toks:=tk}):
 bPa prog w A h₀ L m env elt target ifs scope cl mf Fin (.ref I) s:=by
 refine⟨I,fp,wr,n,P,Md,St,Led c₀++fix,fun i zs nw=>∃ c,nw=Led c++fix∧zs=ys c∧(∀ q∈Led c,∀ p∈fix, @Ne Nat p.1 q.1)∧(∀ p∈Led c,p.1 ∉ fp)∧J i c,AS,rfl,W,Wself,has,hsz,hLf,hI₀,hfp,hnI,hst,hlive,F,fun p hp=>N p (hin p hp),
  ⟨c₀,rfl,hy0.symm,hoff,hcf,hj⟩, ?_, ?_⟩
 ·rintro i zs nw h₁ tk₁ own bad C oC m₂ E' hi hP hzl ⟨c,rfl,rfl,hof,hcf',hJ⟩ hall hown hbad hlv hnb hCm hoC F₁ N₁
  have hsep:∀ q∈Led c,∀ p∈fix++own, @Ne Nat p.1 q.1:=fun q hq p hp=>by
   rcases laM hp with hp|hp
   ·exact hof q hq p hp
   ·intro e
    have e':p.1=q.1:=e
    rcases hown p hp with hpf|hpf
    ·exact hcf' q hq (by rw [<-e'];exact hpf)
    ·exact hnb q (laL _ hq) (by rw [<-e'];exact hpf)
  have N₂:News h₀ L h₁ (Led c++(fix++own)):=fun p hp=>N₁ p (by
   rcases laM hp with hp|hp
   ·exact laG _ (laL _ hp)
   ·rcases laM hp with hp|hp
    ·exact laG _ (laG _ hp)
    ·exact laL _ hp)
  have key:∀ out s₃,aba h₀ L m Led ys (J (i+1)) (fix++own) out {s with heap:=h₁,toks:=tk₁} s₃->
   eza h₀ L m (fun zs nw=>∃ c,nw=Led c++fix∧zs=ys c∧(∀ q∈Led c,∀ p∈fix, @Ne Nat p.1 q.1)∧(∀ p∈Led c,p.1 ∉ fp)∧J (i+1) c) own bad out {s with heap:=h₁,toks:=tk₁} s₃:=by
   rintro out s₃ ⟨c',h',tk',news',rfl,F',N',hm,hs,rfl,hJ'⟩
   refine⟨h',tk',Led c'++fix,rfl,F',fun p hp=>N' p (hm p ?_),fun p hp hb=> ?_,c',rfl,rfl,fun q hq p hp=>hs q hq p (laL _ hp),fun p hp hb=> ?_,hJ'⟩
   ·rcases laM hp with hp|hp
    ·exact laG _ (laG _ hp)
    ·rcases laM hp with hp|hp
     ·exact laL _ hp
     ·exact laG _ (laL _ hp)
   ·rcases laM hp with hp|hp
    ·obtain⟨o,ho⟩:=hbad p.1 hb
     exact hs p hp (p.1,o) (laG _ ho) rfl
    ·exact hnb p (laG _ hp) hb
   ·obtain⟨o,ho⟩:=hlv p.1 hb
    have h0:=(N' p (hm p (laL _ hp))).2.2
    exact hs p hp (p.1,o) (laG _ (hall p.1 hb h0 o ho)) rfl
  refine wpAny_mono (turn i c h₁ tk₁ own C oC m₂ E' hP hi hJ hzl hCm hoC F₁ N₂ hsep) (fun ok s₃ hq=> ?_) fun _ _ e=>e
  cases ok with
  |false=>
   simp only [Bool.false_eq_true,if_false] at hq ⊢
   exact key _ _ hq
  |true=>
   simp only [if_true] at hq ⊢
   exact wpAny_mono hq (fun y s₄ hq4=>key _ _ hq4) fun _ _ e=>e
 ·rintro D h' tk zs nw ⟨c,rfl,rfl,hof,_,hJ⟩ hzl F' N' hD
  exact done D c h' tk hJ hzl F' N' hD hof
theorem h2a{h:Heap}{T:Addr}{its:Array Value}(e:h.get? T=some (aea its)):h.IsTuple T its:=⟨_,e,rfl,_,rfl⟩
theorem qpa{x1 x2:Str}{p1 p2 pos:Pos}{k:Nat}{C T:Addr}{a b:Value}{m':Str->Option Value}{Q:Unit->Shared->Prop}(hh:A.handled=none)(h1:scope.names.lookup x1=some .local)(h2:scope.names.lookup x2=some .local)(hkind:scope.kind= .function)
 (ht:s.heap.IsTuple T #[a,b]) (hn:s.heap.Ns C m') (h:∀ h₃ tk m₂,h₃.Ns C m₂->(x1≠x2->m₂ x1=some a)->m₂ x2=some b->(∀ z,z≠x1->z≠x2->m₂ z=m' z)->(∀ b o,b≠C->s.heap.get? b=some o->h₃.get? b=some o)->Q () {s with heap:=h₃,toks:=tk}):
 wpAny (model prog w) A (assign (.Tuple [.Name x1 p1, .Name x2 p2] k pos) (compEnvC scope cl C env) (.ref T)) Q E s:=by
 refine wpAny_assign_Tuple hh ht rfl rfl fun h' hx=> ?_
 have up:∀ b o,s.heap.get? b=some o->h'.get? b=some o:=fun b o e=>hx b o (Nat.ne_of_lt (Heap.lt_size e)) e
 refine assignInOrder_cons (wpAny_assign_Name (wpAny_storeName_local (lookup_relabel_local h1) (hn.at' fun o e=>up _ o e) (fun h₃ hn₃ hs₃=> ?_) (by simp [compEnvC,relabel,hkind])))
 refine assignInOrder_cons (wpAny_assign_Name (wpAny_storeName_local (lookup_relabel_local h2) hn₃ (fun h₄ hn₄ hs₄=> ?_) (by simp [compEnvC,relabel,hkind])))
 refine assignInOrder_nil (h h₄ _ _ hn₄ (fun hne=>by simp [hne]) (by simp) (fun z a b=>by simp [a,b]) fun b o hb e=>hs₄.extBut b o hb (hs₃.extBut b o hb (up b o e)))
theorem qqa{x1 x2 x3:Str}{p1 p2 p3 pos pos2:Pos}{k k2:Nat}{C T U:Addr}{a b c:Value}{m':Str->Option Value}{Q:Unit->Shared->Prop}(hh:A.handled=none)(h1:scope.names.lookup x1=some .local)(h2:scope.names.lookup x2=some .local)(h3:scope.names.lookup x3=some .local)(hkind:scope.kind= .function)(n1:x1≠x2)(n2:x1≠x3)(n3:x2≠x3)
 (ht:s.heap.IsTuple T #[.ref U,c]) (hu:s.heap.IsTuple U #[a,b]) (hn:s.heap.Ns C m') (h:∀ h₃ tk m₂,h₃.Ns C m₂->m₂ x1=some a->m₂ x2=some b->m₂ x3=some c->(∀ b o,b≠C->s.heap.get? b=some o->h₃.get? b=some o)->Q () {s with heap:=h₃,toks:=tk}):
 wpAny (model prog w) A (assign (.Tuple [.Tuple [.Name x1 p1, .Name x2 p2] k2 pos2, .Name x3 p3] k pos) (compEnvC scope cl C env) (.ref T)) Q E s:=by
 refine wpAny_assign_Tuple hh ht rfl rfl fun h' hx=> ?_
 have up:∀ b o,s.heap.get? b=some o->h'.get? b=some o:=fun b o e=>hx b o (Nat.ne_of_lt (Heap.lt_size e)) e
 refine assignInOrder_cons (qpa (k:=k2) hh h1 h2 hkind (hu.at fun o e=>up _ o e) (hn.at' fun o e=>up _ o e) fun h₃ tk m₂ hn₃ e1 e2 e3 hk₃=> ?_)
 refine assignInOrder_cons (wpAny_assign_Name (wpAny_storeName_local (lookup_relabel_local h3) hn₃ (fun h₄ hn₄ hs₄=> ?_) (by simp [compEnvC,relabel,hkind])))
 refine assignInOrder_nil (h h₄ _ _ hn₄ (by simp [n2,e1 n1]) (by simp [n3,e2]) (by simp) fun b o hb e=>hs₄.extBut b o hb (hk₃ b o hb (up b o e)))
theorem iVa{σ:Type}{x1 x2:Str}{p1 p2 pos:Pos}{k:Nat}{l:Addr}{vs:List Value}{mf:Addr->Str->Option Value}{Fin:Addr->Shared->Prop}(Led:σ->List (Addr×Obj))(ys:σ->List Value)(J:Nat->σ->Prop)(c₀:σ)(fix:List (Addr×Obj)){news:List (Addr×Obj)}
 (hh:A.handled=none) (h1:scope.names.lookup x1=some .local) (h2:scope.names.lookup x2=some .local) (hkind:scope.kind= .function) (hne:x1≠x2) (hl:s.heap.IsList l vs.toArray) (hlL:l≠L) (hsz:vs.length≤sizeLine)
 (F:Fr h₀ L s.heap m) (N:News h₀ L s.heap news) (hin:∀ p∈Led c₀++fix,p∈news) (hoff:∀ q∈Led c₀,∀ p∈fix, @Ne Nat p.1 q.1) (hll:∀ p∈Led c₀, @Ne Nat p.1 l) (hy0:ys c₀= []) (hj:J 0 c₀)
 (turn:∀ i c h tk own C oC m₂ E',(∃ t v,vs[i]?=some v∧m₂ x1=some (.int (i:Nat) t)∧m₂ x2=some v)->i<vs.length->J i c->(ys c).length≤i->(C,oC)∈own->NsObj oC m₂->Fr h₀ L h m->News h₀ L h (Led c++(fix++own))->(∀ q∈Led c,∀ p∈fix++own, @Ne Nat p.1 q.1)->
   wpAny (model prog w) A (boa ifs (compEnvC scope cl C env)) (fun ok s₃=>if ok=true then wpAny (model prog w) A (eval elt (compEnvC scope cl C env)) (fun y s₄=>aba h₀ L m Led ys (J (i+1)) (fix++own) (ys c++ [y]) {s with heap:=h,toks:=tk} s₄) E' s₃
    else aba h₀ L m Led ys (J (i+1)) (fix++own) (ys c) {s with heap:=h,toks:=tk} s₃) E' {s with heap:=h,toks:=tk})
 (done:∀ D c h' tk,J (vs.length) c->(ys c).length≤vs.length->Fr h₀ L h' (mf D)->News h₀ L h' ((D,lst (ys c))::(Led c++fix))->(∀ p∈Led c++fix, @Ne Nat p.1 D)->(∀ q∈Led c,∀ p∈fix, @Ne Nat p.1 q.1)->Fin D {s with heap:=h',toks:=tk}):
 wpAny (model prog w) A (call (.type "enumerate") [.ref l]) (fun xv s₁=>wpAny (model prog w) A (pyIter xv) (fun it s₂=>bPa prog w A h₀ L m env elt (.Tuple [.Name x1 p1, .Name x2 p2] k pos) ifs scope cl mf Fin it s₂) E s₁) E s:=by
 have hlt1:l<s.heap.objs.size:=by obtain⟨_,e,_⟩:=hl;exact Heap.lt_size e
 have hLs:L<s.heap.objs.size:=F.ns.lt
 refine call_enumerate_list hl fun h' hE hI hsz2 hk=> ?_
 refine wpAny_pyIter_enum hE ?_
 have WU:=(WalksT.enumerate (prog:=prog) (w:=w) hh (s.heap.objs.size+1) s.heap.objs.size l (Nat.succ_ne_self _) (ktu_ne 1 hlt1) (Nat.ne_of_lt hlt1) vs.toArray).toU
 have hn:vs.toArray.size=vs.length:=by simp
 rw [hn] at WU
 have W:=KTurns.ofWalksU (elts:= [.Name x1 p1, .Name x2 p2]) (k:=k) (pos:=pos) WU
 have hnew:∀ p∈news,p.1<s.heap.objs.size:=fun p hp=>Heap.lt_size (N p hp).1
 refine dKa (fun i m₂=>∃ t v,vs[i]?=some v∧m₂ x1=some (.int (i:Nat) t)∧m₂ x2=some v) Led ys J c₀ fix W (fun s Q E st hQ=>WU.self 0 s Q E st hQ) ?_ hsz ?_ ?_ ?_ ⟨⟨_,hE⟩,hI,hl.at fun o e=>hk l o e⟩ ?_ (F.keeps hk) (N.grown hk) hin ?_ hoff ?_ hy0 hj turn done
 ·rintro i v C s m' Q E hi ⟨T,vals,rfl,⟨t,x,hx,rfl⟩,hT⟩ hns hq
  refine qpa hh h1 h2 hkind hT hns fun h₃ tk m₂ hn₃ e1 e2 _ hk₃=>hq h₃ tk m₂ hn₃ ⟨t,x,by simpa using hx,e1 hne,e2⟩ hk₃
 ·exact fGa (fc (ktu_ne 1 hLs) (fc (Nat.ne_of_lt hLs) (fc (Ne.symm (hlL)) fn)))
 ·exact(fc (ktu_new F (Nat.le_add_right _ _)) (fc (ktu_new F (Nat.le_refl _)) fn))
 ·exact(fc (Heap.lt_size hE) (fc ((hI).elim fun _ q=>Heap.lt_size q.1) (fc ((hl.at fun o e=>hk _ o e).elim fun _ q=>Heap.lt_size q.1) fn)))
 ·rintro i h ⟨⟨old,hz⟩,⟨o1,ho1,_⟩,⟨o2,ho2,_⟩⟩
  exact(fc ⟨_,hz⟩ (fc ⟨_,ho1⟩ (fc ⟨_,ho2⟩ fn)))
 ·intro p hp
  have hlp:=hnew p (hin p hp)
  exact fGa (fc (ktu_ne 1 hlp) (fc (Nat.ne_of_lt hlp) fn))
 ·intro p hp
  have hlp:=hnew p (hin p (laL _ hp))
  exact fGa (fc (ktu_ne 1 hlp) (fc (Nat.ne_of_lt hlp) (fc (hll p hp) fn)))
theorem hJa{σ:Type}{x1 x2:Str}{p1 p2 pos:Pos}{k:Nat}{l:Addr}{xs:List Value}{mf:Addr->Str->Option Value}{Fin:Addr->Shared->Prop}(Led:σ->List (Addr×Obj))(ys:σ->List Value)(J:Nat->σ->Prop)(c₀:σ)(fix:List (Addr×Obj)){news:List (Addr×Obj)}(ks:List (Addr×Obj))(PT:Nat->Value->Value->Prop)
 (hh:A.handled=none) (h1:scope.names.lookup x1=some .local) (h2:scope.names.lookup x2=some .local) (hkind:scope.kind= .function) (hne:x1≠x2) (hl:s.heap.IsList l xs.toArray) (hlL:l≠L) (hsz:xs.length≤sizeLine)
 (F:Fr h₀ L s.heap m) (N:News h₀ L s.heap news) (hin:∀ p∈Led c₀++fix,p∈news) (hkn:∀ p∈ks,p∈news) (hks:∀ (i:Nat) (v:Value),xs[i]?=some v->∃ (T:Addr) (a b:Value),v= .ref T∧PT i a b∧(T,aea #[a,b])∈ks) (hoff:∀ q∈Led c₀,∀ p∈fix, @Ne Nat p.1 q.1) (hll:∀ p∈Led c₀, @Ne Nat p.1 l∧∀ q∈ks, @Ne Nat p.1 q.1) (hy0:ys c₀= []) (hj:J 0 c₀)
 (turn:∀ i c h tk own C oC m₂ E',(∃ a b,PT i a b∧m₂ x1=some a∧m₂ x2=some b)->i<xs.length->J i c->(ys c).length≤i->(C,oC)∈own->NsObj oC m₂->Fr h₀ L h m->News h₀ L h (Led c++(fix++own))->(∀ q∈Led c,∀ p∈fix++own, @Ne Nat p.1 q.1)->
   wpAny (model prog w) A (boa ifs (compEnvC scope cl C env)) (fun ok s₃=>if ok=true then wpAny (model prog w) A (eval elt (compEnvC scope cl C env)) (fun y s₄=>aba h₀ L m Led ys (J (i+1)) (fix++own) (ys c++ [y]) {s with heap:=h,toks:=tk} s₄) E' s₃
    else aba h₀ L m Led ys (J (i+1)) (fix++own) (ys c) {s with heap:=h,toks:=tk} s₃) E' {s with heap:=h,toks:=tk})
 (done:∀ D c h' tk,J (xs.length) c->(ys c).length≤xs.length->Fr h₀ L h' (mf D)->News h₀ L h' ((D,lst (ys c))::(Led c++fix))->(∀ p∈Led c++fix, @Ne Nat p.1 D)->(∀ q∈Led c,∀ p∈fix, @Ne Nat p.1 q.1)->Fin D {s with heap:=h',toks:=tk}):
 wpAny (model prog w) A (pyIter (.ref l)) (fun it s₂=>bPa prog w A h₀ L m env elt (.Tuple [.Name x1 p1, .Name x2 p2] k pos) ifs scope cl mf Fin it s₂) E s:=by
 have hlt:l<s.heap.objs.size:=by obtain⟨_,e,_⟩:=hl;exact Heap.lt_size e
 refine wpAny_pyIter_list hl ?_
 have up:∀ b o,s.heap.get? b=some o->(s.heap.push {cls:= .type "list_iterator",data:= .fields #[.ref l, .int 0 0]}).get? b=some o:=fun b o e=>Heap.get?_push_of_some _ e
 have WL:=Walks.list (prog:=prog) (w:=w) hh s.heap.objs.size l (Nat.ne_of_lt hlt) xs.toArray
 have hz:xs.toArray.size=xs.length:=by simp
 rw [hz] at WL
 have hLlt:=F.ns.lt
 have hnew:∀ p∈news,p.1<s.heap.objs.size:=fun p hp=>Heap.lt_size (N p hp).1
 have W0:=KTurns.ofWalks (target:= .Tuple [.Name x1 p1, .Name x2 p2] k pos) WL (fun i v s Q E st hQ=>eaa i v s Q E st hQ)
 have W:=KTurns.keep W0 ks (fun p hp hb=>Nat.ne_of_lt (hnew p (hkn p hp)) (lsM hb))
 refine dKa (s:= {s with heap:=s.heap.push {cls:= .type "list_iterator",data:= .fields #[.ref l, .int 0 0]}}) (fun i m₂=>∃ a b,PT i a b∧m₂ x1=some a∧m₂ x2=some b) Led ys J c₀ fix W (fun s Q E st hQ=>WL.self 0 s Q E st.1 hQ) ?_ hsz ?_ (fun b hb=>by rw [lsM hb];exact next_is_new F) (fun b hb=> ?_) ⟨⟨⟨_,Heap.get?_push_size _ rfl,rfl,rfl⟩,hl.push _⟩,fun p hp=>up _ _ (N p (hkn p hp)).1⟩ ?_ (F.keeps up) (N.grown up) hin
  (fun p hp hb=>Nat.ne_of_lt (hnew p (hin p hp)) (lsM hb)) hoff (fun p hp hb=> ?_) hy0 hj turn done
 ·rintro i v C s m' Q E hi ⟨hv,hkp⟩ hns hq
  obtain⟨T,a,b,rfl,hPT,hm⟩:=hks i v (by simpa using hv)
  exact qpa hh h1 h2 hkind (h2a (hkp _ hm)) hns fun h₃ tk m₂ hn₃ e1 e2 _ hk₃=>hq h₃ tk m₂ hn₃ ⟨a,b,hPT,e1 hne,e2⟩ hk₃
 ·exact fGa (fQa (fc (Nat.ne_of_lt hLlt) (fc (Ne.symm hlL) fn)) (fmp fun p hp e=>(N p (hkn p hp)).2.1 e.symm))
 ·show b<(s.heap.push _).objs.size
  rw [Heap.size_push]
  exact fQa (p:=fun b=>b<s.heap.objs.size+1) (fc (Nat.lt_succ_self _) (fc (Nat.lt_succ_of_lt hlt) fn)) (fmp fun p hp=>Nat.lt_succ_of_lt (hnew p (hkn p hp))) b hb
 ·rintro i h ⟨⟨⟨o1,ho1,_⟩,⟨o2,ho2,_⟩⟩,hkp⟩
  exact fQa (fc ⟨_,ho1⟩ (fc ⟨_,ho2⟩ fn)) (fmp fun p hp=>⟨_,hkp p hp⟩)
 ·exact fGa (fQa (fc (Nat.ne_of_lt (hnew p (hin p (laL _ hp)))) (fc (hll p hp).1 fn)) (fmp fun q hq e=>(hll p hp).2 q hq e)) hb
theorem j1a{σ:Type}{x1 x2 x3:Str}{p1 p2 p3 pos pos2:Pos}{k k2:Nat}{l1 l2:Addr}{xs ws:List Value}{mf:Addr->Str->Option Value}{Fin:Addr->Shared->Prop}(Led:σ->List (Addr×Obj))(ys:σ->List Value)(J:Nat->σ->Prop)(c₀:σ)(fix:List (Addr×Obj)){news:List (Addr×Obj)}(ks:List (Addr×Obj))(PT:Nat->Value->Value->Prop)
 (hh:A.handled=none) (h1:scope.names.lookup x1=some .local) (h2:scope.names.lookup x2=some .local) (h3:scope.names.lookup x3=some .local) (hkind:scope.kind= .function) (n1:x1≠x2) (n2:x1≠x3) (n3:x2≠x3) (hl1:s.heap.IsList l1 xs.toArray) (hl2:s.heap.IsList l2 ws.toArray) (h1L:l1≠L) (h2L:l2≠L) (hlen:xs.length=ws.length) (hsz:xs.length≤sizeLine)
 (F:Fr h₀ L s.heap m) (N:News h₀ L s.heap news) (hin:∀ p∈Led c₀++fix,p∈news) (hkn:∀ p∈ks,p∈news) (hks:∀ (i:Nat) (v:Value),xs[i]?=some v->∃ (T:Addr) (a b:Value),v= .ref T∧PT i a b∧(T,aea #[a,b])∈ks) (hoff:∀ q∈Led c₀,∀ p∈fix, @Ne Nat p.1 q.1) (hll:∀ p∈Led c₀, @Ne Nat p.1 l1∧ @Ne Nat p.1 l2∧∀ q∈ks, @Ne Nat p.1 q.1) (hy0:ys c₀= []) (hj:J 0 c₀)
 (turn:∀ i c h tk own C oC m₂ E',(∃ a b c,PT i a b∧ws[i]?=some c∧m₂ x1=some a∧m₂ x2=some b∧m₂ x3=some c)->i<xs.length->J i c->(ys c).length≤i->(C,oC)∈own->NsObj oC m₂->Fr h₀ L h m->News h₀ L h (Led c++(fix++own))->(∀ q∈Led c,∀ p∈fix++own, @Ne Nat p.1 q.1)->
   wpAny (model prog w) A (boa ifs (compEnvC scope cl C env)) (fun ok s₃=>if ok=true then wpAny (model prog w) A (eval elt (compEnvC scope cl C env)) (fun y s₄=>aba h₀ L m Led ys (J (i+1)) (fix++own) (ys c++ [y]) {s with heap:=h,toks:=tk} s₄) E' s₃
    else aba h₀ L m Led ys (J (i+1)) (fix++own) (ys c) {s with heap:=h,toks:=tk} s₃) E' {s with heap:=h,toks:=tk})
 (done:∀ D c h' tk,J (xs.length) c->(ys c).length≤xs.length->Fr h₀ L h' (mf D)->News h₀ L h' ((D,lst (ys c))::(Led c++fix))->(∀ p∈Led c++fix, @Ne Nat p.1 D)->(∀ q∈Led c,∀ p∈fix, @Ne Nat p.1 q.1)->Fin D {s with heap:=h',toks:=tk}):
 wpAny (model prog w) A (call (.type "zip") [.ref l1, .ref l2]) (fun xv s₁=>wpAny (model prog w) A (pyIter xv) (fun it s₂=>bPa prog w A h₀ L m env elt (.Tuple [.Tuple [.Name x1 p1, .Name x2 p2] k2 pos2, .Name x3 p3] k pos) ifs scope cl mf Fin it s₂) E s₁) E s:=by
 have hlt1:l1<s.heap.objs.size:=by obtain⟨_,e,_⟩:=hl1;exact Heap.lt_size e
 have hlt2:l2<s.heap.objs.size:=by obtain⟨_,e,_⟩:=hl2;exact Heap.lt_size e
 have hLs:L<s.heap.objs.size:=F.ns.lt
 have hnew:∀ p∈news,p.1<s.heap.objs.size:=fun p hp=>Heap.lt_size (N p hp).1
 have D:ZipApart (s.heap.objs.size+4) (s.heap.objs.size+2) (s.heap.objs.size+3) s.heap.objs.size (s.heap.objs.size+1) l1 l2:=ktu_apart _ _ _ hlt1 hlt2
 refine call_zip_2 hl1 hl2 fun h' hz hTI hTO hi1 hi2 hsz2 hk=> ?_
 refine wpAny_pyIter_zip hz ?_
 have WU:=(WalksT.zip2 (prog:=prog) (w:=w) hh _ _ _ _ _ _ _ D xs.toArray ws.toArray).toU
 have hn:min xs.toArray.size ws.toArray.size=xs.length:=by simp [hlen]
 rw [hn] at WU
 have W0:=KTurns.ofWalksU (elts:= [.Tuple [.Name x1 p1, .Name x2 p2] k2 pos2, .Name x3 p3]) (k:=k) (pos:=pos) WU
 have hoff5:∀ p∈news,p.1 ∉ [s.heap.objs.size+4,s.heap.objs.size+3,s.heap.objs.size,s.heap.objs.size+1]:=fun p hp=>
  fGa (fc (ktu_ne 4 (hnew p hp)) (fc (ktu_ne 3 (hnew p hp)) (fc (Nat.ne_of_lt (hnew p hp)) (fc (ktu_ne 1 (hnew p hp)) fn))))
 have W:=KTurns.keep W0 ks (fun p hp=>hoff5 p (hkn p hp))
 refine dKa (fun i m₂=>∃ a b c,PT i a b∧ws[i]?=some c∧m₂ x1=some a∧m₂ x2=some b∧m₂ x3=some c) Led ys J c₀ fix W (fun s Q E st hQ=>WU.self 0 s Q E st.1 hQ) ?_ hsz ?_ ?_ ?_ ⟨⟨hz,hTI,⟨_,_,hTO⟩,hi1,hi2,hl1.at fun o e=>hk l1 o e,hl2.at fun o e=>hk l2 o e⟩,fun p hp=>hk _ _ (N p (hkn p hp)).1⟩ ?_ (F.keeps hk) (N.grown hk) hin (fun p hp=>hoff5 p (hin p hp)) hoff ?_ hy0 hj turn done
 ·rintro i v C s m' Q E hi ⟨⟨T,vals,rfl,⟨a0,c,hx,hy,rfl⟩,hT⟩,hkp⟩ hns hq
  obtain⟨U,a,b,rfl,hPT,hm⟩:=hks i a0 (by simpa using hx)
  exact qqa hh h1 h2 h3 hkind n1 n2 n3 hT (h2a (hkp _ hm)) hns fun h₃ tk m₂ hn₃ e1 e2 e3 hk₃=>hq h₃ tk m₂ hn₃ ⟨a,b,c,hPT,by simpa using hy,e1,e2,e3⟩ hk₃
 ·exact fGa (fQa (fc (ktu_ne 4 hLs) (fc (ktu_ne 2 hLs) (fc (ktu_ne 3 hLs) (fc (Nat.ne_of_lt hLs) (fc (ktu_ne 1 hLs) (fc (Ne.symm h1L) (fc (Ne.symm h2L) fn)))))))
   (fmp fun p hp e=>(N p (hkn p hp)).2.1 e.symm))
 ·exact fc (ktu_new F (Nat.le_add_right _ _)) (fc (ktu_new F (Nat.le_add_right _ _)) (fc (ktu_new F (Nat.le_refl _)) (fc (ktu_new F (Nat.le_add_right _ _)) fn)))
 ·exact fQa (fc (Heap.lt_size hz) (fc (Heap.lt_size hTI) (fc (Heap.lt_size hTO) (fc (hi1.elim fun _ q=>Heap.lt_size q.1) (fc (hi2.elim fun _ q=>Heap.lt_size q.1)
   (fc ((hl1.at fun o e=>hk _ o e).elim fun _ q=>Heap.lt_size q.1) (fc ((hl2.at fun o e=>hk _ o e).elim fun _ q=>Heap.lt_size q.1) fn)))))))
   (fmp fun p hp=>Heap.lt_size (hk _ _ (N p (hkn p hp)).1))
 ·rintro i h ⟨⟨hz,hTI,⟨a,b0,hTO⟩,⟨o1,ho1,_⟩,⟨o2,ho2,_⟩,⟨o3,ho3,_⟩,⟨o4,ho4,_⟩⟩,hkp⟩
  exact fQa (fc ⟨_,hz⟩ (fc ⟨_,hTI⟩ (fc ⟨_,hTO⟩ (fc ⟨_,ho1⟩ (fc ⟨_,ho2⟩ (fc ⟨_,ho3⟩ (fc ⟨_,ho4⟩ fn))))))) (fmp fun p hp=>⟨_,hkp p hp⟩)
 ·intro p hp
  have hlp:=hnew p (hin p (laL _ hp))
  exact fGa (fQa (fc (ktu_ne 4 hlp) (fc (ktu_ne 2 hlp) (fc (ktu_ne 3 hlp) (fc (Nat.ne_of_lt hlp) (fc (ktu_ne 1 hlp) (fc (hll p hp).1 (fc (hll p hp).2.1 fn)))))))
   (fmp fun q hq e=>(hll p hp).2.2 q hq e))
end
end Mine
namespace Mine
theorem ar26:True:=by
 k_with "ar26" =>with_reducible first|exact mNa ‹_› |exact o4a ‹_› |exact lTa ‹_› ‹_›
 trivial
section
variable {prog:Program} {w:World} {A:Around} {E:Value->Shared->Prop} {s:Shared} {env:Env} {h₀:Heap} {x:Str} {body:List Stmt} {Q:Flow->Shared->Prop} {m₀:Str->Option Value} {l:Addr} {vs:List Value}
theorem iEa{L:Addr}(hL:env.locals=L){σ:Type}{y:Str}{pos:Pos}(Led:σ->List (Addr×Obj))(ps:σ->List (Str×Value))(st:List Str)(J:Nat->σ->Prop)(c₀:σ)(fix:List (Addr×Obj)){news:List (Addr×Obj)}
 (hh:A.handled=none) (hl:s.heap.IsTuple l vs.toArray) (hlL:l≠L) (F:Fr h₀ L s.heap m₀) (N:News h₀ L s.heap news) (hin:∀ p∈Led c₀++fix,p∈news)
 (hoff:∀ q∈Led c₀,∀ p∈fix, @Ne Nat p.1 q.1) (hll:∀ k c,J k c->∀ p∈Led c, @Ne Nat p.1 l)
 (hps:∀ p∈ps c₀,m₀ p.1=some p.2) (hj:J 0 c₀)
 (turn:∀ i v c u h tk own,vs[i]?=some v->i<vs.length->J i c->Fr h₀ L h (bXa (ps c) (x::st) u m₀)->News h₀ L h (Led c++(fix++own))->(∀ q∈Led c,∀ p∈fix++own, @Ne Nat p.1 q.1)->
   wpAny (model prog w) A (assign (.Name y pos) env v) (fun _ s₂=>wpAny (model prog w) A (execs body env) (bOa h₀ L Led ps st m₀ x (J (i+1)) (fix++own) {s with heap:=h,toks:=tk} Q) E s₂) E {s with heap:=h,toks:=tk})
 (done:∀ c u h tk,J vs.length c->Fr h₀ L h (bXa (ps c) (x::st) u m₀)->News h₀ L h (Led c++fix)->(∀ q∈Led c,∀ p∈fix, @Ne Nat p.1 q.1)->Q .next {s with heap:=h,toks:=tk}):
 wpAny (model prog w) A (pyIter (.ref l)) (fun it s₂=>TurnsAt prog w A h₀ env (.Name y pos) body Q E it s₂) E s:=by
 subst hL
 obtain⟨ol,hol,_⟩:=id hl
 have hlt:l<s.heap.objs.size:=Heap.lt_size hol
 have hne:l≠s.heap.objs.size:=Nat.ne_of_lt hlt
 refine wpAny_pyIter_tuple hl ?_
 have W:=KTurns.ofWalks (target:= .Name y pos) (Walks.tuple (prog:=prog) (w:=w) hh s.heap.objs.size l hne vs.toArray) (fun i v s Q E st hQ=>wpAny_pure hQ)
 have hsz:vs.toArray.size=vs.length:=by simp
 rw [hsz] at W
 have up:∀ b o,s.heap.get? b=some o->(s.heap.push {cls:= .type "tuple_iterator",data:= .fields #[.ref l, .int 0 0]}).get? b=some o:=fun b o e=>Heap.get?_push_of_some _ e
 refine eOa W Led ps st J c₀ fix ?_ (fun b hb=>by rw [lsM hb];exact next_is_new F) ⟨⟨_,Heap.get?_push_size _ rfl,rfl,rfl⟩,hl.at fun o e=>up _ o e⟩ (F.push _) (fun p hp=>⟨up _ _ (N p hp).1,(N p hp).2⟩) hin
  (fun p hp hm=>Nat.ne_of_lt (Heap.lt_size (N p (hin p hp)).1) (lsM hm)) hoff (fun k c hJc p hp hI hm=> ?_) hps hj (fun i h hSt b hb=> ?_) (fun i v c u h tk own hP hi hJ F N hs _=>turn i v c u h tk own (by simpa using hP) hi hJ F N hs) done
 ·intro hm
  rcases lcM hm with e|hm
  ·exact absurd F.ns.lt (e▸Nat.lt_irrefl _)
  ·exact hlL (lsM hm).symm
 ·rcases lcM hm with e|hm
  ·exact hI (by rw [e];exact lsR rfl)
  ·exact hll k c hJc p hp (lsM hm)
 ·rw [lsM hb]
  obtain⟨⟨o,e,_⟩,_⟩:=hSt;exact⟨o,e⟩
end
inductive ema(h:Heap)(a:Addr)(x:Stp):Prop
 |ik (t1:Tok) (tt tp:Addr) (pvs:List Value) (f0:h.get? a=some (aea #[.str x.ax t1, .ref tt, .ref tp])) (f1:cqa h tt x.tst) (f2:h.get? tp=some (aea pvs.toArray)) (f3:cca pvs x.prd):ema h a x
theorem ema.stays{h h':Heap}{a:Addr}{x:Stp}(X:ema h a x)(st:h.StaysIn h'):ema h' a x:=let ⟨t1,tt,tp,pvs,e1,e2,e3,e4⟩:=X;⟨t1,tt,tp,pvs,st _ _ e1,e2.stays st,st _ _ e3,e4⟩
inductive hWa(ts:List (Addr×Obj))(v:Value):Vl->Prop
 |tup (a:Nat) (t:Addr) (t1 t2:Tok):v= .ref t->(t,aea #[.int a t1, .int 1 t2])∈ts->hWa ts v (.tup a)
 |bl (b:Bool):v= .bool b->hWa ts v (.bl b)
 |yes (t:Tok):v= .str (Str.ofString "yes") t->hWa ts v (.st true)
 |no (t:Tok):v= .str (Str.ofString "") t->hWa ts v (.st false)
theorem hWa.at{ts:List (Addr×Obj)}{v:Value}{x:Vl}(X:hWa ts v x){h:Heap}(hs:∀ p∈ts,h.get? p.1=some p.2):dMa h v x:=by
 cases X with
 |tup a t t1 t2 e m=>exact .tup a t t1 t2 e (hs _ m)
 |bl b e=>exact .bl b e
 |yes t e=>exact .yes t e
 |no t e=>exact .no t e
theorem hWa.more{ts ts':List (Addr×Obj)}{v:Value}{x:Vl}(X:hWa ts v x)(hs:∀ p∈ts,p∈ts'):hWa ts' v x:=by
 cases X with
 |tup a t t1 t2 e m=>exact .tup a t t1 t2 e (hs _ m)
 |bl b e=>exact .bl b e
 |yes t e=>exact .yes t e
 |no t e=>exact .no t e
theorem dMa.objs{h h':Heap}{v:Value}{x:Vl}(X:dMa h' v x)(hn:∀ t,v= .ref t->h.get? t=none):∃ os:List (Addr×Obj),hWa os v x∧Hid h h' os∧os.length≤1:=by
 cases X with
 |tup a t t1 t2 e e1=>exact⟨[(t,aea #[.int a t1, .int 1 t2])], .tup a t t1 t2 e (.head _),fun p hp=>by rw [lsM hp];exact⟨e1,hn t e⟩,Nat.le_refl _⟩
 |bl b e=>exact⟨[], .bl b e,Hid.nil,Nat.zero_le _⟩
 |yes t e=>exact⟨[], .yes t e,Hid.nil,Nat.zero_le _⟩
 |no t e=>exact⟨[], .no t e,Hid.nil,Nat.zero_le _⟩
noncomputable def PE(ks:List Nat)(i:Nat)(a b:Value):Prop:=∃ (y:Nat) (t1 t2:Tok),ks[i]?=some y∧a= .int (i+1:Nat) t1∧b= .int (y:Nat) t2
noncomputable def cra(ks:List Nat)(ts:List (Addr×Obj))(ys:List Value):Prop:=∀ (i:Nat) (v:Value),ys[i]?=some v->∃ (T:Addr) (a b:Value),v= .ref T∧PE ks i a b∧(T,aea #[a,b])∈ts
theorem cra.nil{ks:List Nat}{ts:List (Addr×Obj)}:cra ks ts []:=fun i v h=>by simp at h
theorem cra.snoc{ks:List Nat}{ts:List (Addr×Obj)}{ys:List Value}{T:Addr}{a b:Value}(h:cra ks ts ys)(hp:PE ks ys.length a b):cra ks ((T,aea #[a,b])::ts) (ys++ [.ref T]):=fun i v e=>by
 by_cases hi:i<ys.length
 ·rw [List.getElem?_append_left hi] at e
  obtain⟨T',a',b',e1,e2,e3⟩:=h i v e
  exact⟨T',a',b',e1,e2, .tail _ e3⟩
 ·have h2:i-ys.length=0:=by
   have:=(List.getElem?_eq_some_iff.mp e).1
   simp only [List.length_append,List.length_singleton] at this
   omega
  rw [List.getElem?_append_right (by omega),h2] at e
  have h3:i=ys.length:=by omega
  subst h3
  cases e
  exact⟨T,a,b,rfl,hp, .head _⟩
noncomputable def dza(T:List aaa)(p:Prd)(ks:List Nat)(ts:List (Addr×Obj))(ys:List Value):Prop:=∀ (i:Nat) (v:Value),ys[i]?=some v->∃ y,ks[i]?=some y∧hWa ts v (kea T p y (i+1) ks.length)
theorem dza.nil{T:List aaa}{p:Prd}{ks:List Nat}{ts:List (Addr×Obj)}:dza T p ks ts []:=fun i v h=>by simp at h
theorem dza.snoc{T:List aaa}{p:Prd}{ks:List Nat}{ts os:List (Addr×Obj)}{ys:List Value}{v:Value}{y:Nat}(h:dza T p ks ts ys)(hy:ks[ys.length]?=some y)(hv:hWa os v (kea T p y (ys.length+1) ks.length)):dza T p ks (os++ts) (ys++ [v]):=fun i w e=>by
 by_cases hi:i<ys.length
 ·rw [List.getElem?_append_left hi] at e
  obtain⟨y',e1,e2⟩:=h i w e
  exact⟨y',e1,e2.more fun q hq=>laG _ hq⟩
 ·have h2:i-ys.length=0:=by
   have:=(List.getElem?_eq_some_iff.mp e).1
   simp only [List.length_append,List.length_singleton] at this
   omega
  rw [List.getElem?_append_right (by omega),h2] at e
  have h3:i=ys.length:=by omega
  subst h3
  cases e
  exact⟨y,hy,hv.more fun q hq=>laL _ hq⟩
end Mine
namespace Mine
open PyProof.Rows.LCg (lst NsObj ns_obj lst_snoc)
section
variable {prog:Program} {w:World} {A:Around} {E:Value->Shared->Prop} {s:Shared} {env:Env} {h₀:Heap} {L:Addr} {m:Str->Option Value} {elt target:Expr} {ifs:List Expr} {scope:Scope} {cl:List (Str×Addr)}
theorem sOa{x1 x2 x3:Str}{p1 p2 p3 pos:Pos}{k:Nat}{C T:Addr}{a b c:Value}{m':Str->Option Value}{Q:Unit->Shared->Prop}(hh:A.handled=none)(h1:scope.names.lookup x1=some .local)(h2:scope.names.lookup x2=some .local)(h3:scope.names.lookup x3=some .local)(hkind:scope.kind= .function)(n1:x1≠x2)(n2:x1≠x3)(n3:x2≠x3)
 (ht:s.heap.IsTuple T #[a,b,c]) (hn:s.heap.Ns C m') (h:∀ h₃ tk m₂,h₃.Ns C m₂->m₂ x1=some a->m₂ x2=some b->m₂ x3=some c->(∀ b o,b≠C->s.heap.get? b=some o->h₃.get? b=some o)->Q () {s with heap:=h₃,toks:=tk}):
 wpAny (model prog w) A (assign (.Tuple [.Name x1 p1, .Name x2 p2, .Name x3 p3] k pos) (compEnvC scope cl C env) (.ref T)) Q E s:=by
 refine wpAny_assign_Tuple hh ht rfl rfl fun h' hx=> ?_
 have up:∀ b o,s.heap.get? b=some o->h'.get? b=some o:=fun b o e=>hx b o (Nat.ne_of_lt (Heap.lt_size e)) e
 refine assignInOrder_cons (wpAny_assign_Name (wpAny_storeName_local (lookup_relabel_local h1) (hn.at' fun o e=>up _ o e) (fun h₃ hn₃ hs₃=> ?_) (by simp [compEnvC,relabel,hkind])))
 refine assignInOrder_cons (wpAny_assign_Name (wpAny_storeName_local (lookup_relabel_local h2) hn₃ (fun h₄ hn₄ hs₄=> ?_) (by simp [compEnvC,relabel,hkind])))
 refine assignInOrder_cons (wpAny_assign_Name (wpAny_storeName_local (lookup_relabel_local h3) hn₄ (fun h₅ hn₅ hs₅=> ?_) (by simp [compEnvC,relabel,hkind])))
 refine assignInOrder_nil (h h₅ _ _ hn₅ (by simp [n1,n2]) (by simp [n3]) (by simp) fun b o hb e=>hs₅.extBut b o hb (hs₄.extBut b o hb (hs₃.extBut b o hb (up b o e))))
theorem hIa{σ:Type}{x1 x2 x3:Str}{p1 p2 p3 pos:Pos}{k:Nat}{l:Addr}{xs:List Value}{mf:Addr->Str->Option Value}{Fin:Addr->Shared->Prop}(Led:σ->List (Addr×Obj))(ys:σ->List Value)(J:Nat->σ->Prop)(c₀:σ)(fix:List (Addr×Obj)){news:List (Addr×Obj)}(ks:List (Addr×Obj))(PT:Nat->Value->Value->Value->Prop)
 (hh:A.handled=none) (h1:scope.names.lookup x1=some .local) (h2:scope.names.lookup x2=some .local) (h3:scope.names.lookup x3=some .local) (hkind:scope.kind= .function) (n1:x1≠x2) (n2:x1≠x3) (n3:x2≠x3) (hl:s.heap.IsList l xs.toArray) (hlL:l≠L) (hsz:xs.length≤sizeLine)
 (F:Fr h₀ L s.heap m) (N:News h₀ L s.heap news) (hin:∀ p∈Led c₀++fix,p∈news) (hkn:∀ p∈ks,p∈news) (hks:∀ (i:Nat) (v:Value),xs[i]?=some v->∃ (T:Addr) (a b c:Value),v= .ref T∧PT i a b c∧(T,aea #[a,b,c])∈ks) (hoff:∀ q∈Led c₀,∀ p∈fix, @Ne Nat p.1 q.1) (hll:∀ p∈Led c₀, @Ne Nat p.1 l∧∀ q∈ks, @Ne Nat p.1 q.1) (hy0:ys c₀= []) (hj:J 0 c₀)
 (turn:∀ i c h tk own C oC m₂ E',(∃ a b c,PT i a b c∧m₂ x1=some a∧m₂ x2=some b∧m₂ x3=some c)->i<xs.length->J i c->(ys c).length≤i->(C,oC)∈own->NsObj oC m₂->Fr h₀ L h m->News h₀ L h (Led c++(fix++own))->(∀ q∈Led c,∀ p∈fix++own, @Ne Nat p.1 q.1)->
   wpAny (model prog w) A (boa ifs (compEnvC scope cl C env)) (fun ok s₃=>if ok=true then wpAny (model prog w) A (eval elt (compEnvC scope cl C env)) (fun y s₄=>aba h₀ L m Led ys (J (i+1)) (fix++own) (ys c++ [y]) {s with heap:=h,toks:=tk} s₄) E' s₃
    else aba h₀ L m Led ys (J (i+1)) (fix++own) (ys c) {s with heap:=h,toks:=tk} s₃) E' {s with heap:=h,toks:=tk})
 (done:∀ D c h' tk,J (xs.length) c->(ys c).length≤xs.length->Fr h₀ L h' (mf D)->News h₀ L h' ((D,lst (ys c))::(Led c++fix))->(∀ p∈Led c++fix, @Ne Nat p.1 D)->(∀ q∈Led c,∀ p∈fix, @Ne Nat p.1 q.1)->Fin D {s with heap:=h',toks:=tk}):
 wpAny (model prog w) A (pyIter (.ref l)) (fun it s₂=>bPa prog w A h₀ L m env elt (.Tuple [.Name x1 p1, .Name x2 p2, .Name x3 p3] k pos) ifs scope cl mf Fin it s₂) E s:=by
 have hlt:l<s.heap.objs.size:=by obtain⟨_,e,_⟩:=hl;exact Heap.lt_size e
 refine wpAny_pyIter_list hl ?_
 have up:∀ b o,s.heap.get? b=some o->(s.heap.push {cls:= .type "list_iterator",data:= .fields #[.ref l, .int 0 0]}).get? b=some o:=fun b o e=>Heap.get?_push_of_some _ e
 have WL:=Walks.list (prog:=prog) (w:=w) hh s.heap.objs.size l (Nat.ne_of_lt hlt) xs.toArray
 have hz:xs.toArray.size=xs.length:=by simp
 rw [hz] at WL
 have hLlt:=F.ns.lt
 have hnew:∀ p∈news,p.1<s.heap.objs.size:=fun p hp=>Heap.lt_size (N p hp).1
 have W0:=KTurns.ofWalks (target:= .Tuple [.Name x1 p1, .Name x2 p2, .Name x3 p3] k pos) WL (fun i v s Q E st hQ=>eaa i v s Q E st hQ)
 have W:=KTurns.keep W0 ks (fun p hp hb=>Nat.ne_of_lt (hnew p (hkn p hp)) (lsM hb))
 refine dKa (s:= {s with heap:=s.heap.push {cls:= .type "list_iterator",data:= .fields #[.ref l, .int 0 0]}}) (fun i m₂=>∃ a b c,PT i a b c∧m₂ x1=some a∧m₂ x2=some b∧m₂ x3=some c) Led ys J c₀ fix W (fun s Q E st hQ=>WL.self 0 s Q E st.1 hQ) ?_ hsz ?_ (fun b hb=>by rw [lsM hb];exact next_is_new F) (fun b hb=> ?_) ⟨⟨⟨_,Heap.get?_push_size _ rfl,rfl,rfl⟩,hl.push _⟩,fun p hp=>up _ _ (N p (hkn p hp)).1⟩ ?_ (F.keeps up) (N.grown up) hin
  (fun p hp hb=>Nat.ne_of_lt (hnew p (hin p hp)) (lsM hb)) hoff (fun p hp hb=> ?_) hy0 hj turn done
 ·rintro i v C s m' Q E hi ⟨hv,hkp⟩ hns hq
  obtain⟨T,a,b,c,rfl,hPT,hm⟩:=hks i v (by simpa using hv)
  exact sOa hh h1 h2 h3 hkind n1 n2 n3 (h2a (hkp _ hm)) hns fun h₃ tk m₂ hn₃ e1 e2 e3 hk₃=>hq h₃ tk m₂ hn₃ ⟨a,b,c,hPT,e1,e2,e3⟩ hk₃
 ·exact fGa (fQa (fc (Nat.ne_of_lt hLlt) (fc (Ne.symm hlL) fn)) (fmp fun p hp e=>(N p (hkn p hp)).2.1 e.symm))
 ·show b<(s.heap.push _).objs.size
  rw [Heap.size_push]
  exact fQa (p:=fun b=>b<s.heap.objs.size+1) (fc (Nat.lt_succ_self _) (fc (Nat.lt_succ_of_lt hlt) fn)) (fmp fun p hp=>Nat.lt_succ_of_lt (hnew p (hkn p hp))) b hb
 ·rintro i h ⟨⟨⟨o1,ho1,_⟩,⟨o2,ho2,_⟩⟩,hkp⟩
  exact fQa (fc ⟨_,ho1⟩ (fc ⟨_,ho2⟩ fn)) (fmp fun p hp=>⟨_,hkp p hp⟩)
 ·exact fGa (fQa (fc (Nat.ne_of_lt (hnew p (hin p (laL _ hp)))) (fc (hll p hp).1 fn)) (fmp fun q hq e=>(hll p hp).2 q hq e)) hb
end
end Mine
namespace Mine
theorem k2a{M:Model}{A:Around}{E:Value->Shared->Prop}{s:Shared}{L a c:Addr}{cn:Str}{cs:Scope}{ccd:Value}{cl:List (Str×Addr)}{x:Str}{pos:Pos}{o:Obj}{v:Value}{Q:Value->Shared->Prop}(hc:cl.lookup x=some c)(he:s.heap.get? c=some o)(hd:o.data= .cell (some v))(h:Q v s)
 (hk:cs.kind= .function:=by rfl) (hx:(envX cn cs L a ccd cl).kindOf x=some .free:=by rfl) (hb:(x==("__debug__" :Str))=false:=by decide) (hn:(x==("__classdict__" :Str))=false:=by decide):
 wpAny M A (eval (.Name x pos) (envX cn cs L a ccd cl)) Q E s:=wpAny_Name (wpAny_loadName_free hk hx hc ⟨_,he,hd⟩ h hn) hb
theorem jOa{M:Model}{A:Around}{E:Value->Shared->Prop}{s:Shared}{g:Heap}{L a c P:Addr}{m mg mb:Str->Option Value}{cn:Str}{cs:Scope}{cl:List (Str×Addr)}{p:Program}{loose:List Str}{mean:ExcName->Option Value}{qual:Str}{params:Arguments}{body:PySem.Expr}{scope:Scope}{pos:Pos}{clos:List (Str×Addr)}{tq R:List (Addr×Obj)}{Q:Value->Shared->Prop}{line col:Nat}
 (iq:f5a P line col qual tq) (hl:pos.line=line) (hc:pos.col=col) (hq:(envX cn cs L a (.ref c) cl).qual++ "<lambda>" =qual) (F:Fr g L s.heap m) (N:News g L s.heap (tq++R)) (T:Top p loose mean mg mb g) (C:CodeHd g c P) (hR:∀ p∈R,∀ q∈tq, @Ne Nat p.1 q.1)
 (hcl:closureFor scope (envX cn cs L a (.ref c) cl)=pure clos) (hdef:defaultsOf params (envX cn cs L a (.ref c) cl)=([], []))
 (h:∀ f c' oc vs t ctv h' tk,Fr g L h' m->News g L h' ((f,kla_obj "<lambda>" qual params body scope clos ((mg "__name__").getD .none) c' ctv)::(P,tabObj #[rawInt line,rawInt col, .ref c'])::(c',oc)::R)->oc.data= .fields vs->vs[1]?=some (.str qual t)-> @Ne Nat c' P->(∀ q∈R, @Ne Nat q.1 c')->(∀ q∈(P,tabObj #[rawInt line,rawInt col, .ref c'])::(c',oc)::R, @LT.lt Nat _ q.1 f)->Q (.ref f) {s with heap:=h',toks:=tk}):
 wpAny M A (eval (.Lambda params body scope pos) (envX cn cs L a (.ref c) cl)) Q E s:=by
 subst hl hc hq
 refine kla_eval hdef ?_
 rcases iq with _|⟨hod,hov,hcne⟩
 ·refine kla_nest (c:=c) (P:=P) F N T C rfl (UpdF.head fun q hq=>hR q hq _ (.head _)) trivial rfl hcl ?_
  intro f c' oc vs t ctv h' tk F' N' hod hov l1 l2
  dsimp only at N'
  exact h f c' oc vs t ctv h' tk F' (News.sub N' (fc (.head _) (fc (.tail _ (.tail _ (.head _))) (fc (.tail _ (.head _)) fun p hp=> .tail _ (.tail _ (.tail _ hp)))))) hod hov (Nat.ne_of_gt (l1 _ (.head _))) (fun q hq=>Nat.ne_of_lt (l1 q (.tail _ hq))) (fc (Nat.lt_trans (l1 (P,tabObj #[]) (.head _)) l2) (fc l2 fun q hq=>Nat.lt_trans (l1 q (.tail _ hq)) l2))
 ·rename_i c' oc vs t
  refine kla_hit (c:=c) (P:=P) (c':=c') F N T C rfl (.head _) (by simp [TriplesOk,rawInt]) (by simp [codeAmong,rawInt]) hcl ?_
  intro f ctv h' tk F' N' l1
  exact h f c' oc vs t ctv h' tk F' N' hod hov hcne (fun q hq=>hR q hq _ (.tail _ (.head _))) l1
end Mine
namespace Mine
theorem ar27:True:=by
 k_with "ar27" =>with_reducible first|exact kFa ‹_›
 trivial
open PyProof.Rows.LCg (lst NsObj)
section
variable {prog:Program} {w:World} {A:Around} {E:Value->Shared->Prop} {s:Shared} {env:Env} {h₀:Heap} {L:Addr} {m:Str->Option Value} {ifs:List PySem.Expr} {scope:Scope} {cl:List (Str×Addr)} {x:Str} {ep:Pos}
inductive i4a(h₀:Heap)(L:Addr)(m:Str->Option Value)(rest:List (Addr×Obj))(b:Bool)(s₁:Shared)(ok:Bool)(s₂:Shared):Prop
 |ik (h':Heap) (tk':Nat) (news':List (Addr×Obj)) (f0:s₂= {s₁ with heap:=h',toks:=tk'}) (f1:Fr h₀ L h' m) (f2:News h₀ L h' news') (f3:∀ p∈rest,p∈news') (f4:ok=b):i4a h₀ L m rest b s₁ ok s₂
theorem i4a.intro{rest:List (Addr×Obj)}{b ok:Bool}{s₁:Shared}{h':Heap}{tk':Nat}{news':List (Addr×Obj)}(F:Fr h₀ L h' m)(N:News h₀ L h' news')(mem:∀ p∈rest,p∈news')(hb:ok=b):i4a h₀ L m rest b s₁ ok {s₁ with heap:=h',toks:=tk'}:=⟨h',tk',news',rfl,F,N,mem,hb⟩
end
end Mine
set_option linter.all false
set_option compiler.extract_closed false
set_option genInjectivity false
set_option genSizeOf false
set_option genCtorIdx false
namespace Mine
set_option backward.match.sparseCases false
inductive Hd
 |app (f:Value)
 |tup
 |lst
inductive Kf
 |q (Q:Flow->Shared->Prop)
 |seq (r:List Stmt) (k:Kf)
inductive Ks
 |val (Q:Value->Shared->Prop)
 |bol (Q:Bool->Shared->Prop)
 |ret (f:Kf)
 |sto (x:Str) (r:List Stmt) (f:Kf)
 |exp (r:List Stmt) (f:Kf)
 |sw (x y:Str) (d:List Value) (e:List Expr) (r:List Stmt) (f:Kf)
 |arg (h:Hd) (d:List Value) (e:List Expr) (p:Pos) (k:Ks)
 |fn (e:List Expr) (p:Pos) (k:Ks)
 |mth (o:Expr) (n:Str) (e:List Expr) (p:Pos) (k:Ks)
 |sb1 (v i:Expr) (k:Ks)
 |sb2 (v i:Expr) (o:Value) (k:Ks)
 |sl (v i:Expr) (o:Value) (d:List Value) (e:List (Option Expr)) (k:Ks)
 |bn1 (op:Operator) (r:Expr) (k:Ks)
 |bn2 (op:Operator) (x:Value) (k:Ks)
 |un (op:UnaryOp) (k:Ks)
 |cm1 (op:CmpOp) (r:Expr) (k:Ks)
 |cm2 (op:CmpOp) (x:Value) (k:Ks)
inductive Cfg
 |ev (e:Expr) (k:Ks)
 |rt (v:Value) (k:Ks)
 |rv (h:Hd) (d acc:List Value) (k:Ks)
 |cw (f:Value) (d:List Value) (e:List Expr) (p:Pos) (k:Ks)
 |pt (v i:Expr) (o:Value) (d:List Value) (e:List (Option Expr)) (k:Ks)
 |is (e:Expr) (Q:Bool->Shared->Prop)
 |al (op:BoolOp) (e:List Expr) (Q:Bool->Shared->Prop)
 |ex (ss:List Stmt) (f:Kf)
 |fl (x:Flow) (f:Kf)
inductive GK(α:Type):Type
 |run (x:Sem α)
 |val (x:α)
inductive Out:Type 1
 |mk (α:Type) (k:GK α) (Q:α->Shared->Prop) (t:Tok)
 |no
noncomputable abbrev Out.wp(α:Type)(x:Sem α)(Q:α->Shared->Prop)(t:Tok):Out:= .mk α (.run x) Q t
noncomputable abbrev Out.at_(α:Type)(Q:α->Shared->Prop)(x:α)(t:Tok):Out:= .mk α (.val x) Q t
noncomputable def Gen(M:Model)(A:Around)(E:Value->Shared->Prop){α:Type}(k:GK α)(Q:α->Shared->Prop)(s:Shared):Prop:=match k with
 | .run x=>wpAny M A x Q E s
 | .val x=>Q x s
inductive Mv:Type 1
 |go (c:Cfg) (t:Tok)
 |stop (o:Out)
 |stay
noncomputable def iqa(e:Expr):Bool:= !(Nat.beq e.ctorIdx 22)
noncomputable def axa:List Expr->Bool| []=>true|e::r=>match iqa e with|true=>axa r|false=>false
noncomputable def dda(e:Expr):Bool:= !(Nat.beq e.ctorIdx 8)&&(!(Nat.beq e.ctorIdx 9)&& !(Nat.beq e.ctorIdx 10))
noncomputable def cVa(e:Expr):Bool:=match e with| .Call f _ _ _=>Nat.beq f.ctorIdx 20|_=>true
noncomputable def sJa:Expr->Bool| .BoolOp op _ _=>(match op with| .Or=>true| .And=>false)|_=>false
noncomputable def i0a:Value->Option Str| .str x _=>some x|_=>none
noncomputable def cba:Value->Option Int| .int x _=>some x|_=>none
noncomputable def two{α:Type}(f:Value->Option α)(x v:Value)(k1:α->α->Mv)(k2:Mv):Mv:=match f x,f v with|some a,some b=>k1 a b|_,_=>k2
noncomputable def Hd.sem(h:Hd)(vs:List Value):Sem Value:=match h with| .app f=>call f vs| .tup=>newTuple vs| .lst=>newList vs
noncomputable def Hd.ok(K:Frag)(h:Hd)(s:Shared):Prop:=match h with| .app _=>K.In s.heap|_=>True
section
variable (prog:Program) (w:World) (A:Around) (E:Value->Shared->Prop) (K:Frag) (cn:Str) (cs:Scope) (L a:Addr) (ccd:Value) (cl:List (Str×Addr))
noncomputable def lna(e:List Expr)(p:Pos)(k:Value->Shared->Prop):Value×List Value->Shared->Prop:=fun fx s=>wpAny (model prog w) A (callWith p fx.1 fx.2 (backTo p (starEach e (envX cn cs L a ccd cl))) []) k E s
set_option backward.match.sparseCases true in
noncomputable def c6a:Kf->Flow->Shared->Prop
 | .q Q=>Q
 | .seq r k=>fun f s=>match f with| .next=>wpAny (model prog w) A (execs r (envX cn cs L a ccd cl)) (c6a k) E s|f=>c6a k f s
noncomputable def mia:List (Option Expr)->(List Value->Shared->Prop)->Shared->Prop
 | [],Q=>Q []
 |x::r,Q=>fun s=>wpAny (model prog w) A (evalPart x (envX cn cs L a ccd cl)) (fun v s'=>mia r (fun vs=>Q (v::vs)) s') E s
noncomputable def fma (v i:Expr) (o:Value) (k:Value->Shared->Prop):List Value->Shared->Prop:=fun ps s=>wpAny (model prog w) A (subscriptTail v i o (.ref s.heap.objs.size)) k E {s with heap:=s.heap.push {cls:= .type "slice",data:= .fields ps.toArray}}
noncomputable def kva(r:List Stmt)(k:Kf):Unit->Shared->Prop:=fun _ s=>wpAny (model prog w) A (execs r (envX cn cs L a ccd cl)) (c6a prog w A E cn cs L a ccd cl k) E s
noncomputable def mha(x y:Str)(k:Unit->Shared->Prop):Value->Shared->Prop:=fun v s=>wpAny (model prog w) A (unpackItems v 2 none) (fun it s'=>wpAny (model prog w) A (assignInOrder [fun v=>bindName (envX cn cs L a ccd cl) y v,fun v=>bindName (envX cn cs L a ccd cl) x v] it.reverse) k E s') E s
noncomputable def rra(x y:Str)(k:Unit->Shared->Prop):List Value->Shared->Prop:=fun vs s=>wpAny (model prog w) A (newTuple vs) (mha prog w A E cn cs L a ccd cl x y k) E s
noncomputable def den:Ks->Value->Shared->Prop
 | .val Q=>Q
 | .bol Q=>fun v s=>wpAny (model prog w) A (truthy v) Q E s
 | .ret f=>fun v s=>c6a prog w A E cn cs L a ccd cl f (.ret v) s
 | .sto x r f=>fun v s=>wpAny (model prog w) A (storeName (envX cn cs L a ccd cl) x v) (kva prog w A E cn cs L a ccd cl r f) E s
 | .sw x y d e r f=>fun v s=>axa e=true->wpAny (model prog w) A (spliced (backTo ⟨0,0,0,0⟩ (starEach e (envX cn cs L a ccd cl)))) (fun vs s'=>rra prog w A E cn cs L a ccd cl x y (kva prog w A E cn cs L a ccd cl r f) (d.reverse++v::vs) s') E s
 | .exp r f=>fun _ s=>wpAny (model prog w) A (execs r (envX cn cs L a ccd cl)) (c6a prog w A E cn cs L a ccd cl f) E s
 | .arg h d e p k=>fun v s=>axa e=true->wpAny (model prog w) A (spliced (backTo p (starEach e (envX cn cs L a ccd cl)))) (fun vs s'=>h.ok K s'∧wpAny (model prog w) A (h.sem (d.reverse++v::vs)) (den k) E s') E s
 | .fn e p k=>fun f s=>wpAny (model prog w) A (callWith p f [] (backTo p (starEach e (envX cn cs L a ccd cl))) []) (den k) E s
 | .mth o n e p k=>fun ov s=>wpAny (model prog w) A (getMethod ov n (do return (<-importBound o (envX cn cs L a ccd cl)).getD true)) (lna prog w A E cn cs L a ccd cl e p (den k)) E s
 | .sb1 v i k=>fun o s=>wpAny (model prog w) A (eval i (envX cn cs L a ccd cl)) (fun iv s'=>wpAny (model prog w) A (subscriptTail v i o iv) (den k) E s') E s
 | .sb2 v i o k=>fun iv s=>wpAny (model prog w) A (subscriptTail v i o iv) (den k) E s
 | .sl v i o d e k=>fun x s=>mia prog w A E cn cs L a ccd cl e (fun vs s'=>fma prog w A E v i o (den k) (d.reverse++x::vs) s') s
 | .bn1 op r k=>fun x s=>wpAny (model prog w) A (eval r (envX cn cs L a ccd cl)) (fun y s'=>wpAny (model prog w) A (binaryOp op x y) (den k) E s') E s
 | .bn2 op x k=>fun y s=>wpAny (model prog w) A (binaryOp op x y) (den k) E s
 | .un op k=>fun v s=>wpAny (model prog w) A (unaryOp op v) (den k) E s
 | .cm1 op r k=>fun x s=>wpAny (model prog w) A (eval r (envX cn cs L a ccd cl)) (fun y s'=>wpAny (model prog w) A (compareOp op x y) (den k) E s') E s
 | .cm2 op x k=>fun y s=>wpAny (model prog w) A (compareOp op x y) (den k) E s
noncomputable def kwa(b e:List Stmt)(f:Kf):Bool->Shared->Prop:=fun c s=>if c then wpAny (model prog w) A (execs b (envX cn cs L a ccd cl)) (c6a prog w A E cn cs L a ccd cl f) E s else wpAny (model prog w) A (execs e (envX cn cs L a ccd cl)) (c6a prog w A E cn cs L a ccd cl f) E s
noncomputable def mJa(b e:Expr)(k:Ks):Bool->Shared->Prop:=fun c s=>if c then wpAny (model prog w) A (eval b (envX cn cs L a ccd cl)) (den prog w A E K cn cs L a ccd cl k) E s else wpAny (model prog w) A (eval e (envX cn cs L a ccd cl)) (den prog w A E K cn cs L a ccd cl k) E s
noncomputable def lza(op:BoolOp)(r:List Expr)(Q:Bool->Shared->Prop):Bool->Shared->Prop:=fun c s=>match op with
 | .And=>if c then wpAny (model prog w) A (allTrue .And r (envX cn cs L a ccd cl)) Q E s else Q false s
 | .Or=>if c then Q true s else wpAny (model prog w) A (allTrue .Or r (envX cn cs L a ccd cl)) Q E s
noncomputable def mKa(Q:Bool->Shared->Prop):Bool->Shared->Prop:=fun b s=>Q (!b) s
noncomputable def Cfg.out:Cfg->Tok->Out
 | .ev e k,t=> .wp Value (eval e (envX cn cs L a ccd cl)) (den prog w A E K cn cs L a ccd cl k) t
 | .rt v k,t=> .at_ Value (den prog w A E K cn cs L a ccd cl k) v t
 | .rv h d acc k,t=> .wp Value (h.sem (d.reverse++acc)) (den prog w A E K cn cs L a ccd cl k) t
 | .cw f d e p k,t=> .wp (List Value) (spliced (backTo p (starEach e (envX cn cs L a ccd cl)))) (fun vs s'=>K.In s'.heap∧wpAny (model prog w) A (call f (d.reverse++vs)) (den prog w A E K cn cs L a ccd cl k) E s') t
 | .pt v i o d e k,t=> .at_ Unit (fun _ s=>mia prog w A E cn cs L a ccd cl e (fun vs s'=>fma prog w A E v i o (den prog w A E K cn cs L a ccd cl k) (d.reverse++vs) s') s) () t
 | .is e Q,t=> .wp Bool (isTrue e (envX cn cs L a ccd cl) (eval e (envX cn cs L a ccd cl))) Q t
 | .al op e Q,t=> .wp Bool (allTrue op e (envX cn cs L a ccd cl)) Q t
 | .ex ss f,t=> .wp Flow (execs ss (envX cn cs L a ccd cl)) (c6a prog w A E cn cs L a ccd cl f) t
 | .fl x f,t=> .at_ Flow (c6a prog w A E cn cs L a ccd cl f) x t
variable (m:Str->Option Value)
noncomputable def mHa(x:Str):Option Value:=match m x with
 |some v=>match(envX cn cs L a ccd cl).kindOf x with|some .local=>(match x==("__debug__" :Str) with|true=>none|false=>some v)|_=>none
 |none=>none
noncomputable def h7a(h:Hd)(p:Pos)(k:Ks)(t:Tok):Bool->List Expr->Mv
 |true, []=> .go (.rv h [] [] k) t
 |true,x::r=> .go (.ev x (.arg h [] r p k)) t
 |false,_=> .stay
noncomputable def l5a(k:Ks)(t:Tok):Const->Mv
 | .int i=> .go (.rt (.int i t) k) (t+1)
 | .str x=> .go (.rt (.str x t) k) (t+1)
 | .none=> .go (.rt .none k) t
 | .bool b=> .go (.rt (.bool b) k) t
 |_=> .stay
noncomputable def gIa(es:List Expr)(p:Pos)(k:Ks)(t:Tok):List Keyword->Expr->Mv
 |_::_,_=> .stay
 | [],f=>match f with
   | .Attribute o n ap=>match cVa o&&(axa es&&(Nat.blt es.length 30&&Nat.beq ap.endLine p.line)) with
     |true=> .go (.ev o (.mth o n es p k)) t
     |false=> .stay
   | .Name x q=> .go (.ev (.Name x q) (.fn es p k)) t
   |_=> .stay
noncomputable def gha(l:Expr)(k:Ks)(t:Tok):List CmpOp->List Expr->Mv
 | [op], [r]=>match behindInMarks op r with
   |false=> .go (.ev l (.cm1 op r k)) t
   |true=> .stay
 |_,_=> .stay
noncomputable def koa(k:Ks)(t:Tok):Expr->Mv
 | .Constant c _ _=>l5a k t c
 | .Name x _=>match mHa cn cs L a ccd cl m x with|some v=> .go (.rt v k) t|none=> .stay
 | .Tuple es _ p=>h7a .tup p k t (axa es) es
 | .List es p=>h7a .lst p k t (axa es) es
 | .Call f es ks p=>gIa es p k t ks f
 | .Subscript v i _=> .go (.ev v (.sb1 v i k)) t
 | .BinOp l op r _=> .go (.ev l (.bn1 op r k)) t
 | .UnaryOp op x _=> .go (.ev x (.un op k)) t
 | .IfExp b x y _=> .go (.is b (mJa prog w A E K cn cs L a ccd cl x y k)) t
 | .Compare l ops rs _=>gha l k t ops rs
 |_=> .stay
noncomputable def l4a(p:Pos)(k:Ks)(t:Tok)(e:List Expr):Bool->Value->Mv
 |true, .type T=> .go (.cw (.type T) [] e p k) t
 |true, .builtin T=> .go (.cw (.builtin T) [] e p k) t
 |_,v=> .stop (.wp Value (callWith p v [] (backTo p (starEach e (envX cn cs L a ccd cl))) []) (den prog w A E K cn cs L a ccd cl k) t)
noncomputable def isN:Value->Option Bool
 | .none=>some true| .ref _=>some false| .int _ _=>some false| .str _ _=>some false| .bool _=>some false|_=>none
noncomputable def l1a(x v:Value)(k:Ks)(t:Tok):CmpOp->Mv
 | .Eq=>two i0a x v (fun a b=> .go (.rt (.bool (a==b)) k) t) (two cba x v (fun a b=> .go (.rt (.bool (a==b)) k) t) (.stop (.wp Value (compareOp .Eq x v) (den prog w A E K cn cs L a ccd cl k) t)))
 | .NotEq=>two i0a x v (fun a b=> .go (.rt (.bool (a !=b)) k) t) (two cba x v (fun a b=> .go (.rt (.bool (a !=b)) k) t) (.stop (.wp Value (compareOp .NotEq x v) (den prog w A E K cn cs L a ccd cl k) t)))
 | .Lt=>two cba x v (fun a b=> .go (.rt (.bool (decide (a<b))) k) t) (.stop (.wp Value (compareOp .Lt x v) (den prog w A E K cn cs L a ccd cl k) t))
 | .Gt=>two cba x v (fun a b=> .go (.rt (.bool (decide (b<a))) k) t) (.stop (.wp Value (compareOp .Gt x v) (den prog w A E K cn cs L a ccd cl k) t))
 | .Is=>match isN v,isN x with
   |some true,some b=> .go (.rt (.bool b) k) t
   |_,_=> .stop (.wp Value (compareOp .Is x v) (den prog w A E K cn cs L a ccd cl k) t)
 | .IsNot=>match isN v,isN x with
   |some true,some b=> .go (.rt (.bool (!b)) k) t
   |_,_=> .stop (.wp Value (compareOp .IsNot x v) (den prog w A E K cn cs L a ccd cl k) t)
 |op=> .stop (.wp Value (compareOp op x v) (den prog w A E K cn cs L a ccd cl k) t)
noncomputable def l6a(x v:Value)(k:Ks)(t:Tok)(op:Operator):Mv:=match cba x,cba v,op with
 |some a,some b, .Add=> .go (.rt (.int (a+b) t) k) (t+1)
 |some a,some b, .Sub=> .go (.rt (.int (a-b) t) k) (t+1)
 |_,_,_=> .stop (.wp Value (binaryOp op x v) (den prog w A E K cn cs L a ccd cl k) t)
noncomputable def lYa(v:Value)(k:Ks)(t:Tok)(op:UnaryOp):Mv:=match cba v,op with
 |some a, .USub=> .go (.rt (.int (-a) t) k) (t+1)
 |_,_=> .stop (.wp Value (unaryOp op v) (den prog w A E K cn cs L a ccd cl k) t)
noncomputable def kka(v:Value)(t:Tok):Ks->Mv
 | .val Q=> .stop (.at_ Value Q v t)
 | .bol Q=>match v with
   | .bool b=> .stop (.at_ Bool Q b t)
   |v=> .stop (.wp Bool (truthy v) Q t)
 | .ret f=> .go (.fl (.ret v) f) t
 | .sto x r f=> .stop (.wp Unit (storeName (envX cn cs L a ccd cl) x v) (kva prog w A E cn cs L a ccd cl r f) t)
 | .sw x y d e r f=>match d,e with
   |d,e::es=> .go (.ev e (.sw x y (v::d) es r f)) t
   | [u], []=> .stop (.wp Value (newTuple [u,v]) (mha prog w A E cn cs L a ccd cl x y (kva prog w A E cn cs L a ccd cl r f)) t)
   |d, []=> .stop (.at_ (List Value) (rra prog w A E cn cs L a ccd cl x y (kva prog w A E cn cs L a ccd cl r f)) (d.reverse++ [v]) t)
 | .exp r f=> .go (.ex r f) t
 | .arg h d e p k=>match e with
   | []=> .go (.rv h d [v] k) t
   |e::r=> .go (.ev e (.arg h (v::d) r p k)) t
 | .fn e p k=>l4a prog w A E K cn cs L a ccd cl p k t e (axa e) v
 | .mth o n e p k=> .stop (.wp (Value×List Value) (getMethod v n (do return (<-importBound o (envX cn cs L a ccd cl)).getD true)) (lna prog w A E cn cs L a ccd cl e p (den prog w A E K cn cs L a ccd cl k)) t)
 | .sb1 x i k=>match i with
   | .Slice l u s _=> .go (.pt x i v [] [l,u,s] k) t
   |i=> .go (.ev i (.sb2 x i v k)) t
 | .sb2 x i o k=> .stop (.wp Value (subscriptTail x i o v) (den prog w A E K cn cs L a ccd cl k) t)
 | .sl x i o d e k=> .go (.pt x i o (v::d) e k) t
 | .bn1 op r k=> .go (.ev r (.bn2 op v k)) t
 | .bn2 op x k=>l6a prog w A E K cn cs L a ccd cl x v k t op
 | .un op k=>lYa prog w A E K cn cs L a ccd cl v k t op
 | .cm1 op r k=> .go (.ev r (.cm2 op v k)) t
 | .cm2 op x k=>l1a prog w A E K cn cs L a ccd cl x v k t op
noncomputable def l0a(h:Hd)(acc:List Value)(k:Ks)(t:Tok):List Value->Mv
 |x::d=> .go (.rv h d (x::acc) k) t
 | []=>match h with
   | .app f=> .stop (.wp Value (call f acc) (den prog w A E K cn cs L a ccd cl k) t)
   | .tup=> .stop (.wp Value (newTuple acc) (den prog w A E K cn cs L a ccd cl k) t)
   | .lst=> .stop (.wp Value (newList acc) (den prog w A E K cn cs L a ccd cl k) t)
noncomputable def kla(x i:Expr)(o:Value)(k:Ks)(t:Tok):List Value->List (Option Expr)->Mv
 |d,some e::r=> .go (.ev e (.sl x i o d r k)) t
 |d,none::r=> .go (.pt x i o (.none::d) r k) t
 | [s,u,l], []=> .stop (.at_ (List Value) (fma prog w A E x i o (den prog w A E K cn cs L a ccd cl k)) [l,u,s] t)
 |d, []=> .stop (.at_ (List Value) (fma prog w A E x i o (den prog w A E K cn cs L a ccd cl k)) d.reverse t)
noncomputable def kma(Q:Bool->Shared->Prop)(t:Tok):Expr->Mv
 | .Compare l ops rs _=>gha l (.bol Q) t ops rs
 | .UnaryOp op x _=>match op with| .Not=> .go (.is x (mKa Q)) t|_=> .stay
 | .BoolOp op es _=> .go (.al op es Q) t
 | .Name x p=> .go (.ev (.Name x p) (.bol Q)) t
 | .Call f es ks p=> .go (.ev (.Call f es ks p) (.bol Q)) t
 | .Subscript v i p=> .go (.ev (.Subscript v i p) (.bol Q)) t
 | .Attribute v i p=> .go (.ev (.Attribute v i p) (.bol Q)) t
 |_=> .stay
noncomputable def kpa(op:BoolOp)(Q:Bool->Shared->Prop)(t:Tok):List Expr->Mv
 | []=> .stay
 | [x]=> .go (.is x Q) t
 |x::y::r=> .go (.is x (lza prog w A E cn cs L a ccd cl op (y::r) Q)) t
noncomputable def stF(f:Kf)(t:Tok)(st:Stmt)(r:List Stmt):Mv:= .stop (.wp Flow (exec st (envX cn cs L a ccd cl)) (c6a prog w A E cn cs L a ccd cl (.seq r f)) t)
noncomputable def l7a(f:Kf)(t:Tok)(r:List Stmt)(e:Expr)(p:Pos):Expr->Mv
 | .Name x _=> .go (.ev e (.sto x r f)) t
 |x=>stF prog w A E cn cs L a ccd cl f t (.Assign [x] e p) r
noncomputable def l8a(f:Kf)(t:Tok)(r:List Stmt)(e:Expr)(p:Pos):Bool->List Expr->Mv
 |true, [x]=>l7a prog w A E cn cs L a ccd cl f t r e p x
 |_,ts=>stF prog w A E cn cs L a ccd cl f t (.Assign ts e p) r
noncomputable def l2a(f:Kf)(t:Tok)(b:Expr)(y z:List Stmt)(p:Pos):Bool->List Stmt->Mv
 |true,r=>stF prog w A E cn cs L a ccd cl f t (.If b y z p) r
 |false, []=> .go (.is b (kwa prog w A E cn cs L a ccd cl y z f)) t
 |false,s::r=> .go (.is b (kwa prog w A E cn cs L a ccd cl y z (.seq (s::r) f))) t
noncomputable def qba(f:Kf)(t:Tok):Option Expr->Mv
 |some e=> .go (.ev e (.ret f)) t
 |none=> .go (.fl (.ret .none) f) t
noncomputable def lXa(f:Kf)(t:Tok)(r:List Stmt)(e:Expr)(p:Pos):Bool->Mv
 |true=> .go (.ev e (.exp r f)) t
 |false=>stF prog w A E cn cs L a ccd cl f t (.Expr e p) r
noncomputable def lZa(f:Kf)(t:Tok)(r:List Stmt):Stmt->Mv
 | .Return e _=>qba f t e
 | .Expr e p=>lXa prog w A E cn cs L a ccd cl f t r e p (dda e)
 | .Assign ts e p=>l8a prog w A E cn cs L a ccd cl f t r e p (dda e) ts
 | .If b y z p=>l2a prog w A E cn cs L a ccd cl f t b y z p (sJa b) r
 |st=>stF prog w A E cn cs L a ccd cl f t st r
noncomputable def kna(f:Kf)(t:Tok):List Stmt->Mv
 | []=> .go (.fl .next f) t
 |st::r=>lZa prog w A E cn cs L a ccd cl f t r st
noncomputable def l3a(t:Tok):Flow->Kf->Mv
 |x, .q Q=> .stop (.at_ Flow Q x t)
 | .next, .seq r f=> .go (.ex r f) t
 | .ret v, .seq _ f=> .go (.fl (.ret v) f) t
 | .brk, .seq _ f=> .go (.fl .brk f) t
 | .cont, .seq _ f=> .go (.fl .cont f) t
noncomputable def step(c:Cfg)(t:Tok):Mv:=match c with
 | .ev e k=>koa prog w A E K cn cs L a ccd cl m k t e
 | .rt v k=>kka prog w A E K cn cs L a ccd cl v t k
 | .rv h d acc k=>l0a prog w A E K cn cs L a ccd cl h acc k t d
 | .cw f d e p k=>match axa e,e with
   |true, []=> .go (.rv (.app f) d [] k) t
   |true,e::r=> .go (.ev e (.arg (.app f) d r p k)) t
   |_,_=> .stay
 | .pt x i o d e k=>kla prog w A E K cn cs L a ccd cl x i o k t d e
 | .is e Q=>kma Q t e
 | .al op e Q=>kpa prog w A E cn cs L a ccd cl op Q t e
 | .ex ss f=>kna prog w A E cn cs L a ccd cl f t ss
 | .fl x f=>l3a t x f
noncomputable def run:Nat->Cfg->Tok->Out
 |0,c,t=>c.out prog w A E K cn cs L a ccd cl t
 |n+1,c,t=>match step prog w A E K cn cs L a ccd cl m c t with
  | .go c t=>run n c t
  | .stop o=>o
  | .stay=>c.out prog w A E K cn cs L a ccd cl t
noncomputable def Out.holds(hp:Heap)(g:Array GenState)(d:Drawn)(o:OsState):Out->Prop
 | .mk _ k Q t=>Gen (model prog w) A E k Q ⟨hp,g,d,t,o⟩
 | .no=>False
end
end Mine
set_option linter.all false
namespace Mine
theorem ata{e:Expr}{r:List Expr}(h:axa (e::r)=true):iqa e=true∧axa r=true:=by
 unfold axa at h
 split at h
 ·rename_i q;exact⟨q,h⟩
 ·cases h
theorem cPa{e:Expr}{r:List Expr}{env:Env}(h:iqa e=true):starEach (e::r) env=(false,eval e env)::starEach r env:=by
 cases e with
 |Starred _ _=>exact Bool.noConfusion (show false=true from h)
 |_=>exact rfl
theorem e5a{p:Pos}{env:Env}:∀ {r:List Expr},axa r=true->(backTo p (starEach r env)).any (·.1)=false
 | [],_=>rfl
 |e::r,h=>by
  rw [cPa (ata h).1]
  show(false||(backTo p (starEach r env)).any (·.1))=false
  rw [e5a (ata h).2];rfl
theorem fBa{p q:Pos}{env:Env}:∀ {r:List Expr},axa r=true->backTo p (starEach r env)=backTo q (starEach r env)
 | [],_=>rfl
 |e::r,h=>by
  rw [cPa (ata h).1]
  show(false,eval e env)::backTo p (starEach r env)=(false,eval e env)::backTo q (starEach r env)
  rw [fBa (ata h).2]
section
variable {prog:Program} {w:World} {A:Around} {E:Value->Shared->Prop} {K:Frag} {cn:Str} {cs:Scope} {L a:Addr} {ccd:Value} {cl:List (Str×Addr)} {m:Str->Option Value} {g0 hp:Heap} {g:Array GenState} {d:Drawn} {o:OsState}
theorem gva{f:Value}{Q:Args->Shared->Prop}{s:Shared}(h:wpAny (model prog w) A (spliced []) (fun vs s'=>Q ⟨vs, []⟩ s') E s):wpAny (model prog w) A (evalArgs f true [] []) Q E s:=by
 unfold evalArgs
 show wpAny (model prog w) A (spliced []>>=_) Q E s
 refine wpAny_bind (wpAny_mono h (fun vs s' h'=> ?_) fun _ _ x=>x)
 refine wpAny_holding ?_
 exact wpAny_bind (wpAny_pure (wpAny_bind (wpAny_pure (wpAny_pure h'))))
theorem iSa{f:Value}{d:List Value}{e:List Expr}{p:Pos}{Q:Value->Shared->Prop}{s:Shared}{env:Env}(he:axa e=true)
 (hk:∀ h,K.In h->∃ k,(k=Keeper.frame∨k=Keeper.machine∨k=Keeper.boundFrame)∧Looks (model prog w) h (keeperOf f) k) (h:wpAny (model prog w) A (spliced (backTo p (starEach e env))) (fun vs s'=>K.In s'.heap∧wpAny (model prog w) A (call f (d++vs)) Q E s') E s):
 wpAny (model prog w) A (callWith p f d (backTo p (starEach e env)) []) Q E s:=by
 refine callWith_of (P:=K.In) (by rw [e5a he];rfl) hk ?_
 cases e with
 |nil=>exact gva h
 |cons e r=>
  rw [cPa (ata he).1] at h ⊢
  exact evalArgs_plain h
theorem k4a{ob:Expr}{n:Str}{ap p:Pos}{e:List Expr}{env:Env}(h1:cVa ob=true)(h2:axa e=true)(h3:Nat.blt e.length 30=true)(h4:Nat.beq ap.endLine p.line=true):
 eval (.Call (.Attribute ob n ap) e [] p) env=(do
  let ov<-eval ob env
  standAt ap.atName
  let (f,first)<-holding [ov] (getMethod ov n (do return (<-importBound ob env).getD true))
  callWith p f first (backTo p (starEach e env)) []):=by
 rw [arm_eval_Call]
 have hb:attributeBase ob n env (eval ob env)=eval ob env:=by
  cases ob with
  |Call f _ _ _=>
   cases f with
   |Attribute _ _ _=>exact rfl
   |_=>exact Bool.noConfusion (show false=true from h1)
  |_=>exact rfl
 have hm:methodCallForm (e.length+([]:List Keyword).length) (backTo p (starEach e env)) (backToKw p (keywordEach [] env))=true:=by
  have q:(backTo p (starEach e env)).all (fun x=> !x.1)=true:=by
   have:=e5a (p:=p) (env:=env) h2
   rw [List.all_eq_not_any_not]
   simpa using this
  unfold methodCallForm
  rw [q]
  have:e.length<30:=by simpa using h3
  show(true&&true&&decide (e.length+0+0<30))=true
  simpa using this
 have h5:(ap.endLine==p.line)=true:=by simpa using h4
 rw [hb]
 unfold methodCall
 rw [hm]
 unfold calleeOf methodCallPos
 simp only [if_true,h5,Bool.or_true]
 rfl
end
end Mine
set_option linter.all false
namespace Mine
set_option backward.match.sparseCases false
section
variable {prog:Program} {w:World} {A:Around} {E:Value->Shared->Prop} {K:Frag} {cn:Str} {cs:Scope} {L a:Addr} {ccd:Value} {cl:List (Str×Addr)} {m:Str->Option Value} {g0 hp:Heap} {g:Array GenState} {d:Drawn} {o:OsState}
theorem gqa {x:Str} {v:Value} (h:mHa cn cs L a ccd cl m x=some v):m x=some v∧(envX cn cs L a ccd cl).kindOf x=some .local∧(x==("__debug__" :Str))=false:=by
 unfold mHa at h
 split at h
 ·rename_i v' hv
  split at h
  ·rename_i hk
   split at h
   ·cases h
   ·rename_i hd
    cases h;exact⟨hv,hk,hd⟩
  ·cases h
 ·cases h
theorem eja{e:Expr}{r:List Expr}{p:Pos}{Q:List Value->Shared->Prop}{s:Shared}{env:Env}(he:axa (e::r)=true)
 (h:wpAny (model prog w) A (eval e env) (fun v s₁=>wpAny (model prog w) A (spliced (backTo p (starEach r env))) (fun vs s₂=>Q (v::vs) s₂) E s₁) E s):wpAny (model prog w) A (spliced (backTo p (starEach (e::r) env))) Q E s:=
 args_cons h (cPa (ata he).1)
noncomputable def Mv.ok(prog:Program)(w:World)(A:Around)(E:Value->Shared->Prop)(K:Frag)(cn:Str)(cs:Scope)(L a:Addr)(ccd:Value)(cl:List (Str×Addr))(hp:Heap)(g:Array GenState)(d:Drawn)(o:OsState)(P:Prop):Mv->Prop
 | .go c t=>(c.out prog w A E K cn cs L a ccd cl t).holds prog w A E hp g d o->P
 | .stop x=>x.holds prog w A E hp g d o->P
 | .stay=>True
section
variable {k:Ks} {t:Tok}
theorem fAa{h:Hd}{e:Expr}{p:Pos}{es:List Expr}(h1:∀ {Q:Value->Shared->Prop} {s:Shared},wpAny (model prog w) A (spliced (backTo p (starEach es (envX cn cs L a ccd cl)))) (fun vs s₁=>wpAny (model prog w) A (h.sem vs) Q E s₁) E s->wpAny (model prog w) A (eval e (envX cn cs L a ccd cl)) Q E s)(b:Bool)(hb:axa es=b):
 (h7a h p k t b es).ok prog w A E K cn cs L a ccd cl hp g d o (wpAny (model prog w) A (eval e (envX cn cs L a ccd cl)) (den prog w A E K cn cs L a ccd cl k) E ⟨hp,g,d,t,o⟩):=
 match b,es,h1,hb with
 |true, [],h1,_=>fun q=>h1 (args_nil q)
 |true,_::_,h1,hb=>fun q=>h1 (eja hb (wpAny_mono q (fun _ _ h₁=>wpAny_mono (h₁ (ata hb).2) (fun _ _ h₂=>h₂.2) fun _ _ x=>x) fun _ _ x=>x))
 |false,_,_,_=>trivial
theorem eFa{P:Prop}{l:Expr}(ops:List CmpOp)(rs:List Expr)(h:∀ op r,ops= [op]->rs= [r]->behindInMarks op r=false->((Cfg.ev l (.cm1 op r k)).out prog w A E K cn cs L a ccd cl t).holds prog w A E hp g d o->P):
 (gha l k t ops rs).ok prog w A E K cn cs L a ccd cl hp g d o P:=by
 rcases ops with _|⟨op,_|_⟩
 ·exact trivial
 ·rcases rs with _|⟨r,_|_⟩
  ·exact trivial
  ·show Mv.ok _ _ _ _ _ _ _ _ _ _ _ _ _ _ _ _ (match behindInMarks op r with|false=>_|true=>_)
   cases hm:behindInMarks op r with
   |true=>exact trivial
   |false=>exact h op r rfl rfl hm
  ·exact trivial
 ·exact trivial
theorem gia{es:List Expr}{ks:List Keyword}{p:Pos}(f:Expr):(gIa es p k t ks f).ok prog w A E K cn cs L a ccd cl hp g d o (wpAny (model prog w) A (eval (.Call f es ks p) (envX cn cs L a ccd cl)) (den prog w A E K cn cs L a ccd cl k) E ⟨hp,g,d,t,o⟩):=by
 cases ks with
 |cons _ _=>exact trivial
 |nil=>
  cases f with
  |Name x q=>exact fun h=>Call_ (s:=⟨hp,g,d,t,o⟩) h
  |Attribute ob n ap=>
   show Mv.ok _ _ _ _ _ _ _ _ _ _ _ _ _ _ _ _ (match cVa ob&&(axa es&&(Nat.blt es.length 30&&Nat.beq ap.endLine p.line)) with|true=>_|false=>_)
   cases hb:cVa ob&&(axa es&&(Nat.blt es.length 30&&Nat.beq ap.endLine p.line)) with
   |false=>exact trivial
   |true=>
    obtain⟨b1,hb⟩:=Bool.and_eq_true_iff.mp hb
    obtain⟨b2,hb⟩:=Bool.and_eq_true_iff.mp hb
    obtain⟨b3,b4⟩:=Bool.and_eq_true_iff.mp hb
    exact fun h=>MethodCall_ (s:=⟨hp,g,d,t,o⟩) h (k4a b1 b2 b3 b4)
  |_=>exact trivial
theorem jsa{j:Nat}{p:Pos}(c:Const):(l5a k t c).ok prog w A E K cn cs L a ccd cl hp g d o (wpAny (model prog w) A (eval (.Constant c j p) (envX cn cs L a ccd cl)) (den prog w A E K cn cs L a ccd cl k) E ⟨hp,g,d,t,o⟩):=by
 cases c with
 |int _=>exact fun h=>wpAny_Constant_int (s:=⟨hp,g,d,t,o⟩) h
 |str _=>exact fun h=>Constant_str (s:=⟨hp,g,d,t,o⟩) h
 |none=>exact fun h=>wpAny_Constant_none (s:=⟨hp,g,d,t,o⟩) h
 |bool _=>exact fun h=>wpAny_Constant_bool (s:=⟨hp,g,d,t,o⟩) h
 |_=>exact trivial
theorem jpa(F:Fr g0 L hp m)(hc:cs.kind= .function){x:Str}{p:Pos}(r:Option Value)(hv:mHa cn cs L a ccd cl m x=r):(match(generalizing:=false) r with|some v=>Mv.go (.rt v k) t|none=> .stay:Mv).ok prog w A E K cn cs L a ccd cl hp g d o (wpAny (model prog w) A (eval (.Name x p) (envX cn cs L a ccd cl)) (den prog w A E K cn cs L a ccd cl k) E ⟨hp,g,d,t,o⟩):=
 match r,hv with
 |none,_=>trivial
 |some _,hv=>fun h=>nameX_L (s:=⟨hp,g,d,t,o⟩) F (gqa hv).1 h hc (gqa hv).2.1 (gqa hv).2.2
theorem ica(F:Fr g0 L hp m)(hc:cs.kind= .function)(e:Expr):
 (koa prog w A E K cn cs L a ccd cl m k t e).ok prog w A E K cn cs L a ccd cl hp g d o (wpAny (model prog w) A (eval e (envX cn cs L a ccd cl)) (den prog w A E K cn cs L a ccd cl k) E ⟨hp,g,d,t,o⟩):=by
 cases e with
 |Constant c j p=>exact jsa c
 |Name x p=>exact jpa F hc _ rfl
 |Tuple es j p=>exact fAa (fun q=>Tuple_ q) _ rfl
 |List es p=>exact fAa (fun q=>List_ q) _ rfl
 |Subscript v i p=>exact fun h=>Subscript_ (s:=⟨hp,g,d,t,o⟩) h
 |BinOp l op r p=>exact fun h=>wpAny_BinOp (s:=⟨hp,g,d,t,o⟩) h
 |UnaryOp op x p=>exact fun h=>wpAny_UnaryOp (s:=⟨hp,g,d,t,o⟩) h
 |IfExp b x y p=>exact fun h=>wpAny_IfExp (s:=⟨hp,g,d,t,o⟩) h
 |Compare l ops rs p=>exact eFa ops rs fun op r e1 e2 hm h=>by subst e1 e2;exact wpAny_Compare1 (s:=⟨hp,g,d,t,o⟩) h hm
 |Call f es ks p=>exact gia f
 |_=>exact trivial
theorem dLa{v:Value}{a:Str}(h:i0a v=some a):∃ t,v= .str a t:=by
 cases v<;>first|(cases h;exact⟨_,rfl⟩)|cases h
theorem bfa{v:Value}{a:Int}(h:cba v=some a):∃ t,v= .int a t:=by
 cases v<;>first|(cases h;exact⟨_,rfl⟩)|cases h
theorem gWa{v:Value}{b:Bool}(h:isN v=some b):(v== .none)=b:=by
 cases v<;>first|(cases h;rfl)|cases h
theorem eBa{α:Type}{P:Prop}{f:Value->Option α}{x v:Value}{k1:α->α->Mv}{k2:Mv}(h1:∀ x1 x2,f x=some x1->f v=some x2->(k1 x1 x2).ok prog w A E K cn cs L a ccd cl hp g d o P)(h2:k2.ok prog w A E K cn cs L a ccd cl hp g d o P):
 (two f x v k1 k2).ok prog w A E K cn cs L a ccd cl hp g d o P:=by
 show Mv.ok _ _ _ _ _ _ _ _ _ _ _ _ _ _ _ _ (match f x,f v with|some x1,some x2=>k1 x1 x2|_,_=>k2)
 cases hx:f x with
 |none=>exact h2
 |some x1=>
  cases hv:f v with
  |none=>exact h2
  |some x2=>exact h1 x1 x2 hx hv
theorem joa(op:CmpOp)(x v:Value):(l1a prog w A E K cn cs L a ccd cl x v k t op).ok prog w A E K cn cs L a ccd cl hp g d o (wpAny (model prog w) A (compareOp op x v) (den prog w A E K cn cs L a ccd cl k) E ⟨hp,g,d,t,o⟩):=by
 have I:∀ {Q:Prop},Q->Q:=fun h=>h
 cases op with
 |Eq=>
  refine eBa (f:=i0a) (fun a b ha hb h=> ?_) (eBa (f:=cba) (fun a b ha hb h=> ?_) I)
  ·obtain⟨_,rfl⟩:=dLa ha;obtain⟨_,rfl⟩:=dLa hb;exact PyProof.Rows.eq_str h
  ·obtain⟨_,rfl⟩:=bfa ha;obtain⟨_,rfl⟩:=bfa hb;exact PyProof.Rows.eq_int h
 |NotEq=>
  refine eBa (f:=i0a) (fun a b ha hb h=> ?_) (eBa (f:=cba) (fun a b ha hb h=> ?_) I)
  ·obtain⟨_,rfl⟩:=dLa ha;obtain⟨_,rfl⟩:=dLa hb;exact PyProof.Rows.ne_str h
  ·obtain⟨_,rfl⟩:=bfa ha;obtain⟨_,rfl⟩:=bfa hb;exact PyProof.Rows.ne_int h
 |Lt=>
  refine eBa (f:=cba) (fun a b ha hb h=> ?_) I
  obtain⟨_,rfl⟩:=bfa ha;obtain⟨_,rfl⟩:=bfa hb;exact PyProof.Rows.lt_int h
 |Gt=>
  refine eBa (f:=cba) (fun a b ha hb h=> ?_) I
  obtain⟨_,rfl⟩:=bfa ha;obtain⟨_,rfl⟩:=bfa hb;exact PyProof.Rows.gt_int h
 |Is=>
  show Mv.ok _ _ _ _ _ _ _ _ _ _ _ _ _ _ _ _ (match isN v,isN x with|some true,some b=>_|_,_=>_)
  cases hv:isN v with
  |none=>exact I
  |some c=>
   cases c with
   |false=>exact I
   |true=>
    cases hx:isN x with
    |none=>exact I
    |some b=>
     have e:=eq_of_beq (gWa hv)
     subst e
     exact fun h=>is_none (by rw [gWa hx];exact h)
 |IsNot=>
  show Mv.ok _ _ _ _ _ _ _ _ _ _ _ _ _ _ _ _ (match isN v,isN x with|some true,some b=>_|_,_=>_)
  cases hv:isN v with
  |none=>exact I
  |some c=>
   cases c with
   |false=>exact I
   |true=>
    cases hx:isN x with
    |none=>exact I
    |some b=>
     have e:=eq_of_beq (gWa hv)
     subst e
     exact fun h=>isNot_none (by rw [gWa hx];exact h)
 |_=>exact I
theorem jta(op:Operator)(x v:Value):(l6a prog w A E K cn cs L a ccd cl x v k t op).ok prog w A E K cn cs L a ccd cl hp g d o (wpAny (model prog w) A (binaryOp op x v) (den prog w A E K cn cs L a ccd cl k) E ⟨hp,g,d,t,o⟩):=by
 show Mv.ok _ _ _ _ _ _ _ _ _ _ _ _ _ _ _ _ (match cba x,cba v,op with|some a,some b, .Add=>_|some a,some b, .Sub=>_|_,_,_=>_)
 cases hx:cba x with
 |none=>exact fun h=>h
 |some a=>
  cases hv:cba v with
  |none=>exact fun h=>h
  |some b=>
   obtain⟨_,rfl⟩:=bfa hx
   obtain⟨_,rfl⟩:=bfa hv
   cases op with
   |Add=>exact fun h=>PyProof.Rows.add_int (s:=⟨hp,g,d,t,o⟩) h
   |Sub=>exact fun h=>PyProof.Rows.sub_int (s:=⟨hp,g,d,t,o⟩) h
   |_=>exact fun h=>h
theorem jna(op:UnaryOp)(v:Value):(lYa prog w A E K cn cs L a ccd cl v k t op).ok prog w A E K cn cs L a ccd cl hp g d o (wpAny (model prog w) A (unaryOp op v) (den prog w A E K cn cs L a ccd cl k) E ⟨hp,g,d,t,o⟩):=by
 show Mv.ok _ _ _ _ _ _ _ _ _ _ _ _ _ _ _ _ (match cba v,op with|some a, .USub=>_|_,_=>_)
 cases hv:cba v with
 |none=>exact fun h=>h
 |some b=>
  obtain⟨_,rfl⟩:=bfa hv
  cases op with
  |USub=>exact fun h=>PyProof.Rows.neg_int (s:=⟨hp,g,d,t,o⟩) h
  |_=>exact fun h=>h
theorem jra{p:Pos}{e:List Expr}(b:Bool)(hb:axa e=b)(v:Value):(l4a prog w A E K cn cs L a ccd cl p k t e b v).ok prog w A E K cn cs L a ccd cl hp g d o (wpAny (model prog w) A (callWith p v [] (backTo p (starEach e (envX cn cs L a ccd cl))) []) (den prog w A E K cn cs L a ccd cl k) E ⟨hp,g,d,t,o⟩):=by
 cases b with
 |false=>cases v<;>exact fun h=>h
 |true=>
  cases v with
  |type T=>exact fun h=>iSa (K:=K) hb (fun _ _=>⟨.machine, .inr (.inl rfl),Looks.now⟩) h
  |builtin T=>exact fun h=>iSa (K:=K) hb (fun _ _=>⟨.machine, .inr (.inl rfl),Looks.now⟩) h
  |_=>exact fun h=>h
theorem h9a{x i:Expr}{ob:Value}(e:List (Option Expr))(dn:List Value):(kla prog w A E K cn cs L a ccd cl x i ob k t dn e).ok prog w A E K cn cs L a ccd cl hp g d o (((Cfg.pt x i ob dn e k).out prog w A E K cn cs L a ccd cl t).holds prog w A E hp g d o):=by
 cases e with
 |nil=>
  have z:∀ {vs:List Value} {s:Shared},fma prog w A E x i ob (den prog w A E K cn cs L a ccd cl k) vs s->fma prog w A E x i ob (den prog w A E K cn cs L a ccd cl k) (vs++ []) s:=fun h=>by rw [List.append_nil];exact h
  rcases dn with _|⟨s,_|⟨u,_|⟨l,_|_⟩⟩⟩<;>exact fun h=>z h
 |cons q r=>
  cases q with
  |none=>
   intro h
   refine evalPart_none_step ?_
   have:mia prog w A E cn cs L a ccd cl r (fun vs s'=>fma prog w A E x i ob (den prog w A E K cn cs L a ccd cl k) ((Value.none::dn).reverse++vs) s') ⟨hp,g,d,t,o⟩:=h
   simp only [List.reverse_cons,List.append_assoc] at this
   exact this
  |some q=>exact fun h=>evalPart_some_step h
theorem h8a(F:Fr g0 L hp m)(X:K.In hp)(v:Value):∀ k:Ks,(kka prog w A E K cn cs L a ccd cl v t k).ok prog w A E K cn cs L a ccd cl hp g d o (den prog w A E K cn cs L a ccd cl k v ⟨hp,g,d,t,o⟩):=by
 intro k
 cases k with
 |bol Q=>cases v<;>first|exact fun h=>wpAny_truthy_bool h|exact fun h=>h
 |arg h dn e p k=>
  cases e with
  |nil=>
   intro q _
   refine args_nil ⟨?_,q⟩
   cases h<;>first|exact X|trivial
  |cons e r=>
   intro q hpl
   refine eja hpl (wpAny_mono q (fun v s₁ h₁=>wpAny_mono (h₁ (ata hpl).2) (fun vs s₂ h₂=>⟨h₂.1, ?_⟩) fun _ _ x=>x) fun _ _ x=>x)
   have:=h₂.2
   rw [List.reverse_cons,List.append_assoc] at this
   exact this
 |sw x y dn e r f=>
  cases e with
  |nil=>
   rcases dn with _|⟨u,_|⟨_,_⟩⟩<;>exact fun q _=>args_nil q
  |cons e es=>
   intro q hpl
   have q:wpAny (model prog w) A (eval e (envX cn cs L a ccd cl)) (den prog w A E K cn cs L a ccd cl (.sw x y (v::dn) es r f)) E ⟨hp,g,d,t,o⟩:=by
    rcases dn with _|⟨u,_|⟨_,_⟩⟩<;>exact q
   refine eja hpl (wpAny_mono q (fun v s₁ h₁=>wpAny_mono (h₁ (ata hpl).2) (fun vs s₂ h₂=> ?_) fun _ _ x=>x) fun _ _ x=>x)
   rw [List.reverse_cons,List.append_assoc] at h₂
   exact h₂
 |fn e p k=>exact jra _ rfl v
 |sb1 x i k=>cases i<;>first|exact fun h=>h|exact fun h=>wpAny_Slice h
 |sl x i ob dn e k=>
  intro q
  have:mia prog w A E cn cs L a ccd cl e (fun vs s'=>fma prog w A E x i ob (den prog w A E K cn cs L a ccd cl k) ((v::dn).reverse++vs) s') ⟨hp,g,d,t,o⟩:=q
  simp only [List.reverse_cons,List.append_assoc] at this
  exact this
 |bn2 op x k=>exact jta op x v
 |un op k=>exact jna op v
 |cm2 op x k=>exact joa op x v
 |_=>exact fun h=>h
theorem f2a{op:BoolOp}{e:Expr}{r:List Expr}{Q:Bool->Shared->Prop}{s:Shared}(h:wpAny (model prog w) A (isTrue e (envX cn cs L a ccd cl) (eval e (envX cn cs L a ccd cl))) (lza prog w A E cn cs L a ccd cl op r Q) E s):
 wpAny (model prog w) A (allTrue op (e::r) (envX cn cs L a ccd cl)) Q E s:=by
 cases op
 ·exact wpAny_allTrue_And_cons h
 ·exact wpAny_allTrue_Or_cons h
theorem ida{Q:Bool->Shared->Prop}{op:BoolOp}(es:List Expr):(kpa prog w A E cn cs L a ccd cl op Q t es).ok prog w A E K cn cs L a ccd cl hp g d o (wpAny (model prog w) A (allTrue op es (envX cn cs L a ccd cl)) Q E ⟨hp,g,d,t,o⟩):=by
 rcases es with _|⟨x,_|⟨y,r⟩⟩
 ·exact trivial
 ·intro q
  refine f2a (wpAny_mono q (fun b s h=> ?_) fun _ _ x=>x)
  cases op<;>cases b<;>first|exact wpAny_allTrue_And_nil h|exact wpAny_allTrue_Or_nil h|exact h
 ·exact fun q=>f2a q
theorem iaa{Q:Bool->Shared->Prop}(e:Expr):(kma Q t e).ok prog w A E K cn cs L a ccd cl hp g d o (wpAny (model prog w) A (isTrue e (envX cn cs L a ccd cl) (eval e (envX cn cs L a ccd cl))) Q E ⟨hp,g,d,t,o⟩):=by
 cases e with
 |Name x p=>exact fun q=>wpAny_isTrue_value q
 |Call f es ks p=>exact fun q=>wpAny_isTrue_value q
 |Subscript v i p=>exact fun q=>wpAny_isTrue_value q
 |Attribute v i p=>exact fun q=>wpAny_isTrue_value q
 |UnaryOp op x p=>cases op<;>first|exact fun q=>wpAny_isTrue_Not q|exact trivial
 |BoolOp op vs p=>exact fun q=>wpAny_isTrue_BoolOp q
 |Compare l ops rs p=>exact eFa ops rs fun op r e1 e2 hm h=>by subst e1 e2;exact wpAny_isTrue_Compare1 h hm
 |_=>exact trivial
theorem jka{x y:Expr}{n:Nat}{env:Env}(hb:dda y=true):swapsWith y (some x) n env=pure false:=by
 cases y with
 |ListComp _ _ _ _=>exact Bool.noConfusion (show false=true from hb)
 |SetComp _ _ _ _=>exact Bool.noConfusion (show false=true from hb)
 |DictComp _ _ _ _ _=>exact Bool.noConfusion (show false=true from hb)
 |_=>exact rfl
theorem h5a{y:Expr}{n:Nat}{env:Env}(hb:dda y=true):swapsWith y none n env=pure false:=by
 cases y with
 |ListComp _ _ _ _=>exact Bool.noConfusion (show false=true from hb)
 |SetComp _ _ _ _=>exact Bool.noConfusion (show false=true from hb)
 |DictComp _ _ _ _ _=>exact Bool.noConfusion (show false=true from hb)
 |_=>exact rfl
section
variable {f:Kf} {r:List Stmt}
theorem dRa{st:Stmt}:(stF prog w A E cn cs L a ccd cl f t st r).ok prog w A E K cn cs L a ccd cl hp g d o (wpAny (model prog w) A (execs (st::r) (envX cn cs L a ccd cl)) (c6a prog w A E cn cs L a ccd cl f) E ⟨hp,g,d,t,o⟩):=fun q=>wpAny_execs_cons q
theorem jua{e:Expr}{p:Pos}(b:Bool)(hb:dda e=b)(ts:List Expr):
 (l8a prog w A E cn cs L a ccd cl f t r e p b ts).ok prog w A E K cn cs L a ccd cl hp g d o (wpAny (model prog w) A (execs (.Assign ts e p::r) (envX cn cs L a ccd cl)) (c6a prog w A E cn cs L a ccd cl f) E ⟨hp,g,d,t,o⟩):=by
 cases b with
 |false=>exact dRa
 |true=>
  rcases ts with _|⟨x,_|_⟩
  ·exact dRa
  ·cases x with
   |Name x q=>exact fun h=>wpAny_execs_cons (wpAny_Assign_Name h (jka hb))
   |_=>exact dRa
  ·exact dRa
theorem g6a{y z:List Stmt}{s:Shared}{b:Expr}{p:Pos}(q:wpAny (model prog w) A (isTrue b (envX cn cs L a ccd cl) (eval b (envX cn cs L a ccd cl))) (kwa prog w A E cn cs L a ccd cl y z (.seq r f)) E s):
 wpAny (model prog w) A (execs (.If b y z p::r) (envX cn cs L a ccd cl)) (c6a prog w A E cn cs L a ccd cl f) E s:=wpAny_execs_cons (wpAny_If q)
theorem g5a{x:Flow}{s:Shared}(h:c6a prog w A E cn cs L a ccd cl f x s):c6a prog w A E cn cs L a ccd cl (.seq [] f) x s:=by
 cases x<;>first|exact wpAny_execs_nil h|exact h
theorem jqa{y z:List Stmt}{b:Expr}{p:Pos}(c:Bool):(l2a prog w A E cn cs L a ccd cl f t b y z p c r).ok prog w A E K cn cs L a ccd cl hp g d o (wpAny (model prog w) A (execs (.If b y z p::r) (envX cn cs L a ccd cl)) (c6a prog w A E cn cs L a ccd cl f) E ⟨hp,g,d,t,o⟩):=by
 cases c with
 |true=>cases r<;>exact dRa
 |false=>
  cases r with
  |nil=>
   intro q
   refine g6a (wpAny_mono q (fun b s h=> ?_) fun _ _ x=>x)
   cases b
   ·exact wpAny_mono (h:wpAny _ _ _ _ _ _) (fun _ _ h=>g5a h) fun _ _ x=>x
   ·exact wpAny_mono (h:wpAny _ _ _ _ _ _) (fun _ _ h=>g5a h) fun _ _ x=>x
  |cons s1 r=>exact fun q=>g6a q
theorem jma(hc:cs.kind= .function){e:Expr}{p:Pos}(b:Bool)(hb:dda e=b):(lXa prog w A E cn cs L a ccd cl f t r e p b).ok prog w A E K cn cs L a ccd cl hp g d o (wpAny (model prog w) A (execs (.Expr e p::r) (envX cn cs L a ccd cl)) (c6a prog w A E cn cs L a ccd cl f) E ⟨hp,g,d,t,o⟩):=by
 cases b with
 |false=>exact dRa
 |true=>
  refine fun q=>wpAny_execs_cons (wpAny_Expr_any q ?_ (h5a hb))
  show((cs.kind==ScopeKind.module)&&_)=false
  rw [hc];rfl
theorem iba(hc:cs.kind= .function)(ss:List Stmt):(kna prog w A E cn cs L a ccd cl f t ss).ok prog w A E K cn cs L a ccd cl hp g d o (wpAny (model prog w) A (execs ss (envX cn cs L a ccd cl)) (c6a prog w A E cn cs L a ccd cl f) E ⟨hp,g,d,t,o⟩):=by
 cases ss with
 |nil=>exact fun q=>wpAny_execs_nil q
 |cons st r=>
  cases st with
  |Return e p=>cases e with
   |none=>exact fun q=>wpAny_execs_cons (wpAny_Return_none q)
   |some e=>exact fun q=>wpAny_execs_cons (wpAny_Return_some q)
  |Expr e p=>exact jma hc _ rfl
  |Assign ts e p=>exact jua _ rfl ts
  |If b y z p=>exact jqa _
  |_=>exact dRa
end
theorem kPa(F:Fr g0 L hp m)(X:K.In hp)(hc:cs.kind= .function)(c:Cfg):
 (step prog w A E K cn cs L a ccd cl m c t).ok prog w A E K cn cs L a ccd cl hp g d o ((c.out prog w A E K cn cs L a ccd cl t).holds prog w A E hp g d o):=by
 cases c with
 |ev e k=>exact ica F hc e
 |rt v k=>exact h8a F X v k
 |rv h dn acc k=>
  cases dn with
  |nil=>cases h<;>exact fun q=>q
  |cons x dn=>
   intro q
   show wpAny _ _ (h.sem ((x::dn).reverse++acc)) _ _ _
   rw [List.reverse_cons,List.append_assoc]
   exact q
 |cw f dn e p k=>
  show Mv.ok _ _ _ _ _ _ _ _ _ _ _ _ _ _ _ _ (match axa e,e with|true, []=>_|true,_::_=>_|_,_=>_)
  cases hb:axa e with
  |false=>cases e<;>exact trivial
  |true=>
   cases e with
   |nil=>exact fun q=>args_nil ⟨X,q⟩
   |cons e r=>exact fun q=>eja hb (wpAny_mono q (fun v s₁ h₁=>wpAny_mono (h₁ (ata hb).2) (fun vs s₂ h₂=>h₂) fun _ _ x=>x) fun _ _ x=>x)
 |pt x i ob dn e k=>exact h9a e dn
 |is e Q=>exact iaa e
 |al op e Q=>exact ida e
 |ex ss f=>exact iba hc ss
 |fl x f=>cases f<;>cases x<;>exact fun q=>q
end
theorem bsa(F:Fr g0 L hp m)(X:K.In hp)(hc:cs.kind= .function):∀ (n:Nat) (c:Cfg) (t:Tok),(run prog w A E K cn cs L a ccd cl m n c t).holds prog w A E hp g d o->(c.out prog w A E K cn cs L a ccd cl t).holds prog w A E hp g d o
 |0,_,_,h=>h
 |n+1,c,t,h=>by
  have s:=kPa (prog:=prog) (w:=w) (A:=A) (E:=E) (cn:=cn) (a:=a) (ccd:=ccd) (cl:=cl) (g:=g) (d:=d) (o:=o) (t:=t) F X hc c
  unfold run at h
  revert s h
  cases step prog w A E K cn cs L a ccd cl m c t with
  |go c' t'=>exact fun s h=>s (bsa F X hc n c' t' h)
  |stop x=>exact fun s h=>s h
  |stay=>exact fun _ h=>h
end
end Mine
set_option linter.all false
namespace Mine
theorem ar28:True:=by
 k_with "ar28" =>with_reducible first|exact o0a ‹_›
 trivial
inductive lBa(M:Model)(A:Around)(E:Value->Shared->Prop){α:Type}:GK α->(α->Shared->Prop)->Shared->Prop
 |run {x:Sem α} {Q:α->Shared->Prop} {s:Shared} (h:wpAny M A x Q E s):lBa M A E (.run x) Q s
 |val {x:α} {Q:α->Shared->Prop} {s:Shared} (h:Q x s):lBa M A E (.val x) Q s
noncomputable def Out.hold(prog:Program)(w:World)(A:Around)(E:Value->Shared->Prop)(hp:Heap)(g:Array GenState)(d:Drawn)(o:OsState):Out->Prop
 | .mk _ k Q t=>lBa (model prog w) A E k Q ⟨hp,g,d,t,o⟩
 | .no=>False
theorem a4a{prog:Program}{w:World}{A:Around}{E:Value->Shared->Prop}{hp:Heap}{g:Array GenState}{d:Drawn}{o:OsState}{x:Out}(h:x.hold prog w A E hp g d o):x.holds prog w A E hp g d o:=by
 cases x with
 |mk α k Q t=>cases h with
  |run h=>exact h
  |val h=>exact h
 |no=>exact h
theorem qla{M:Model}{A:Around}{E:Value->Shared->Prop}{α:Type}{Q:α->Shared->Prop}{x:α}{s:Shared}(h:Q x s):Gen M A E (.val x) Q s:=h
theorem lma{Q:Bool->Shared->Prop}{b:Bool}{s:Shared}(h:Q (!b) s):mKa Q b s:=h
theorem loa{prog:Program}{w:World}{A:Around}{E:Value->Shared->Prop}{cn:Str}{cs:Scope}{L a:Addr}{ccd:Value}{cl:List (Str×Addr)}{b e:List Stmt}{f:Kf}{c:Bool}{s:Shared}(h:if c=true then wpAny (model prog w) A (execs b (envX cn cs L a ccd cl)) (c6a prog w A E cn cs L a ccd cl f) E s else wpAny (model prog w) A (execs e (envX cn cs L a ccd cl)) (c6a prog w A E cn cs L a ccd cl f) E s):kwa prog w A E cn cs L a ccd cl b e f c s:=h
theorem lka{prog:Program}{w:World}{A:Around}{E:Value->Shared->Prop}{cn:Str}{cs:Scope}{L a:Addr}{ccd:Value}{cl:List (Str×Addr)}{K:Frag}{b e:Expr}{k:Ks}{c:Bool}{s:Shared}(h:if c=true then wpAny (model prog w) A (eval b (envX cn cs L a ccd cl)) (den prog w A E K cn cs L a ccd cl k) E s else wpAny (model prog w) A (eval e (envX cn cs L a ccd cl)) (den prog w A E K cn cs L a ccd cl k) E s):mJa prog w A E K cn cs L a ccd cl b e k c s:=h
theorem jYa{prog:Program}{w:World}{A:Around}{E:Value->Shared->Prop}{cn:Str}{cs:Scope}{L a:Addr}{ccd:Value}{cl:List (Str×Addr)}{r:List Expr}{Q:Bool->Shared->Prop}{c:Bool}{s:Shared}(h:if c=true then wpAny (model prog w) A (allTrue .And r (envX cn cs L a ccd cl)) Q E s else Q false s):lza prog w A E cn cs L a ccd cl .And r Q c s:=h
theorem lpa{prog:Program}{w:World}{A:Around}{E:Value->Shared->Prop}{cn:Str}{cs:Scope}{L a:Addr}{ccd:Value}{cl:List (Str×Addr)}{r:List Expr}{Q:Bool->Shared->Prop}{c:Bool}{s:Shared}(h:if c=true then Q true s else wpAny (model prog w) A (allTrue .Or r (envX cn cs L a ccd cl)) Q E s):lza prog w A E cn cs L a ccd cl .Or r Q c s:=h
section
variable {prog:Program} {w:World} {A:Around} {E:Value->Shared->Prop} {K:Frag} {cn:Str} {cs:Scope} {L a:Addr} {ccd:Value} {cl:List (Str×Addr)} {g:Array GenState} {d:Drawn} {o:OsState} {g0:Heap} (hc:cs.kind= .function) {m:Str->Option Value}
include hc
theorem gX{Q:Flow->Shared->Prop}{ss:List Stmt}{t:Tok}{hp:Heap}(X:K.In g0)(F:Fr g0 L hp m)(h:(run prog w A E K cn cs L a ccd cl m 400 (.ex ss (.q Q)) t).hold prog w A E hp g d o):wpAny (model prog w) A (execs ss (envX cn cs L a ccd cl)) Q E ⟨hp,g,d,t,o⟩:=bsa F (X.keeps F.keep) hc _ (.ex ss (.q Q)) t (a4a h)
theorem gXk{f:Kf}{ss:List Stmt}{t:Tok}{hp:Heap}(X:K.In g0)(F:Fr g0 L hp m)(h:(run prog w A E K cn cs L a ccd cl m 400 (.ex ss f) t).hold prog w A E hp g d o):wpAny (model prog w) A (execs ss (envX cn cs L a ccd cl)) (c6a prog w A E cn cs L a ccd cl f) E ⟨hp,g,d,t,o⟩:=bsa F (X.keeps F.keep) hc _ (.ex ss f) t (a4a h)
theorem gE{Q:Value->Shared->Prop}{e:Expr}{t:Tok}{hp:Heap}(X:K.In g0)(F:Fr g0 L hp m)(h:(run prog w A E K cn cs L a ccd cl m 400 (.ev e (.val Q)) t).hold prog w A E hp g d o):wpAny (model prog w) A (eval e (envX cn cs L a ccd cl)) Q E ⟨hp,g,d,t,o⟩:=bsa F (X.keeps F.keep) hc _ (.ev e (.val Q)) t (a4a h)
theorem gEk{k:Ks}{e:Expr}{t:Tok}{hp:Heap}(X:K.In g0)(F:Fr g0 L hp m)(h:(run prog w A E K cn cs L a ccd cl m 400 (.ev e k) t).hold prog w A E hp g d o):wpAny (model prog w) A (eval e (envX cn cs L a ccd cl)) (den prog w A E K cn cs L a ccd cl k) E ⟨hp,g,d,t,o⟩:=bsa F (X.keeps F.keep) hc _ (.ev e k) t (a4a h)
theorem gI{Q:Bool->Shared->Prop}{e:Expr}{t:Tok}{hp:Heap}(X:K.In g0)(F:Fr g0 L hp m)(h:(run prog w A E K cn cs L a ccd cl m 400 (.is e Q) t).hold prog w A E hp g d o):wpAny (model prog w) A (isTrue e (envX cn cs L a ccd cl) (eval e (envX cn cs L a ccd cl))) Q E ⟨hp,g,d,t,o⟩:=bsa F (X.keeps F.keep) hc _ (.is e Q) t (a4a h)
theorem gAl{op:BoolOp}{Q:Bool->Shared->Prop}{e:List Expr}{t:Tok}{hp:Heap}(X:K.In g0)(F:Fr g0 L hp m)(h:(run prog w A E K cn cs L a ccd cl m 400 (.al op e Q) t).hold prog w A E hp g d o):wpAny (model prog w) A (allTrue op e (envX cn cs L a ccd cl)) Q E ⟨hp,g,d,t,o⟩:=bsa F (X.keeps F.keep) hc _ (.al op e Q) t (a4a h)
theorem gD{k:Ks}{v:Value}{t:Tok}{hp:Heap}(X:K.In g0)(F:Fr g0 L hp m)(h:(run prog w A E K cn cs L a ccd cl m 400 (.rt v k) t).hold prog w A E hp g d o):den prog w A E K cn cs L a ccd cl k v ⟨hp,g,d,t,o⟩:=bsa F (X.keeps F.keep) hc _ (.rt v k) t (a4a h)
theorem gF{f:Kf}{v:Flow}{t:Tok}{hp:Heap}(X:K.In g0)(F:Fr g0 L hp m)(h:(run prog w A E K cn cs L a ccd cl m 400 (.fl v f) t).hold prog w A E hp g d o):c6a prog w A E cn cs L a ccd cl f v ⟨hp,g,d,t,o⟩:=bsa F (X.keeps F.keep) hc _ (.fl v f) t (a4a h)
theorem gN{f:Kf}{r:List Stmt}{u:Unit}{t:Tok}{hp:Heap}(X:K.In g0)(F:Fr g0 L hp m)(h:(run prog w A E K cn cs L a ccd cl m 400 (.ex r f) t).hold prog w A E hp g d o):kva prog w A E cn cs L a ccd cl r f u ⟨hp,g,d,t,o⟩:=bsa F (X.keeps F.keep) hc _ (.ex r f) t (a4a h)
theorem gIf{r:List Stmt}{f:Kf}{b:Expr}{y z:List Stmt}{p:Pos}{t:Tok}{hp:Heap}(X:K.In g0)(F:Fr g0 L hp m)(h:(run prog w A E K cn cs L a ccd cl m 400 (.is b (kwa prog w A E cn cs L a ccd cl y z (.seq r f))) t).hold prog w A E hp g d o):wpAny (model prog w) A (exec (.If b y z p) (envX cn cs L a ccd cl)) (c6a prog w A E cn cs L a ccd cl (.seq r f)) E ⟨hp,g,d,t,o⟩:=wpAny_If (bsa F (X.keeps F.keep) hc _ (.is b (kwa prog w A E cn cs L a ccd cl y z (.seq r f))) t (a4a h))
theorem gS{r:List Stmt}{f:Kf}{x y:Str}{p q tp vp pos:Pos}{e1 e2:Expr}{j k:Nat}{t:Tok}{hp:Heap}(X:K.In g0)(F:Fr g0 L hp m)(hs:swapsWithSole [.Tuple [.Name x p, .Name y q] j tp] (.Tuple [e1,e2] k vp) pos.line (envX cn cs L a ccd cl)=pure false)
 (hw:swappedStores [.Tuple [.Name x p, .Name y q] j tp] (.Tuple [e1,e2] k vp) (envX cn cs L a ccd cl)=pure (some [x,y])) (he:axa [e1,e2]=true) (h:(run prog w A E K cn cs L a ccd cl m 400 (.ev e1 (.sw x y [] [e2] r f)) t).hold prog w A E hp g d o):
 wpAny (model prog w) A (exec (.Assign [.Tuple [.Name x p, .Name y q] j tp] (.Tuple [e1,e2] k vp) pos) (envX cn cs L a ccd cl)) (c6a prog w A E cn cs L a ccd cl (.seq r f)) E ⟨hp,g,d,t,o⟩:=by
 have h:=bsa F (X.keeps F.keep) hc _ (.ev e1 (.sw x y [] [e2] r f)) t (a4a h)
 refine Assign_Tuple_swapped (Tuple_ (eja he (wpAny_mono h (fun v s₁ h₁=> ?_) fun _ _ x=>x))) hs hw
 rw [fBa (q:=⟨0,0,0,0⟩) (ata he).2]
 exact wpAny_mono (h₁ (ata he).2) (fun vs s₂ h₂=>h₂) fun _ _ x=>x
theorem gG {k:Ks} {p:Pos} {x:Str} {f:Value} {e:List Expr} {pos:Pos} {pg:Program} {loose:List Str} {mean:ExcName->Option Value} {mg mb:Str->Option Value} {t:Tok} {hp:Heap} (X:K.In g0) (F:Fr g0 L hp m) (T:Top pg loose mean mg mb g0) (hx:(envX cn cs L a ccd cl).kindOf x=some .globalImplicit) (hd:(x==("__debug__" :Str))=false)
 (e1:nsIn K mainGlobals x=some (some f)) (hk:keepIn K f=true) (he:axa e=true) (h:(run prog w A E K cn cs L a ccd cl m 400 (.cw f [] e p k) t).hold prog w A E hp g d o):
 wpAny (model prog w) A (eval (.Name x pos) (envX cn cs L a ccd cl)) (den prog w A E K cn cs L a ccd cl (.fn e p k)) E ⟨hp,g,d,t,o⟩:=
 nameX_K (s:=⟨hp,g,d,t,o⟩) F X (topRead_of T) e1 (iSa he (keeps_K hk) (bsa F (X.keeps F.keep) hc _ (.cw f [] e p k) t (a4a h))) hc hx hd
theorem gM{k:Ks}{p:Pos}{C f:Addr}{n:Str}{e:List Expr}{pl:Sem Bool}{x:Addr}{ox:Obj}{es:List DictEntry}{n':Nat}{t:Tok}{hp:Heap}(X:K.In g0)(F:Fr g0 L hp m)(I:InstAt hp x ox C (some (dictOf es n')))(hg:plainGet K C n=true)
 (hf:findIn K (.ref C) n=some (some (.ref f))) (ht:isFn K (.ref f)=true) (hl:getL n es=some none) (hk:keepIn K (.ref f)=true) (he:axa e=true) (h:(run prog w A E K cn cs L a ccd cl m 400 (.cw (.ref f) [.ref x] e p k) t).hold prog w A E hp g d o):
 wpAny (model prog w) A (getMethod (.ref x) n pl) (lna prog w A E cn cs L a ccd cl e p (den prog w A E K cn cs L a ccd cl k)) E ⟨hp,g,d,t,o⟩:=
 method_inst (s:=⟨hp,g,d,t,o⟩) F X I hg hf ht hl (iSa he (keeps_K hk) (bsa F (X.keeps F.keep) hc _ (.cw (.ref f) [.ref x] e p k) t (a4a h)))
theorem gB{k:Ks}{p:Pos}{e:List Expr}{f:String}{x:Value}{t:Tok}{hp:Heap}(X:K.In g0)(F:Fr g0 L hp m)(he:axa e=true)(h:(run prog w A E K cn cs L a ccd cl m 400 (.cw (.builtin f) [x] e p k) t).hold prog w A E hp g d o):
 lna prog w A E cn cs L a ccd cl e p (den prog w A E K cn cs L a ccd cl k) (.builtin f, [x]) ⟨hp,g,d,t,o⟩:=
 iSa (K:=K) he (fun _ _=>⟨.machine, .inr (.inl rfl),Looks.now⟩) (bsa F (X.keeps F.keep) hc _ (.cw (.builtin f) [x] e p k) t (a4a h))
theorem gT {k:Ks} {p:Pos} {x:Str} {f:Value} {e:List Expr} {pos:Pos} {pg:Program} {loose:List Str} {mean:ExcName->Option Value} {mg mb:Str->Option Value} {t:Tok} {hp:Heap} (X:K.In g0) (F:Fr g0 L hp m) (T:Top pg loose mean mg mb g0) (hx:(envX cn cs L a ccd cl).kindOf x=some .globalImplicit) (hd:(x==("__debug__" :Str))=false)
 (e1:nsIn K mainGlobals x=some none) (hv:bootBuiltins x=some f) (hn:(x==("__name__" :Str))=false) (h:(run prog w A E K cn cs L a ccd cl m 400 (.rt f (.fn e p k)) t).hold prog w A E hp g d o):
 wpAny (model prog w) A (eval (.Name x pos) (envX cn cs L a ccd cl)) (den prog w A E K cn cs L a ccd cl (.fn e p k)) E ⟨hp,g,d,t,o⟩:=
 nameX_B (s:=⟨hp,g,d,t,o⟩) F X (topRead_of T) e1 hv (fun e=>by rw [e] at hn;simp at hn) (bsa F (X.keeps F.keep) hc _ (.rt f (.fn e p k)) t (a4a h)) hc hx hd
end
section
variable {M:Model} {prog:Program} {w:World} {A:Around} {E:Value->Shared->Prop} {gn0:Array GenState} {dw0:Drawn} {os0:OsState} {g0:Heap} {L a:Addr} {cn:Str} {cs:Scope} {ccd:Value} {cl:List (Str×Addr)} {m:Str->Option Value} {tk0:Nat} {hp0:Heap} {news:List (Addr×Obj)}
theorem jHa{Q:Value->Shared->Prop}{vs:List Value}(F:Fr g0 L hp0 m)(N:News g0 L hp0 news)
 (h:∀ l h',Fr g0 L h' m->News g0 L h' ((l,listOf vs.toArray 0)::news)->(∀ p∈news,p.1<l)->Q (.ref l) ⟨h',gn0,dw0,tk0,os0⟩) (hz:Nat.ble vs.length 1000=true):wpAny M A (newList vs) Q E ⟨hp0,gn0,dw0,tk0,os0⟩:=
 newList_K (s:=⟨hp0,gn0,dw0,tk0,os0⟩) F N h (by have:=Nat.le_of_ble_eq_true hz;unfold sizeLine;omega)
theorem ita{Q:Value->Shared->Prop}{vs:List Value}(F:Fr g0 L hp0 m)(N:News g0 L hp0 news)
 (h:∀ D h',Fr g0 L h' m->News g0 L h' ((D,({cls:= .type "tuple",data:= .seq vs.toArray}:Obj))::news)->(∀ p∈news,p.1<D)->Q (.ref D) ⟨h',gn0,dw0,tk0,os0⟩) (hz:Nat.ble vs.length 1000=true):wpAny M A (newTuple vs) Q E ⟨hp0,gn0,dw0,tk0,os0⟩:=
 kup_newTuple (s:=⟨hp0,gn0,dw0,tk0,os0⟩) F N h (by have:=Nat.le_of_ble_eq_true hz;unfold sizeLine;omega)
theorem gga{Q:Unit->Shared->Prop}{x:Str}{v:Value}(F:Fr g0 L hp0 m)(N:News g0 L hp0 news)
 (h:∀ h',Fr g0 L h' (fun y=>if y=x then some v else m y)->News g0 L h' news->Q () ⟨h',gn0,dw0,tk0+1,os0⟩)
 (hk:cs.kind= .function) (hx:(envX cn cs L a ccd cl).kindOf x=some .local):wpAny M A (storeName (envX cn cs L a ccd cl) x v) Q E ⟨hp0,gn0,dw0,tk0,os0⟩:=
 storeX_L (s:=⟨hp0,gn0,dw0,tk0,os0⟩) F N h hk hx
theorem p9a{k:Unit->Shared->Prop}{x y:Str}{u v:Value}(hh:A.handled=none)(F:Fr g0 L hp0 m)(N:News g0 L hp0 news)
 (h:∀ h',Fr g0 L h' (fun z=>if z=x then some u else if z=y then some v else m z)->News g0 L h' news->k () ⟨h',gn0,dw0,tk0+1+1,os0⟩)
 (hk:cs.kind= .function) (hx:(envX cn cs L a ccd cl).kindOf x=some .local) (hy:(envX cn cs L a ccd cl).kindOf y=some .local):
 wpAny (model prog w) A (newTuple [u,v]) (mha prog w A E cn cs L a ccd cl x y k) E ⟨hp0,gn0,dw0,tk0,os0⟩:=
 ita F N (fun D h1 F1 N1 _=>unpackItemsN_ (s:=⟨h1,gn0,dw0,tk0,os0⟩) F1 N1 (N1.isTup (.head _)) hh rfl fun h2 F2 N2=>
  assignInOrder_cons (bindName_ (gga F2 N2 (fun h3 F3 N3=>assignInOrder_cons (bindName_ (gga F3 N3 (fun h4 F4 N4=>assignInOrder_nil (h h4 F4 fun p hp=>N4 p (.tail _ hp))) hk hx))) hk hy))) rfl
end
end Mine
namespace Mine
theorem qRa:True:=by
 k_with "mU" =>(refine qia (by rfl) (by rfl) (fun s=>by rfl) mfa ?_;(change ∀ w os,Option.map _ (Mine.hdRunS PySem.Challenge.pw_nu0071_02 w 7024 (Mine.eQa w os))=_);rw [PySem.W.Fast.te10961918085790690358];intro w os;kernel_rfl)
 trivial
noncomputable def lawView:Program:= {PySem.Challenge.pw_nu0071_02 with main:= {PySem.Challenge.pw_nu0071_02.main with body:=PySem.Challenge.pw_nu0071_02.main.body.take 1++((PySem.Challenge.pw_nu0071_02.main.body.drop 2).take 3++((PySem.Challenge.pw_nu0071_02.main.body.drop 6).take 11++((PySem.Challenge.pw_nu0071_02.main.body.drop 18).take 4++((PySem.Challenge.pw_nu0071_02.main.body.drop 23).take 4++((PySem.Challenge.pw_nu0071_02.main.body.drop 28).take 6++((PySem.Challenge.pw_nu0071_02.main.body.drop 35).take 3++((PySem.Challenge.pw_nu0071_02.main.body.drop 39).take 2++PySem.Challenge.pw_nu0071_02.main.body.drop 42)))))))}}
theorem said1:OpenLaw.wellSaid PySem.Challenge.rw_nu0071_02=true:=by kernel_rfl
noncomputable def tRun(tb:String->Option Builtin)(p:Program)(w:World)(n₀:Nat)(ann:Option Value):Nat->SharedT->Thread->Option SharedT
 |0,_,_=>none
 |n+1,s,t=>match through t with
  |true=>some s
  |false=>match stepOk n₀ ann t with
   |false=>none
   |true=>match stepT (denote tb) p w s t with
    |some (s',t')=>tRun tb p w n₀ ann n s' t'
    |none=>none
theorem h4a{tb:String->Option Builtin}{p:Program}{w:World}{n₀:Nat}{ann:Option Value}:∀ {n:Nat} {s s':SharedT} {t:Thread},tRun tb p w n₀ ann n s t=some s'->topRun tb p w n₀ ann n s.abs t=some s'.abs
 |0,_,_,_,h=>by cases h
 |n+1,s,s',t,h=>by
  unfold tRun at h
  unfold topRun
  cases he:through t with
  |true=>rw [he] at h;cases h;rfl
  |false=>
   rw [he] at h
   cases hk:stepOk n₀ ann t with
   |false=>rw [hk] at h;cases h
   |true=>
    rw [hk] at h
    cases hs:stepT (denote tb) p w s t with
    |none=>rw [hs] at h;cases h
    |some r=>obtain⟨s₂,t₂⟩:=r;rw [hs] at h;dsimp only;rw [stepT_spec hs];exact h4a h
noncomputable def ksa(P:Params):BT:=((boot_heap P).objs.toList.foldl (fun p o=>(p.1.ins p.2 o,p.2+1)) (.nil,0)).1
theorem iXa:∀ P,(boot_heap P).objs.size=11:=fun P=>by kernel_rfl
theorem j4a:∀ P,absHeap (ksa P) 11 (boot_heap P).life=boot_heap P:=fun P=>by kernel_rfl
theorem j3a:∀ P,(boot_heap P).nsMap mainGlobals "__annotations__" =some (.ref 6):=fun P=>by kernel_rfl
theorem lqa:∀ P,(boot_heap P).isNs mainGlobals=true:=fun P=>by kernel_rfl
noncomputable def hdRunS(p:Program)(w:World)(N:Nat)(s:SharedT):Option SharedT:=tRun treeTable p w 11 (some (.ref 6)) N s (topStub p)
noncomputable def eQa(w:World)(os:OsState):SharedT:=⟨ksa w.params,11,(boot_heap w.params).life, #[],boot_drawn,boot_toks,os⟩
noncomputable def gZa(p:Program)(w:World)(s:Shared):Bool:=staticsOk (importedModules p.main.body) (boot_heap w.params) s.heap&&namesBound p s.heap&&gensDone s&&laidKept (boot_heap w.params) s.heap
theorem lca{p:Program}{N:Nat}(e:opening p=plainProg p.main.scope.names)(hN:Nat.ble 600 N=true)(hf:∀ s,fenceModules? p s=some s)(w:World):∃ os,∀ s,hdRunS p w N (eQa w os)=some s->gZa p w s.abs=true->openEnds treeTable p w N=some s.abs:=by
 obtain⟨s₀,a,b⟩:=Option.map_eq_some_iff.mp (boot_open e hN hf w)
 obtain⟨hp,gens,drawn,toks,os⟩:=s₀
 simp only [Prod.mk.injEq] at b
 obtain⟨rfl,rfl,rfl,rfl⟩:=b
 refine⟨os,fun s hr hs=> ?_⟩
 have r:=h4a hr
 rw [show(eQa w os).abs=⟨boot_heap w.params, #[],boot_drawn,boot_toks,os⟩ from congrArg (fun h=>(⟨h, #[],boot_drawn,boot_toks,os⟩:Shared)) (j4a w.params)] at r
 unfold openEnds
 rw [a,Option.bind_some]
 unfold topFrom
 dsimp only
 rw [lqa,j3a,iXa]
 unfold gZa at hs
 change Option.bind (topRun treeTable p w 11 (some (.ref 6)) N ⟨boot_heap w.params, #[],boot_drawn,boot_toks,os⟩ (topStub p)) _=_
 rw [r,Option.bind_some]
 change (match staticsOk _ _ _&&_&&_&&_ with|true=>_|false=>_)=_
 rw [hs]
theorem qia{p q:Program}{loose:List Str}{Xt:Shared->Bool}{α:Type}{Yf:Shared->α}{Ya:World->α}{N:Nat}(e:opening p=plainProg p.main.scope.names)(hN:Nat.ble 600 N=true)(hf:∀ s,fenceModules? p s=some s)
 (h1:∀ w os,(hdRunS p w N (eQa w os)).map (fun s=>(gZa p w s.abs,openSeen q loose (importedModules p.main.body) Xt true s.abs))=some (true,openGood q loose))
 (h2:∀ w os,(hdRunS p w N (eQa w os)).map (fun s=>Yf s.abs)=some (Ya w)):LeftO p q loose Xt Yf Ya N:=fun w=>by
 obtain⟨os,ho⟩:=lca e hN hf w
 obtain⟨s,hr,hs⟩:=Option.map_eq_some_iff.mp (h1 w os)
 obtain⟨hs,hg⟩:=Prod.mk.inj hs
 have y:=h2 w os
 rw [hr,Option.map_some,Option.some.injEq] at y
 rw [ho s hr hs,Option.map_some,hg,y]
lay_quick Mine.hdRunS
theorem mfa:∀ w os,(hdRunS PySem.Challenge.pw_nu0071_02 w 7024 (eQa w os)).map (fun s=>(gZa PySem.Challenge.pw_nu0071_02 w s.abs,openSeen lawView [] (importedModules PySem.Challenge.pw_nu0071_02.main.body) (fun s=>xlAt lawView [] s&&recOk (RowW.records (OpenRow.toRowW PySem.Challenge.rw_nu0071_02.row)) s) true s.abs))=some (true,openGood lawView []):=by
 rw [PySem.W.Fast.te10961918085790690358]
 intro w os
 kernel_rfl
local macro_rules | `(tactic| o_law) => `(tactic| refine holds_law Mine.said1 fun said => ?_)
theorem my_open{d:DefRec}{kwd:List (Str×Expr)}(H:Hook)(left:LeftO (OpenLaw.row PySem.Challenge.rw_nu0071_02).prog Mine.lawView [] (fun s=>xlAt Mine.lawView [] s&&recOk (RowW.records (OpenRow.toRowW (OpenLaw.row PySem.Challenge.rw_nu0071_02))) s) H.obs H.val 7024)
 (hdef:defOf Mine.lawView (OpenLaw.row PySem.Challenge.rw_nu0071_02).name=some (d,kwd)) (hp:(OpenLaw.row PySem.Challenge.rw_nu0071_02).prog.theDef (OpenLaw.row PySem.Challenge.rw_nu0071_02).name=some (d.params,d.body,d.scope)) (hk:kwWritten? d.params.kwonlyargs d.params.kw_defaults=some kwd)
 (k1:(OpenLaw.row PySem.Challenge.rw_nu0071_02).wellSaid=true) (hw:(OpenRow.toRowW (OpenLaw.row PySem.Challenge.rw_nu0071_02)).promised) (call:WalkO Mine.lawView [] (XL Mine.lawView []) H.says (OpenRow.toRowW (OpenLaw.row PySem.Challenge.rw_nu0071_02)) d kwd fun f vs=>PySem.call f vs):(OpenLaw.row PySem.Challenge.rw_nu0071_02).Holds:=
 holds_open (q:=Mine.lawView) (loose:= []) (Xt:=fun s=>xlAt Mine.lawView [] s&&recOk (RowW.records (OpenRow.toRowW (OpenLaw.row PySem.Challenge.rw_nu0071_02))) s) (XP:=XL Mine.lawView []) (Yf:=H.obs) (Ya:=H.val) (YP:=H.says) (N:=7024) left H.of H.keeps (fun s e=>xl_of s (Bool.and_eq_true_iff.mp e).1) XL.keeps hdef hp hk (fun s e=>recFacts_of (Bool.and_eq_true_iff.mp e).2) (by rfl) k1 (by decide+kernel) ⟨rfl,rfl,rfl,rfl,rfl,by decide+kernel⟩ hw call
local macro_rules | `(tactic| o_head $H) => `(tactic| (refine Mine.my_open $H ?hl (by rfl) (by rfl) (by rfl) (by first | assumption | decide +kernel) ?hw ?hc; (case hl => k_extra "mU")))
set_option maxHeartbeats 8000000 in
open_top hd for PySem.Challenge.rw_nu0071_02
theorem sIa:True:=by
 k_with "mV" =>
  ((refine Mine.hv1 ?_);(generalize @Mine.p0 _ _ _=z0, @Mine.p1 _ _ _ _=z1, @Mine.p2 _ _ _ _ _=z2, @Mine.p3 _ _ _ _ _ _=z3, @Mine.p4 _ _ _ _ _ _ _=z4, @Mine.p5 _ _ _ _ _ _ _ _=z5, @Mine.l6 _ _ _ _ _ _ _ _=z6);revert z0 z1 z2 z3 z4 z5 z6)
 k_with "mW" =>
  ((refine Mine.hv2 ?_);(generalize @Mine.p0 _ _ _=z0, @Mine.p1 _ _ _ _=z1, @Mine.p2 _ _ _ _ _=z2, @Mine.p3 _ _ _ _ _ _=z3, @Mine.p4 _ _ _ _ _ _ _=z4, @Mine.p5 _ _ _ _ _ _ _ _=z5, @Mine.p6 _ _ _ _ _ _ _ _ _=z6, @Mine.l7 _ _ _ _ _ _ _ _ _=z7);revert z0 z1 z2 z3 z4 z5 z6 z7)
 k_with "mX" =>
  ((refine Mine.hw2 ?_);(generalize @Mine.p0 _ _ _=z0, @Mine.p1 _ _ _ _=z1, @Mine.p2 _ _ _ _ _=z2, @Mine.p3 _ _ _ _ _ _=z3, @Mine.p4 _ _ _ _ _ _ _=z4, @Mine.p5 _ _ _ _ _ _ _ _=z5, @Mine.l6 _ _ _ _ _ _ _ _=z6);revert z0 z1 z2 z3 z4 z5 z6)
 k_with "mJ" =>
  ((refine Mine.hv3 ?_);(generalize @Mine.p0 _ _ _=z0, @Mine.p1 _ _ _ _=z1, @Mine.p2 _ _ _ _ _=z2, @Mine.p3 _ _ _ _ _ _=z3, @Mine.p4 _ _ _ _ _ _ _=z4, @Mine.p5 _ _ _ _ _ _ _ _=z5, @Mine.p6 _ _ _ _ _ _ _ _ _=z6, @Mine.p7 _ _ _ _ _ _ _ _ _ _=z7, @Mine.l8 _ _ _ _ _ _ _ _ _ _=z8);revert z0 z1 z2 z3 z4 z5 z6 z7 z8)
 k_with "mu" =>
  ((refine Mine.hw4 ?_);(generalize @Mine.p0 _ _ _=z0, @Mine.p1 _ _ _ _=z1, @Mine.p2 _ _ _ _ _=z2, @Mine.p3 _ _ _ _ _ _=z3, @Mine.p4 _ _ _ _ _ _ _=z4, @Mine.p5 _ _ _ _ _ _ _ _=z5, @Mine.p6 _ _ _ _ _ _ _ _ _=z6, @Mine.p7 _ _ _ _ _ _ _ _ _ _=z7, @Mine.l8 _ _ _ _ _ _ _ _ _ _=z8);revert z0 z1 z2 z3 z4 z5 z6 z7 z8)
 k_with "mY" =>
  ((refine Mine.hv5 ?_);(generalize @Mine.p0 _ _ _=z0, @Mine.p1 _ _ _ _=z1, @Mine.p2 _ _ _ _ _=z2, @Mine.p3 _ _ _ _ _ _=z3, @Mine.p4 _ _ _ _ _ _ _=z4, @Mine.p5 _ _ _ _ _ _ _ _=z5, @Mine.p6 _ _ _ _ _ _ _ _ _=z6, @Mine.p7 _ _ _ _ _ _ _ _ _ _=z7, @Mine.p8 _ _ _ _ _ _ _ _ _ _ _=z8, @Mine.p9 _ _ _ _ _ _ _ _ _ _ _ _=z9, @Mine.l10 _ _ _ _ _ _ _ _ _ _ _ _=z10);revert z0 z1 z2 z3 z4 z5 z6 z7 z8 z9 z10)
 k_with "mw" =>
  ((refine Mine.hw6 ?_);(generalize @Mine.p0 _ _ _=z0, @Mine.p1 _ _ _ _=z1, @Mine.p2 _ _ _ _ _=z2, @Mine.p3 _ _ _ _ _ _=z3, @Mine.p4 _ _ _ _ _ _ _=z4, @Mine.p5 _ _ _ _ _ _ _ _=z5, @Mine.p6 _ _ _ _ _ _ _ _ _=z6, @Mine.p7 _ _ _ _ _ _ _ _ _ _=z7, @Mine.p8 _ _ _ _ _ _ _ _ _ _ _=z8, @Mine.p9 _ _ _ _ _ _ _ _ _ _ _ _=z9, @Mine.l10 _ _ _ _ _ _ _ _ _ _ _ _=z10);revert z0 z1 z2 z3 z4 z5 z6 z7 z8 z9 z10)
 k_with "mK" =>
  ((refine Mine.hw8 ?_);(generalize @Mine.p0 _ _ _=z0, @Mine.p1 _ _ _ _=z1, @Mine.p2 _ _ _ _ _=z2, @Mine.p3 _ _ _ _ _ _=z3, @Mine.p4 _ _ _ _ _ _ _=z4, @Mine.p5 _ _ _ _ _ _ _ _=z5, @Mine.p6 _ _ _ _ _ _ _ _ _=z6, @Mine.p7 _ _ _ _ _ _ _ _ _ _=z7, @Mine.p8 _ _ _ _ _ _ _ _ _ _ _=z8, @Mine.p9 _ _ _ _ _ _ _ _ _ _ _ _=z9, @Mine.p10 _ _ _ _ _ _ _ _ _ _ _ _ _=z10, @Mine.p11 _ _ _ _ _ _ _ _ _ _ _ _ _ _=z11, @Mine.l12 _ _ _ _ _ _ _ _ _ _ _ _ _ _=z12);revert z0 z1 z2 z3 z4 z5 z6 z7 z8 z9 z10 z11 z12)
 k_with "mL" =>
  ((refine Mine.hv9 ?_);(generalize @Mine.p0 _ _ _=z0, @Mine.p1 _ _ _ _=z1, @Mine.p2 _ _ _ _ _=z2, @Mine.p3 _ _ _ _ _ _=z3, @Mine.p4 _ _ _ _ _ _ _=z4, @Mine.p5 _ _ _ _ _ _ _ _=z5, @Mine.p6 _ _ _ _ _ _ _ _ _=z6, @Mine.p7 _ _ _ _ _ _ _ _ _ _=z7, @Mine.p8 _ _ _ _ _ _ _ _ _ _ _=z8, @Mine.p9 _ _ _ _ _ _ _ _ _ _ _ _=z9, @Mine.p10 _ _ _ _ _ _ _ _ _ _ _ _ _=z10, @Mine.p11 _ _ _ _ _ _ _ _ _ _ _ _ _ _=z11, @Mine.p12 _ _ _ _ _ _ _ _ _ _ _ _ _ _ _=z12, @Mine.p13 _ _ _ _ _ _ _ _ _ _ _ _ _ _ _ _=z13, @Mine.l14 _ _ _ _ _ _ _ _ _ _ _ _ _ _ _ _=z14);revert z0 z1 z2 z3 z4 z5 z6 z7 z8 z9 z10 z11 z12 z13 z14)
 k_with "mM" =>
  ((refine Mine.hw9 ?_);(generalize @Mine.p0 _ _ _=z0, @Mine.p1 _ _ _ _=z1, @Mine.p2 _ _ _ _ _=z2, @Mine.p3 _ _ _ _ _ _=z3, @Mine.p4 _ _ _ _ _ _ _=z4, @Mine.p5 _ _ _ _ _ _ _ _=z5, @Mine.p6 _ _ _ _ _ _ _ _ _=z6, @Mine.p7 _ _ _ _ _ _ _ _ _ _=z7, @Mine.p8 _ _ _ _ _ _ _ _ _ _ _=z8, @Mine.p9 _ _ _ _ _ _ _ _ _ _ _ _=z9, @Mine.p10 _ _ _ _ _ _ _ _ _ _ _ _ _=z10, @Mine.p11 _ _ _ _ _ _ _ _ _ _ _ _ _ _=z11, @Mine.p12 _ _ _ _ _ _ _ _ _ _ _ _ _ _ _=z12, @Mine.l13 _ _ _ _ _ _ _ _ _ _ _ _ _ _ _=z13);revert z0 z1 z2 z3 z4 z5 z6 z7 z8 z9 z10 z11 z12 z13)
 k_with "mZ" =>
  ((refine Mine.sLa ?_);(generalize @Mine.p0 _ _ _=z0, @Mine.p1 _ _ _ _=z1, @Mine.p2 _ _ _ _ _=z2, @Mine.p3 _ _ _ _ _ _=z3, @Mine.p4 _ _ _ _ _ _ _=z4, @Mine.p5 _ _ _ _ _ _ _ _=z5, @Mine.p6 _ _ _ _ _ _ _ _ _=z6, @Mine.p7 _ _ _ _ _ _ _ _ _ _=z7, @Mine.p8 _ _ _ _ _ _ _ _ _ _ _=z8, @Mine.p9 _ _ _ _ _ _ _ _ _ _ _ _=z9, @Mine.p10 _ _ _ _ _ _ _ _ _ _ _ _ _=z10, @Mine.p11 _ _ _ _ _ _ _ _ _ _ _ _ _ _=z11, @Mine.p12 _ _ _ _ _ _ _ _ _ _ _ _ _ _ _=z12, @Mine.p13 _ _ _ _ _ _ _ _ _ _ _ _ _ _ _ _=z13, @Mine.l14 _ _ _ _ _ _ _ _ _ _ _ _ _ _ _ _=z14);revert z0 z1 z2 z3 z4 z5 z6 z7 z8 z9 z10 z11 z12 z13 z14)
 k_with "mN" =>
  ((refine Mine.sMa ?_);(generalize @Mine.p0 _ _ _=z0, @Mine.p1 _ _ _ _=z1, @Mine.p2 _ _ _ _ _=z2, @Mine.p3 _ _ _ _ _ _=z3, @Mine.p4 _ _ _ _ _ _ _=z4, @Mine.p5 _ _ _ _ _ _ _ _=z5, @Mine.p6 _ _ _ _ _ _ _ _ _=z6, @Mine.p7 _ _ _ _ _ _ _ _ _ _=z7, @Mine.p8 _ _ _ _ _ _ _ _ _ _ _=z8, @Mine.p9 _ _ _ _ _ _ _ _ _ _ _ _=z9, @Mine.p10 _ _ _ _ _ _ _ _ _ _ _ _ _=z10, @Mine.p11 _ _ _ _ _ _ _ _ _ _ _ _ _ _=z11, @Mine.p12 _ _ _ _ _ _ _ _ _ _ _ _ _ _ _=z12, @Mine.l13 _ _ _ _ _ _ _ _ _ _ _ _ _ _ _=z13);revert z0 z1 z2 z3 z4 z5 z6 z7 z8 z9 z10 z11 z12 z13)
 k_with "mO" =>
  ((refine Mine.qka ?_);(generalize @Mine.p0 _ _ _=z0, @Mine.p1 _ _ _ _=z1, @Mine.p2 _ _ _ _ _=z2, @Mine.p3 _ _ _ _ _ _=z3, @Mine.p4 _ _ _ _ _ _ _=z4, @Mine.p5 _ _ _ _ _ _ _ _=z5, @Mine.p6 _ _ _ _ _ _ _ _ _=z6, @Mine.p7 _ _ _ _ _ _ _ _ _ _=z7, @Mine.p8 _ _ _ _ _ _ _ _ _ _ _=z8, @Mine.p9 _ _ _ _ _ _ _ _ _ _ _ _=z9, @Mine.p10 _ _ _ _ _ _ _ _ _ _ _ _ _=z10, @Mine.p11 _ _ _ _ _ _ _ _ _ _ _ _ _ _=z11, @Mine.p12 _ _ _ _ _ _ _ _ _ _ _ _ _ _ _=z12, @Mine.p13 _ _ _ _ _ _ _ _ _ _ _ _ _ _ _ _=z13, @Mine.l14 _ _ _ _ _ _ _ _ _ _ _ _ _ _ _ _=z14);revert z0 z1 z2 z3 z4 z5 z6 z7 z8 z9 z10 z11 z12 z13 z14)
 k_with "mba" =>
  ((refine Mine.qja ?_);(generalize @Mine.p0 _ _ _=z0, @Mine.p1 _ _ _ _=z1, @Mine.p2 _ _ _ _ _=z2, @Mine.p3 _ _ _ _ _ _=z3, @Mine.p4 _ _ _ _ _ _ _=z4, @Mine.p5 _ _ _ _ _ _ _ _=z5, @Mine.p6 _ _ _ _ _ _ _ _ _=z6, @Mine.p7 _ _ _ _ _ _ _ _ _ _=z7, @Mine.p8 _ _ _ _ _ _ _ _ _ _ _=z8, @Mine.p9 _ _ _ _ _ _ _ _ _ _ _ _=z9, @Mine.p10 _ _ _ _ _ _ _ _ _ _ _ _ _=z10, @Mine.p11 _ _ _ _ _ _ _ _ _ _ _ _ _ _=z11, @Mine.p12 _ _ _ _ _ _ _ _ _ _ _ _ _ _ _=z12, @Mine.p13 _ _ _ _ _ _ _ _ _ _ _ _ _ _ _ _=z13, @Mine.p14 _ _ _ _ _ _ _ _ _ _ _ _ _ _ _ _ _=z14, @Mine.l15 _ _ _ _ _ _ _ _ _ _ _ _ _ _ _ _ _=z15);revert z0 z1 z2 z3 z4 z5 z6 z7 z8 z9 z10 z11 z12 z13 z14 z15)
 k_with "w pyIter ref" =>
  ((with_reducible show wpAny _ _ (pyIter (Value.ref _)) _ _ _);refine cfa ?_)
 k_with "w exec While" =>
  ((with_reducible show wpAny _ _ (exec (Stmt.While _ _ _ _) _) _ _ _);refine cfa ?_)
 k_with "w call builtin:list.append" =>
  ((with_reducible show wpAny _ _ (call (Value.builtin "list.append") _) _ _ _);refine cfa ?_)
 k_with "w call builtin:list.extend" =>
  ((with_reducible show wpAny _ _ (call (Value.builtin "list.extend") _) _ _ _);refine cfa ?_)
 k_with "w call builtin:list.pop" =>
  ((with_reducible show wpAny _ _ (call (Value.builtin "list.pop") _) _ _ _);refine cfa ?_)
 k_with "w call builtin:list.index" =>
  ((with_reducible show wpAny _ _ (call (Value.builtin "list.index") _) _ _ _);refine cfa ?_)
 k_with "w call ref" =>
  ((with_reducible show wpAny _ _ (call (Value.ref _) _) _ _ _);refine cfa ?_)
 k_with "ms" =>
  ((refine Mine.ex1 ?_);(generalize @Mine.e1 _ _ _=z0);revert z0)
 k_with "mi" =>
  (
   refine' g7a (by assumption) (by assumption) ?q1k6 ?q1k7 ?q1k9 ?q1kB ?_ ?q1c2 ?q1c3 ?q1c4 ?q1c5;(case q1k6=>k_is);(case q1k7=>k_is);(case q1k9=>exact BindsTo.of_eq rfl);(case q1kB=>exact locs rfl);(case q1c2=>exact rfl);(case q1c3=>exact rfl);(case q1c4=>exact rfl);(case q1c5=>decide)
   k_extra "mN"
   intro _ _ _ _ _ _ _ _ _ _ _ _ _ _ _ _ _ F' N' hd' hu'
   dsimp only [List.map,List.zip,List.zipWith,List.reverse,List.reverseAux] at F'
   revert F' N' hd' hu'
   intro _ _ _ _
   try dsimp only)
 k_with "mk" =>
  (
   refine' g7a (by assumption) (by assumption) ?q1k6 ?q1k7 ?q1k9 ?q1kB ?_ ?q1c2 ?q1c3 ?q1c4 ?q1c5;(case q1k6=>k_is);(case q1k7=>k_is);(case q1k9=>exact BindsTo.of_eq rfl);(case q1kB=>exact locs rfl);(case q1c2=>exact rfl);(case q1c3=>exact rfl);(case q1c4=>exact rfl);(case q1c5=>decide)
   intro _ _ _ _ _ _ _ _ _ _ _ _ _ _ _ _ _ F' N' hd' hu'
   dsimp only [List.map,List.zip,List.zipWith,List.reverse,List.reverseAux] at F'
   revert F' N' hd' hu'
   intro _ _ _ _
   try dsimp only)
 k_with "mg" =>
  first|exact News.isList (by k_asm) (by k_mem)|assumption|exact a2a (by assumption) (by assumption)
 k_with "mbb" =>
  exact gla (by assumption)
 trivial
local macro_rules | `(tactic| walk_at $s:str) => `(tactic| k_extra $(Lean.Syntax.mkStrLit ("w " ++ s.getString)))
local macro_rules | `(tactic| k_extra $s:str) => do let a := s.getString; if a.startsWith "@" then (let n := ((← (List.range 99).filterM fun i => Lean.Macro.hasDecl (.str `Mine s!"ar{i}")).length - 1); let s := Lean.Syntax.mkStrLit s!"S{n} {a.drop 1}"; `(tactic| k_extra $s)) else Lean.Macro.throwUnsupported
local macro_rules | `(tactic| walk_at $s:str) => `(tactic| k_extra $(Lean.Syntax.mkStrLit ("@" ++ s.getString)))
local macro_rules | `(tactic| k_handed) => `(tactic| k_extra "mbb")
local macro_rules | `(tactic| k_all) => `(tactic| assumption)
theorem sHa:True:=by
 k_with "w call type:list" =>
  (
   (with_reducible show wpAny _ _ (call (Value.type "list") [Value.ref _]) _ _ _)
   k_dflt (refine mja (by assumption) (by assumption) (by k_extra "mg") (by walk_at "mm") ?_)
   intro _ _ _ _ _ l1
   (try k_lt l1);(try revert l1);intros;(try k_sweep))
 k_with "mbc" =>
  first|assumption|exact iIa (by assumption) (by assumption)
 trivial
local macro_rules | `(tactic| k_inst) => `(tactic| k_extra "mbc")
theorem sGa:True:=by
 k_with "w call builtin:len" =>
  ((with_reducible show wpAny _ _ (call (Value.builtin "len") [Value.ref _]) _ _ _);(refine mda (by k_extra "mg") (by walk_at "mm") ?_);intro _ _)
 k_with "mm" =>
  first|assumption|exact mba (by assumption) (by rfl)|exact mca (by assumption) (by rfl)|omega|(simp only [List.length_append,List.length_reverse,List.length_cons,List.length_nil,List.length_take,List.length_drop] at*;omega)
 k_with "w subscriptTail" =>
  ((with_reducible show wpAny _ _ (subscriptTail _ _ (Value.ref _) (Value.int (Nat.cast _) _)) _ _ _);(refine d8a (by k_extra "mg") (by assumption) (by walk_at "mm") ?_))
 k_with "mA" =>
  first|exact News.get (by assumption) (by k_mem)|assumption|exact Fr.keep (by assumption) _ _ (by assumption)
 k_with "w call builtin:list.pop" =>
  (
   (with_reducible show wpAny _ _ (call (Value.builtin "list.pop") [Value.ref _]) _ _ _)
   k_dflt (refine qfa (by assumption) (by assumption) (by k_upd) (by walk_at "mm") ?_)
   intro _ _ _
   (try k_sweep))
 k_with "w call builtin:list.append" =>
  (
   (with_reducible show wpAny _ _ (call (Value.builtin "list.append") [Value.ref _,_]) _ _ _)
   k_dflt (refine qra (by assumption) (by assumption) (by k_upd) (by walk_at "mm") ?_)
   intro _ _ _
   (try k_sweep))
 k_with "w call builtin:list.extend" =>
  (
   (with_reducible show wpAny _ _ (call (Value.builtin "list.extend") [Value.ref _,Value.ref _]) _ _ _)
   k_dflt (refine qma (by assumption) (by assumption) (by k_extra "mA") (by k_updF) (by walk_at "mm") ?_)
   intro _ _ _ N'
   (try dsimp only at N');revert N';intros
   (try k_sweep))
 k_with "w subscriptTail Name Slice ref ref" =>
  (
   (with_reducible show wpAny _ _ (subscriptTail _ (PySem.Expr.Slice none none (some _) _) (Value.ref _) (Value.ref _)) _ _ _)
   k_dflt (refine' qda ?q2F ?q2N ?q2l ?q2k ?q2z ?_ ?q2s ?q2t;(case q2F=>k_asm);(case q2N=>k_asm);(case q2l=>k_extra "mg");(case q2k=>exact IsPart.int _ _);(case q2s=>with_unfolding_all rfl);(case q2t=>kmk_pure);(case q2z=>walk_at "mm"))
   intro _ _ _ _ l1
   (try k_lt l1);(try revert l1);intros;(try k_sweep))
 k_with "mn" =>
  (
   (try dsimp only)
   (try simp only [List.cons_append,List.nil_append,List.append_nil])
   repeat' (first|exact List.forall_mem_nil _|(refine List.forall_mem_cons.mpr ⟨by k_mem, ?_⟩)|(intro p hp;k_ownIn)))
 k_with "mj" =>
  (
   intros
   simp only [List.contains_cons,List.contains_nil,Bool.or_false,Bool.or_eq_false_iff,beq_eq_false_iff_ne,ne_eq,ara,aOa,and_true] at*
   simp_all [dua,dSa])
 k_with "mo" =>
  (
   (try dsimp only)
   repeat' (first|exact List.forall_mem_nil _|(refine List.forall_mem_cons.mpr ⟨by rfl, ?_⟩)))
 k_with "mbd" =>
  first|assumption|simp_all
 k_with "mbr" =>
  skip
 k_with "w call builtin:list.index" =>
  (
   (with_reducible show wpAny _ _ (call (Value.builtin "list.index") [Value.ref _,Value.int _ _]) _ _ _)
   k_dflt (refine laa (by k_extra "mA") (by assumption) (by k_extra "mbd") (by walk_at "mm") ?_)
   intro _ _)
 k_with "w subscriptTail Name Slice ref ref" =>
  (
   (with_reducible show wpAny _ _ (subscriptTail _ (PySem.Expr.Slice none (some _) none _) (Value.ref _) (Value.ref _)) _ _ _)
   k_dflt (refine' kfa ?q3F ?q3N ?q3l ?q3z ?_ ?q3s ?q3t;(case q3F=>k_asm);(case q3N=>k_asm);(case q3l=>k_extra "mg");(case q3s=>with_unfolding_all rfl);(case q3t=>kmk_pure);(case q3z=>walk_at "mm"))
   intro _ _ _ _ l1
   (try k_lt l1);(try revert l1);intros;(try k_sweep))
 k_with "w subscriptTail Name Slice ref ref" =>
  (
   (with_reducible show wpAny _ _ (subscriptTail _ (PySem.Expr.Slice (some _) none none _) (Value.ref _) (Value.ref _)) _ _ _)
   k_dflt (refine' iNa ?q4F ?q4N ?q4l ?q4z ?_ ?q4s ?q4t;(case q4F=>k_asm);(case q4N=>k_asm);(case q4l=>k_extra "mg");(case q4s=>with_unfolding_all rfl);(case q4t=>kmk_pure);(case q4z=>walk_at "mm"))
   intro _ _ _ _ l1
   (try k_lt l1);(try revert l1);intros;(try k_sweep))
 k_with "w exec For Name Name cons nil" =>
  (
   (with_reducible show wpAny _ _ (exec (Stmt.For (Expr.Name _ _) _ _ [] _) _) _ _ _)
   k_dflt (refine' For_invVF ?q5F ?q5a ?q5b ?_ ?q5c ?q5d;(case q5F=>assumption);(case q5a=>exact rfl);(case q5b=>exact rfl);(case q5c=>exact fun _=>rfl);(case q5d=>exact PassesOwn.never)))
 k_with "w exec For" =>
  (
   (with_reducible show wpAny _ _ (exec (Stmt.For (Expr.Name _ _) _ _ [] _) _) _ _ _)
   k_dflt (refine' For_invVF ?q6F ?q6a ?q6b ?_ ?q6c ?q6d;(case q6F=>assumption);(case q6a=>exact rfl);(case q6b=>exact rfl);(case q6c=>exact fun _=>rfl);(case q6d=>exact PassesOwn.never)))
 k_with "mr" =>
  (
   (try dsimp only)
   (try simp only [ara,aOa,List.nil_append,List.cons_append,List.append_nil,and_true,true_and,implies_true])
   (repeat' (first|assumption|(refine And.intro ?_ ?_)))
   all_goals(try simp only [fpa,ara,aOa,and_true,true_and])
   (repeat' (first|assumption|(refine And.intro ?_ ?_)))
   all_goals first|k_extra "mx" |omega|(refine tbn_neAll ?_;tbn_find)|(intro p hp;simp_all;done))
 k_with "mbe" =>
  (
   (case F=>assumption)
   (case N=>assumption)
   (case mem=>k_extra "mn")
   (case sep=>k_extra "mr")
   (case ps=>k_extra "mo")
   (case m=>k_extra "mj"))
 k_with "mp" =>
  first|assumption|exact NV.one|exact NV.nil
 k_with "w binaryOp Add ref ref" =>
  (
   (with_reducible show wpAny _ _ (binaryOp _ (Value.ref _) (Value.ref _)) _ _ _)
   k_dflt (
    refine qoa (by assumption) (by assumption) (by k_extra "mg") (by k_extra "mg") (by walk_at "mp") (by walk_at "mp") (by walk_at "mm") ?_
    intro _ _ _ _ l1 nv'
    (first|(k_lt l1;(try revert l1);revert nv')|revert l1 nv');intros;(try k_sweep)))
 k_with "w exec For Tuple List cons nil" =>
  (
   (with_reducible show wpAny _ _ (exec (Stmt.For (Expr.Tuple _ _ _) _ _ [] _) _) _ _ _)
   k_dflt (refine' For_turns ?q7F ?_ ?q7c ?q7d;(case q7F=>assumption);(case q7c=>exact fun _=>rfl);(case q7d=>exact PassesOwn.never)))
 k_with "w exec For Tuple Call cons nil" =>
  (
   (with_reducible show wpAny _ _ (exec (Stmt.For (Expr.Tuple _ _ _) _ _ [] _) _) _ _ _)
   k_dflt (refine' For_turns ?q8F ?_ ?q8c ?q8d;(case q8F=>assumption);(case q8c=>exact fun _=>rfl);(case q8d=>exact PassesOwn.never)))
 k_with "w exec For Tuple Name cons nil" =>
  (
   (with_reducible show wpAny _ _ (exec (Stmt.For (Expr.Tuple _ _ _) _ _ [] _) _) _ _ _)
   k_dflt (refine' For_turns ?q9F ?_ ?q9c ?q9d;(case q9F=>assumption);(case q9c=>exact fun _=>rfl);(case q9d=>exact PassesOwn.never)))
 k_with "w exec For Tuple" =>
  (
   (with_reducible show wpAny _ _ (exec (Stmt.For (Expr.Tuple _ _ _) _ _ [] _) _) _ _ _)
   k_dflt (refine' For_turns ?q10F ?_ ?q10c ?q10d;(case q10F=>assumption);(case q10c=>exact fun _=>rfl);(case q10d=>exact PassesOwn.never)))
 k_with "w compareOp In int ref" =>
  (
   (with_reducible show wpAny _ _ (compareOp CmpOp.In (Value.int _ _) (Value.ref _)) _ _ _)
   k_dflt (refine sKa (by k_extra "mg") (by walk_at "mp") ?_))
 k_with "w compareOp NotIn int ref" =>
  (
   (with_reducible show wpAny _ _ (compareOp CmpOp.NotIn (Value.int _ _) (Value.ref _)) _ _ _)
   k_dflt (refine k0a (by k_extra "mg") (by walk_at "mp") ?_))
 k_with "mbf" =>
  (intro p hp;k_ownIn)
 k_with "mbs" =>
  exact aHa.intro () (by assumption) (by assumption) (by k_extra "mbf") trivial (by k_extra "md") (by k_extra "md") (by k_extra "mj")
 k_with "ma" =>
  ((first|k_fold|(refine Mine.kIa ?_;k_fold)|skip);(repeat' (first|(k_unfold;walk1)|(k_unfold;(try dsimp only))|walk1|(dsimp only;walk1)));(all_goals try refine go_ ?_))
 k_with "w call builtin:sorted" =>
  (
   (with_reducible show wpAny _ _ (call (Value.builtin "sorted") [Value.ref _]) _ _ _)
   k_dflt (
    refine jya (by assumption) (by assumption) (by k_extra "mg") (by walk_at "mp") (by walk_at "mm") ?_
    intro _ _ _ _ _ _ _ l1 nv' pm' sd'
    (first|(k_lt l1;(try revert l1);revert nv' pm' sd')|revert l1 nv' pm' sd');intros;(try k_sweep)))
 k_with "w compareOp Eq ref ref" =>
  (
   (with_reducible show wpAny _ _ (compareOp CmpOp.Eq (Value.ref _) (Value.ref _)) _ _ _)
   k_dflt (refine sNa (by k_extra "mg") (by k_extra "mg") (by walk_at "mp") (by walk_at "mp") (by k_extra "mP") ?_))
 k_with "w compareOp NotEq ref ref" =>
  (
   (with_reducible show wpAny _ _ (compareOp CmpOp.NotEq (Value.ref _) (Value.ref _)) _ _ _)
   k_dflt (refine sza (by k_extra "mg") (by k_extra "mg") (by walk_at "mp") (by walk_at "mp") (by k_extra "mP") ?_))
 k_with "mP" =>
  first|ke_room|(unfold cLine;simp [dya] at*;omega)
 k_with "me" =>
  first|exact bta 0 rfl|exact bta 1 rfl|exact bta 2 rfl|exact bta 3 rfl|exact bta 4 rfl|exact bta 5 rfl|exact bta 6 rfl|exact bta 7 rfl|exact bta 8 rfl|exact bta 9 rfl|exact bta 10 rfl|exact bta 11 rfl|exact bta 12 rfl|exact bta 13 rfl|exact bta 14 rfl|exact bta 15 rfl|k_extra "mE"
 k_with "mc" =>
  first|assumption|exact maa (by assumption) (by rfl)|exact l9a (by assumption) (by rfl)|omega
 k_with "mx" =>
  first
   |with_reducible assumption
   |with_reducible exact Mine.ia (by assumption)
   |with_reducible exact Mine.ib (by assumption)
   |with_reducible exact Mine.i2 (by assumption)
   |with_reducible exact Mine.j2 (by assumption)
   |with_reducible exact Mine.i3 (by assumption)
   |with_reducible exact Mine.j3 (by assumption)
   |with_reducible exact Mine.i4 (by assumption)
   |with_reducible exact Mine.j4 (by assumption)
   |with_reducible exact Mine.i5 (by assumption)
   |with_reducible exact Mine.j5 (by assumption)
   |with_reducible exact Mine.i6 (by assumption)
   |with_reducible exact Mine.j6 (by assumption)
 k_with "mbg" =>
  ((try dsimp only);first
    |(refine neN ?_;k_extra "mx")
    |(refine Ne.symm (neN ?_);k_extra "mx")
    |(refine Nat.ne_of_lt ?_;k_extra "mx")
    |(refine Nat.ne_of_gt ?_;k_extra "mx"))
 trivial
local macro_rules | `(tactic| k_ne) => `(tactic| k_extra "mbg")
theorem sFa:True:=by
 k_with "mQ" =>
  first|with_reducible assumption|exact lUa (by assumption) (by decide)|exact lVa (by assumption) (by k_extra "mE")
 k_with "mj" =>
  (
   intro z
   intros
   (try dsimp only)
   (repeat(with_reducible refine' jja ?q11n ?_;(case q11n=>k_extra "mQ")))
   first
    |rfl
    |(refine' ija ?q11a ?q11b;(case q11a=>((try dsimp only);(repeat(refine Mine.fc ?q11m ?_;(case q11m=>k_extra "mQ")));exact Mine.fn));(case q11b=>first|assumption|exact iTa (by assumption) (by assumption)))
   done)
 k_with "md" =>
  first|exact Mine.fn|exact fun _=>Mine.fn|simp
 k_with "mE" =>
  ((try dsimp only [List.nil_append,List.cons_append]);(repeat(first|with_reducible exact Mine.mhd|with_reducible refine Mine.mtl ?_|with_reducible refine Mine.mar ?_|with_reducible assumption));done)
 k_with "w call ref" =>
  (
   (with_reducible show wpAny _ _ (call (Value.ref _) _) _ _ _)
   k_dflt (
    refine kVa (by walk_at "mbh") (by assumption) (by assumption) (by assumption) (by assumption) (by assumption) (by k_extra "mc") (by k_extra "mc") (by k_extra "mq") ?_ rfl rfl
    intro _ _ _ _ _ _ l1 nv' ll' st'
    (first|(simp only [ara,aOa,and_true] at l1;(try revert l1);revert nv' ll' st')|revert l1 nv' ll' st');intros
    (try k_sweep)))
 k_with "w call ref" =>
  (
   (with_reducible show wpAny _ _ (call (Value.ref _) _) _ _ _)
   k_dflt (
    refine e8a (by walk_at "mt") (by assumption) (by assumption) (by assumption) (by assumption) (by assumption) (by k_extra "mc") (by k_extra "mc") (by k_extra "mq") ?_ rfl rfl
    intro _ _ _ _ _ _ _ l1 nv' ll' st'
    (first|(simp only [ara,aOa,and_true] at l1;(try revert l1);revert nv' ll' st')|revert l1 nv' ll' st');intros
    (try k_sweep)))
 k_with "w call ref" =>
  (
   (with_reducible show wpAny _ _ (call (Value.ref _) _) _ _ _)
   k_dflt (
    refine a9a (by k_extra "mbi") (by assumption) (by assumption) (by assumption) (by assumption) (by assumption) (by k_extra "mc") (by k_extra "mc") (by k_extra "mq") ?_ rfl rfl
    intro _ _ _ _ _ _ _
    (try k_sweep)))
 k_with "w call ref" =>
  (
   (with_reducible show wpAny _ _ (call (Value.ref _) _) _ _ _)
   k_dflt (
    refine dba (by walk_at "mR") (by assumption) (by assumption) (by assumption) (by assumption) (by assumption) (by k_extra "mc") (by k_extra "mc") (by k_extra "mq") ?_ rfl rfl
    intro _ _ _ _ _
    (try k_sweep)))
 k_with "w call ref" =>
  (
   (with_reducible show wpAny _ _ (call (Value.ref _) _) _ _ _)
   k_dflt (
    refine daa (by k_extra "mS") (by assumption) (by assumption) (by assumption) (by assumption) (by assumption) (by k_extra "mc") (by k_extra "mc") (by k_extra "mq") ?_ rfl rfl
    intro _ _ _ _ _ _
    (try k_sweep)))
 k_with "w call ref" =>
  (
   (with_reducible show wpAny _ _ (call (Value.ref _) _) _ _ _)
   k_dflt (
    refine a9a (by walk_at "mbt") (by assumption) (by assumption) (by assumption) (by assumption) (by assumption) (by k_extra "mc") (by k_extra "mc") (by k_extra "mq") ?_ rfl rfl
    intro _ _ _ _ _ _ _
    rcases hoa (by assumption:b2a _ _) with⟨_,pe2⟩|⟨_,_,_,pe2⟩
    all_goals subst pe2
    all_goals(try k_sweep)))
 k_with "mh" =>
  first|(refine(?_:Mine.lBa _ _ _ _ _ _);first|(with_reducible refine Mine.lBa.val ?_;k_extra "mbj")|with_reducible refine Mine.lBa.run ?_)
 k_with "mbj" =>
  first|(with_reducible refine Mine.jBa ?_)|(with_reducible refine Mine.ina ?_)|((with_reducible show Mine.fma _ _ _ _ _ _ _ _ _ _);k_dflt (refine(?_:wpAny _ _ _ _ _ _)))|skip
 k_with "mF" =>
  with_reducible first|(fail_if_success show wpAny _ _ _ _ _ _);(first|show Mine.den _ _ _ _ _ _ _ _ _ _ _ _ _ _;k_dflt ((try dsimp only);refine' Mine.gD ?q12c ?q12X ?q12F ?_;(case q12X=>with_reducible assumption);(case q12F=>with_reducible assumption);(case q12c=>rfl);k_extra "mh")|show Mine.kva _ _ _ _ _ _ _ _ _ _ _ _ _ _;k_dflt ((try dsimp only);refine' Mine.gN ?q12c ?q12X ?q12F ?_;(case q12X=>with_reducible assumption);(case q12F=>with_reducible assumption);(case q12c=>rfl);k_extra "mh")|show Mine.c6a _ _ _ _ _ _ _ _ _ _ _ _ _;k_dflt ((try dsimp only);refine' Mine.gF ?q12c ?q12X ?q12F ?_;(case q12X=>with_reducible assumption);(case q12F=>with_reducible assumption);(case q12c=>rfl);k_extra "mh")|show Mine.lna _ _ _ _ _ _ _ _ _ _ _ _ _ _ _;k_dflt (refine' Mine.gB ?q12c ?q12X ?q12F ?q12p ?_;(case q12X=>with_reducible assumption);(case q12F=>with_reducible assumption);(case q12c=>rfl);(case q12p=>rfl);k_extra "mh")|show Mine.kwa _ _ _ _ _ _ _ _ _ _ _ _ _ _ _;refine Mine.loa ?_|show Mine.mJa _ _ _ _ _ _ _ _ _ _ _ _ _ _ _ _;refine Mine.lka ?_|show Mine.lza _ _ _ _ _ _ _ _ _ _ _ _ _ _ _;(first|refine Mine.jYa ?_|refine Mine.lpa ?_)|show Mine.mKa _ _ _;refine Mine.lma ?_)|show @wpAny Value _ _ _ _ _ _;(fail_if_success show wpAny _ _ (call _ _) _ _ _);(first|show wpAny _ _ (eval _ _) _ _ _;(first|show wpAny _ _ (eval (Expr.Name _ _) _) (Mine.den _ _ _ _ _ _ _ _ _ _ _ (Mine.Ks.fn _ _ _)) _ _;k_dflt (first|(refine' Mine.gG ?q12c ?q12X ?q12F ?q12T ?q12x ?q12d ?q12e ?q12k ?q12p ?_;(case q12X=>with_reducible assumption);(case q12F=>with_reducible assumption);(case q12c=>rfl);(case q12T=>with_reducible assumption);(case q12x=>rfl);(case q12d=>decide);(case q12e=>k_is);(case q12k=>k_is);(case q12p=>rfl);k_extra "mh")|(refine' Mine.gT ?q12c ?q12X ?q12F ?q12T ?q12x ?q12d ?q12e ?q12v ?q12n ?_;(case q12X=>with_reducible assumption);(case q12F=>with_reducible assumption);(case q12c=>rfl);(case q12T=>with_reducible assumption);(case q12x=>rfl);(case q12d=>decide);(case q12e=>k_is);(case q12v=>rfl);(case q12n=>decide);k_extra "mh"))|show wpAny _ _ (eval _ _) (Mine.den _ _ _ _ _ _ _ _ _ _ _ _) _ _;(first|show wpAny _ _ (eval (Expr.Call _ _ [] _) _) _ _ _;k_dflt ((try dsimp only);refine' Mine.gEk ?q12c ?q12X ?q12F ?_;(case q12X=>with_reducible assumption);(case q12F=>with_reducible assumption);(case q12c=>rfl);k_extra "mh")|show wpAny _ _ (eval (Expr.Subscript _ _ _) _) _ _ _;k_dflt ((try dsimp only);refine' Mine.gEk ?q12c ?q12X ?q12F ?_;(case q12X=>with_reducible assumption);(case q12F=>with_reducible assumption);(case q12c=>rfl);k_extra "mh")|show wpAny _ _ (eval (Expr.Compare _ [_] [_] _) _) _ _ _;k_dflt ((try dsimp only);refine' Mine.gEk ?q12c ?q12X ?q12F ?_;(case q12X=>with_reducible assumption);(case q12F=>with_reducible assumption);(case q12c=>rfl);k_extra "mh")|show wpAny _ _ (eval (Expr.BinOp _ _ _ _) _) _ _ _;k_dflt ((try dsimp only);refine' Mine.gEk ?q12c ?q12X ?q12F ?_;(case q12X=>with_reducible assumption);(case q12F=>with_reducible assumption);(case q12c=>rfl);k_extra "mh")|show wpAny _ _ (eval (Expr.Tuple _ _ _) _) _ _ _;k_dflt ((try dsimp only);refine' Mine.gEk ?q12c ?q12X ?q12F ?_;(case q12X=>with_reducible assumption);(case q12F=>with_reducible assumption);(case q12c=>rfl);k_extra "mh")|show wpAny _ _ (eval (Expr.List _ _) _) _ _ _;k_dflt ((try dsimp only);refine' Mine.gEk ?q12c ?q12X ?q12F ?_;(case q12X=>with_reducible assumption);(case q12F=>with_reducible assumption);(case q12c=>rfl);k_extra "mh")|show wpAny _ _ (eval (Expr.UnaryOp _ _ _) _) _ _ _;k_dflt ((try dsimp only);refine' Mine.gEk ?q12c ?q12X ?q12F ?_;(case q12X=>with_reducible assumption);(case q12F=>with_reducible assumption);(case q12c=>rfl);k_extra "mh")|show wpAny _ _ (eval (Expr.IfExp _ _ _ _) _) _ _ _;k_dflt ((try dsimp only);refine' Mine.gEk ?q12c ?q12X ?q12F ?_;(case q12X=>with_reducible assumption);(case q12F=>with_reducible assumption);(case q12c=>rfl);k_extra "mh"))|show wpAny _ _ (eval (Expr.Call _ _ [] _) _) _ _ _;k_dflt ((try dsimp only);refine' Mine.gE ?q12c ?q12X ?q12F ?_;(case q12X=>with_reducible assumption);(case q12F=>with_reducible assumption);(case q12c=>rfl);k_extra "mh")|show wpAny _ _ (eval (Expr.Subscript _ _ _) _) _ _ _;k_dflt ((try dsimp only);refine' Mine.gE ?q12c ?q12X ?q12F ?_;(case q12X=>with_reducible assumption);(case q12F=>with_reducible assumption);(case q12c=>rfl);k_extra "mh")|show wpAny _ _ (eval (Expr.Compare _ [_] [_] _) _) _ _ _;k_dflt ((try dsimp only);refine' Mine.gE ?q12c ?q12X ?q12F ?_;(case q12X=>with_reducible assumption);(case q12F=>with_reducible assumption);(case q12c=>rfl);k_extra "mh")|show wpAny _ _ (eval (Expr.BinOp _ _ _ _) _) _ _ _;k_dflt ((try dsimp only);refine' Mine.gE ?q12c ?q12X ?q12F ?_;(case q12X=>with_reducible assumption);(case q12F=>with_reducible assumption);(case q12c=>rfl);k_extra "mh")|show wpAny _ _ (eval (Expr.Tuple _ _ _) _) _ _ _;k_dflt ((try dsimp only);refine' Mine.gE ?q12c ?q12X ?q12F ?_;(case q12X=>with_reducible assumption);(case q12F=>with_reducible assumption);(case q12c=>rfl);k_extra "mh")|show wpAny _ _ (eval (Expr.List _ _) _) _ _ _;k_dflt ((try dsimp only);refine' Mine.gE ?q12c ?q12X ?q12F ?_;(case q12X=>with_reducible assumption);(case q12F=>with_reducible assumption);(case q12c=>rfl);k_extra "mh")|show wpAny _ _ (eval (Expr.UnaryOp _ _ _) _) _ _ _;k_dflt ((try dsimp only);refine' Mine.gE ?q12c ?q12X ?q12F ?_;(case q12X=>with_reducible assumption);(case q12F=>with_reducible assumption);(case q12c=>rfl);k_extra "mh")|show wpAny _ _ (eval (Expr.IfExp _ _ _ _) _) _ _ _;k_dflt ((try dsimp only);refine' Mine.gE ?q12c ?q12X ?q12F ?_;(case q12X=>with_reducible assumption);(case q12F=>with_reducible assumption);(case q12c=>rfl);k_extra "mh"))|show wpAny _ _ (newTuple [_,_]) (Mine.mha _ _ _ _ _ _ _ _ _ _ _ _ _) _ _;k_dflt ((refine' Mine.p9a ?q12h ?q12F ?q12N ?_ ?q12k ?q12x ?q12y;(case q12F=>with_reducible assumption);(case q12N=>with_reducible assumption);(case q12h=>rfl);(case q12k=>rfl);(case q12x=>rfl);(case q12y=>rfl));intro _ _ _;(try k_sweep))|show wpAny _ _ (newTuple _) _ _ _;k_dflt ((refine' Mine.ita ?q12F ?q12N ?_ ?q12z;(case q12F=>with_reducible assumption);(case q12N=>with_reducible assumption);(case q12z=>rfl));intro _ _ _ _ l1;(try k_lt l1);(try revert l1);intros;(try k_sweep))|show wpAny _ _ (newList _) _ _ _;k_dflt ((refine' Mine.jHa ?q12F ?q12N ?_ ?q12z;(case q12F=>with_reducible assumption);(case q12N=>with_reducible assumption);(case q12z=>rfl));intro _ _ _ _ l1;(try k_lt l1);(try revert l1);intros;(try k_sweep)))|show @wpAny Flow _ _ _ _ _ _;(first|show wpAny _ _ (execs _ _) _ _ _;(first|show wpAny _ _ (execs _ _) (Mine.c6a _ _ _ _ _ _ _ _ _ _ _) _ _;k_dflt ((try dsimp only);refine' Mine.gXk ?q12c ?q12X ?q12F ?_;(case q12X=>with_reducible assumption);(case q12F=>with_reducible assumption);(case q12c=>rfl);k_extra "mh")|show wpAny _ _ (execs _ _) _ _ _;k_dflt ((try dsimp only);refine' Mine.gX ?q12c ?q12X ?q12F ?_;(case q12X=>with_reducible assumption);(case q12F=>with_reducible assumption);(case q12c=>rfl);k_extra "mh"))|show wpAny _ _ (exec (Stmt.If (Expr.BoolOp BoolOp.Or _ _) _ _ _) _) (Mine.c6a _ _ _ _ _ _ _ _ _ _ _) _ _;k_dflt (refine' Mine.gIf ?q12c ?q12X ?q12F ?_;(case q12X=>with_reducible assumption);(case q12F=>with_reducible assumption);(case q12c=>rfl);k_extra "mh")|show wpAny _ _ (exec (Stmt.Assign [Expr.Tuple [Expr.Name _ _,Expr.Name _ _] _ _] (Expr.Tuple [_,_] _ _) _) _) (Mine.c6a _ _ _ _ _ _ _ _ _ _ _) _ _;k_dflt (refine' Mine.gS ?q12c ?q12X ?q12F ?q12s ?q12w ?q12p ?_;(case q12X=>with_reducible assumption);(case q12F=>with_reducible assumption);(case q12c=>rfl);(case q12s=>rfl);(case q12w=>rfl);(case q12p=>rfl);k_extra "mh"))|show @wpAny Bool _ _ _ _ _ _;(first|show wpAny _ _ (PySem.isTrue _ _ _) _ _ _;(first|show wpAny _ _ (PySem.isTrue (Expr.Compare _ [_] [_] _) _ _) _ _ _;k_dflt ((try dsimp only);refine' Mine.gI ?q12c ?q12X ?q12F ?_;(case q12X=>with_reducible assumption);(case q12F=>with_reducible assumption);(case q12c=>rfl);k_extra "mh")|show wpAny _ _ (PySem.isTrue (Expr.Name _ _) _ _) _ _ _;k_dflt ((try dsimp only);refine' Mine.gI ?q12c ?q12X ?q12F ?_;(case q12X=>with_reducible assumption);(case q12F=>with_reducible assumption);(case q12c=>rfl);k_extra "mh")|show wpAny _ _ (PySem.isTrue (Expr.Call _ _ _ _) _ _) _ _ _;k_dflt ((try dsimp only);refine' Mine.gI ?q12c ?q12X ?q12F ?_;(case q12X=>with_reducible assumption);(case q12F=>with_reducible assumption);(case q12c=>rfl);k_extra "mh")|show wpAny _ _ (PySem.isTrue (Expr.UnaryOp UnaryOp.Not _ _) _ _) _ _ _;k_dflt ((try dsimp only);refine' Mine.gI ?q12c ?q12X ?q12F ?_;(case q12X=>with_reducible assumption);(case q12F=>with_reducible assumption);(case q12c=>rfl);k_extra "mh")|show wpAny _ _ (PySem.isTrue (Expr.BoolOp _ (_::_) _) _ _) _ _ _;k_dflt ((try dsimp only);refine' Mine.gI ?q12c ?q12X ?q12F ?_;(case q12X=>with_reducible assumption);(case q12F=>with_reducible assumption);(case q12c=>rfl);k_extra "mh")|show wpAny _ _ (PySem.isTrue (Expr.Subscript _ _ _) _ _) _ _ _;k_dflt ((try dsimp only);refine' Mine.gI ?q12c ?q12X ?q12F ?_;(case q12X=>with_reducible assumption);(case q12F=>with_reducible assumption);(case q12c=>rfl);k_extra "mh")|show wpAny _ _ (PySem.isTrue (Expr.Attribute _ _ _) _ _) _ _ _;k_dflt ((try dsimp only);refine' Mine.gI ?q12c ?q12X ?q12F ?_;(case q12X=>with_reducible assumption);(case q12F=>with_reducible assumption);(case q12c=>rfl);k_extra "mh"))|show wpAny _ _ (allTrue _ (_::_) _) _ _ _;k_dflt ((try dsimp only);refine' Mine.gAl ?q12c ?q12X ?q12F ?_;(case q12X=>with_reducible assumption);(case q12F=>with_reducible assumption);(case q12c=>rfl);k_extra "mh"))|show @wpAny Unit _ _ _ _ _ _;show wpAny _ _ (storeName _ _ _) _ _ _;k_dflt ((refine' Mine.gga ?q12F ?q12N ?_ ?q12k ?q12x;(case q12F=>with_reducible assumption);(case q12N=>with_reducible assumption);(case q12k=>rfl);(case q12x=>rfl));intro _ _ _;(try k_sweep))|show wpAny _ _ (getMethod (Value.ref _) _ _) (Mine.lna _ _ _ _ _ _ _ _ _ _ _ _ _) _ _;k_dflt (refine' Mine.gM ?q12c ?q12X ?q12F ?q12I ?q12g ?q12f ?q12t ?q12l ?q12k ?q12p ?_;(case q12X=>with_reducible assumption);(case q12F=>with_reducible assumption);(case q12c=>rfl);(case q12I=>k_inst);(case q12f=>k_is);(case q12g=>k_is);(case q12t=>k_is);(case q12l=>k_get);(case q12k=>k_is);(case q12p=>rfl);k_extra "mh")
 k_with "mf" =>
  first|(with_reducible show wpAny _ _ _ (Mine.kWa _) _ _)|(with_reducible show wpAny _ _ _ (Mine.den _ _ _ _ _ _ _ _ _ _ _ _) _ _)|(with_reducible show wpAny _ _ _ (Mine.c6a _ _ _ _ _ _ _ _ _ _ _) _ _)|(with_reducible show wpAny _ _ _ (Mine.kva _ _ _ _ _ _ _ _ _ _ _ _) _ _)|(with_reducible show wpAny _ _ _ (Mine.lna _ _ _ _ _ _ _ _ _ _ _ _ _) _ _)|(with_reducible show wpAny _ _ _ (Mine.mha _ _ _ _ _ _ _ _ _ _ _ _ _) _ _)|(with_reducible show wpAny _ _ _ (Mine.kwa _ _ _ _ _ _ _ _ _ _ _ _ _) _ _)|(with_reducible show wpAny _ _ _ (Mine.mJa _ _ _ _ _ _ _ _ _ _ _ _ _ _) _ _)|(with_reducible show wpAny _ _ _ (Mine.lza _ _ _ _ _ _ _ _ _ _ _ _ _) _ _)|(with_reducible show wpAny _ _ _ (Mine.mKa _) _ _)|((fail_if_success (fail_if_success k_fold));refine Mine.qQa ?_;intro qk)|((with_reducible show wpAny _ _ _ _ _ _);(fail_if_success (fail_if_success k_fold));refine Mine.qQa ?_;intro qk)|skip
 k_with "ma" =>
  (k_extra "mf";(repeat' (first|(k_unfold;(first|walk_at "mbk" |k_extra "mF" |walk1))|(k_unfold;(try dsimp only))|walk_at "mbk" |(k_extra "mF";walk_say "GO")|walk1|(dsimp only;walk1)));(all_goals try refine Mine.go_ ?_))
 k_with "w subscriptTail" =>
  ((with_reducible show wpAny _ _ (subscriptTail _ _ (Value.ref _) (Value.int _ _)) _ _ _);k_dflt (first|refine item_tupleL (by first|assumption|exact Fr.tup (by assumption) (by assumption)|exact News.isTup (by assumption) (by k_mem)) (by decide) (by decide) (by rfl) (by first|rfl|simp) ?_|refine item_listL (by first|assumption|exact Fr.lst (by assumption) (by assumption)|exact News.isList (by assumption) (by k_mem)) (by decide) (by decide) (by first|rfl|simp) ?_))
 k_with "w subscriptTail" =>
  ((fail_if_success (with_reducible show wpAny _ _ (subscriptTail (PySem.Expr.Name _ _) _ _ _) _ _ _));(with_reducible show wpAny _ _ (subscriptTail _ _ _ _) _ _ _);k_dflt (refine kba_turn (value':=PySem.Expr.Name (PySem.Str.ofString "_") ⟨0,0,0,0⟩) (fun _=>rfl) ?_))
 k_with "w ite" =>
  first|(k_here;k_openite;first|refine ite_pos (by with_reducible assumption) ?_|refine ite_neg (by with_reducible assumption) ?_|refine ite_isFalse (by with_reducible assumption) ?_|(k_spoken;first|refine ite_pos (by k_dec) ?_|refine ite_neg (by k_dec) ?_))|(k_closed;k_dflt (first|refine ite_pos (by decide) ?_|refine ite_neg (by decide) ?_))|with_reducible refine ite_tt ?_|with_reducible refine ite_ff ?_|(with_reducible refine split_ine ?_ ?_<;>intro _)|(with_reducible refine split_ieq ?_ ?_<;>intro _)|with_reducible refine split_not ?_|(refine split_dec ?_ ?_<;>intro _)|(refine split_bool ?_ ?_<;>intro _)
 k_with "w getMethod ref" =>
  first|((with_reducible show wpAny _ _ (getMethod (Value.ref _) (PySem.Str.ofString "append") _) _ _ _);k_dflt (refine' listMethod_K ?q13N ?q13m PySem.F.slot_list_append PySem.F.type_list_append ?_;(case q13N=>k_asm);(case q13m=>k_mem)))|((with_reducible show wpAny _ _ (getMethod (Value.ref _) (PySem.Str.ofString "pop") _) _ _ _);k_dflt (refine' kl_method ?q13N ?q13m PySem.F.slot_list_pop PySem.F.type_list_pop ?_;(case q13N=>k_asm);(case q13m=>k_mem)))|((with_reducible show wpAny _ _ (getMethod (Value.ref _) (PySem.Str.ofString "extend") _) _ _ _);k_dflt (refine' kl_method ?q13N ?q13m PySem.F.slot_list_extend PySem.F.type_list_extend ?_;(case q13N=>k_asm);(case q13m=>k_mem)))
 trivial
noncomputable abbrev ava(w:World):=cDa 441 252 w.params
noncomputable abbrev RO1(w:World):=RO (PySem.Challenge.pw_nu0071_02) w (hd.heap_1 w.params)
section
theorem ar29:True:=by
 k_with "ar29" =>with_reducible first|((show _<_);first|exact kAa ‹_› |exact nKa ‹_› ‹_› |exact nFa ‹_› |exact nia ‹_› ‹_› |exact lFa ‹_› ‹_› |exact jga ‹_› ‹_›)
 trivial
theorem gNa(w:World)(t:Addr)(i:Nat)(tk:Tok)(T:List aaa)(r:aaa)(hi:T[i]?=some r)(hT:T.length<1000):
 RO1 w 284 [.ref t, .int i tk] 3 (fun h=>ava w h t T) (fun _ h' v=>∃ a,v= .ref a∧f6a 252 w.params h' a r):=gP_ (by trivial:Ca_ (by
 intro A s Q E H hr hp hret
 obtain⟨dt,rl,tk,ep1,ep2,vs,e1,e2,e3,e4,e5⟩:=hp
 obtain⟨a,ha,hra⟩:=e5 i r hi
 have I1:InstAt s.heap t (instObj 441 dt) 441 (some (dictOf [⟨PyData.keyHash w.params (Str.ofString "rows"), .str (Str.ofString "rows") tk, .ref rl⟩] ep1)):=⟨e1,rfl,rfl,e2⟩
 have L1:s.heap.IsList rl vs.toArray:=⟨_,e3,rfl,_,rfl⟩
 have hv1:vs.length<2^24:=by omega
 have hi1:i<2^24:=by have:=(List.getElem?_eq_some_iff.mp hi).1;omega
 have hi2:i<vs.length:=by have:=(List.getElem?_eq_some_iff.mp hi).1;omega
 k_extra "mk"
 k_extra "ma"
 exact hret _ _ _ (Fr.keep (by assumption)) ⟨a,rfl,hra.stays (Fr.keep (by assumption))⟩))
theorem sEa:True:=by
 k_with "S29 call ref" =>
  (
   (with_reducible show wpAny _ _ (call (Value.ref 284) [Value.ref _,Value.int _ _]) _ _ _)
   k_dflt (
    refine a9a (gNa _ _ _ _ _ _ (by assumption) (by assumption)) (by assumption) (by assumption) (by assumption) (by assumption) (by assumption) (by k_extra "mc") (by k_extra "mc") (cDa.stays (by assumption) (Fr.keep (by assumption))) ?_ rfl rfl
    rintro h' tk' _ F' N' st ⟨a',rr',d',lc',la',ln',k1',k2',k3',k4',k5',k6',k7',k8',k9',t1',t2',t3',t4',t5',ep',pv',ra1',ra2',ra3',ra4',ra5',ra6'⟩
    subst rr'
    have rI':=eKa ra1' ra2'
    obtain⟨lv1',li1',ln1',ll1'⟩:=ra4'.list
    obtain⟨lv2',li2',ln2',ll2'⟩:=ra5'.list
    obtain⟨lv3',li3',ln3',ll3'⟩:=ra6'.list))
 trivial
theorem iya(w:World)(t:Addr)(i:Nat)(tk:Tok)(T:List aaa)(r:aaa)(hi:T[i]?=some r)(hT:T.length<1000):
 RO1 w 361 [.ref t, .int i tk] 5 (fun h=>ava w h t T) (fun _ _ v=>∃ tk,v= .str r.kind tk):=by
 intro A s Q E H hr hp hret
 obtain⟨dt,rl,tk1,ep1,I1⟩:=hp.inst
 k_extra "mk"
 k_extra "ma"
 exact hret _ _ _ (Fr.keep (by assumption)) ⟨_,rfl⟩
theorem iua(w:World)(t:Addr)(i:Nat)(tk:Tok)(T:List aaa)(r:aaa)(hi:T[i]?=some r)(hT:T.length<1000):
 RO1 w 368 [.ref t, .int i tk] 5 (fun h=>ava w h t T) (fun _ _ v=>∃ tk,v= .str r.name tk):=by
 intro A s Q E H hr hp hret
 obtain⟨dt,rl,tk1,ep1,I1⟩:=hp.inst
 k_extra "mk"
 k_extra "ma"
 exact hret _ _ _ (Fr.keep (by assumption)) ⟨_,rfl⟩
theorem jia(w:World)(t:Addr)(i:Nat)(tk:Tok)(T:List aaa)(r:aaa)(hi:T[i]?=some r)(hT:T.length<1000):
 RO1 w 375 [.ref t, .int i tk] 5 (fun h=>ava w h t T) (fun _ _ v=>∃ tk,v= .str r.uri tk):=by
 intro A s Q E H hr hp hret
 obtain⟨dt,rl,tk1,ep1,I1⟩:=hp.inst
 k_extra "mk"
 k_extra "ma"
 exact hret _ _ _ (Fr.keep (by assumption)) ⟨_,rfl⟩
theorem jJa(w:World)(t:Addr)(i:Nat)(tk:Tok)(T:List aaa)(r:aaa)(hi:T[i]?=some r)(hT:T.length<1000):
 RO1 w 382 [.ref t, .int i tk] 5 (fun h=>ava w h t T) (fun _ _ v=>∃ tk,v= .str r.loc tk):=by
 intro A s Q E H hr hp hret
 obtain⟨dt,rl,tk1,ep1,I1⟩:=hp.inst
 k_extra "mk"
 k_extra "ma"
 exact hret _ _ _ (Fr.keep (by assumption)) ⟨_,rfl⟩
theorem cGa(w:World)(t:Addr)(i:Nat)(tk:Tok)(T:List aaa)(r:aaa)(hi:T[i]?=some r)(hT:T.length<1000):
 RO1 w 396 [.ref t, .int i tk] 5 (fun h=>ava w h t T) (fun _ _ v=>b2a r.parent v):=by
 intro A s Q E H hr hp hret
 obtain⟨dt,rl,tk1,ep1,I1⟩:=hp.inst
 k_extra "mk"
 k_extra "ma"
 exact hret _ _ _ (Fr.keep (by assumption)) (by assumption)
theorem fna(w:World)(t:Addr)(i:Nat)(tk:Tok)(T:List aaa)(r:aaa)(hi:T[i]?=some r)(hT:T.length<1000)(hc:r.children.length<1000):
 RO1 w 403 [.ref t, .int i tk] 5 (fun h=>ava w h t T) (fun h h' v=>apa h h' v r.children):=by
 intro A s Q E H hr hp hret
 obtain⟨dt,rl,tk1,ep1,I1⟩:=hp.inst
 k_extra "mk"
 k_extra "ma"
 exact hret _ _ _ (Fr.keep (by assumption)) (aca (by assumption) (by k_mem) (by assumption) (by omega))
theorem eia(w:World)(t:Addr)(i:Nat)(tk:Tok)(T:List aaa)(r:aaa)(hi:T[i]?=some r)(hT:T.length<1000)(hc:r.attrs.length<1000):
 RO1 w 410 [.ref t, .int i tk] 5 (fun h=>ava w h t T) (fun h h' v=>apa h h' v r.attrs):=by
 intro A s Q E H hr hp hret
 obtain⟨dt,rl,tk1,ep1,I1⟩:=hp.inst
 k_extra "mk"
 k_extra "ma"
 exact hret _ _ _ (Fr.keep (by assumption)) (aca (by assumption) (by k_mem) (by assumption) (by omega))
theorem d1a(w:World)(t:Addr)(i:Nat)(tk:Tok)(T:List aaa)(r:aaa)(hi:T[i]?=some r)(hT:T.length<1000)(hc:r.nss.length<1000):
 RO1 w 417 [.ref t, .int i tk] 5 (fun h=>ava w h t T) (fun h h' v=>apa h h' v r.nss):=by
 intro A s Q E H hr hp hret
 obtain⟨dt,rl,tk1,ep1,I1⟩:=hp.inst
 k_extra "mk"
 k_extra "ma"
 exact hret _ _ _ (Fr.keep (by assumption)) (aca (by assumption) (by k_mem) (by assumption) (by omega))
theorem hBa(w:World)(t:Addr)(i:Nat)(tk:Tok)(T:List aaa)(W:WF T)(hi:i<T.length):
 RO1 w 361 [.ref t, .int i tk] 5 (fun h=>ava w h t T) (fun _ _ v=>∃ tk,v= .str (kindOf T i) tk):=by
 have e:T[i]?=some T[i]:=List.getElem?_eq_getElem hi
 rw [aXa e];exact iya w t i tk T _ e (by have:=W.small;omega)
theorem dBa(w:World)(t:Addr)(i:Nat)(tk:Tok)(T:List aaa)(W:WF T)(p:Nat)(hp:par T i=some p):
 RO1 w 396 [.ref t, .int i tk] 5 (fun h=>ava w h t T) (fun _ _ v=>∃ tk,v= .int p tk):=gP_ (by trivial:Ca_ (by
 have hi:i<T.length:=by
  unfold par at hp
  cases e:T[i]? with
  |none=>rw [e] at hp;cases hp
  |some r=>exact(List.getElem?_eq_some_iff.mp e).1
 have e:T[i]?=some T[i]:=List.getElem?_eq_getElem hi
 intro A s Q E H hr hpre hret
 refine cGa w t i tk T _ e (by have:=W.small;omega) A s Q E H hr hpre fun h' tk' r st q=>hret h' tk' r st ?_
 rw [bBa e] at hp;rw [hp] at q;cases q;exact⟨_,rfl⟩))
theorem dCa(w:World)(t:Addr)(i:Nat)(tk:Tok)(T:List aaa)(W:WF T)(hi:i<T.length)(hp:par T i=none):
 RO1 w 396 [.ref t, .int i tk] 5 (fun h=>ava w h t T) (fun _ _ v=>v= .none):=by
 have e:T[i]?=some T[i]:=List.getElem?_eq_getElem hi
 intro A s Q E H hr hpre hret
 refine cGa w t i tk T _ e (by have:=W.small;omega) A s Q E H hr hpre fun h' tk' r st q=>hret h' tk' r st ?_
 rw [bBa e] at hp;rw [hp] at q;cases q;rfl
theorem eva(w:World)(t:Addr)(i:Nat)(tk:Tok)(T:List aaa)(W:WF T)(hi:i<T.length):
 RO1 w 403 [.ref t, .int i tk] 5 (fun h=>ava w h t T) (fun h h' v=>apa h h' v (aFa T i)):=by
 have e:T[i]?=some T[i]:=List.getElem?_eq_getElem hi
 have z:=a0a W i
 rw [cIa e] at z ⊢;exact fna w t i tk T _ e (by have:=W.small;omega) (by omega)
theorem dFa(w:World)(t:Addr)(i:Nat)(tk:Tok)(T:List aaa)(W:WF T)(hi:i<T.length):
 RO1 w 410 [.ref t, .int i tk] 5 (fun h=>ava w h t T) (fun h h' v=>apa h h' v (bea T i)):=by
 have e:T[i]?=some T[i]:=List.getElem?_eq_getElem hi
 have z:=c7a W i
 rw [bFa e] at z ⊢;exact eia w t i tk T _ e (by have:=W.small;omega) (by omega)
theorem dDa(w:World)(t:Addr)(i:Nat)(tk:Tok)(T:List aaa)(W:WF T)(hi:i<T.length):
 RO1 w 417 [.ref t, .int i tk] 5 (fun h=>ava w h t T) (fun h h' v=>apa h h' v (caa T i)):=by
 have e:T[i]?=some T[i]:=List.getElem?_eq_getElem hi
 have z:=gSa W i
 rw [goa e] at z ⊢;exact d1a w t i tk T _ e (by have:=W.small;omega) (by omega)
theorem dva(w:World)(t:Addr)(i:Nat)(tk:Tok)(T:List aaa)(W:WF T)(hi:i<T.length):
 RO1 w 396 [.ref t, .int i tk] 5 (fun h=>ava w h t T) (fun _ _ v=>b2a (par T i) v):=by
 have e:T[i]?=some T[i]:=List.getElem?_eq_getElem hi
 rw [bBa e];exact cGa w t i tk T _ e (by have:=W.small;omega)
end
theorem sDa:True:=by
 k_with "mq" =>
  exact cDa.stays (by assumption) (Fr.keep (by assumption))
 k_with "ml" =>
  first|assumption|exact qha (by assumption) (by assumption)|exact Nat.lt_trans (by assumption) (by assumption)|omega
 k_with "mS" =>
  exact hBa _ _ _ _ _ (by assumption) (by k_extra "ml")
 k_with "mbi" =>
  exact dva _ _ _ _ _ (by assumption) (by k_extra "ml")
 k_with "mR" =>
  exact dCa _ _ _ _ _ (by assumption) (by k_extra "ml") (by assumption)
 k_with "mS" =>
  exact dBa _ _ _ _ _ (by assumption) _ (by assumption)
 k_with "mt" =>
  exact eva _ _ _ _ _ (by assumption) (by k_extra "ml")
 k_with "mt" =>
  exact dFa _ _ _ _ _ (by assumption) (by k_extra "ml")
 k_with "mt" =>
  exact dDa _ _ _ _ _ (by assumption) (by k_extra "ml")
 trivial
section
theorem ar30:True:=by
 k_with "ar30" =>with_reducible first|((show _<_);first|exact fva ‹_› ‹_› |exact nOa ‹_› |exact lHa ‹_› ‹_› ‹_› |exact lJa ‹_› ‹_› ‹_› |exact kBa ‹_› ‹_› |exact jda ‹_› |exact oxa ‹_› ‹_› |exact noa ‹_› ‹_› |exact nJa ‹_› ‹_› |exact oza ‹_› ‹_› ‹_›)
 trivial
theorem gya(w:World)(t:Addr)(i:Nat)(tk:Tok)(T:List aaa)(W:WF T)(hi:i<T.length):
 RO1 w 72 [.ref t, .int i tk] 7 (fun h=>ava w h t T) (fun _ _ v=>v= .bool (aoa T i)):=by
 intro A s Q E H hr hp hret
 obtain⟨dt,rl,tk1,ep1,I1⟩:=hp.inst
 k_extra "mk"
 k_extra "ma"
 exact hret _ _ _ (Fr.keep (by assumption)) rfl
structure St1 where
 fv:List Value
 fn:Nat
 fs:List Nat
 o:Option Nat
 v:Value
theorem j8a:∀ (w:World) (t:Addr) (i:Nat) (tk:Tok) (T:List aaa) (W:WF T) (hi:i<T.length),
 RO1 w 86 [.ref t, .int i tk] 7 (fun h=>ava w h t T) (fun h h' v=>apa h h' v (anc T i)):=gP_ (by trivial:Ca_ (by
 intro w t i tk T W hi
 refine Mine.hRO ?_
 intro A s Q E
 revert W hi
 revert w t i tk T A s Q E
 k_extra "mu"
 intro w t i tk T A s Q E W hi H hr hp hret
 obtain⟨dt,rl,tk1,ep1,I1⟩:=hp.inst
 k_extra "mi"
 k_extra "ma"
 rename_i fD _ _ _ _ pv _ hpv _ _ _
 refine bQa rfl (σ:=St1) (fun c=> [(fD,listOf c.fv.toArray c.fn)]) (fun c=> [(Str.ofString "here",c.v)]) []
  (fun c=>b2a c.o c.v∧NV c.fv c.fs∧c.fs++(match c.o with|none=> []|some x=>x::anc T x)=anc T i∧∀ x,c.o=some x->x<T.length) (fun c=>match c.o with|none=>0|some x=>x+1)
  ⟨[],0, [],par T i,pv⟩ [] (by assumption) (by assumption) ?_ ?_ ?_ ?_ ?_
 ·k_extra "mn"
 ·simp
 ·k_extra "mo"
 ·refine⟨hpv, .nil, ?_, ?_⟩
  ·cases hp:par T i with
   |none=>simp [aNa hp]
   |some q=>simp [aka W hp]
  ·intro x hx
   have:=aja W hx;omega
 ·rintro cS_ u h tk hJ0_ F N _
  k_extra "mf"
  obtain⟨fv,fn,fs,o,v⟩:=cS_
  dsimp only at F N hJ0_ ⊢
  refine bua ?_
  intro hG_ hg_
  obtain⟨hv,nf,he,hb⟩:=hJ0_
  refine hg_ ?_
  clear hg_ hG_
  dsimp only [List.cons_append,List.nil_append] at N
  have hz:=b1a W i
  have hT:=W.small
  have nl:=nf.len
  cases hv with
  |none=>
   k_extra "ma"
   all_goals first|(exfalso;simp at*;done)|skip
   refine hret _ _ _ (Fr.keep (by assumption)) (aca (by assumption) (by k_mem) ?_ (by omega))
   rw [<-he];simpa using nf
  |some x tx=>
   have hx:=hb x rfl
   have hz2:fs.length<60:=by rw [<-he] at hz;simp only [List.length_append] at hz;omega
   k_extra "ma"
   all_goals first|(exfalso;simp at*;done)|skip
   rename_i pv' _ hpv' _ _ _
   refine' bwa.intro ⟨_,_,fs++ [x],par T x,pv'⟩ ?F ?N ?mem ?J ?mu ?sep ?ps ?m
   (case F=>assumption)
   (case N=>assumption)
   (case mem=>k_extra "mn")
   (case sep=>simp)
   (case ps=>k_extra "mo")
   (case m=>k_extra "mj")
   (case J=>
     refine⟨hpv',nf.snoc _ _, ?_, ?_⟩
     ·rw [<-he]
      cases hp:par T x with
      |none=>simp [aNa hp]
      |some q=>simp [aka W hp]
     ·intro y hy
      have:=aja W hy;omega)
   (case mu=>
     cases hp:par T x with
     |none=>simp
     |some q=>have:=aja W hp;simp;omega)))
structure St2 where
 fv:List Value
 lv:List Value
 fn:Nat
 ln:Nat
 fs:List Nat
 ls:List Nat
theorem iQa:∀ (w:World) (t:Addr) (i:Nat) (tk:Tok) (T:List aaa) (W:WF T) (hi:i<T.length),
 RO1 w 79 [.ref t, .int i tk] 8 (fun h=>ava w h t T) (fun h h' v=>apa h h' v (a3a T i)):=gP_ (by trivial:Ca_ (by
 intro w t i tk T W hi
 refine Mine.hRO ?_
 intro A s Q E
 revert W hi
 revert w t i tk T A s Q E
 k_extra "mu"
 intro w t i tk T A s Q E W hi H hr hp hret
 obtain⟨dt,rl,tk1,ep1,I1⟩:=hp.inst
 have hT:=W.small
 have hlen:=a0a W i
 k_extra "mi"
 k_extra "ma"
 rename_i fD _ _ _ _ ld0 vs0 _ nv0 _ _ _ D2 _ _ _ lD _ _ _ _ _
 have e0:(a3a T i)=(aFa T i).flatMap fun c=>c::a3a T c:=bpa W i
 refine bQa rfl (σ:=St2) (fun c=> [(fD,listOf c.fv.toArray c.fn),(lD,listOf c.lv.toArray c.ln)]) (fun _=> []) [Str.ofString "here"]
  (fun c=>NV c.fv c.fs∧NV c.lv c.ls∧c.fs++(c.ls.reverse.flatMap fun x=>x::a3a T x)=a3a T i∧∀ x∈c.ls,x<T.length) (fun c=>(c.ls.reverse.flatMap fun x=>x::a3a T x).length)
  ⟨[],vs0.reverse,0,0, [],(aFa T i).reverse⟩ [] (by assumption) (by assumption) ?_ ?_ ?_ ?_ ?_
 ·k_extra "mn"
 ·simp
 ·simp
 ·refine⟨.nil,nv0.rev, ?_, ?_⟩
  ·rw [e0];simp
  ·intro x hx
   exact(aJa W (i:=i) (by simpa using hx)).2
 ·rintro cS_ u h tk hJ0_ F N _
  k_extra "mf"
  obtain⟨fv,lv,fn,ln,fs,ls⟩:=cS_
  dsimp only at F N hJ0_ ⊢
  refine bua ?_
  intro hG_ hg_
  obtain⟨nf,nl,he,hb⟩:=hJ0_
  refine hg_ ?_
  clear hg_ hG_
  dsimp only [List.cons_append,List.nil_append] at N
  try dsimp only at N
  rcases cHa ls with rfl|⟨ls',x,rfl⟩
  ·cases nl
   k_extra "ma"
   all_goals first|(exfalso;simp at*;done)|skip
   refine hret _ _ _ (Fr.keep (by assumption)) (aca (by assumption) (by k_mem) ?_ (by have:=bJa W i;omega))
   rw [<-he];simpa using nf
  ·obtain⟨lv',tx,rfl,nl'⟩:=NV.unsnoc nl
   have hxb:=hb x (by simp)
   have b1:=bJa W i
   have he':fs++(x::(a3a T x++ls'.reverse.flatMap fun y=>y::a3a T y))=a3a T i:=by
    rw [<-he];simp
   have b0:ls'.length≤(ls'.reverse.flatMap fun y=>y::a3a T y).length:=eua ls'
   have b2:fs.length+ls'.length<1000:=by
    rw [<-he'] at b1
    simp only [List.length_append,List.length_cons] at b1
    omega
   have b3:=nf.len
   have b4:=nl'.len
   have b5:=a0a W x
   have e1:a3a T x=(aFa T x).flatMap fun c=>c::a3a T c:=bpa W x
   k_extra "ma"
   all_goals first|(exfalso;simp at*;done)|skip
   refine' bwa.intro ⟨_,_,_,_,fs++ [x],ls'++(aFa T x).reverse⟩ ?F ?N ?mem ?J ?mu ?sep ?ps ?m
   (case F=>assumption)
   (case N=>assumption)
   (case mem=>k_extra "mn")
   (case sep=>simp)
   (case ps=>simp)
   (case m=>k_extra "mj")
   (case J=>
     refine⟨nf.snoc _ _,nl'.app (NV.rev (by assumption)), ?_, ?_⟩
     ·rw [<-he',e1];simp
     ·intro y hy
      rcases laM hy with hy|hy
      ·exact hb y (laL _ hy)
      ·exact(aJa W (i:=x) (by simpa using hy)).2)
   (case mu=>simp [e1])))
end
theorem sCa:True:=by
 k_with "mR" =>
  exact gya _ _ _ _ _ (by assumption) (by k_extra "ml")
 k_with "mt" =>
  exact j8a _ _ _ _ _ (by assumption) (by k_extra "ml")
 k_with "mt" =>
  exact iQa _ _ _ _ _ (by assumption) (by k_extra "ml")
 trivial
section
theorem ar31:True:=by
 k_with "ar31" =>with_reducible first|exact fva ‹_› ‹_› |exact oja ‹_›
 trivial
theorem iha:∀ (w:World) (t:Addr) (i:Nat) (tk:Tok) (T:List aaa) (W:WF T) (hi:i<T.length),
 RO1 w 93 [.ref t, .int i tk] 9 (fun h=>ava w h t T) (fun h h' v=>apa h h' v (cRa T i)):=gP_ (by trivial:Ca_ (by
 intro w t i tk T W hi
 refine Mine.hRO ?_
 intro A s Q E
 revert W hi
 revert w t i tk T A s Q E
 k_extra "mu"
 intro w t i tk T A s Q E W hi H hr hp hret
 obtain⟨dt,rl,tk1,ep1,I1⟩:=hp.inst
 cases hpi:par T i with
 |none=>
  have e:cRa T i= []:=by unfold cRa;rw [hpi]
  k_extra "mi"
  k_extra "ma"
  exact hret _ _ _ (Fr.keep (by assumption)) (aca (by assumption) (by k_mem) (by rw [e];exact NV.nil) (by rw [e];simp))
 |some q=>
  have hq:q<T.length:=by have:=aja W hpi;omega
  have hkl:=a0a W q
  cases hb:aoa T i with
  |true=>
   have e:cRa T i= []:=by unfold cRa;rw [hpi];simp [hb]
   k_extra "mi"
   k_extra "ma"
   all_goals first|(exfalso;simp_all;done)|skip
   exact hret _ _ _ (Fr.keep (by assumption)) (aca (by assumption) (by k_mem) (by rw [e];exact NV.nil) (by rw [e];simp))
  |false=>
   have e:cRa T i=((aFa T q).take ((aFa T q).idxOf i)).reverse:=by unfold cRa;rw [hpi];simp [hb]
   have hm:=bZa W hpi hb
   k_extra "mi"
   k_extra "ma"
   all_goals first|(exfalso;simp_all;done)|skip
   exact hret _ _ _ (Fr.keep (by assumption)) (aca (by assumption) (by k_mem) (by rw [e];exact NV.rev (NV.take _ (by assumption))) (by rw [e];simp;omega))))
theorem iga:∀ (w:World) (t:Addr) (i:Nat) (tk:Tok) (T:List aaa) (W:WF T) (hi:i<T.length),
 RO1 w 100 [.ref t, .int i tk] 9 (fun h=>ava w h t T) (fun h h' v=>apa h h' v (cya T i)):=gP_ (by trivial:Ca_ (by
 intro w t i tk T W hi
 refine Mine.hRO ?_
 intro A s Q E
 revert W hi
 revert w t i tk T A s Q E
 k_extra "mu"
 intro w t i tk T A s Q E W hi H hr hp hret
 obtain⟨dt,rl,tk1,ep1,I1⟩:=hp.inst
 cases hpi:par T i with
 |none=>
  have e:cya T i= []:=by unfold cya;rw [hpi]
  k_extra "mi"
  k_extra "ma"
  exact hret _ _ _ (Fr.keep (by assumption)) (aca (by assumption) (by k_mem) (by rw [e];exact NV.nil) (by rw [e];simp))
 |some q=>
  have hq:q<T.length:=by have:=aja W hpi;omega
  have hkl:=a0a W q
  cases hb:aoa T i with
  |true=>
   have e:cya T i= []:=by unfold cya;rw [hpi];simp [hb]
   k_extra "mi"
   k_extra "ma"
   all_goals first|(exfalso;simp_all;done)|skip
   exact hret _ _ _ (Fr.keep (by assumption)) (aca (by assumption) (by k_mem) (by rw [e];exact NV.nil) (by rw [e];simp))
  |false=>
   have e:cya T i=(aFa T q).drop ((aFa T q).idxOf i+1):=by unfold cya;rw [hpi];simp [hb]
   have hm:=bZa W hpi hb
   k_extra "mi"
   k_extra "ma"
   all_goals first|(exfalso;simp_all;done)|skip
   exact hret _ _ _ (Fr.keep (by assumption)) (aca (by assumption) (by k_mem) (by rw [e];exact NV.drop _ (by assumption)) (by rw [e];simp;omega))))
end
theorem sBa:True:=by
 k_with "mt" =>
  exact iha _ _ _ _ _ (by assumption) (by k_extra "ml")
 k_with "mt" =>
  exact iga _ _ _ _ _ (by assumption) (by k_extra "ml")
 trivial
section
theorem ar32:True:=by
 k_with "ar32" =>with_reducible first|exact oma ‹_› ‹_› |exact nla ‹_› ‹_› ‹_›
 trivial
structure StF where
 fv:List Value
 fn:Nat
 fs:List Nat
theorem kKa:∀ (w:World) (t l:Addr) (T:List aaa) (W:WF T) (ns:List Nat) (hb:∀ x∈ns,x<T.length) (hz:(ada T ns).length<4096),
 RO1 w 107 [.ref t, .ref l] 10 (fun h=>ava w h t T∧dqa h l ns) (fun h h' v=>apa h h' v (ada T ns)):=gP_ (by trivial:Ca_ (by
 intro w t l T W ns hb hz
 refine Mine.hRO ?_
 intro A s Q E
 revert W hb hz
 revert w t l T ns A s Q E
 k_extra "mu"
 intro w t l T ns A s Q E W hb hz H hr hp hret
 obtain⟨hp,vs,hl,hv⟩:=hp
 obtain⟨dt,rl,tk1,ep1,I1⟩:=hp.inst
 k_extra "mi"
 k_extra "ma"
 rename_i fD _ _ _ F N
 have hne:=foa N hl
 simp only [ara,aOa,and_true] at hne
 refine bCa rfl (σ:=StF) (fun c=> [(fD,listOf c.fv.toArray c.fn)]) (fun _=> []) [] (fun k c=>NV c.fv c.fs∧c.fs=ada T (ns.take k)) ⟨[],0, []⟩ []
  rfl (a2a hl F) (bca F hl) F N ?_ ?_ ?_ ?_ ?_ ?_ ?_
 ·k_extra "mn"
 ·simp
 ·intro c;simp [hne]
 ·simp
 ·exact⟨.nil,rfl⟩
 ·rintro k v cS_ u h tk own hk hkl hJ0_ F N hsep
  k_extra "mf"
  obtain⟨fv,fn,fs⟩:=cS_
  dsimp only at F N hsep hJ0_ ⊢
  refine bua ?_
  intro hG_ hg_
  obtain⟨nf,he⟩:=hJ0_
  refine hg_ ?_
  clear hg_ hG_
  dsimp only [List.cons_append,List.nil_append] at N hsep
  simp only [ara,aOa,and_true] at hsep
  obtain⟨n,tn,hn,rfl⟩:=hv.get hk
  have hnb:=hb n (List.mem_of_getElem? hn)
  have hz1:fs.length<4096:=by rw [he];exact Nat.lt_of_le_of_lt (aYa ns k) hz
  have hz2:=nf.len
  k_extra "ma"
  have he2:fs++(n::a3a T n)=ada T (ns.take (k+1)):=by rw [he];exact(awa hn).symm
  refine' aHa.intro ⟨_,_,_⟩ ?F ?N ?mem ⟨?J,he2⟩ ?sep ?ps ?m
  k_extra "mbe"
  (case J=>simpa using (nf.snoc _ _).app (by assumption))
 ·rintro cS_ u h tk hJ0_ F N hsep
  k_extra "mf"
  obtain⟨fv,fn,fs⟩:=cS_
  dsimp only at F N hsep hJ0_ ⊢
  refine bua ?_
  intro hG_ hg_
  obtain⟨nf,he⟩:=hJ0_
  refine hg_ ?_
  clear hg_ hG_
  k_extra "ma"
  refine hret _ _ _ (Fr.keep (by assumption)) (aca (by assumption) (by k_mem) ?_ hz)
  rw [hv.len,List.take_length] at he
  rw [<-he];exact nf))
end
theorem sAa:True:=by
 k_with "w call ref" =>
  (
   (with_reducible show wpAny _ _ (call (Value.ref 107) [Value.ref _,Value.ref _]) _ _ _)
   k_dflt (
    refine' e8a (kKa _ _ _ _ ?q14W _ ?q14hb ?q14hz) ?q14a ?q14b ?q14c ?q14d ?q14e ?q14f ?q14g ?q14h ?_ ?q14i ?q14j
    (case q14W=>assumption)
    (case q14a=>assumption)
    (case q14b=>assumption)
    (case q14c=>assumption)
    (case q14d=>assumption)
    (case q14e=>assumption)
    (case q14f=>k_extra "mc")
    (case q14g=>k_extra "mc")
    (case q14h=>exact⟨by k_extra "mq",dqa.mk (by k_extra "mg") (by walk_at "mp")⟩)
    (case q14hb=>walk_at "mbu")
    (case q14hz=>walk_at "mbv")
    (case q14i=>exact rfl)
    (case q14j=>exact rfl)
    intro _ _ _ _ _ _ _ l1 nv' ll' st'
    (first|(simp only [ara,aOa,and_true] at l1;(try revert l1);revert nv' ll' st')|revert l1 nv' ll' st');intros
    (try k_sweep)))
 trivial
section
theorem ar33:True:=by
 k_with "ar33" =>with_reducible first|((show _<_);first|exact kDa ‹_› ‹_› ‹_› |exact jfa ‹_› ‹_› |exact fva ‹_› ‹_› |exact nLa ‹_› ‹_› ‹_› |exact oFa ‹_› ‹_› ‹_› |exact osa ‹_› ‹_›)|exact(lIa ‹_› ‹_›).elim
 trivial
theorem rqa:True:=by
 k_with "S33 mbu" =>
  exact fun _ hx=>e6a (by assumption) hx
 k_with "S33 mbv" =>
  exact Nat.lt_trans (kLa (by assumption) _) (by decide)
 trivial
inductive i8a(g:Heap)(L t:Addr)(T:List aaa)(i:Nat)(s s':Shared):Prop
 |ik (q:Nat) (tq:Tok) (h':Heap) (tk':Nat) (fD:Addr) (vs:List Value) (fs0:List Nat) (c:Nat) (e:s'= {s with heap:=h',toks:=tk'}) (hq:q<T.length) (hp:g2a T i=fs0++aqa T q) (hz:fs0.length<60) (hv:NV vs fs0)
  (F:Fr g L h' (fun y=>if y=Str.ofString "found" then some (.ref fD) else if y=Str.ofString "node" then some (.int (q:Nat) tq) else if y=Str.ofString "tree" then some (.ref t) else none)) (N:News g L h' [(fD,listOf vs.toArray c)]):i8a g L t T i s s'
theorem qga{a b c:Str}{u u' v x x':Value}(y:Str):(if y=c then some x' else if y=a then some u' else if y=c then some x else List.lookup y [(a,u),(b,v)])=if y=c then some x' else if y=a then some u' else if y=b then some v else none:=by
 rw [cua];by_cases h:y=c<;>by_cases h2:y=a<;>simp [h,h2]
theorem iMa:∀ (w:World) (t:Addr) (i:Nat) (tk:Tok) (T:List aaa) (W:WF T) (hi:i<T.length),
 RO1 w 114 [.ref t, .int i tk] 12 (fun h=>ava w h t T) (fun h h' v=>apa h h' v (g2a T i)):=gP_ (by trivial:Ca_ (by
 intro w t i tk T W hi
 refine Mine.hRO ?_
 intro A s Q E
 revert W hi
 revert w t i tk T A s Q E
 k_extra "mu"
 intro w t i tk T A s Q E W hi H hr hp hret
 obtain⟨dt,rl,tk1,ep1,I1⟩:=hp.inst
 have hT:=W.small
 k_extra "mi"
 rename_i L h₁ tk₁ B X TT F N hd hu
 refine gta (i8a s.heap L t T i s) ?_ ?_
 ·cases hb:aoa T i with
  |false=>
   have e0:g2a T i= []++aqa T i:=by unfold g2a;rw [hb];simp
   k_extra "ma"
   all_goals first|(exfalso;simp_all;done)|exact⟨i,tk,_,_,_, [], [],_,rfl,hi,e0,by decide, .nil,eRa (by assumption) (fun y=>by rw [cua]),by assumption⟩
  |true=>
   obtain⟨q,hq⟩:=bUa W hi hb
   have e0:g2a T i=a3a T q++aqa T q:=by unfold g2a;rw [hb,hq];simp
   have hqi:=aja W hq
   have hdl:=bJa W q
   k_extra "ma"
   all_goals first|(exfalso;simp_all;done)|exact⟨q,_,_,_,_,_,_,_,rfl,Nat.lt_trans hqi hi,e0,hdl,by assumption,eRa (by assumption) (fun y=>qga y),News.sub (by assumption) (fc mhd fn)⟩
 ·clear F N
  rintro s' ⟨q,tq,h',tk',fD,fv0,fs0,c0,rfl,hqT,e0,hz0,nv0,F,N⟩
  have hal:=b1a W q
  k_extra "ma"
  rename_i D _ F N nvD _
  have hlt:∀ n∈ [q]++anc T q,n<T.length:=by
   intro n hn
   rcases laM hn with hn|hn
   ·have:=lsM hn;omega
   ·have:=f1a W q n hn;omega
  have hfl:=bIa W q
  refine bCa rfl (σ:=StF) (fun c=> [(fD,listOf c.fv.toArray c.fn)]) (fun _=> []) [] (fun k c=>NV c.fv c.fs∧c.fs=fs0++(([q]++anc T q).take k).flatMap fun h=>ada T (cya T h)) ⟨fv0,c0,fs0⟩ []
   rfl (by k_extra "mg") (N _ (by k_mem)).2.1 F N (by k_extra "mn") (by simp) (by intro c;k_extra "mr") (by simp) ⟨nv0,by simp⟩ ?_ ?_
  ·rintro k v cS_ u h tk own hk hkl hJ0_ F N hsep
   k_extra "mf"
   obtain⟨fv,fn,fs⟩:=cS_
   dsimp only at F N hsep hJ0_ ⊢
   refine bua ?_
   intro hG_ hg_
   obtain⟨nf,he⟩:=hJ0_
   refine hg_ ?_
   clear hg_ hG_
   dsimp only [List.cons_append,List.nil_append] at N hsep
   simp only [ara,aOa,and_true] at hsep
   obtain⟨n,tn,hn,rfl⟩:=nvD.get hk
   have hnb:=hlt n (List.mem_of_getElem? hn)
   have hz1:fs.length<200:=by
    have h1:=aYa (g:=fun h=>ada T (cya T h)) ([q]++anc T q) k
    have h2:(([q]++anc T q).flatMap fun h=>ada T (cya T h))=aqa T q:=rfl
    rw [h2] at h1
    rw [he,List.length_append];(try simp only [List.length_nil]);omega
   have hz2:=nf.len
   k_extra "ma"
   have he2:fs++ada T (cya T n)=fs0++(([q]++anc T q).take (k+1)).flatMap (fun h=>ada T (cya T h)):=by
    rw [he,awa hn,List.append_assoc]
   refine aHa.intro ⟨_,_,_⟩ (by assumption) (by assumption) (by k_extra "mn") ⟨?_,he2⟩ (by k_extra "mr") (by k_extra "mo") (by k_extra "mj")
   exact nf.app (by assumption)
  ·rintro cS_ u h tk hJ0_ F N hsep
   k_extra "mf"
   obtain⟨fv,fn,fs⟩:=cS_
   dsimp only at F N hsep hJ0_ ⊢
   refine bua ?_
   intro hG_ hg_
   obtain⟨nf,he⟩:=hJ0_
   refine hg_ ?_
   clear hg_ hG_
   k_extra "ma"
   refine hret _ _ _ (Fr.keep (by assumption)) (aca (by assumption) (by k_mem) ?_ ?_)
   ·rw [nvD.len,List.take_length] at he
    rw [e0,show aqa T q=(([q]++anc T q).flatMap fun h=>ada T (cya T h)) from rfl,<-he];exact nf
   ·rw [e0,List.length_append];(try simp only [List.length_nil]);omega))
end
section
theorem ar34:True:=by
 k_with "ar34" =>with_reducible first|((show _<_);first|exact jfa ‹_› ‹_› |exact kDa ‹_› ‹_› ‹_› |exact fva ‹_› ‹_› |exact qAa ‹_› ‹_› |exact mYa ‹_› ‹_› |exact lGa ‹_› |exact lKa ‹_› |exact nUa ‹_› ‹_› ‹_› |exact jda ‹_›)|exact(lIa ‹_› ‹_›).elim
 trivial
theorem rpa:True:=by
 k_with "S34 mbu" =>
  (intro x hx;simp only [List.mem_singleton] at hx;omega)
 k_with "S34 mbv" =>
  (simp only [ada,List.flatMap_cons,List.flatMap_nil,List.append_nil,List.length_cons];omega)
 k_with "S34 mm" =>
  (simp only [ada,List.flatMap_cons,List.flatMap_nil,List.append_nil,List.length_cons,List.length_reverse] at*;omega)
 trivial
inductive i6a(g:Heap)(L t:Addr)(T:List aaa)(i:Nat)(s s':Shared):Prop
 |ik (q:Nat) (tq:Tok) (h':Heap) (tk':Nat) (e:s'= {s with heap:=h',toks:=tk'}) (hq:q<T.length) (hp:gma T i=ana T q)
  (F:Fr g L h' (fun y=>if y=Str.ofString "node" then some (.int (q:Nat) tq) else if y=Str.ofString "tree" then some (.ref t) else none)) (N:News g L h' []):i6a g L t T i s s'
theorem ioa:∀ (w:World) (t:Addr) (i:Nat) (tk:Tok) (T:List aaa) (W:WF T) (hi:i<T.length),
 RO1 w 121 [.ref t, .int i tk] 12 (fun h=>ava w h t T) (fun h h' v=>apa h h' v (gma T i)):=gP_ (by trivial:Ca_ (by
 intro w t i tk T W hi
 refine Mine.hRO ?_
 intro A s Q E
 revert W hi
 revert w t i tk T A s Q E
 k_extra "mu"
 intro w t i tk T A s Q E W hi H hr hp hret
 obtain⟨dt,rl,tk1,ep1,I1⟩:=hp.inst
 have hT:=W.small
 k_extra "mi"
 rename_i L h₁ tk₁ B X TT F N hd hu
 refine gXa (i6a s.heap L t T i s) ?_ ?_
 ·cases hb:aoa T i with
  |false=>
   have e0:gma T i=ana T i:=by unfold gma;rw [hb];simp
   k_extra "ma"
   all_goals first|(exfalso;simp_all;done)|exact⟨i,tk,_,_,rfl,hi,e0,eRa (by assumption) (fun y=>cua y),by assumption⟩
  |true=>
   obtain⟨q,hq⟩:=bUa W hi hb
   have e0:gma T i=ana T q:=by unfold gma;rw [hb,hq];simp
   have hqi:=aja W hq
   k_extra "ma"
   all_goals first|(exfalso;simp_all;done)|exact⟨q,_,_,_,rfl,Nat.lt_trans hqi hi,e0,eRa (by assumption) (fun y=>gpa y),by assumption⟩
 ·clear F N
  rintro s' ⟨q,tq,h',tk',rfl,hqT,e0,F,N⟩
  have hal:=b1a W q
  k_extra "ma"
  rename_i fD _ _ _ _ _ _ _ _ _ _ _ _ _ _ _ D _ F N nvD _
  have hlt:∀ n∈ [q]++anc T q,n<T.length:=by
   intro n hn
   rcases laM hn with hn|hn
   ·have:=lsM hn;omega
   ·have:=f1a W q n hn;omega
  have hfl:=cha W q
  refine bCa rfl (σ:=StF) (fun c=> [(fD,listOf c.fv.toArray c.fn)]) (fun _=> []) [Str.ofString "sibling"] (fun k c=>NV c.fv c.fs∧c.fs=(([q]++anc T q).take k).flatMap (b4a T)) ⟨_,_, []⟩ []
   rfl (by k_extra "mg") (N _ (by k_mem)).2.1 F N (by k_extra "mn") (by simp) (by intro c;k_extra "mr") (by simp) ⟨by walk_at "mp",by simp⟩ ?_ ?_
  ·rintro k v cS_ u h tk own hk hkl hJ0_ F N hsep
   k_extra "mf"
   obtain⟨fv,fn,fs⟩:=cS_
   dsimp only at F N hsep hJ0_ ⊢
   refine bua ?_
   intro hG_ hg_
   obtain⟨nf,he⟩:=hJ0_
   refine hg_ ?_
   clear hg_ hG_
   dsimp only [List.cons_append,List.nil_append] at N hsep
   simp only [ara,aOa,and_true] at hsep
   obtain⟨n,tn,hn,rfl⟩:=nvD.get hk
   have hnb:=hlt n (List.mem_of_getElem? hn)
   have hz0:fs.length+(b4a T n).length<60:=by
    have h1:=aYa (g:=b4a T) ([q]++anc T q) (k+1)
    have h2:(([q]++anc T q).flatMap (b4a T))=ana T q:=rfl
    rw [h2,awa hn,List.length_append,<-he] at h1
    omega
   k_extra "ma"
   rename_i sD vsD _ F N nvS _ _ _
   refine bCa rfl (σ:=StF) (fun c=> [(fD,listOf c.fv.toArray c.fn)]) (fun _=> []) [] (fun k2 c=>NV c.fv c.fs∧c.fs=fs++((cRa T n).take k2).flatMap fun s=>(ada T [s]).reverse) ⟨fv,_,fs⟩ own
    rfl (by k_extra "mg") (N _ (by k_mem)).2.1 F N (by k_extra "mn") (by k_extra "mr") (by intro c;k_extra "mr") (by simp) ⟨nf,by simp⟩ ?_ ?_
   ·rintro k2 v2 cS_ u2 h2 tk2 own2 hk2 hkl2 hJ0_ F N hsep2
    k_extra "mf"
    obtain⟨fv2,fn2,fs2⟩:=cS_
    dsimp only at F N hsep2 hJ0_ ⊢
    refine bua ?_
    intro hG_ hg_
    obtain⟨nf2,he2⟩:=hJ0_
    refine hg_ ?_
    clear hg_ hG_
    dsimp only [List.cons_append,List.nil_append] at N hsep2
    simp only [ara,aOa,and_true] at hsep2
    obtain⟨s2,ts2,hs2,rfl⟩:=nvS.get hk2
    have hsb:=e7a W (List.mem_of_getElem? hs2)
    have hd2:=bJa W s2
    have hz1:fs2.length<60:=by
     have h1:=aYa (g:=fun s=>(ada T [s]).reverse) (cRa T n) k2
     have h3:((cRa T n).flatMap fun s=>(ada T [s]).reverse)=b4a T n:=rfl
     rw [h3] at h1
     rw [he2,List.length_append];omega
    have hz2:=nf2.len
    k_extra "ma"
    have he3:fs2++(ada T [s2]).reverse=fs++((cRa T n).take (k2+1)).flatMap (fun s=>(ada T [s]).reverse):=by
     rw [he2,awa hs2,List.append_assoc]
    refine aHa.intro ⟨_,_,_⟩ (by assumption) (by assumption) (by k_extra "mn") ⟨?_,he3⟩ (by k_extra "mr") (by k_extra "mo") (by k_extra "mj")
    exact nf2.app (NV.rev (by assumption))
   ·rintro cS_ u2 h2 tk2 hJ0_ F N hsep2
    k_extra "mf"
    obtain⟨fv2,fn2,fs2⟩:=cS_
    dsimp only at F N hsep2 hJ0_ ⊢
    refine bua ?_
    intro hG_ hg_
    obtain⟨nf2,he2⟩:=hJ0_
    refine hg_ ?_
    clear hg_ hG_
    dsimp only [List.cons_append,List.nil_append] at N
    k_extra "ma"
    have he3:fs2=(([q]++anc T q).take (k+1)).flatMap (b4a T):=by
     rw [nvS.len,List.take_length] at he2
     rw [he2,he,awa hn];rfl
    refine aHa.intro ⟨_,_,_⟩ (by assumption) (by assumption) (by k_extra "mn") ⟨nf2,he3⟩ (by k_extra "mr") (by k_extra "mo") (by k_extra "mj")
  ·rintro cS_ u h tk hJ0_ F N hsep
   k_extra "mf"
   obtain⟨fv,fn,fs⟩:=cS_
   dsimp only at F N hsep hJ0_ ⊢
   refine bua ?_
   intro hG_ hg_
   obtain⟨nf,he⟩:=hJ0_
   refine hg_ ?_
   clear hg_ hG_
   k_extra "ma"
   refine hret _ _ _ (Fr.keep (by assumption)) (aca (by assumption) (by k_mem) ?_ ?_)
   ·rw [nvD.len,List.take_length] at he
    rw [e0,show ana T q=(([q]++anc T q).flatMap (b4a T)) from rfl,<-he];exact nf
   ·rw [e0];omega))
end
theorem roa:True:=by
 k_with "mt" =>
  exact iMa _ _ _ _ _ (by assumption) (by k_extra "ml")
 k_with "mt" =>
  exact ioa _ _ _ _ _ (by assumption) (by k_extra "ml")
 trivial
section
theorem ar35:True:=by
 k_with "ar35" =>with_reducible first|((show _<_);first|exact lGa ‹_› |exact nga ‹_› |exact jfa ‹_› ‹_› |exact kDa ‹_› ‹_› ‹_› |exact mXa ‹_› ‹_› |exact nDa ‹_› ‹_› ‹_›)
 trivial
theorem rna:True:=by
 k_with "S35 mbt" =>
  exact dva _ _ _ _ _ (by assumption) (by k_extra "ml")
 trivial
theorem jza{T:List aaa}{i:Nat}{name lit:Str}{h h':Heap}{v:Value}{ns:List Nat}(he:(name==lit)=true)(hm:lit∈aga)(ex:aDa T i lit=ns)(R:apa h h' v ns):
 if name∈aga then apa h h' v (aDa T i name) else v= .none:=by
 have e:=eq_of_beq he
 subst e
 rw [if_pos hm,ex];exact R
theorem rma:True:=by
 k_with "S35 mbl" =>
  first|exact cJa _ _|exact dma _ _|exact fXa (by assumption) (by assumption)|exact bda _ _|exact aSa _ _|exact aRa _ _|exact eya (by assumption)|exact exa (by assumption)|exact bqa _ _|exact(aBa _ _).trans (kda _ _).symm|exact aBa _ _|exact bNa _ _|exact aWa _ _|exact bEa _ _|exact cma _ _
 k_with "S35 mbm" =>
  first|exact Nat.lt_trans (a0a (by assumption) _) (by decide)|exact Nat.lt_trans (bJa (by assumption) _) (by decide)|exact Nat.lt_trans (g1a (by assumption) _) (by decide)|exact Nat.lt_trans (gQa (by assumption) _) (by decide)|exact Nat.lt_of_le_of_lt (b1a (by assumption) _) (by omega)|exact Nat.lt_trans (c7a (by assumption) _) (by decide)|exact Nat.lt_trans (gMa (by assumption) _) (by decide)|exact Nat.lt_trans (gKa (by assumption) _) (by decide)|(simp only [ada,List.flatMap_cons,List.flatMap_nil,List.append_nil,List.nil_append,List.cons_append,List.length_cons];omega)|simp
 trivial
theorem eIa:∀ (w:World) (t:Addr) (i:Nat) (tk tn:Tok) (name:Str) (T:List aaa) (W:WF T) (hi:i<T.length) (hn:name∈aga++aya),
 RO1 w 133 [.ref t, .int i tk, .str name tn] 14 (fun h=>ava w h t T) (fun h h' v=>if name∈aga then apa h h' v (aDa T i name) else v= .none):=gP_ (by trivial:Ca_ (by
 intro w t i tk tn name T W hi hn
 refine Mine.hRO ?_
 intro A s Q E
 revert W hi hn
 revert w t i tk tn name T A s Q E
 k_extra "mw"
 intro w t i tk tn name T A s Q E W hi hn H hr hp hret
 obtain⟨dt,rl,tk1,ep1,I1⟩:=hp.inst
 have hT:=W.small
 k_extra "mi"
 k_extra "ma"
 all_goals first
  |exact hret _ _ _ (Fr.keep (by assumption)) (jza (by assumption) (by decide) (by walk_at "mbl") (aca (by assumption) (by k_mem) (by walk_at "mp") (by walk_at "mbm")))
  |(refine hret _ _ _ (Fr.keep (by assumption)) ?_
    show(if name∈aga then _ else _)
    rw [if_neg (by simp only [aga,List.mem_cons,List.not_mem_nil,or_false];simp_all)])
  |(exfalso;have e':=eq_of_beq (by assumption:(name==_)=true);rw [e'] at hn;exact absurd hn (by decide))))
theorem iia(w:World)(t:Addr)(i:Nat)(tk tn:Tok)(name:Str)(T:List aaa)(W:WF T)(hi:i<T.length)(hn:name∈aga++aya)(hs:name∈aga):
 RO1 w 133 [.ref t, .int i tk, .str name tn] 14 (fun h=>ava w h t T) (fun h h' v=>apa h h' v (aDa T i name)):=by
 have:=eIa w t i tk tn name T W hi hn
 simp only [if_pos hs] at this;exact this
theorem jAa(w:World)(t:Addr)(i:Nat)(tk tn:Tok)(name:Str)(T:List aaa)(W:WF T)(hi:i<T.length)(hn:name∈aga++aya)(hs:¬name∈aga):
 RO1 w 133 [.ref t, .int i tk, .str name tn] 14 (fun h=>ava w h t T) (fun h h' v=>v= .none):=by
 have:=eIa w t i tk tn name T W hi hn
 simp only [if_neg hs] at this;exact this
theorem k5a{T:List aaa}{i:Nat}{name lit:Str}{h h':Heap}{v:Value}{ns:List Nat}(he:(name==lit)=true)(ex:aDa T i lit=ns)(R:apa h h' v ns):apa h h' v (aDa T i name):=by
 have e:=eq_of_beq he
 subst e
 rw [ex];exact R
theorem rla:True:=by
 k_with "S35 mbv" =>
  (rw [kda];simp only [List.length_cons];omega)
 k_with "S35 mbu" =>
  (intro x hx;simp only [List.mem_singleton] at hx;omega)
 k_with "S35 mR" =>
  exact jAa _ _ _ _ _ _ _ (by assumption) (by assumption) (by assumption) (by assumption)
 k_with "S35 mt" =>
  exact iia _ _ _ _ _ _ _ (by assumption) (by assumption) (by assumption) (by assumption)
 trivial
theorem iYa:∀ (w:World) (t:Addr) (i:Nat) (tk tn:Tok) (name:Str) (T:List aaa) (W:WF T) (hi:i<T.length) (hn:name∈aga++aya),
 RO1 w 140 [.ref t, .int i tk, .str name tn] 16 (fun h=>ava w h t T) (fun h h' v=>apa h h' v (aDa T i name)):=gP_ (by trivial:Ca_ (by
 intro w t i tk tn name T W hi hn
 refine Mine.hRO ?_
 intro A s Q E
 revert W hi hn
 revert w t i tk tn name T A s Q E
 k_extra "mw"
 intro w t i tk tn name T A s Q E W hi hn H hr hp hret
 obtain⟨dt,rl,tk1,ep1,I1⟩:=hp.inst
 have hT:=W.small
 have hal:=b1a W i
 have hdl:=bJa W i
 have hzz:=aMa W hi name
 by_cases hs:name∈aga
 ·k_extra "mi"
  k_extra "ma"
  exact hret _ _ _ (Fr.keep (by assumption)) (aca (by assumption) (by k_mem) (by assumption) (by omega))
 ·have hl:name∈aya:=(laM hn).resolve_left hs
  k_extra "mi"
  k_extra "ma"
  all_goals first
   |exact hret _ _ _ (Fr.keep (by assumption)) (k5a (by assumption) (by walk_at "mbl") (aca (by assumption) (by k_mem) (by walk_at "mp") (by walk_at "mbm")))
   |(exfalso;simp only [aya,List.mem_cons,List.not_mem_nil,or_false] at hl;simp_all;done)))
end
theorem rka:True:=by
 k_with "mbn" =>
  first|assumption|rfl
 k_with "w subscriptTail" =>
  ((with_reducible show wpAny _ _ (subscriptTail _ _ (Value.ref _) (Value.int _ _)) _ _ _);(refine jTa (by k_extra "mg") (by k_extra "mbn") rfl (by walk_at "mm") ?_))
 k_with "w subscriptTail" =>
  ((with_reducible show wpAny _ _ (subscriptTail _ _ (Value.ref _) (Value.int _ _)) _ _ _);(refine k8a (by k_extra "mg") (by assumption) (by assumption) rfl (by walk_at "mm") ?_);intro _)
 k_with "w subscriptTail" =>
  ((with_reducible show wpAny _ _ (subscriptTail _ _ (Value.ref _) (Value.int (Nat.cast _) _)) _ _ _);(refine d8a (by k_extra "mg") (by assumption) (by walk_at "mm") ?_))
 k_with "w subscriptTail Name Slice ref ref" =>
  (
   (with_reducible show wpAny _ _ (subscriptTail _ (PySem.Expr.Slice (some _) none none _) (Value.ref _) (Value.ref _)) _ _ _)
   k_dflt (refine' lda ?q15F ?q15N ?q15l ?q15z ?q15e ?_ ?q15s ?q15t;(case q15F=>k_asm);(case q15N=>k_asm);(case q15l=>k_extra "mg");(case q15e=>exact rfl);(case q15s=>with_unfolding_all rfl);(case q15t=>kmk_pure);(case q15z=>walk_at "mm"))
   intro _ _ _ _ l1
   (try k_lt l1);(try revert l1);intros;(try k_sweep))
 k_with "w subscriptTail Name Slice ref ref" =>
  (
   (with_reducible show wpAny _ _ (subscriptTail _ (PySem.Expr.Slice none (some _) none _) (Value.ref _) (Value.ref _)) _ _ _)
   k_dflt (refine' kNa ?q16F ?q16N ?q16l ?q16z ?q16e ?_ ?q16s ?q16t;(case q16F=>k_asm);(case q16N=>k_asm);(case q16l=>k_extra "mg");(case q16e=>exact rfl);(case q16s=>with_unfolding_all rfl);(case q16t=>kmk_pure);(case q16z=>walk_at "mm"))
   intro _ _ _ _ l1
   (try k_lt l1);(try revert l1);intros;(try k_sweep))
 k_with "w call type:zip" =>
  ((with_reducible show wpAny _ _ (call (Value.type "zip") _) _ _ _);refine cfa ?_)
 k_with "mG" =>
  (
   refine' fUa (by assumption) (by assumption) ?q17k6 ?q17k7 ?q17k9 ?q17kB ?q17kD ?_ ?q17c2 ?q17c3 ?q17c4;(case q17k6=>k_is);(case q17k7=>k_is);(case q17k9=>exact BindsTo.of_eq rfl);(case q17kB=>exact rfl);(case q17kD=>decide+kernel);(case q17c2=>exact rfl);(case q17c3=>exact rfl);(case q17c4=>exact rfl)
   k_extra "mO"
   intro _ _ _ _ _ _ _ _ _ _ _ _ _ _ _ _ _ _ _ _ Y' _ _
   k_cells Y'
   try dsimp only)
 k_with "mB" =>
  (
   refine' fUa (by assumption) (by assumption) ?q17k6 ?q17k7 ?q17k9 ?q17kB ?q17kD ?_ ?q17c2 ?q17c3 ?q17c4;(case q17k6=>k_is);(case q17k7=>k_is);(case q17k9=>exact BindsTo.of_eq rfl);(case q17kB=>exact rfl);(case q17kD=>decide+kernel);(case q17c2=>exact rfl);(case q17c3=>exact rfl);(case q17c4=>exact rfl)
   intro _ _ _ _ _ _ _ _ _ _ _ _ _ _ _ _ _ _ _ _ Y' _ _
   k_cells Y'
   try dsimp only)
 k_with "w eval DictComp" =>
  ((with_reducible show wpAny _ _ (eval (Expr.DictComp _ _ _ _ _) _) _ _ _);refine cfa ?_)
 k_with "w eval ListComp" =>
  ((with_reducible show wpAny _ _ (eval (Expr.ListComp _ _ _ _) _) _ _ _);refine cfa ?_)
 k_with "w exec Assign cons ListComp" =>
  ((with_reducible show wpAny _ _ (exec (Stmt.Assign [Expr.Name _ _] (Expr.ListComp _ _ _ _) _) _) _ _ _);refine cfa ?_)
 k_with "w call builtin:sorted" =>
  ((with_reducible show wpAny _ _ (call (Value.builtin "sorted") [Value.ref _] [_]) _ _ _);refine cfa ?_)
 k_with "w eval Lambda" =>
  ((with_reducible show wpAny _ _ (eval (Expr.Lambda _ _ _ _) _) _ _ _);refine cfa ?_)
 k_with "mT" =>
  (
   refine' eVa (by assumption) (by assumption) (by assumption) (by assumption) (by assumption) ?q18k6 ?q18k7 ?q18k9 ?q18kB ?q18kD ?_ ?q18c2 ?q18c3 ?q18c4;(case q18k6=>k_is);(case q18k7=>k_is);(case q18k9=>exact BindsTo.of_eq rfl);(case q18kB=>exact rfl);(case q18kD=>decide+kernel);(case q18c2=>exact rfl);(case q18c3=>exact rfl);(case q18c4=>exact rfl)
   k_extra "mO"
   intro _ _ _ _ _ _ _ _ _ _ _ _ _ _ _ _ _ _ _ _ _ Y' _ _
   k_cells Y'
   rename News _ _ _ _=>N'
   dsimp only [List.cons_append,List.nil_append] at N'
   revert N'
   intro _
   try dsimp only)
 k_with "mbw" =>
  (
   refine' eVa (by assumption) (by assumption) (by assumption) (by assumption) (by assumption) ?q18k6 ?q18k7 ?q18k9 ?q18kB ?q18kD ?_ ?q18c2 ?q18c3 ?q18c4;(case q18k6=>k_is);(case q18k7=>k_is);(case q18k9=>exact BindsTo.of_eq rfl);(case q18kB=>exact rfl);(case q18kD=>decide+kernel);(case q18c2=>exact rfl);(case q18c3=>exact rfl);(case q18c4=>exact rfl)
   intro _ _ _ _ _ _ _ _ _ _ _ _ _ _ _ _ _ _ _ _ _ Y' _ _
   k_cells Y'
   rename News _ _ _ _=>N'
   dsimp only [List.cons_append,List.nil_append] at N'
   revert N'
   intro _
   try dsimp only)
 k_with "my" =>
  (
   refine' fTa (by assumption) (by assumption) (by assumption) (by assumption) (by assumption) ?q19k6 ?q19k7 ?q19k9 ?q19kB ?_ ?q19c2 ?q19c3 ?q19c4 ?q19c5;(case q19k6=>k_is);(case q19k7=>k_is);(case q19k9=>exact BindsTo.of_eq rfl);(case q19kB=>exact locs rfl);(case q19c2=>exact rfl);(case q19c3=>exact rfl);(case q19c4=>exact rfl);(case q19c5=>decide)
   k_extra "mN"
   intro _ _ _ _ _ _ _ _ _ _ _ _ _ _ _ _ _ F' N' l0' hd' hu'
   dsimp only [List.map,List.zip,List.zipWith,List.reverse,List.reverseAux] at F'
   revert F' N' l0' hd' hu'
   intro _ _ _ _ _
   try dsimp only)
 k_with "mv" =>
  (
   refine' fTa (by assumption) (by assumption) (by assumption) (by assumption) (by assumption) ?q19k6 ?q19k7 ?q19k9 ?q19kB ?_ ?q19c2 ?q19c3 ?q19c4 ?q19c5;(case q19k6=>k_is);(case q19k7=>k_is);(case q19k9=>exact BindsTo.of_eq rfl);(case q19kB=>exact locs rfl);(case q19c2=>exact rfl);(case q19c3=>exact rfl);(case q19c4=>exact rfl);(case q19c5=>decide)
   intro _ _ _ _ _ _ _ _ _ _ _ _ _ _ _ _ _ F' N' l0' hd' hu'
   dsimp only [List.map,List.zip,List.zipWith,List.reverse,List.reverseAux] at F'
   revert F' N' l0' hd' hu'
   intro _ _ _ _ _
   try dsimp only)
 k_with "mb" =>
  first
   |((try simp only [List.cons_append,List.nil_append,List.append_nil,ara,fpa,aOa,and_true,true_and,implies_true])
     and_intros
     all_goals first
      |(simp only [List.mem_cons,List.mem_append,true_or,or_true];done)
      |(intro p hp;simp only [List.mem_cons,List.mem_append,hp,true_or,or_true];done)
      |(simp only [List.mem_cons,List.mem_append];(repeat(first|assumption|refine Or.inr ?_));done))
   |(intro p hp
     (try simp only [List.mem_cons,List.mem_append,List.not_mem_nil,or_false,false_or,List.cons_append,List.nil_append] at hp ⊢)
     (repeat' (refine Or.elim hp ?_ ?_<;>intro hp))
     all_goals first|(simp only [hp,true_or,or_true];done)|simp_all)
 k_with "mbx" =>
  (
   refine' iWa (by assumption) (by assumption) ?q20k1 ?q20k2 ?q20k3 ?q20k6 ?q20k7 ?q20k9 ?q20kB ?_ ?q20c2 ?q20c3 ?q20c4 ?q20c5;(case q20k1=>k_is);(case q20k2=>k_is);(case q20k3=>k_is);(case q20k6=>k_is);(case q20k7=>k_is);(case q20k9=>exact fun _ _=>BindsTo.of_eq rfl);(case q20kB=>exact fun _=>locs rfl);(case q20c2=>exact rfl);(case q20c3=>exact rfl);(case q20c4=>exact rfl);(case q20c5=>decide)
   k_extra "mba"
   intro _ _ _ _ _ _ _ _ _ _ _ _ _ _ _ _ _ _ _ F' N' l1' l2' hd' hu'
   dsimp only [List.map,List.zip,List.zipWith,List.reverse,List.reverseAux] at F'
   revert F' N' l1' l2' hd' hu'
   intro _ _ _ _ _ _
   try dsimp only)
 k_with "mH" =>
  (
   refine' iWa (by assumption) (by assumption) ?q20k1 ?q20k2 ?q20k3 ?q20k6 ?q20k7 ?q20k9 ?q20kB ?_ ?q20c2 ?q20c3 ?q20c4 ?q20c5;(case q20k1=>k_is);(case q20k2=>k_is);(case q20k3=>k_is);(case q20k6=>k_is);(case q20k7=>k_is);(case q20k9=>exact fun _ _=>BindsTo.of_eq rfl);(case q20kB=>exact fun _=>locs rfl);(case q20c2=>exact rfl);(case q20c3=>exact rfl);(case q20c4=>exact rfl);(case q20c5=>decide)
   intro _ _ _ _ _ _ _ _ _ _ _ _ _ _ _ _ _ _ _ F' N' l1' l2' hd' hu'
   dsimp only [List.map,List.zip,List.zipWith,List.reverse,List.reverseAux] at F'
   revert F' N' l1' l2' hd' hu'
   intro _ _ _ _ _ _
   try dsimp only)
 k_with "w compareOp NotIn str ref" =>
  (
   (with_reducible show wpAny _ _ (compareOp CmpOp.NotIn (Value.str _ _) (Value.ref _)) _ _ _)
   k_dflt (
    refine' notin_tuple_strs (tupK ?q21X ?q21l) ?q21s ?_
    (case q21X=>exact Frag.In.keeps (by assumption) (Fr.keep (by assumption)))
    (case q21l=>k_is)
    (case q21s=>kde_strs)))
 k_with "mC" =>
  first|with_reducible exact Mine.mhd|((with_reducible refine Mine.mtl ?_);k_extra "mC")|((with_reducible refine Mine.mal ?_);k_extra "mC")|((with_reducible refine Mine.mar ?_);k_extra "mC")|with_reducible assumption|fail "s"
 k_with "mD" =>
  first|with_reducible exact Mine.jla|((with_reducible refine Mine.kOa ?_);k_extra "mD")|((with_reducible refine Mine.qaa ?_);k_extra "mD")|((with_reducible refine Mine.h6a ?_);k_extra "mD")|fail "s"
 k_with "mI" =>
  first|with_reducible exact Mine.fn|with_reducible exact Mine.jla|((with_reducible refine Mine.fc ?q22m ?q22r);(case q22m=>first|k_extra "me" |k_extra "mC" |fail "s");(case q22r=>k_extra "mI"))|((with_reducible refine Mine.gda ?_ ?_)<;>k_extra "mI")|k_extra "mD" |fail "s"
 k_with "mb" =>
  ((try dsimp only [List.nil_append,List.cons_append]);k_extra "mI";done)
 k_with "mb" =>
  ((try dsimp only [List.nil_append,List.cons_append]);(repeat' (first|(refine Mine.fc ?q23m ?_;(case q23m=>k_extra "me"))|exact Mine.fn|with_reducible exact jla|with_reducible exact kha|with_reducible exact kja|with_reducible exact kia|with_reducible exact kga|with_reducible refine gda ?_ ?_|with_reducible refine kOa ?_|with_reducible refine h6a ?_));done)
 trivial
theorem rja:True:=by
 k_with "mbo" =>
  first|assumption|decide
 k_with "mt" =>
  exact iYa _ _ _ _ _ _ _ (by assumption) (by k_extra "ml") (by k_extra "mbo")
 trivial
section
theorem ar36:True:=by
 k_with "ar36" =>with_reducible first|((show _<_);first|exact nBa ‹_› |exact nqa ‹_› ‹_› |exact fva ‹_› ‹_› |exact nna ‹_›)
 trivial
theorem hwa:∀ (w:World) (t:Addr) (i:Nat) (tki:Tok) (T:List aaa) (W:WF T) (hi:i<T.length),
 RO1 w 175 [.ref t, .int i tki] 7 (fun h=>ava w h t T) (fun h h' v=>apa h h' v (bga T i)):=gP_ (by trivial:Ca_ (by
 intro w t i tki T W hi
 refine Mine.hRO ?_
 intro A s Q E
 revert W hi
 revert w t i tki T A s Q E
 k_extra "mu"
 intro w t i tki T A s Q E W hi H hr hp hret
 obtain⟨dt,rl,tk1,ep1,I1⟩:=hp.inst
 have hlz:=fIa W hi
 have hT:=W.small
 k_extra "mi"
 k_extra "ma"
 rename_i fD _ _ _ F N
 refine bQa rfl (σ:=St1) (fun c=> [(fD,listOf c.fv.toArray c.fn)]) (fun c=> [(Str.ofString "node",c.v)]) []
  (fun c=>b2a c.o c.v∧NV c.fv c.fs∧c.fs++(match c.o with|none=> []|some x=>x::anc T x)=i::anc T i∧∀ x,c.o=some x->x<T.length) (fun c=>match c.o with|none=>0|some x=>x+1)
  ⟨[],0, [],some i, .int i tki⟩ [] (by assumption) (by assumption) ?_ ?_ ?_ ?_ ?_
 ·k_extra "mn"
 ·simp
 ·k_extra "mo"
 ·exact⟨.some _ _, .nil,rfl,fun x hx=>by cases hx;exact hi⟩
 ·rintro cS_ u h tk hJ0_ F N _
  k_extra "mf"
  obtain⟨fv,fn,fs,o,v⟩:=cS_
  dsimp only at F N hJ0_ ⊢
  refine bua ?_
  intro hG_ hg_
  obtain⟨hv,nf,he,hb⟩:=hJ0_
  refine hg_ ?_
  clear hg_ hG_
  dsimp only [List.cons_append,List.nil_append] at N
  have hz:(i::anc T i).length<61:=by have:=hlz;unfold bga at this;rwa [List.length_reverse] at this
  have nl:=nf.len
  cases hv with
  |none=>
   have hz2:fs.length<61:=by rw [<-he] at hz;simp only [List.length_append] at hz;omega
   k_extra "ma"
   all_goals first|(exfalso;simp at*;done)|skip
   refine hret _ _ _ (Fr.keep (by assumption)) (aca (by assumption) (by k_mem) ?_ (by omega))
   unfold bga
   rw [<-he];simpa using nf.rev
  |some x tx=>
   have hx:=hb x rfl
   have hz2:fs.length<61:=by rw [<-he] at hz;simp only [List.length_append] at hz;omega
   k_extra "ma"
   all_goals first|(exfalso;simp at*;done)|skip
   rename_i pv' _ hpv' _ _ _
   refine' bwa.intro ⟨_,_,fs++ [x],par T x,pv'⟩ ?F ?N ?mem ?J ?mu ?sep ?ps ?m
   (case F=>assumption)
   (case N=>assumption)
   (case mem=>k_extra "mn")
   (case sep=>simp)
   (case ps=>k_extra "mo")
   (case m=>k_extra "mj")
   (case J=>
     refine⟨hpv',nf.snoc _ _, ?_, ?_⟩
     ·rw [<-he]
      cases hp:par T x with
      |none=>simp [aNa hp]
      |some q=>simp [aka W hp]
     ·intro y hy
      have:=aja W hy;omega)
   (case mu=>
     cases hp:par T x with
     |none=>simp
     |some q=>have:=aja W hp;simp;omega)))
theorem hMa:∀ (w:World) (t:Addr) (p i:Nat) (tk1 tk2:Tok) (T:List aaa) (W:WF T) (hpi:par T i=some p),
 RO1 w 182 [.ref t, .int p tk1, .int i tk2] 8 (fun h=>ava w h t T) (fun h h' v=>f4a h h' v (esa T p i)):=gP_ (by trivial:Ca_ (by
 intro w t p i tk1 tk2 T W hpi
 refine Mine.hRO ?_
 intro A s Q E
 revert W hpi
 revert w t p i tk1 tk2 T A s Q E
 k_extra "mw"
 intro w t p i tk1 tk2 T A s Q E W hpi H hr hp hret
 obtain⟨dt,rl,tk1,ep1,I1⟩:=hp.inst
 have hT:=W.small
 have hi:i<T.length:=cja hpi
 have hpl:p<T.length:=by have:=aja W hpi;omega
 have l1:=gSa W p
 have l2:=c7a W p
 have l3:=a0a W p
 have hup:=(W.up i p hpi).2.2
 by_cases e1:kindOf T i=sNs
 ·have hm:i∈caa T p:=by rw [if_neg (by rw [e1];decide),if_pos e1] at hup;exact hup
  have es:=cga W hm
  k_extra "mi"
  k_extra "ma"
  all_goals first|(exfalso;simp_all;done)|skip
  exact hret _ _ _ (Fr.keep (by assumption)) (cMa (vs:= [_,_]) (by assumption) (by k_mem) (by rw [es];exact .cons (0:Nat) _ (.cons _ _ .nil)) (by rw [es];exact(by decide:2<4096)))
 ·by_cases e2:kindOf T i=afa
  ·have hm:i∈bea T p:=by rw [if_pos e2] at hup;exact hup
   have es:=bGa W hm
   k_extra "mi"
   k_extra "ma"
   all_goals first|(exfalso;simp_all;done)|skip
   exact hret _ _ _ (Fr.keep (by assumption)) (cMa (vs:= [_,_]) (by assumption) (by k_mem) (by rw [es];exact .cons (1:Nat) _ (.cons _ _ .nil)) (by rw [es];exact(by decide:2<4096)))
  ·have hm:i∈aFa T p:=by rw [if_neg e2,if_neg e1] at hup;exact hup
   have es:=bka W hm
   k_extra "mi"
   k_extra "ma"
   all_goals first|(exfalso;simp_all;done)|skip
   exact hret _ _ _ (Fr.keep (by assumption)) (cMa (vs:= [_,_]) (by assumption) (by k_mem) (by rw [es];exact .cons (2:Nat) _ (.cons _ _ .nil)) (by rw [es];exact(by decide:2<4096)))))
end
section
theorem ar37:True:=by
 k_with "ar37" =>with_reducible first|exact npa ‹_› ‹_› ‹_› |exact nxa ‹_› ‹_› |exact oAa ‹_› ‹_› ‹_› |exact(jha ‹_› ‹_›).elim|exact(kza ‹_› ‹_›).elim|exact(nha ‹_› ‹_›).elim|exact(lCa ‹_› ‹_›).elim
 trivial
theorem ria:True:=by
 k_with "S37 mt" =>
  exact hwa _ _ _ _ _ (by assumption) (by k_extra "ml")
 k_with "S37 mbh" =>
  exact hMa _ _ _ _ _ _ _ (by assumption) (by assumption)
 k_with "S37 binaryOp Add ref ref" =>
  (
   (with_reducible show wpAny _ _ (binaryOp _ (Value.ref _) (Value.ref _)) _ _ _)
   k_dflt (
    refine mka (by assumption) (by assumption) (by k_extra "mA") (by k_extra "mA") (by assumption) (by assumption) (by assumption) (by assumption) (by walk_at "mm") ?_
    intro _ _ _ _ l1 nv'
    (first|(k_lt l1;(try revert l1);revert nv')|revert l1 nv');intros;(try k_sweep)))
 trivial
structure StT where
 D:Addr
 fv:List Value
 fs:List Nat
theorem hpa:∀ (w:World) (t:Addr) (i:Nat) (tki:Tok) (T:List aaa) (W:WF T) (hi:i<T.length),
 RO1 w 189 [.ref t, .int i tki] 10 (fun h=>ava w h t T) (fun h h' v=>f4a h h' v (aZa T i)):=gP_ (by trivial:Ca_ (by
 intro w t i tki T W hi
 refine Mine.hRO ?_
 intro A s Q E
 revert W hi
 revert w t i tki T A s Q E
 k_extra "mu"
 intro w t i tki T A s Q E W hi H hr hp hret
 obtain⟨dt,rl,tk1,ep1,I1⟩:=hp.inst
 have hT:=W.small
 have hlz:=fIa W hi
 obtain⟨r,hr1,hr2⟩:=hza W i
 k_extra "mi"
 k_extra "ma"
 rename_i l' vs' c' nv' ll' _ _ _ _ D1 _ h12' _ D2 _ F N l12
 obtain⟨h12,h22⟩:=l12
 refine jRa rfl (σ:=StT) (x:=Str.ofString "above") (fun c=> [(c.D,aea c.fv.toArray)]) (fun c=> [(Str.ofString "found", .ref c.D)]) [Str.ofString "below"] (fun k c=>NV c.fv c.fs∧∃ a,(bga T i)[k]?=some a∧c.fs=aZa T a) ⟨D1,_, [r]⟩ [(D2,listOf (List.drop 1 vs').toArray 0),(l',listOf vs'.toArray c')]
  rfl (by k_extra "mg") (by k_extra "mg") (N (l',listOf vs'.toArray c') (by k_mem)).2.1 (N (D2,listOf (List.drop 1 vs').toArray 0) (by k_mem)).2.1 F N (by k_extra "mn") (by k_extra "mr") (by k_extra "mr") (by k_extra "mo") ⟨.cons _ _ .nil,r,hr1,(bya hr2).symm⟩ ?_ ?_
 ·rintro k TT a b cS_ u h tk own ha hb hTT hJ0_ F N hsep
  k_extra "mf"
  obtain⟨D,fv,fs⟩:=cS_
  dsimp only at F N hsep hJ0_ ⊢
  refine bua ?_
  intro hG_ hg_
  obtain⟨nf,n,hn,he⟩:=hJ0_
  obtain⟨n',tn,hn',rfl⟩:=nv'.get ha
  obtain⟨m',tm,hm',rfl⟩:=nv'.get (i:=k+1) (by rw [<-hb,List.getElem?_drop,Nat.add_comm])
  refine hg_ ?_
  clear hg_ hG_
  rw [hn] at hn'
  cases hn'
  have hpm:=jMa W i k n m' hn hm'
  have hnl:=fEa W n
  have hn1:n<T.length:=jLa W hi n (List.mem_of_getElem? hn)
  have hfne:fs≠ []:=by rw [he];exact cWa W n
  have hsne:=kTa T n m'
  have hsl:=cQa T n m'
  have hfl:fs.length<130:=by rw [he];omega
  have he2:fs++esa T n m'=aZa T m':=by rw [he,aza W hpm]
  dsimp only [List.cons_append,List.nil_append] at N hsep
  simp only [ara,aOa,and_true] at hsep
  k_extra "ma"
  exact aHa.intro ⟨_,_,_⟩ (by assumption) (by assumption) (by k_extra "mn") ⟨by assumption,m',hm',he2⟩ (by k_extra "mr") (by k_extra "mo") (by k_extra "mj")
 ·rintro cS_ u h tk hJ0_ F N hsep
  k_extra "mf"
  obtain⟨D,fv,fs⟩:=cS_
  dsimp only at F N hsep hJ0_ ⊢
  refine bua ?_
  intro hG_ hg_
  obtain⟨nf,n,hn,he⟩:=hJ0_
  refine hg_ ?_
  clear hg_ hG_
  have hlen:min vs'.length (List.drop 1 vs').length=(bga T i).length-1:=by rw [List.length_drop,nv'.len];omega
  rw [hlen,hya W i] at hn
  cases hn
  have hpl:=fEa W i
  k_extra "ma"
  exact hret _ _ _ (Fr.keep (by assumption)) (cMa (by assumption) (by k_mem) (by rw [<-he];exact nf) (by omega))))
end
noncomputable abbrev RW1(w:World):=RW (PySem.Challenge.pw_nu0071_02) w (hd.heap_1 w.params)
noncomputable abbrev ioQ:Str:=Str.ofString "in_order.<locals>.<lambda>"
noncomputable abbrev f7a:=f5a 191 161 29 ioQ
theorem rha:True:=by
 k_with "mbh" =>
  exact hpa _ _ _ _ _ (by assumption) (by k_extra "ml")
 trivial
section
theorem ar38:True:=by
 k_with "ar38" =>with_reducible first|exact ona ‹_› |exact jda ‹_› |exact lDa ‹_› ‹_› |exact qza|exact(nEa ‹_›).elim
 trivial
theorem rga:True:=by
 k_with "S38 mz" =>
  (simp only [List.mem_cons,true_or,or_true])
 k_with "S38 subscriptTail" =>
  ((with_reducible show wpAny _ _ (subscriptTail _ _ (Value.ref _) (Value.int _ _)) _ _ _);k_dflt (refine kda_item (by assumption) (by k_mem) (by assumption) (intKind_is _ _ _ _) (by assumption) ?_))
 trivial
structure StD where
 ts:List (Addr×Obj)
 kvs:List (Int×Value)
theorem fMa:∀ (w:World) (t l:Addr) (T:List aaa) (W:WF T) (r:Nat) (ns:List Nat) (hrT:r<T.length) (hnd:ns.Nodup) (hw:∀ x∈ns,x∈aEa T r),
 RW1 w 194 [.ref t, .ref l] 13 (fun g h=>ava w g t T∧dqa g l ns∧CodeHd g 193 191∧∃ tl,f7a tl∧Hid g h tl)
  (fun g _ h' v=>(∃ tl,f7a tl∧Hid g h' tl)∧apa g h' v ((aEa T r).filter fun x=>decide (x∈ns))):=gP_ (by trivial:Ca_ (by
 intro w t l T W r ns hrT hnd hw
 refine Mine.hRW ?_
 intro A s g Q E
 revert W hrT hnd hw
 revert w t l T r ns A s g Q E
 k_extra "mY"
 intro w t l T r ns A s g Q E W hrT hnd hw H hst hsz hr hp hret
 obtain⟨hp,⟨vs,hl,hv⟩,hcd,hp2⟩:=hp
 revert hp2
 k_extra "ms"
 intro tl
 rintro⟨htl,hhid⟩
 obtain⟨dt,rl,tk1,ep1,I1⟩:=hp.inst
 have hT:=W.small
 have hb:∀ x∈ns,x<T.length:=fun x hx=>(bxa W hrT x (hw x hx)).2
 have hnl:ns.length<60:=Nat.lt_of_le_of_lt (baa hnd hb) hT
 have hvl:=hv.len
 k_extra "mT"
 k_extra "ma"
 rename_i L' h1 tk2 B X TT F l0 hd' hu' ok ot dk dT N
 replace dk:ok.data= .cell none:=dk
 replace dT:ot.data= .cell (some (.ref t)):=dT
 replace F:Fr g L' h1 (fun y=>if y=Str.ofString "nodes" then some (.ref l) else none):=F
 have lne: @Ne Nat (L'+1+1) (L'+1):=by omega
 refine hGa (cl:= [(Str.ofString "tree",L'+1)]) F rfl (by decide) rfl (by decide) rfl ?_
 k_extra "ma"
 refine hHa (σ:=StD) (fun c=>c.ts) (fun c=>c.kvs) (fun k c=>c.kvs.map (·.1)=(ns.take k).map Int.ofNat∧KV c.ts (aZa T) (ns.take k) (c.kvs.map (·.2))) ⟨[], []⟩ ((L'+1+1,ok)::(L'+1,ot)::tl) rfl (a2a hl F) (bca F hl) (by rw [sizeLine_eq];omega)
  (by assumption) (by assumption) (by walk_at "mb") (by k_extra "md") (by k_extra "md") rfl ⟨by simp,trivial⟩ ?_ ?_
 ·rintro i v cS_ h tk own C oC m₂ E' hvi hi hJ0_ hyl hC hoC hx F N hsep
  k_extra "mf"
  obtain⟨ts,kvs⟩:=cS_
  dsimp only at hyl N hsep hJ0_ ⊢
  refine bua ?_
  intro hG_ hg_
  obtain⟨h1,h2⟩:=hJ0_
  obtain⟨n,tn,hn,rfl⟩:=hv.get hvi
  refine hg_ ?_
  clear hg_ hG_
  have hnb:=hb n (List.mem_of_getElem? hn)
  have N2:News g L' h ((C,oC)::(L'+1+1,ok)::(L'+1,ot)::(ts++(tl++own))):=News.sub N (by walk_at "mb")
  k_extra "ma"
  rename_i l' vs' F' N' nv' ll' st' l1
  refine b3a.intro (⟨(l',aea vs'.toArray)::ts,kvs++ [((n:Int), .ref l')]⟩:StD) F' N' (by walk_at "mb") ?_ ⟨?_, ?_⟩ ?_
  ·dsimp only
   rw [gea h1 hnd hn]
  ·dsimp only
   rw [List.map_append,h1,List.take_add_one,hn];simp
  ·dsimp only
   rw [List.map_append,List.take_add_one,hn]
   exact KV.snoc (KV.more (fun p hp=> .tail _ hp) h2) ⟨l',vs',rfl, .head _,nv'⟩
  ·intro q hq p hp
   rcases lcM hq with rfl|hq
   ·have:=(N' (l',aea vs'.toArray) (.head _)).1
    intro e
    have e':p.1=l':=e
    simp only [fpa] at l1
    obtain⟨a1,a2,a3,a4,a5,a6⟩:=l1
    simp only [List.cons_append,List.mem_cons,List.mem_append] at hp
    rcases hp with rfl|rfl|hp|hp
    ·exact a2 e'
    ·exact a3 e'
    ·exact a5 p hp e'
    ·exact a6 p hp e'
   ·exact hsep q hq p hp
 ·rintro D oD cS_ h tk hJ0_ hyl hoD hLD F N hD hsep
  k_extra "mf"
  obtain⟨ts,kvs⟩:=cS_
  dsimp only at hyl hoD N hsep hD hJ0_ ⊢
  refine bua ?_
  intro hG_ hg_
  obtain⟨h1,h2⟩:=hJ0_
  refine hg_ ?_
  clear hg_ hG_
  have N2:News g L' h ((D,oD)::(L'+1+1,ok)::(L'+1,ot)::(ts++tl)):=News.sub N (by walk_at "mb")
  clear N
  have hDk: @Ne Nat D (L'+1+1):=Ne.symm (hD (L'+1+1,ok) (by simp))
  refine storeX_C F N2 (c:=L'+1+1) rfl (UpdF.tail hDk (UpdF.head fun p hp=> ?_)) dk ?_
  ·rcases lcM hp with rfl|hp
   ·exact lne.symm
   ·rcases laM hp with hp|hp
    ·exact(hsep p hp (L'+1+1,ok) (by simp)).symm
    ·exact Nat.ne_of_lt (Nat.lt_of_lt_of_le (l0 p hp) (by omega))
  intro h' ok' F N dk'
  try dsimp only at N
  have hlo:(D==sysModules)=false:=beq_eq_false_iff_ne.mpr (Nat.ne_of_gt (Nat.lt_trans (modules_low TT.nolimit) (Nat.lt_of_le_of_lt F.above hLD)))
  rw [hvl,List.take_length] at h1 h2
  have hinj:∀ x∈ns,∀ y∈ns,x≠y->aZa T x≠aZa T y:=fun x _ y _ hxy e=>hxy (ira W e)
  k_extra "ma"
  rcases htl with _|⟨hod,hov,hcne⟩
  ·have hPL:=l0 _ (.head _)
   have hPD:=hD (191,tabObj #[]) (by simp)
   have N3:News g L' h' ((191,tabObj #[])::(D,oD)::(L'+1+1,ok')::(L'+1,ot)::ts):=News.sub N (by walk_at "mb")
   refine kla_eval rfl (kla_nest (c:=193) (P:=191) F N3 TT hcd rfl (UpdF.head ?_) trivial rfl rfl ?_)
   ·intro p hp
    simp only [List.mem_cons] at hp
    rcases hp with rfl|rfl|rfl|hp
    ·exact hPD.symm
    ·exact Nat.ne_of_gt (Nat.lt_of_lt_of_le hPL (by omega))
    ·exact Nat.ne_of_gt (Nat.lt_of_lt_of_le hPL (by omega))
    ·exact(hsep p hp (191,tabObj #[]) (by simp)).symm
   intro f c' oc vs2 t2 ctv h3 tk3 F N hod hov l1 l2
   have hcne: @Ne Nat c' 191:=Nat.ne_of_gt (l1 _ (.head _))
   try dsimp only at N
   k_extra "ma"
   have hnk:=hoD
   obtain⟨_,_,_,_,_,_,hknd⟩:=hnk
   refine iea (q:=f) (o:=oD) (kvs:=kvs) (ns:=ns) (ky:=aZa T) rfl F N (by k_mem) hoD hlo h1 (h2.more (by walk_at "mb")) (cWa W) hinj hnd (by omega) ?_ ?_
   ·rintro i n v t1 s₁ nw Q' hn hx ⟨hh,tkk,e⟩ hnw F1 N1 hq
    subst e
    have hx2:kvs[i]?=some ((n:Int),v):=by
     have e1:(kvs.map (·.1))[i]?=some (n:Int):=by rw [h1,List.getElem?_map,hn];rfl
     rw [List.getElem?_map] at hx e1
     cases e2:kvs[i]? with
     |none=>rw [e2] at hx;cases hx
     |some y=>rw [e2] at hx e1;obtain⟨y1,y2⟩:=y;simp at hx e1;rw [hx,e1]
    have hval:=valueAt_of_get hknd hx2
    refine wpAny_call (kla_code B F1 X N1 TT rfl rfl rfl (hnw _ (.head _)) (codeRec_news N1 (hnw (c',oc) (by walk_at "mz")) hod hov) (Nat.lt_of_le_of_lt (Nat.le_add_right _ _) hd') rfl (locs rfl) ?_ rfl rfl rfl (by decide))
    intro g2 L2 h4 FG F2 N2 B2 X2 T2
    simp only [List.reverse_cons,List.reverse_nil,List.nil_append,List.cons_append] at F2
    have N5:News g2 L2 h4 ((D,oD)::(L'+1+1,ok')::nw):=fun p hp=>by
     rcases lcM hp with rfl|hp
     ·exact N2 _ (hnw _ (by walk_at "mz"))
     ·rcases lcM hp with rfl|hp
      ·exact N2 _ (hnw _ (by walk_at "mz"))
      ·exact N2 _ hp
    k_extra "ma"
    exact hq _ _ (by assumption) (News.sub (by assumption) (by walk_at "mb"))
   ·intro D2 h4 tk4 out ns' c F N hlt ho hpm hs
    have e:ns'=(aEa T r).filter fun x=>decide (x∈ns):=d9a W hnd hw hpm hs
    refine hret _ _ _ F.keep ⟨⟨[(191,tabObj #[rawInt 161,rawInt 29, .ref c']),(c',oc)], .made hod hov hcne,a5a (News.sub N (by walk_at "mb"))⟩,D2,out,c,rfl,(N _ (.head _)).1,by rw [<-e];exact ho,(N _ (.head _)).2.2, ?_⟩
    rw [<-e,hpm.length_eq];omega
  ·rename_i c' oc vs2 t2 _
   have N3:News g L' h' ((191,tabObj #[rawInt 161,rawInt 29, .ref c'])::(c',oc)::(D,oD)::(L'+1+1,ok')::(L'+1,ot)::ts):=News.sub N (by walk_at "mb")
   refine kla_eval rfl (kla_hit (c:=193) (P:=191) (c':=c') F N3 TT hcd rfl (.head _) (by kn_triples) (by kn_hit) rfl ?_)
   intro f ctv h3 tk3 F N l1
   k_extra "ma"
   have hnk:=hoD
   obtain⟨_,_,_,_,_,_,hknd⟩:=hnk
   refine iea (q:=f) (o:=oD) (kvs:=kvs) (ns:=ns) (ky:=aZa T) rfl F N (by k_mem) hoD hlo h1 (h2.more (by walk_at "mb")) (cWa W) hinj hnd (by omega) ?_ ?_
   ·rintro i n v t1 s₁ nw Q' hn hx ⟨hh,tkk,e⟩ hnw F1 N1 hq
    subst e
    have hx2:kvs[i]?=some ((n:Int),v):=by
     have e1:(kvs.map (·.1))[i]?=some (n:Int):=by rw [h1,List.getElem?_map,hn];rfl
     rw [List.getElem?_map] at hx e1
     cases e2:kvs[i]? with
     |none=>rw [e2] at hx;cases hx
     |some y=>rw [e2] at hx e1;obtain⟨y1,y2⟩:=y;simp at hx e1;rw [hx,e1]
    have hval:=valueAt_of_get hknd hx2
    refine wpAny_call (kla_code B F1 X N1 TT rfl rfl rfl (hnw _ (.head _)) (codeRec_news N1 (hnw (c',oc) (by walk_at "mz")) hod hov) (Nat.lt_of_le_of_lt (Nat.le_add_right _ _) hd') rfl (locs rfl) ?_ rfl rfl rfl (by decide))
    intro g2 L2 h4 FG F2 N2 B2 X2 T2
    simp only [List.reverse_cons,List.reverse_nil,List.nil_append,List.cons_append] at F2
    have N5:News g2 L2 h4 ((D,oD)::(L'+1+1,ok')::nw):=fun p hp=>by
     rcases lcM hp with rfl|hp
     ·exact N2 _ (hnw _ (by walk_at "mz"))
     ·rcases lcM hp with rfl|hp
      ·exact N2 _ (hnw _ (by walk_at "mz"))
      ·exact N2 _ hp
    k_extra "ma"
    exact hq _ _ (by assumption) (News.sub (by assumption) (by walk_at "mb"))
   ·intro D2 h4 tk4 out ns' c F N hlt ho hpm hs
    have e:ns'=(aEa T r).filter fun x=>decide (x∈ns):=d9a W hnd hw hpm hs
    refine hret _ _ _ F.keep ⟨⟨[(191,tabObj #[rawInt 161,rawInt 29, .ref c']),(c',oc)], .made hod hov hcne,a5a (News.sub N (by walk_at "mb"))⟩,D2,out,c,rfl,(N _ (.head _)).1,by rw [<-e];exact ho,(N _ (.head _)).2.2, ?_⟩
    rw [<-e,hpm.length_eq];omega))
end
section
theorem ar39:True:=by
 k_with "ar39" =>with_reducible first|exact kAa ‹_›
 trivial
theorem rfa:True:=by
 k_with "S39 call ref" =>
  (
   (with_reducible show wpAny _ _ (call (Value.ref 382) [Value.ref _,Value.int _ _]) _ _ _)
   k_dflt (
    refine daa (jJa _ _ _ _ _ _ (by assumption) (by assumption)) (by assumption) (by assumption) (by assumption) (by assumption) (by assumption) (by k_extra "mc") (by k_extra "mc") (by k_extra "mq") ?_ rfl rfl
    intro _ _ _ _ _ _
    (try k_sweep)))
 k_with "S39 call ref" =>
  (
   (with_reducible show wpAny _ _ (call (Value.ref 375) [Value.ref _,Value.int _ _]) _ _ _)
   k_dflt (
    refine daa (jia _ _ _ _ _ _ (by assumption) (by assumption)) (by assumption) (by assumption) (by assumption) (by assumption) (by assumption) (by k_extra "mc") (by k_extra "mc") (by k_extra "mq") ?_ rfl rfl
    intro _ _ _ _ _ _
    (try k_sweep)))
 k_with "S39 call ref" =>
  (
   (with_reducible show wpAny _ _ (call (Value.ref 368) [Value.ref _,Value.int _ _]) _ _ _)
   k_dflt (
    refine daa (iua _ _ _ _ _ _ (by assumption) (by assumption)) (by assumption) (by assumption) (by assumption) (by assumption) (by assumption) (by k_extra "mc") (by k_extra "mc") (by k_extra "mq") ?_ rfl rfl
    intro _ _ _ _ _ _
    (try k_sweep)))
 k_with "S39 subscriptTail" =>
  ((with_reducible show wpAny _ _ (subscriptTail _ _ (Value.ref _) (Value.int _ _)) _ _ _);k_dflt (refine item_tuple (by assumption) (by decide) (by decide) (by with_unfolding_all rfl) (by rfl) ?_))
 trivial
theorem ewa(w:World)(nm:Addr)(tp:Tok):
 RO1 w 154 [.str (Str.ofString "") tp, .ref nm] 3 (fun _=>True) (fun _ _ v=>∃ tk,v= .str (Str.ofString "") tk):=by
 intro A s Q E H hr _ hret
 k_extra "mk"
 k_extra "ma"
 exact hret _ _ _ (Fr.keep (by assumption)) ⟨_,rfl⟩
theorem eta(w:World)(ax:Str)(ta:Tok)(hn:ax≠sNs):
 RO1 w 147 [.str ax ta] 3 (fun _=>True) (fun _ _ v=>∃ tk,v= .str (eoa ax) tk):=by
 intro A s Q E H hr _ hret
 k_extra "mk"
 k_extra "ma"
 ·exact hret _ _ _ (Fr.keep (by assumption)) ⟨_,congrArg (fun x=>Value.str x _) (sxa hn (by assumption)).symm⟩
 ·exact hret _ _ _ (Fr.keep (by assumption)) ⟨_,congrArg (fun x=>Value.str x _) (swa (by assumption)).symm⟩
theorem rea:True:=by
 k_with "S39 call ref" =>
  (
   (with_reducible show wpAny _ _ (call (Value.ref 154) [Value.str _ _,Value.ref _]) _ _ _)
   k_dflt (
    refine daa (ewa _ _ _) (by assumption) (by assumption) (by assumption) (by assumption) (by assumption) (by k_extra "mc") (by k_extra "mc") trivial ?_ rfl rfl
    intro _ _ _ _ _ _
    (try k_sweep)))
 k_with "S39 call ref" =>
  (
   (with_reducible show wpAny _ _ (call (Value.ref 147) [Value.str _ _]) _ _ _)
   k_dflt (
    refine daa (eta _ _ _ (by assumption)) (by assumption) (by assumption) (by assumption) (by assumption) (by assumption) (by k_extra "mc") (by k_extra "mc") trivial ?_ rfl rfl
    intro _ _ _ _ _ _
    (try k_sweep)))
 trivial
theorem hua:∀ (w:World) (t tt nm:Addr) (i:Nat) (tki t2 t3 t4:Tok) (T:List aaa) (W:WF T) (r:aaa) (hri:T[i]?=some r) (hi:i<T.length) (hk:r.kind≠sNs),
 RO1 w 161 [.ref t, .int i tki, .ref tt, .ref nm] 9 (fun h=>ava w h t T∧h.get? tt=some (aea #[.str (Str.ofString "name") t2, .str (Str.ofString "") t3, .str sB t4])) (fun _ _ v=>v= .bool (([aLa,afa].any fun x=>x==kindOf T i)&&(r.loc==sB&&r.uri==Str.ofString ""))):=gP_ (by trivial:Ca_ (by
 intro w t tt nm i tki t2 t3 t4 T W r hri hi hk
 refine Mine.hRO ?_
 intro A s Q E
 revert W hri hi hk
 revert w t tt nm i tki t2 t3 t4 T r A s Q E
 k_extra "mZ"
 intro w t tt nm i tki t2 t3 t4 T r A s Q E W hri hi hk H hr hp hret
 obtain⟨hp,htt⟩:=hp
 obtain⟨dt,rl,tk1,ep1,I1⟩:=hp.inst
 have hTz:T.length<1000:=by have:=W.small;omega
 have keep:∀ h',s.heap.StaysIn h'->IsTup h' tt _:=fun h' st=>ala (st _ _ htt)
 have htt2:=ala htt
 have hkk:(kindOf T i==Str.ofString "namespace")=false:=by rw [aXa hri];exact beq_eq_false_iff_ne.mpr hk
 k_extra "mi"
 k_extra "ma"
 all_goals first|exact hret _ _ _ (Fr.keep (by assumption)) (mna (by assumption))|exact hret _ _ _ (Fr.keep (by assumption)) (moa (by assumption) (by assumption))|exact hret _ _ _ (Fr.keep (by assumption)) (mpa (by assumption) (by assumption))))
theorem rda:True:=by
 k_with "S39 call ref" =>
  (
   (with_reducible show wpAny _ _ (call (Value.ref 161) [Value.ref _,Value.int _ _,Value.ref _,Value.ref _]) _ _ _)
   k_dflt (
    refine dba (hua _ _ _ _ _ _ _ _ _ _ (by assumption) _ (by assumption) (by assumption) (by assumption)) (by assumption) (by assumption) (by assumption) (by assumption) (by assumption) (by k_extra "mc") (by k_extra "mc") ⟨by k_extra "mq",Fr.keep (by assumption) _ _ (by assumption)⟩ ?_ rfl rfl
    intro _ _ _ _ _
    (try k_sweep)))
 trivial
theorem gna:∀ (w:World) (t tt nm:Addr) (i:Nat) (tki ta:Tok) (ax:Str) (ts:Tst) (T:List aaa) (W:WF T) (WN:fta T) (hi:i<T.length) (hax:ax≠sNs),
 RO1 w 168 [.ref t, .int i tki, .str ax ta, .ref tt, .ref nm] 12 (fun h=>ava w h t T∧cqa h tt ts) (fun _ _ v=>v= .bool (dYa T i ax ts)):=gP_ (by trivial:Ca_ (by
 intro w t tt nm i tki ta ax ts T W WN hi hax
 refine Mine.hRO ?_
 intro A s Q E
 revert W WN hi hax
 revert w t tt nm i tki ta ax ts T A s Q E
 k_extra "mM"
 intro w t tt nm i tki ta ax ts T A s Q E W WN hi hax H hr hp hret
 obtain⟨hp,htt⟩:=hp
 obtain⟨dt,rl,tk1,ep1,I1⟩:=hp.inst
 obtain⟨r,hri⟩:=bma hi
 have hTz:T.length<1000:=by have:=W.small;omega
 have hkn:=(WN i r hri).1
 cases htt with
 |node t2 htt=>
  have keep:∀ h',s.heap.StaysIn h'->IsTup h' tt _:=fun h' st=>ala (st _ _ htt)
  have htt2:=ala htt
  k_extra "mi"
  k_extra "ma"
  exact hret _ _ _ (Fr.keep (by assumption)) rfl
 |any t2 htt=>
  have keep:∀ h',s.heap.StaysIn h'->IsTup h' tt _:=fun h' st=>ala (st _ _ htt)
  have htt2:=ala htt
  k_extra "mi"
  k_extra "ma"
  exact hret _ _ _ (Fr.keep (by assumption)) rfl
 |text t2 htt=>
  have keep:∀ h',s.heap.StaysIn h'->IsTup h' tt _:=fun h' st=>ala (st _ _ htt)
  have htt2:=ala htt
  k_extra "mi"
  k_extra "ma"
  exact hret _ _ _ (Fr.keep (by assumption)) rfl
 |comm t2 htt=>
  have keep:∀ h',s.heap.StaysIn h'->IsTup h' tt _:=fun h' st=>ala (st _ _ htt)
  have htt2:=ala htt
  k_extra "mi"
  k_extra "ma"
  exact hret _ _ _ (Fr.keep (by assumption)) rfl
 |nameB t2 t3 t4 htt=>
  have keep:∀ h',s.heap.StaysIn h'->IsTup h' tt _:=fun h' st=>ala (st _ _ htt)
  have htt2:=ala htt
  k_extra "mi"
  k_extra "ma"
  ·exact hret _ _ _ (Fr.keep (by assumption)) ((hba (by assumption)).trans (congrArg Value.bool (eJa WN hri ax)))
  ·exact hret _ _ _ (Fr.keep (by assumption)) ((haa (by assumption)).trans (congrArg Value.bool (eJa WN hri ax)))
 |instN t2 htt=>
  have keep:∀ h',s.heap.StaysIn h'->IsTup h' tt _:=fun h' st=>ala (st _ _ htt)
  have htt2:=ala htt
  k_extra "mi"
  k_extra "ma"
  ·exact hret _ _ _ (Fr.keep (by assumption)) (congrArg Value.bool (by assumption:_=true).symm)
  ·exact hret _ _ _ (Fr.keep (by assumption)) rfl
 |instS t2 t3 sx htt=>
  have keep:∀ h',s.heap.StaysIn h'->IsTup h' tt _:=fun h' st=>ala (st _ _ htt)
  have htt2:=ala htt
  k_extra "mi"
  k_extra "ma"
  ·exact hret _ _ _ (Fr.keep (by assumption)) ((hba (a:=kindOf T i==bSa) (by assumption)).trans (by rw [<-d2a hri];rfl))
  ·exact hret _ _ _ (Fr.keep (by assumption)) (haa (b:=bHa T i==sx) (by assumption))))
end
section
theorem ar40:True:=by
 k_with "ar40" =>with_reducible first|exact mWa ‹_›
 trivial
theorem rca:True:=by
 k_with "S40 compareOp NotIn bool ref" =>
  (
   (with_reducible show wpAny _ _ (compareOp CmpOp.NotIn (Value.bool _) (Value.ref _)) _ _ _)
   k_dflt (refine fFa (by k_extra "mg") (SeqAt.EqAt.bool_bool _ _) (SeqAt.EqAt.str_bool _ _ _) nofun ?_))
 k_with "S40 compareOp NotIn str ref" =>
  (
   (with_reducible show wpAny _ _ (compareOp CmpOp.NotIn (Value.str _ _) (Value.ref _)) _ _ _)
   k_dflt (refine fFa (by k_extra "mg") (SeqAt.EqAt.bool_str _ _ _) (SeqAt.EqAt.str_str _ _ _ _) nofun ?_))
 trivial
theorem hEa(w:World)(v:Value)(x:Vl)(pos:Nat)(tp:Tok):
 RO1 w 201 [v, .int pos tp] 4 (fun h=>dMa h v x) (fun _ _ r=>r= .bool (iKa x pos)):=gP_ (by trivial:Ca_ (by
 intro A s Q E H hr hp hret
 cases hp with
 |tup a t t1 t2 e htt=>
  subst e
  have hit:s.heap.IsTuple t _:=⟨_,htt,rfl,_,rfl⟩
  obtain⟨as,hrd⟩:=dMa.reads htt
  k_extra "mk"
  k_extra "ma"
  exact hret _ _ _ (Fr.keep (by assumption)) (iHa _ _)
 |bl b e=>
  subst e
  k_extra "mk"
  k_extra "ma"
  exact hret _ _ _ (Fr.keep (by assumption)) rfl
 |yes t e=>
  subst e
  k_extra "mk"
  k_extra "ma"
  exact hret _ _ _ (Fr.keep (by assumption)) rfl
 |no t e=>
  subst e
  k_extra "mk"
  k_extra "ma"
  exact hret _ _ _ (Fr.keep (by assumption)) rfl))
theorem gra(w:World)(v:Value)(x:Vl)(pos:Nat)(tp:Tok):
 RO1 w 537 [v, .int pos tp] 4 (fun h=>dMa h v x) (fun _ _ r=>r= .bool (iKa x pos)):=gP_ (by trivial:Ca_ (by
 intro A s Q E H hr hp hret
 cases hp with
 |tup a t t1 t2 e htt=>
  subst e
  have hit:s.heap.IsTuple t _:=⟨_,htt,rfl,_,rfl⟩
  obtain⟨as,hrd⟩:=dMa.reads htt
  k_extra "mk"
  k_extra "ma"
  exact hret _ _ _ (Fr.keep (by assumption)) (iHa _ _)
 |bl b e=>
  subst e
  k_extra "mk"
  k_extra "ma"
  exact hret _ _ _ (Fr.keep (by assumption)) (by cases b<;>rfl)
 |yes t e=>
  subst e
  k_extra "mk"
  k_extra "ma"
  exact hret _ _ _ (Fr.keep (by assumption)) rfl
 |no t e=>
  subst e
  k_extra "mk"
  k_extra "ma"
  exact hret _ _ _ (Fr.keep (by assumption)) rfl))
end
section
theorem ar41:True:=by
 k_with "ar41" =>with_reducible first|exact mTa ‹_› ‹_› |exact mCa ‹_› |exact jga ‹_› ‹_› |exact lDa ‹_› ‹_›
 trivial
structure StL where
 ys:List Value
theorem kYa(pos:Nat):Value.bool (Int.fmod (pos:Int) 2==1)= .bool (pos%2==1):=by
 congr 1
 rw [Bool.eq_iff_iff,beq_iff_eq,beq_iff_eq,Int.fmod_eq_emod_of_nonneg _ (by decide)]
 omega
theorem d3a(w:World)(lr:Addr)(p:Prd)(pv:Value)(i pos size:Nat)(ti tp ts:Tok)(T:List aaa)(hT:T.length<60)(hi:i<T.length)(hz:pos<1000)(hp0:jca p pv):
 RO1 w 530 [.ref lr,pv, .int i ti, .int pos tp, .int size ts] 6 (fun h=>b9a h lr T) (fun h h' r=>dMa h' r (kea T p i pos size)∧∀ t,r= .ref t->h.get? t=none):=gP_ (by trivial:Ca_ (by
 intro A s Q E H hr hp hret
 obtain⟨vs,hl,hvl,hrow⟩:=hp
 cases hp0 with
 |num m t hm=>
  k_extra "mB"
  k_extra "ma"
  rename News _ _ _ _=>N
  exact hret _ _ _ (Fr.keep (by assumption)) ⟨.tup _ _ _ _ rfl (N _ (.head _)).1,fun t e=>by cases e;exact(N _ (.head _)).2.2⟩
 |last t=>
  k_extra "mB"
  k_extra "ma"
  rename News _ _ _ _=>N
  exact hret _ _ _ (Fr.keep (by assumption)) ⟨.tup _ _ _ _ rfl (N _ (.head _)).1,fun t e=>by cases e;exact(N _ (.head _)).2.2⟩
 |odd t=>
  k_extra "mB"
  k_extra "ma"
  exact hret _ _ _ (Fr.keep (by assumption)) ⟨kYa pos▸ .bl _ rfl,nofun⟩
 |isB t=>
  k_extra "mB"
  k_extra "ma"
  rename_i L' h1 tk2 B X TT F hd' hu' on dn N
  replace dn:on.data= .cell (some (.int i ti)):=dn
  obtain⟨ri,hri⟩:=bma hi
  obtain⟨vr,hvr,hrr⟩:=hrow i ri hri
  refine aGa (cl:= [(Str.ofString "node",L'+1)]) F rfl (by decide) rfl (by decide) rfl ?_
  k_extra "ma"
  refine aVa (σ:=StL) (fun _=> []) (fun c=>c.ys) (fun k c=>c.ys=if i<k then [vr] else []) ⟨[]⟩ [(L'+1,on)] rfl (a2a hl F) (bca F hl) (by rw [sizeLine_eq];omega)
   F N (by walk_at "mb") (by k_extra "md") (by k_extra "md") rfl rfl ?_ ?_
  ·rintro k v cS_ h tk own C oC m₂ E' hvi hi2 h1 hyl hC hoC hx F N hsep
   k_extra "mf"
   obtain⟨ys⟩:=cS_
   dsimp only at h1 hyl N hsep ⊢
   obtain⟨rk,hrk⟩:=bma (T:=T) (i:=k) (by omega)
   obtain⟨v2,hv2,⟨a,t1,t2,t3,pv2,rfl,htt,hpv⟩⟩:=hrow k rk hrk
   rw [hvi] at hv2
   obtain rfl:=Option.some.inj hv2
   have htt2:=ala htt
   have N2:=News.sub N (l':=(C,oC)::(L'+1,on)::own) (by walk_at "mb")
   k_extra "ma"
   ·rename_i e
    have e:k=i:=by omega
    subst e
    refine aba.intro (⟨ys++ [.ref a]⟩:StL) (by assumption) (by assumption) (by walk_at "mb") rfl ?_ (by k_extra "md")
    show ys++ [Value.ref a]=_
    rw [h1,if_neg (Nat.lt_irrefl _),if_pos (Nat.lt_succ_self _),<-Option.some.inj (hvi.symm.trans hvr)]
    rfl
   ·rename_i e
    refine aba.intro (⟨ys⟩:StL) (by assumption) (by assumption) (by walk_at "mb") rfl ?_ (by k_extra "md")
    show ys=_
    rw [h1]
    by_cases q:i<k
    ·rw [if_pos q,if_pos (by omega)]
    ·rw [if_neg q,if_neg (by omega)]
  ·rintro D cS_ h tk h1 hyl F N hD-
   k_extra "mf"
   obtain⟨ys⟩:=cS_
   dsimp only at h1 hyl N hD ⊢
   rw [if_pos (by omega)] at h1
   subst h1
   obtain⟨a,t1,t2,t3,pv2,rfl,htt,hpv⟩:=hrr
   have htt2:=ala htt
   k_extra "ma"
   ·exact hret _ _ _ (Fr.keep (by assumption)) ⟨.ofYes hri (by assumption),nofun⟩
   ·exact hret _ _ _ (Fr.keep (by assumption)) ⟨.ofNo hri (by assumption),nofun⟩))
end
section
theorem ar42:True:=by
 k_with "ar42" =>
  fail
 trivial
theorem rba:True:=by
 k_with "S42 compareOp In str ref" =>
  (
   (with_reducible show wpAny _ _ (compareOp CmpOp.In (Value.str _ _) (Value.ref _)) _ _ _)
   k_dflt (refine kra (by k_extra "mg") (SeqAt.EqAt.none_str _ _) (SeqAt.EqAt.str_str _ _ _ _) nofun ?_))
 k_with "S42 compareOp In none ref" =>
  (
   (with_reducible show wpAny _ _ (compareOp CmpOp.In Value.none (Value.ref _)) _ _ _)
   k_dflt (refine kra (by k_extra "mg") eq_none_none (SeqAt.EqAt.str_none _ _) nofun ?_))
 trivial
inductive msa(g:Heap)(L a tt:Addr)(ax:Str)(ta:Tok)(s s':Shared):Prop
 |ik (h':Heap) (tk':Nat) (t2:Tok) (f0:s'= {s with heap:=h',toks:=tk'})
  (f1:Fr g L h' (fun y=>if y=Str.ofString "kind" then some (.str (eoa ax) t2) else List.lookup y [(Str.ofString "test",Value.ref tt),(Str.ofString "axis_here", .str ax ta),(Str.ofString "row", .ref a)]))
  (f2:News g L h' []):msa g L a tt ax ta s s'
theorem fHa:∀ (w:World) (a tt:Addr) (i:Nat) (r:aaa) (ta:Tok) (ax:Str) (ts:Tst) (T:List aaa) (hri:T[i]?=some r),
 RO1 w 525 [.ref a, .str ax ta, .ref tt] 12 (fun h=>lwa h i r (.ref a)∧cqa h tt ts) (fun _ _ v=>v= .bool (dYa T i ax ts)):=gP_ (by trivial:Ca_ (by
 intro w a tt i r ta ax ts T hri
 refine Mine.hRO ?_
 intro A s Q E
 revert hri
 revert w a tt i r ta ax ts T A s Q E
 k_extra "mK"
 intro w a tt i r ta ax ts T A s Q E hri H hr hp hret
 obtain⟨⟨a',u1,u2,u3,pv,ea,hra,hpv⟩,htt⟩:=hp
 cases ea
 have hra2:=ala hra
 k_extra "mi"
 rename Fr _ _ _ _=>F
 rename News _ _ _ _=>N
 rename_i L' h1 tk1 _ _ _ _ _
 refine gXa (msa s.heap L' a tt ax ta s) ?_ ?_
 ·k_extra "ma"
  ·exact⟨_,_,_,rfl,eRa (by assumption) (fun y=>by rw [sua (by assumption)]),by assumption⟩
  ·exact⟨_,_,_,rfl,eRa (by assumption) (fun y=>by rw [sva (by assumption)]),by assumption⟩
 clear F N
 rintro s' ⟨h2,tk2,t9,rfl,F,N⟩
 have hk:kindOf T i=r.kind:=aXa hri
 have hn:bHa T i=r.name:=d2a hri
 cases htt with
 |node t2 htt=>
  have htt2:=ala htt
  k_extra "ma"
  exact hret _ _ _ (Fr.keep (by assumption)) rfl
 |any t2 htt=>
  have htt2:=ala htt
  k_extra "ma"
  ·exact hret _ _ _ (Fr.keep (by assumption)) (by show _=Value.bool (kindOf T i==eoa ax);rw [hk,‹(r.kind==eoa ax)=true›];rfl)
  ·exact hret _ _ _ (Fr.keep (by assumption)) (by show _=Value.bool (kindOf T i==eoa ax);rw [hk])
 |text t2 htt=>
  have htt2:=ala htt
  k_extra "ma"
  exact hret _ _ _ (Fr.keep (by assumption)) (by show _=Value.bool (kindOf T i==ika);rw [hk])
 |comm t2 htt=>
  have htt2:=ala htt
  k_extra "ma"
  exact hret _ _ _ (Fr.keep (by assumption)) (by show _=Value.bool (kindOf T i==ila);rw [hk])
 |nameB t2 t3 t4 htt=>
  have htt2:=ala htt
  k_extra "ma"
  ·exact hret _ _ _ (Fr.keep (by assumption)) (by show _=Value.bool (kindOf T i==eoa ax&&bHa T i==sB);rw [hk,hn];exact hba (by assumption))
  ·exact hret _ _ _ (Fr.keep (by assumption)) (by show _=Value.bool (kindOf T i==eoa ax&&bHa T i==sB);rw [hk,hn];exact haa (by assumption))
 |instN t2 htt=>
  have htt2:=ala htt
  k_extra "ma"
  ·exact hret _ _ _ (Fr.keep (by assumption)) (by show _=Value.bool (kindOf T i==bSa);rw [hk,‹(r.kind==bSa)=true›];rfl)
  ·exact hret _ _ _ (Fr.keep (by assumption)) (by show _=Value.bool (kindOf T i==bSa);rw [hk])
 |instS t2 t3 sx htt=>
  have htt2:=ala htt
  k_extra "ma"
  ·exact hret _ _ _ (Fr.keep (by assumption)) (by show _=Value.bool (kindOf T i==bSa&&bHa T i==sx);rw [hk,hn,Bool.false_or];exact hba (by assumption))
  ·exact hret _ _ _ (Fr.keep (by assumption)) (by show _=Value.bool (kindOf T i==bSa&&bHa T i==sx);rw [hk,hn];exact haa (by assumption))))
end
section
theorem ar43:True:=by
 k_with "ar43" =>with_reducible first|((show _<_);first|exact kCa ‹_› ‹_› |exact jea ‹_› ‹_› |exact lJa ‹_› ‹_› ‹_› |exact lHa ‹_› ‹_› ‹_› |exact kBa ‹_› ‹_› |exact fva ‹_› ‹_›)
 trivial
structure StW where
 fv:List Value
 fn:Nat
 fs:List Nat
 x:Nat
 tx:Tok
theorem hTa:∀ (w:World) (lr:Addr) (i:Nat) (tki:Tok) (T:List aaa) (W:WF T) (hi:i<T.length),
 RO1 w 513 [.ref lr, .int i tki] 5 (fun h=>b9a h lr T) (fun h h' v=>apa h h' v (anc T i)):=gP_ (by trivial:Ca_ (by
 intro w lr i tki T W hi
 refine Mine.hRO ?_
 intro A s Q E
 revert W hi
 revert w lr i tki T A s Q E
 k_extra "mu"
 intro w lr i tki T A s Q E W hi H hr hp hret
 obtain⟨vs,hl,hvl,hrow⟩:=hp
 have hT:=W.small
 have hz:=b1a W i
 have hvz:vs.length<2^24:=by omega
 k_extra "mi"
 k_extra "ma"
 rename Fr _ _ _ _=>F
 rename News _ _ _ _=>N
 rename_i fD _ _ _
 refine bQa rfl (σ:=StW) (fun c=> [(fD,listOf c.fv.toArray c.fn)]) (fun c=> [(Str.ofString "at", .int c.x c.tx)]) []
  (fun c=>NV c.fv c.fs∧c.fs++anc T c.x=anc T i∧c.x<T.length) (fun c=>c.x)
  ⟨[],0, [],i,tki⟩ [] F N ?_ ?_ ?_ ?_ ?_
 ·k_extra "mn"
 ·simp
 ·k_extra "mo"
 ·exact⟨.nil,rfl,hi⟩
 ·clear F N
  rintro cS_ u h tk hJ0_ F N _
  k_extra "mf"
  obtain⟨fv,fn,fs,x,tx⟩:=cS_
  dsimp only at F N hJ0_ ⊢
  refine bua ?_
  intro hG_ hg_
  obtain⟨nf,he,hx⟩:=hJ0_
  refine hg_ ?_
  clear hg_ hG_
  dsimp only [List.cons_append,List.nil_append] at N
  have nl:=nf.len
  obtain⟨r,hr2⟩:=bma hx
  obtain⟨v,hv,⟨a,t1,t2,t3,pv,rfl,htt,hpv⟩⟩:=hrow x r hr2
  have htt2:=ala htt
  have hxz:x<2^24:=by omega
  have hfz:fs.length<60:=by rw [<-he] at hz;simp only [List.length_append] at hz;omega
  have hpar:par T x=r.parent:=bBa hr2
  generalize r.parent=rp at hpv hpar
  cases hpv with
  |none=>
   k_extra "ma"
   all_goals first|(exfalso;simp at*;done)|skip
   refine hret _ _ _ (Fr.keep (by assumption)) (aca (by assumption) (by k_mem) ?_ (by omega))
   rw [aNa hpar,List.append_nil] at he
   exact he▸nf
  |some q tq=>
   k_extra "ma"
   all_goals first|(exfalso;simp at*;done)|skip
   refine bwa.intro (⟨_,_,fs++ [q],q,tq⟩:StW) (by assumption) (by assumption) (by k_extra "mn") ⟨nf.snoc _ _, ?_, ?_⟩ (aja W hpar) (by simp) (by k_extra "mo") (by k_extra "mj")
   ·rw [<-he,aka W hpar];simp
   ·have:=aja W hpar;show q<_;omega))
end
theorem raa:True:=by
 k_with "mq" =>
  exact b9a.stays (by assumption) (Fr.keep (by assumption))
 k_with "mt" =>
  exact hTa _ _ _ _ _ (by assumption) (by k_extra "ml")
 k_with "w call type:range" =>
  ((with_reducible show wpAny _ _ (call (Value.type "range") [Value.int _ _]) _ _ _);(refine range1_rows (by assumption) (by assumption) ?_);intro _ _ _ _ _ _ _ _ _;(try k_sweep))
 trivial
section
theorem ar44:True:=by
 k_with "ar44" =>with_reducible first|((show _<_);first|exact jea ‹_› ‹_› |exact oCa ‹_› ‹_› |exact mTa ‹_› ‹_› |exact kCa ‹_› ‹_› |exact fva ‹_› ‹_› |exact nQa ‹_› |exact nCa ‹_› ‹_› ‹_› ‹_› |exact ooa ‹_› ‹_› ‹_› ‹_›)|exact lOa ‹_› ‹_› |exact opa ‹_› ‹_› ‹_› |exact kFa ‹_›
 trivial
theorem q9a:True:=by
 k_with "S44 eval Dict" =>
  (
   (with_reducible show wpAny _ _ (eval (Expr.Dict _ _ _) _) _ _ _)
   k_dflt (refine kdn_str (by rfl) (by assumption) (by assumption) (Top.nolimit (by assumption)) (by rfl) (by rfl) (List.cons_ne_nil _ _) (Nat.le_of_ble_eq_true (by rfl)) ?_)
   intro _ _ _ _ _ l1 _ _
   (try k_lt l1)
   (try revert l1);intros)
 k_with "S44 call builtin:dict.get" =>
  ((with_reducible show wpAny _ _ (call (Value.builtin "dict.get") [Value.ref _,Value.str _ _,Value.ref _]) _ _ _);refine cfa ?_)
 k_with "S44 call builtin:dict.get" =>
  (
   (with_reducible show wpAny _ _ (call (Value.builtin "dict.get") [Value.ref _,Value.str _ _,Value.ref _]) _ _ _)
   k_dflt (first
    |refine kdg_get2 (knd:=PySem.strKind _ _) (by assumption) (by k_extra "me") (by assumption) (by assumption) (strKind_is _ _ _ _) (some _) (by rfl) ?_
    |refine kdg_get2 (knd:=PySem.strKind _ _) (by assumption) (by k_extra "me") (by assumption) (by assumption) (strKind_is _ _ _ _) none (by rfl) ?_)
   (try dsimp only [Option.getD]))
 k_with "S44 compareOp Eq" =>
  (
   (with_reducible show wpAny _ _ (compareOp CmpOp.Eq _ _) _ _ _)
   k_dflt (refine qea (by assumption) (by assumption) ?_))
 trivial
theorem hNa:∀ (w:World) (lr:Addr) (i:Nat) (tki ta:Tok) (ax:Str) (T:List aaa) (W:WF T) (hi:i<T.length) (hax:ax∈aga++aya) (O:Ord T),
 RO1 w 518 [.ref lr, .int i tki, .str ax ta] 9 (fun h=>b9a h lr T) (fun h h' v=>apa h h' v (aDa T i ax)):=gP_ (by trivial:Ca_ (by
 intro w lr i tki ta ax T W hi hax O
 refine Mine.hRO ?_
 intro A s Q E
 revert W hi hax O
 revert w lr i tki ta ax T A s Q E
 k_extra "mw"
 intro w lr i tki ta ax T A s Q E W hi hax O H hr hp hret
 have hp0:=hp
 obtain⟨vs,hl,hvl,hrow⟩:=hp
 have hT:=W.small
 have hvz:vs.length<2^24:=by omega
 k_extra "mG"
 rename_i L' h1 tk1 B X TT F hd' hu' o4 o3 o2 o1 d4 d3 d2 d1 N
 replace d4:o4.data= .cell none:=d4
 replace d3:o3.data= .cell none:=d3
 replace d2:o2.data= .cell (some (.int i tki)):=d2
 replace d1:o1.data= .cell (some (.ref lr)):=d1
 replace F:Fr s.heap L' h1 (fun y=>if y=Str.ofString "axis_here" then some (.str ax ta) else none):=F
 k_extra "ma"
 refine aGa (cl:= [(Str.ofString "rows",L'+1)]) (by assumption) rfl (by decide) rfl (by decide) rfl ?_
 k_extra "ma"
 rename IsRange _ _ _ _ _ _ _ _=>R
 rename News _ _ _ _=>N
 rename Fr _ _ _ _=>F
 rename_i hA tkA la va ca nva llA stA lA _ _ hB _ _ _ _ _
 refine bza (n:=vs.length) (σ:=StL) (fun _=> []) (fun c=>c.ys) (fun k c=>NV c.ys ((List.range k).filter fun x=>kindOf T x !=afa)) ⟨[]⟩ [(la,listOf va.toArray ca),(L'+1+1+1+1,o4),(L'+1+1+1,o3),(L'+1+1,o2),(L'+1,o1)] rfl R (small_one (by omega) (by omega) (by omega) (by omega)) (by rw [rangeSize_nat];omega) (by rw [sizeLine_eq];omega)
  F N (by walk_at "mb") (by k_extra "md") rfl .nil ?_ ?_
 ·clear F N R
  rintro k tkk cS_ h tk own C oC m₂ E' hk h1 hyl hC hoC hx F N hsep
  k_extra "mf"
  obtain⟨ys⟩:=cS_
  dsimp only at h1 hyl N hsep ⊢
  rw [Int.zero_add] at hx
  obtain⟨r,hr2⟩:=bma (T:=T) (i:=k) (by omega)
  obtain⟨v,hv,⟨a,t1,t2,t3,pv,rfl,htt,hpv⟩⟩:=hrow k r hr2
  have htt2:=ala htt
  have hxz:k<2^24:=by omega
  have N2:=News.sub N (l':=(C,oC)::(la,listOf va.toArray ca)::(L'+1+1+1+1,o4)::(L'+1+1+1,o3)::(L'+1+1,o2)::(L'+1,o1)::own) (by walk_at "mb")
  clear N
  k_extra "ma"
  ·exact aba.intro (⟨ys++ [.int k tkk]⟩:StL) (by assumption) (by assumption) (by walk_at "mb") rfl (e9a h1 (by rw [aXa hr2];assumption)) (by k_extra "md")
  ·exact aba.intro (⟨ys⟩:StL) (by assumption) (by assumption) (by walk_at "mb") rfl (fCa h1 (by rw [aXa hr2];assumption)) (by k_extra "md")
 clear F N R
 rintro lw cS_ h2 tk2 hw hyl F N hD-
 k_extra "mf"
 obtain⟨yw⟩:=cS_
 dsimp only at hw hyl N hD ⊢
 rw [hvl] at hw
 change NV yw (a1a T) at hw
 change News _ L' h2 ((lw,listOf yw.toArray yw.length)::_) at N
 have hwl:=hw.len
 have hwz:=dOa T
 have w1:=hD (L'+1,o1) (by k_extra "me")
 have w2:=hD (L'+1+1,o2) (by k_extra "me")
 have w3:=hD (L'+1+1+1,o3) (by k_extra "me")
 have w4:=hD (L'+1+1+1+1,o4) (by k_extra "me")
 k_extra "ma"
 rename News _ _ _ _=>N
 rename Fr _ _ _ _=>F
 have NS:=News.sub N (l':=(L'+1+1+1,o3)::(L'+1,o1)::(L'+1+1,o2)::(L'+1+1+1+1,o4)::(la,listOf va.toArray ca)::(lw,listOf yw.toArray yw.length):: []) (by walk_at "mb")
 refine storeX_C F NS (c:=L'+1+1+1) rfl (UpdF.head (fc (ck L' 1 3 (by decide)) (fc (ck L' 2 3 (by decide)) (fc (ck L' 4 3 (by decide)) (fc lA.2.1.symm (fc w3.symm fn)))))) d3 ?_
 clear F N NS hD
 intro h3 e3 F N x3
 try dsimp only at N
 k_extra "ma"
 refine wpAny_Assign_Name ?_
 refine aGa (cl:= [(Str.ofString "rows",L'+1),(Str.ofString "at",L'+1+1)]) (by assumption) rfl (by decide) rfl (by decide) rfl ?_
 k_extra "ma"
 rename News _ _ _ _=>N
 rename Fr _ _ _ _=>F
 refine aVa (σ:=StL) (fun _=> []) (fun c=>c.ys) (fun k c=>NV c.ys (((a1a T).take k).filter fun x=>decide (i∈anc T x))) ⟨[]⟩ ((L'+1+1+1,e3)::(L'+1,o1)::(L'+1+1,o2)::(L'+1+1+1+1,o4)::(la,listOf va.toArray ca)::(lw,listOf yw.toArray yw.length):: []) rfl (by k_extra "mg") (N (lw,listOf yw.toArray yw.length) (by k_extra "me")).2.1 (by rw [sizeLine_eq];omega)
  F N (by walk_at "mb") (by k_extra "md") (by k_extra "md") rfl .nil ?_ ?_
 ·clear F N
  rintro k v cS_ h tk own C oC m₂ E' hvi hi2 h1 hyl hC hoC hx F N hsep
  k_extra "mf"
  obtain⟨ys⟩:=cS_
  dsimp only at h1 hyl N hsep ⊢
  obtain⟨x,tx,hx2,rfl⟩:=hw.get hvi
  have hxT:=csa (List.mem_of_getElem? hx2)
  have N2:=News.sub N (l':=(C,oC)::(L'+1+1+1,e3)::(L'+1,o1)::(L'+1+1,o2)::(L'+1+1+1+1,o4)::(la,listOf va.toArray ca)::(lw,listOf yw.toArray yw.length)::own) (by walk_at "mb")
  clear N
  k_extra "ma"
  ·exact aba.intro (⟨ys++ [.int x tx]⟩:StL) (by assumption) (by assumption) (by walk_at "mb") rfl (cOa h1 hx2 (decide_eq_true (by assumption))) (by k_extra "md")
  ·exact aba.intro (⟨ys⟩:StL) (by assumption) (by assumption) (by walk_at "mb") rfl (c9a h1 hx2 (decide_eq_false (by assumption))) (by k_extra "md")
 clear F N
 rintro li cS_ h4 tk4 hn hyl F N hD-
 k_extra "mf"
 obtain⟨yi⟩:=cS_
 dsimp only at hn hyl N hD ⊢
 rw [hwl,List.take_length] at hn
 change NV yi (a8a T i) at hn
 change News _ L' h4 ((li,listOf yi.toArray yi.length)::_) at N
 have hnl:=hn.len
 have hnz:=hda T i
 have i1:=hD (L'+1,o1) (by k_extra "me")
 have i2:=hD (L'+1+1,o2) (by k_extra "me")
 have i3:=hD (L'+1+1+1,e3) (by k_extra "me")
 have i4:=hD (L'+1+1+1+1,o4) (by k_extra "me")
 have NS:=News.sub N (l':=(L'+1+1+1+1,o4)::(L'+1+1+1,e3)::(L'+1,o1)::(L'+1+1,o2)::(la,listOf va.toArray ca)::(lw,listOf yw.toArray yw.length)::(li,listOf yi.toArray yi.length):: []) (by walk_at "mb")
 refine storeX_C F NS (c:=L'+1+1+1+1) rfl (UpdF.head (fc (ck L' 3 4 (by decide)) (fc (ck L' 1 4 (by decide)) (fc (ck L' 2 4 (by decide)) (fc lA.1.symm (fc w4.symm (fc i4.symm fn))))))) d4 ?_
 clear F N NS hD
 intro h5 e4 F N x4
 try dsimp only at N
 k_extra "ma"
 obtain⟨ri,hri⟩:=bma hi
 obtain⟨vi,hvi0,⟨ai,ti1,ti2,ti3,pvi,rfl,htti,hpvi⟩⟩:=hrow i ri hri
 have htti2:=ala htti
 have hiz:i<2^24:=by omega
 refine cKa (cl:= [(Str.ofString "rows",L'+1),(Str.ofString "at",L'+1+1)]) F rfl rfl rfl (by decide) rfl (by decide) rfl rfl rfl ?_
 k_extra "ma"
 refine aVa (σ:=StL) (fun _=> []) (fun c=>c.ys) (fun k c=>NV c.ys (((a1a T).take k).filter fun x=>kindOf T i !=afa&&(decide (par T x=par T i)&&decide (x≠i)))) ⟨[]⟩ ((L'+1+1+1+1,e4)::(L'+1+1+1,e3)::(L'+1,o1)::(L'+1+1,o2)::(la,listOf va.toArray ca)::(lw,listOf yw.toArray yw.length)::(li,listOf yi.toArray yi.length):: []) rfl (by k_extra "mg") (N (lw,listOf yw.toArray yw.length) (by k_extra "me")).2.1 (by rw [sizeLine_eq];omega)
  F N (by walk_at "mb") (by k_extra "md") (by k_extra "md") rfl .nil ?_ ?_
 ·clear F N
  rintro k v cS_ h tk own C oC m₂ E' hvk hi2 h1 hyl hC hoC hx F N hsep
  k_extra "mf"
  obtain⟨ys⟩:=cS_
  dsimp only at h1 hyl N hsep ⊢
  obtain⟨x,tx,hx2,rfl⟩:=hw.get hvk
  have hxT:=csa (List.mem_of_getElem? hx2)
  have hxz:x<2^24:=by omega
  obtain⟨r,hr2⟩:=bma hxT
  obtain⟨v,hv,⟨a,t1,t2,t3,pv,rfl,htt,hpv⟩⟩:=hrow x r hr2
  have htt2:=ala htt
  have N2:=News.sub N (l':=(C,oC)::(L'+1+1+1+1,e4)::(L'+1+1+1,e3)::(L'+1,o1)::(L'+1+1,o2)::(la,listOf va.toArray ca)::(lw,listOf yw.toArray yw.length)::(li,listOf yi.toArray yi.length)::own) (by walk_at "mb")
  clear N
  k_extra "ma"
  ·rename_i g1 g2 g3
   exact aba.intro (⟨ys++ [.int x tx]⟩:StL) (by assumption) (by assumption) (by walk_at "mb") rfl (cOa h1 hx2 (by rw [aXa hri,g1,bBa hr2,bBa hri,g2,decide_eq_true (show x≠i by omega),decide_eq_true (rfl:ri.parent=ri.parent)];rfl)) (by k_extra "md")
  ·rename_i g1 g2 g3
   exact aba.intro (⟨ys⟩:StL) (by assumption) (by assumption) (by walk_at "mb") rfl (c9a h1 hx2 (by rw [decide_eq_false (show¬x≠i by omega),Bool.and_false,Bool.and_false])) (by k_extra "md")
  ·rename_i g1 g2
   exact aba.intro (⟨ys⟩:StL) (by assumption) (by assumption) (by walk_at "mb") rfl (c9a h1 hx2 (by rw [bBa hr2,bBa hri,decide_eq_false g2,Bool.false_and,Bool.and_false])) (by k_extra "md")
  ·rename_i g1
   exact aba.intro (⟨ys⟩:StL) (by assumption) (by assumption) (by walk_at "mb") rfl (c9a h1 hx2 (by rw [aXa hri,g1,Bool.false_and])) (by k_extra "md")
 clear F N
 rintro lb cS_ h6 tk6 hb hyl F N hD-
 k_extra "mf"
 obtain⟨yb⟩:=cS_
 dsimp only at hb hyl N hD ⊢
 rw [hwl,List.take_length] at hb
 change NV yb (bDa T i) at hb
 change News _ L' h6 ((lb,listOf yb.toArray yb.length)::_) at N
 have hbl:=hb.len
 have hbz:=hLa T i
 have hal:(anc T i).length<60:=by have:=b1a W i;omega
 have hvl2:=nva.len
 clear lA stA w1 w2 w3 w4 i1 i2 i3 i4 hvi0 htti htti2 hpvi hri hp0
 k_extra "ma"
 ·have hax4:ax=Str.ofString "self" ∨ax=Str.ofString "parent" ∨ax=Str.ofString "ancestor" ∨ax=Str.ofString "ancestor-or-self" :=sPa (by assumption)
  rcases hax4 with rfl|rfl|rfl|rfl
  ·k_extra "ma"
   exact hret _ _ _ (Fr.keep (by assumption)) (aca (by assumption) (by k_extra "me") (by rw [dma];exact .one) (Nat.lt_trans (aMa W hi _) (by decide)))
  ·k_extra "ma"
   exact hret _ _ _ (Fr.keep (by assumption)) (aca (by assumption) (by k_extra "me") (by have q:=nva.take 1;rw [j7a W i] at q;rw [bKa];exact q) (Nat.lt_trans (aMa W hi _) (by decide)))
  ·k_extra "ma"
   exact hret _ _ _ (Fr.keep (by assumption)) (aca (by assumption) (by k_extra "me") (by rw [bNa];exact nva) (Nat.lt_trans (aMa W hi _) (by decide)))
  ·k_extra "ma"
   exact hret _ _ _ (Fr.keep (by assumption)) (aca (by assumption) (by k_extra "me") (by rw [aWa];assumption) (Nat.lt_trans (aMa W hi _) (by decide)))
 ·have hax5:ax=Str.ofString "child" ∨ax=Str.ofString "descendant" ∨ax=Str.ofString "descendant-or-self" :=sQa (by assumption)
  rename News _ _ _ _=>N
  rename Fr _ _ _ _=>F
  refine cKa (cl:= [(Str.ofString "rows",L'+1),(Str.ofString "at",L'+1+1)]) F rfl rfl rfl (by decide) rfl (by decide) rfl rfl rfl ?_
  k_extra "ma"
  refine aVa (σ:=StL) (fun _=> []) (fun c=>c.ys) (fun k c=>NV c.ys (((a8a T i).take k).filter fun x=>decide (par T x=some i))) ⟨[]⟩ ((L'+1+1+1+1,e4)::(L'+1+1+1,e3)::(L'+1,o1)::(L'+1+1,o2)::(lb,listOf yb.toArray yb.length)::(la,listOf va.toArray ca)::(lw,listOf yw.toArray yw.length)::(li,listOf yi.toArray yi.length):: []) rfl (by k_extra "mg") (N (li,listOf yi.toArray yi.length) (by k_extra "me")).2.1 (by rw [sizeLine_eq];omega)
   F N (by walk_at "mb") (by k_extra "md") (by k_extra "md") rfl .nil ?_ ?_
  ·clear F N
   rintro k v cS_ h tk own C oC m₂ E' hvk hi2 h1 hyl hC hoC hx F N hsep
   k_extra "mf"
   obtain⟨ys⟩:=cS_
   dsimp only at h1 hyl N hsep ⊢
   obtain⟨x,tx,hx2,rfl⟩:=hn.get hvk
   have hxT:=hXa (List.mem_of_getElem? hx2)
   have N2:=News.sub N (l':=(C,oC)::(L'+1+1+1+1,e4)::(L'+1+1+1,e3)::(L'+1,o1)::(L'+1+1,o2)::(lb,listOf yb.toArray yb.length)::(la,listOf va.toArray ca)::(lw,listOf yw.toArray yw.length)::(li,listOf yi.toArray yi.length)::own) (by walk_at "mb")
   clear N
   have hxz:x<2^24:=by omega
   obtain⟨r,hr2⟩:=bma hxT
   obtain⟨v,hv,⟨a,t1,t2,t3,pv,rfl,htt,hpv⟩⟩:=hrow x r hr2
   have htt2:=ala htt
   have hpi:b2a (some i) (.int i tki):= .some i tki
   k_extra "ma"
   ·exact aba.intro (⟨ys++ [.int x tx]⟩:StL) (by assumption) (by assumption) (by walk_at "mb") rfl (cOa h1 hx2 (decide_eq_true ((bBa hr2).trans (by assumption)))) (by k_extra "md")
   ·exact aba.intro (⟨ys⟩:StL) (by assumption) (by assumption) (by walk_at "mb") rfl (c9a h1 hx2 (decide_eq_false fun e=>absurd ((bBa hr2).symm.trans e) (by assumption))) (by k_extra "md")
  ·clear F N
   rintro lr2 cS_ h7 tk7 hq hyl F N hD-
   k_extra "mf"
   obtain⟨yr⟩:=cS_
   dsimp only at hq hyl N hD ⊢
   rw [hnl,List.take_length] at hq
   rw [gBa W O hi] at hq
   change News _ L' h7 ((lr2,listOf yr.toArray yr.length)::_) at N
   have hql:=hq.len
   have hkz:=a0a W i
   rcases hax5 with rfl|rfl|rfl
   ·k_extra "ma"
    exact hret _ _ _ (Fr.keep (by assumption)) (aca (by assumption) (by k_extra "me") (by rw [cJa];exact hq) (Nat.lt_trans (aMa W hi _) (by decide)))
   ·k_extra "ma"
    exact hret _ _ _ (Fr.keep (by assumption)) (aca (by assumption) (by k_extra "me") (by rw [bqa,<-eWa W O hi];exact hn) (Nat.lt_trans (aMa W hi _) (by decide)))
   ·k_extra "ma"
    exact hret _ _ _ (Fr.keep (by assumption)) (aca (by assumption) (by k_extra "me") (by rw [aBa,<-eWa W O hi];assumption) (Nat.lt_trans (aMa W hi _) (by decide)))
 ·rename_i hax7
  obtain rfl:ax=Str.ofString "attribute" :=by simpa using hax7
  rename News _ _ _ _=>N
  rename Fr _ _ _ _=>F
  refine aGa (cl:= [(Str.ofString "rows",L'+1),(Str.ofString "at",L'+1+1)]) F rfl (by decide) rfl (by decide) rfl ?_
  k_extra "ma"
  rename News _ _ _ _=>N
  rename Fr _ _ _ _=>F
  rename IsRange _ _ _ _ _ _ _ _=>R
  refine bza (n:=vs.length) (σ:=StL) (fun _=> []) (fun c=>c.ys) (fun k c=>NV c.ys ((List.range k).filter fun x=>kindOf T x==afa&&decide (par T x=some i))) ⟨[]⟩ ((L'+1+1+1+1,e4)::(L'+1+1+1,e3)::(L'+1,o1)::(L'+1+1,o2)::(lb,listOf yb.toArray yb.length)::(la,listOf va.toArray ca)::(lw,listOf yw.toArray yw.length)::(li,listOf yi.toArray yi.length):: []) rfl R (small_one (by omega) (by omega) (by omega) (by omega)) (by rw [rangeSize_nat];omega) (by rw [sizeLine_eq];omega)
   F N (by walk_at "mb") (by k_extra "md") rfl .nil ?_ ?_
  ·clear F N R
   rintro k tkk cS_ h tk own C oC m₂ E' hk h1 hyl hC hoC hx F N hsep
   k_extra "mf"
   obtain⟨ys⟩:=cS_
   dsimp only at h1 hyl N hsep ⊢
   rw [Int.zero_add] at hx
   have hxT:k<T.length:=by omega
   have N2:=News.sub N (l':=(C,oC)::(L'+1+1+1+1,e4)::(L'+1+1+1,e3)::(L'+1,o1)::(L'+1+1,o2)::(lb,listOf yb.toArray yb.length)::(la,listOf va.toArray ca)::(lw,listOf yw.toArray yw.length)::(li,listOf yi.toArray yi.length)::own) (by walk_at "mb")
   clear N
   have hxz:k<2^24:=by omega
   obtain⟨r,hr2⟩:=bma hxT
   obtain⟨v,hv,⟨a,t1,t2,t3,pv,rfl,htt,hpv⟩⟩:=hrow k r hr2
   have htt2:=ala htt
   have hpi:b2a (some i) (.int i tki):= .some i tki
   k_extra "ma"
   ·exact aba.intro (⟨ys++ [.int k tkk]⟩:StL) (by assumption) (by assumption) (by walk_at "mb") rfl (e9a h1 (by rw [aXa hr2,bBa hr2,decide_eq_true (by assumption:r.parent=some i),Bool.and_true];assumption)) (by k_extra "md")
   ·exact aba.intro (⟨ys⟩:StL) (by assumption) (by assumption) (by walk_at "mb") rfl (fCa h1 (by rw [bBa hr2,decide_eq_false (by assumption:¬r.parent=some i),Bool.and_false])) (by k_extra "md")
   ·exact aba.intro (⟨ys⟩:StL) (by assumption) (by assumption) (by walk_at "mb") rfl (fCa h1 (by rw [aXa hr2,(by assumption:(r.kind==afa)=false),Bool.false_and])) (by k_extra "md")
  ·clear F N R
   rintro lr2 cS_ h7 tk7 hq hyl F N hD-
   k_extra "mf"
   obtain⟨yr⟩:=cS_
   dsimp only at hq hyl N hD ⊢
   rw [hvl,hRa W O hi] at hq
   change News _ L' h7 ((lr2,listOf yr.toArray yr.length)::_) at N
   k_extra "ma"
   exact hret _ _ _ (Fr.keep (by assumption)) (aca (by assumption) (by k_extra "me") (by rw [bda];exact hq) (Nat.lt_trans (aMa W hi _) (by decide)))
 ·rename_i hax7
  obtain rfl:ax=Str.ofString "following-sibling" :=by simpa using hax7
  rename News _ _ _ _=>N
  rename Fr _ _ _ _=>F
  refine aGa (cl:= [(Str.ofString "at",L'+1+1)]) F rfl (by decide) rfl (by decide) rfl ?_
  k_extra "ma"
  refine aVa (σ:=StL) (fun _=> []) (fun c=>c.ys) (fun k c=>NV c.ys (((bDa T i).take k).filter fun x=>decide (i<x))) ⟨[]⟩ ((L'+1+1+1+1,e4)::(L'+1+1+1,e3)::(L'+1,o1)::(L'+1+1,o2)::(lb,listOf yb.toArray yb.length)::(la,listOf va.toArray ca)::(lw,listOf yw.toArray yw.length)::(li,listOf yi.toArray yi.length):: []) rfl (by k_extra "mg") (N (lb,listOf yb.toArray yb.length) (by k_extra "me")).2.1 (by rw [sizeLine_eq];omega)
   F N (by walk_at "mb") (by k_extra "md") (by k_extra "md") rfl .nil ?_ ?_
  ·clear F N
   rintro k v cS_ h tk own C oC m₂ E' hvk hi2 h1 hyl hC hoC hx F N hsep
   k_extra "mf"
   obtain⟨ys⟩:=cS_
   dsimp only at h1 hyl N hsep ⊢
   obtain⟨x,tx,hx2,rfl⟩:=hb.get hvk
   have hxT:=fWa (List.mem_of_getElem? hx2)
   have N2:=News.sub N (l':=(C,oC)::(L'+1+1+1+1,e4)::(L'+1+1+1,e3)::(L'+1,o1)::(L'+1+1,o2)::(lb,listOf yb.toArray yb.length)::(la,listOf va.toArray ca)::(lw,listOf yw.toArray yw.length)::(li,listOf yi.toArray yi.length)::own) (by walk_at "mb")
   clear N
   k_extra "ma"
   ·exact aba.intro (⟨ys++ [.int x tx]⟩:StL) (by assumption) (by assumption) (by walk_at "mb") rfl (cOa h1 hx2 (decide_eq_true (by omega))) (by k_extra "md")
   ·exact aba.intro (⟨ys⟩:StL) (by assumption) (by assumption) (by walk_at "mb") rfl (c9a h1 hx2 (decide_eq_false (by omega))) (by k_extra "md")
  ·clear F N
   rintro lr2 cS_ h7 tk7 hq hyl F N hD-
   k_extra "mf"
   obtain⟨yr⟩:=cS_
   dsimp only at hq hyl N hD ⊢
   rw [hbl,List.take_length] at hq
   change News _ L' h7 ((lr2,listOf yr.toArray yr.length)::_) at N
   have hql:=hq.len
   k_extra "ma"
   rw [kaa W O hi] at hq
   refine hret _ _ _ (Fr.keep (by assumption)) (aca (by assumption) (by k_extra "me") ?_ (Nat.lt_trans (aMa W hi _) (by decide)))
   rw [aSa];exact hq
 ·rename_i hax7
  obtain rfl:ax=Str.ofString "preceding-sibling" :=by simpa using hax7
  rename News _ _ _ _=>N
  rename Fr _ _ _ _=>F
  refine aGa (cl:= [(Str.ofString "at",L'+1+1)]) F rfl (by decide) rfl (by decide) rfl ?_
  k_extra "ma"
  refine aVa (σ:=StL) (fun _=> []) (fun c=>c.ys) (fun k c=>NV c.ys (((bDa T i).take k).filter fun x=>decide (x<i))) ⟨[]⟩ ((L'+1+1+1+1,e4)::(L'+1+1+1,e3)::(L'+1,o1)::(L'+1+1,o2)::(lb,listOf yb.toArray yb.length)::(la,listOf va.toArray ca)::(lw,listOf yw.toArray yw.length)::(li,listOf yi.toArray yi.length):: []) rfl (by k_extra "mg") (N (lb,listOf yb.toArray yb.length) (by k_extra "me")).2.1 (by rw [sizeLine_eq];omega)
   F N (by walk_at "mb") (by k_extra "md") (by k_extra "md") rfl .nil ?_ ?_
  ·clear F N
   rintro k v cS_ h tk own C oC m₂ E' hvk hi2 h1 hyl hC hoC hx F N hsep
   k_extra "mf"
   obtain⟨ys⟩:=cS_
   dsimp only at h1 hyl N hsep ⊢
   obtain⟨x,tx,hx2,rfl⟩:=hb.get hvk
   have hxT:=fWa (List.mem_of_getElem? hx2)
   have N2:=News.sub N (l':=(C,oC)::(L'+1+1+1+1,e4)::(L'+1+1+1,e3)::(L'+1,o1)::(L'+1+1,o2)::(lb,listOf yb.toArray yb.length)::(la,listOf va.toArray ca)::(lw,listOf yw.toArray yw.length)::(li,listOf yi.toArray yi.length)::own) (by walk_at "mb")
   clear N
   k_extra "ma"
   ·exact aba.intro (⟨ys++ [.int x tx]⟩:StL) (by assumption) (by assumption) (by walk_at "mb") rfl (cOa h1 hx2 (decide_eq_true (by omega))) (by k_extra "md")
   ·exact aba.intro (⟨ys⟩:StL) (by assumption) (by assumption) (by walk_at "mb") rfl (c9a h1 hx2 (decide_eq_false (by omega))) (by k_extra "md")
  ·clear F N
   rintro lr2 cS_ h7 tk7 hq hyl F N hD-
   k_extra "mf"
   obtain⟨yr⟩:=cS_
   dsimp only at hq hyl N hD ⊢
   rw [hbl,List.take_length] at hq
   change News _ L' h7 ((lr2,listOf yr.toArray yr.length)::_) at N
   have hql:=hq.len
   k_extra "ma"
   refine hret _ _ _ (Fr.keep (by assumption)) (aca (by assumption) (by k_extra "me") ?_ (Nat.lt_trans (aMa W hi _) (by decide)))
   rw [aRa,<-j9a W O hi];exact hq.rev
 ·rename_i hax7
  obtain rfl:ax=Str.ofString "following" :=by simpa using hax7
  rename News _ _ _ _=>N
  rename Fr _ _ _ _=>F
  refine aGa (cl:= [(Str.ofString "within",L'+1+1+1+1),(Str.ofString "at",L'+1+1)]) F rfl (by decide) rfl (by decide) rfl ?_
  k_extra "ma"
  refine aVa (σ:=StL) (fun _=> []) (fun c=>c.ys) (fun k c=>NV c.ys (((a1a T).take k).filter fun x=>decide (i<x)&& !decide (x∈a8a T i))) ⟨[]⟩ ((L'+1+1+1+1,e4)::(L'+1+1+1,e3)::(L'+1,o1)::(L'+1+1,o2)::(lb,listOf yb.toArray yb.length)::(la,listOf va.toArray ca)::(lw,listOf yw.toArray yw.length)::(li,listOf yi.toArray yi.length):: []) rfl (by k_extra "mg") (N (lw,listOf yw.toArray yw.length) (by k_extra "me")).2.1 (by rw [sizeLine_eq];omega)
   F N (by walk_at "mb") (by k_extra "md") (by k_extra "md") rfl .nil ?_ ?_
  ·clear F N
   rintro k v cS_ h tk own C oC m₂ E' hvk hi2 h1 hyl hC hoC hx F N hsep
   k_extra "mf"
   obtain⟨ys⟩:=cS_
   dsimp only at h1 hyl N hsep ⊢
   obtain⟨x,tx,hx2,rfl⟩:=hw.get hvk
   have hxT:=csa (List.mem_of_getElem? hx2)
   have N2:=News.sub N (l':=(C,oC)::(L'+1+1+1+1,e4)::(L'+1+1+1,e3)::(L'+1,o1)::(L'+1+1,o2)::(lb,listOf yb.toArray yb.length)::(la,listOf va.toArray ca)::(lw,listOf yw.toArray yw.length)::(li,listOf yi.toArray yi.length)::own) (by walk_at "mb")
   clear N
   k_extra "ma"
   ·exact aba.intro (⟨ys⟩:StL) (by assumption) (by assumption) (by walk_at "mb") rfl (c9a h1 hx2 (by rw [decide_eq_true (by assumption:x∈a8a T i),Bool.not_true,Bool.and_false])) (by k_extra "md")
   ·exact aba.intro (⟨ys++ [.int x tx]⟩:StL) (by assumption) (by assumption) (by walk_at "mb") rfl (cOa h1 hx2 (by rw [decide_eq_true (show i<x by omega),decide_eq_false (by assumption:¬x∈a8a T i)];rfl)) (by k_extra "md")
   ·exact aba.intro (⟨ys⟩:StL) (by assumption) (by assumption) (by walk_at "mb") rfl (c9a h1 hx2 (by rw [decide_eq_false (show¬i<x by omega),Bool.false_and])) (by k_extra "md")
  ·clear F N
   rintro lr2 cS_ h7 tk7 hq hyl F N hD-
   k_extra "mf"
   obtain⟨yr⟩:=cS_
   dsimp only at hq hyl N hD ⊢
   rw [hwl,List.take_length] at hq
   change News _ L' h7 ((lr2,listOf yr.toArray yr.length)::_) at N
   have hql:=hq.len
   k_extra "ma"
   rw [hQa W O hi] at hq
   refine hret _ _ _ (Fr.keep (by assumption)) (aca (by assumption) (by k_extra "me") ?_ (Nat.lt_trans (aMa W hi _) (by decide)))
   rw [bEa];exact hq
 ·obtain rfl:ax=Str.ofString "preceding" :=by
   exact lsa hax (by assumption) (by assumption) (by assumption) (by assumption) (by assumption) (by assumption)
  rename News _ _ _ _=>N
  rename Fr _ _ _ _=>F
  refine aGa (cl:= [(Str.ofString "at",L'+1+1),(Str.ofString "above",L'+1+1+1)]) F rfl (by decide) rfl (by decide) rfl ?_
  k_extra "ma"
  refine aVa (σ:=StL) (fun _=> []) (fun c=>c.ys) (fun k c=>NV c.ys (((a1a T).take k).filter fun x=>decide (x<i)&& !decide (x∈anc T i))) ⟨[]⟩ ((L'+1+1+1+1,e4)::(L'+1+1+1,e3)::(L'+1,o1)::(L'+1+1,o2)::(lb,listOf yb.toArray yb.length)::(la,listOf va.toArray ca)::(lw,listOf yw.toArray yw.length)::(li,listOf yi.toArray yi.length):: []) rfl (by k_extra "mg") (N (lw,listOf yw.toArray yw.length) (by k_extra "me")).2.1 (by rw [sizeLine_eq];omega)
   F N (by walk_at "mb") (by k_extra "md") (by k_extra "md") rfl .nil ?_ ?_
  ·clear F N
   rintro k v cS_ h tk own C oC m₂ E' hvk hi2 h1 hyl hC hoC hx F N hsep
   k_extra "mf"
   obtain⟨ys⟩:=cS_
   dsimp only at h1 hyl N hsep ⊢
   obtain⟨x,tx,hx2,rfl⟩:=hw.get hvk
   have hxT:=csa (List.mem_of_getElem? hx2)
   have N2:=News.sub N (l':=(C,oC)::(L'+1+1+1+1,e4)::(L'+1+1+1,e3)::(L'+1,o1)::(L'+1+1,o2)::(lb,listOf yb.toArray yb.length)::(la,listOf va.toArray ca)::(lw,listOf yw.toArray yw.length)::(li,listOf yi.toArray yi.length)::own) (by walk_at "mb")
   clear N
   k_extra "ma"
   ·exact aba.intro (⟨ys⟩:StL) (by assumption) (by assumption) (by walk_at "mb") rfl (c9a h1 hx2 (by rw [decide_eq_true (by assumption:x∈anc T i),Bool.not_true,Bool.and_false])) (by k_extra "md")
   ·exact aba.intro (⟨ys++ [.int x tx]⟩:StL) (by assumption) (by assumption) (by walk_at "mb") rfl (cOa h1 hx2 (by rw [decide_eq_true (show x<i by omega),decide_eq_false (by assumption:¬x∈anc T i)];rfl)) (by k_extra "md")
   ·exact aba.intro (⟨ys⟩:StL) (by assumption) (by assumption) (by walk_at "mb") rfl (c9a h1 hx2 (by rw [decide_eq_false (show¬x<i by omega),Bool.false_and])) (by k_extra "md")
  ·clear F N
   rintro lr2 cS_ h7 tk7 hq hyl F N hD-
   k_extra "mf"
   obtain⟨yr⟩:=cS_
   dsimp only at hq hyl N hD ⊢
   rw [hwl,List.take_length] at hq
   change News _ L' h7 ((lr2,listOf yr.toArray yr.length)::_) at N
   have hql:=hq.len
   k_extra "ma"
   refine hret _ _ _ (Fr.keep (by assumption)) (aca (by assumption) (by k_extra "me") ?_ (Nat.lt_trans (aMa W hi _) (by decide)))
   rw [cma,<-hPa W O hi];exact hq.rev))
end
section
theorem ar45:True:=by
 k_with "ar45" =>with_reducible first|((show _<_);first|exact nHa ‹_› ‹_› |exact lEa ‹_› |exact fva ‹_› ‹_› |exact oua ‹_› |exact ora ‹_› ‹_›)
 trivial
theorem q8a:True:=by
 k_with "S45 callWith ref" =>
  (
   (with_reducible show wpAny _ _ (callWith _ (Value.ref _) _ (backTo _ (starEach (_::_) _)) []) _ _ _)
   k_dflt (refine callWith_F (eSa (by assumption) (Fr.keep (by assumption))) ?_))
 k_with "S45 FnAt" =>
  k_dflt (exact eSa (by assumption) (Fr.keep (by assumption)))
 k_with "S45 call type:enumerate" =>
  ((with_reducible show wpAny _ _ (call (Value.type "enumerate") _) _ _ _);refine cfa ?_)
 trivial
structure hVa(w:World)(f:Addr)(T:List aaa)(LP:Heap->Prop):Prop where
 st:∀ h h',LP h->h.StaysIn h'->LP h'
 fn:∀ h,LP h->FnAt f h
 call:∀ (p:Prd) (pv:Value) (i pos size:Nat) (t1 t2 t3:Tok),jca p pv->i<T.length->pos<1000->RO1 w f [pv, .int i t1, .int pos t2, .int size t3] 12 LP (fun _ h' v=>dMa h' v (kea T p i pos size))
structure StK where
 l:Addr
 ts:List (Addr×Obj)
 vs:List Value
 ns:List Nat
inductive rBa(g:Heap)(L l:Addr)(vs:List Value)(nn:Nat)(rest:List (Addr×Obj))(m:Str->Option Value)(s s':Shared):Prop
 |ik (h':Heap) (tk':Nat) (fD:Addr) (t9:Tok) (z9:Int) (fz:z9=(nn:Nat)) (f0:s'= {s with heap:=h',toks:=tk'})
  (f1:Fr g L h' (fun z=>if z=Str.ofString "found" then some (.ref fD) else if z=Str.ofString "size" then some (.int z9 t9) else m z))
  (f2:News g L h' ((fD,listOf #[] 0)::rest)) (f3:h'.IsList l vs.toArray) (f4:l≠L) (f5: @Ne Nat fD l) (f6:∀ p∈rest, @Ne Nat p.1 fD):rBa g L l vs nn rest m s s'
theorem iBa:∀ (w:World) (l tp f:Addr) (ns:List Nat) (pvs:List Value) (ps:List Prd) (T:List aaa) (LP:Heap->Prop) (LO:hVa w f T LP) (hb:∀ x∈ns,x<T.length) (hz:ns.length<200) (hps:cca pvs ps),
 RO1 w 208 [.ref l, .ref tp, .ref f] 18 (fun h=>lxa h l ns∧h.get? tp=some (aea pvs.toArray)∧LP h) (fun h h' v=>∃ l',v= .ref l'∧lxa h' l' (c0a T ps ns)∧(l'=l∨h.get? l'=none)):=gP_ (by trivial:Ca_ (by
 intro w l tp f ns pvs ps T LP LO hb hz hps
 refine Mine.hRO ?_
 intro A s Q E
 revert LO hb hz hps
 revert w l tp f ns pvs ps T LP A s Q E
 k_extra "mK"
 intro w l tp f ns pvs ps T LP A s Q E LO hb hz hps H hr hp hret
 obtain⟨⟨vs,c,hl,hv⟩,htp,hLP⟩:=hp
 have htp2:s.heap.IsTuple tp pvs.toArray:=⟨_,htp,rfl,_,rfl⟩
 have hl2:s.heap.IsList l vs.toArray:=⟨_,hl,rfl,_,rfl⟩
 have hvl:=hv.len
 have hfn:=LO.fn _ hLP
 k_extra "mi"
 k_extra "ma"
 rename Fr _ _ _ _=>F
 rename News _ _ _ _=>N
 rename Below _ _ _ _=>B
 rename Frag.In _ _=>X
 rename Top _ _ _ _ _ _=>TT
 rename_i L' h1 tk1 hd' hu'
 have htL:tp≠L':=fun e=>Nat.lt_irrefl _ (Nat.lt_of_lt_of_le (Heap.lt_size htp) (e▸F.above))
 have hlL:=bca F hl2
 refine jSa rfl (σ:=StK) (vs:=pvs) (fun c=>c.ts) (fun c=> [(Str.ofString "nodes", .ref c.l)]) [Str.ofString "size",Str.ofString "found",Str.ofString "at",Str.ofString "node"] (fun k c=>NV c.vs c.ns∧c.ns=c0a T (ps.take k) ns∧(∀ p∈c.ts,s.heap.get? p.1=none)∧((c.l=l∧c.ts= []∧c.vs=vs)∨∃ n,c.ts= [(c.l,listOf c.vs.toArray n)])) ⟨l, [],vs,ns⟩ []
  rfl (by obtain⟨o,e,r⟩:=htp2;exact⟨o,F.keep _ _ e,r⟩) htL F N (by k_extra "md") (by k_extra "md") (fun k c hJ p hp e=>by
   have h0:=hJ.2.2.1 p hp
   have e':p.1=tp:=e
   rw [e',htp] at h0;cases h0) (by k_extra "mo") ⟨hv,rfl,by simp, .inl ⟨rfl,rfl,rfl⟩⟩ ?_ ?_
 ·clear F N
  change ∀ (i:Nat) (v:Value) (c:StK) (u:Str->Option Value) (h:Heap) (tk:Nat) (own:List (Addr×Obj)),_->_->_->Fr s.heap L' h _->News s.heap L' h _->_->_
  rintro k v cS_ u h tk own hk hkl hJ0_ F N hsep
  k_extra "mf"
  obtain⟨l1,ts,vs1,ns1⟩:=cS_
  dsimp only at F N hsep hJ0_ ⊢
  refine bua ?_
  intro hG_ hg_
  obtain⟨hv1,hn1,hnone,hcase⟩:=hJ0_
  obtain⟨p,hpk,hpv⟩:=hps.get hk
  refine hg_ ?_
  clear hg_ hG_
  have hb1:∀ x∈ns1,x<T.length:=fun x hx=>hb x (cva (hn1▸hx))
  have hz1:ns1.length<200:=by rw [hn1];exact Nat.lt_of_le_of_lt bia hz
  have hvl1:=hv1.len
  refine gta (rBa s.heap L' l1 vs1 ns1.length (ts++own) (fun y=>if y=Str.ofString "predicate" then some v else bXa [(Str.ofString "nodes", .ref l1)] (Str.ofString "predicate" :: [Str.ofString "size",Str.ofString "found",Str.ofString "at",Str.ofString "node"]) u (fun y=>List.lookup y [(Str.ofString "value_of", .ref f),(Str.ofString "predicates", .ref tp),(Str.ofString "nodes", .ref l)]) y) s) ?_ ?_
  ·rcases hcase with⟨rfl,rfl,rfl⟩|⟨n,rfl⟩
   ·k_extra "ma"
    rename Fr _ _ _ _=>F
    rename News _ _ _ _=>N
    rename_i fD _ lf _
    exact⟨_,_,fD,_,_,congrArg Int.ofNat hvl1,rfl,F,N,a2a hl2 F,hlL,fun q=>absurd ((N _ (.head _)).2.2) (by have q':fD=l1:=q;obtain⟨o,ho,_⟩:=hl2;rw [q',ho];exact nofun),fun q hq=>Nat.ne_of_lt (lf q hq)⟩
   ·k_extra "ma"
    rename Fr _ _ _ _=>F
    rename News _ _ _ _=>N
    rename_i fD _ lf _
    exact⟨_,_,fD,_,_,congrArg Int.ofNat (by rw [List.length_map]),rfl,F,N,⟨_,(N (l1,_) (.tail _ (.head _))).1,rfl,_,rfl⟩,(N (l1,_) (.tail _ (.head _))).2.1,Nat.ne_of_gt (lf _ (.head _)),fun q hq=>Nat.ne_of_lt (lf q hq)⟩
  ·clear F N
   rintro s' ⟨h2,tk2,fD,t9,_,rfl,rfl,F,N,hli,hliL,hfl,hfr⟩
   k_extra "ma"
   refine iFa rfl (σ:=StF) (x:=Str.ofString "at") (fun c=> [(fD,listOf c.fv.toArray c.fn)]) (fun _=> []) [Str.ofString "node"] (fun k c=>NV c.fv c.fs∧c.fs=((ns1.zipIdx.take k).filter (b6a T p ns1)).map (·.1)) ⟨[],0, []⟩ (ts++own)
    rfl hli hliL F N (by walk_at "mb") (fun q hq p hp=>by rw [lsM hq];exact hfr p hp) (fun p hp=>by rw [lsM hp];exact hfl) (by k_extra "md") ⟨.nil,rfl⟩ ?_ ?_
   ·clear F N
    rintro j T' a t0 cS_ u2 h tk own2 ha hTT hJ0_ F N hsep2
    k_extra "mf"
    obtain⟨fv,fn,fs⟩:=cS_
    dsimp only at F N hsep2 hJ0_ ⊢
    refine bua ?_
    intro hG_ hg_
    obtain⟨nf,he⟩:=hJ0_
    obtain⟨n,tn,hn,rfl⟩:=hv1.get ha
    refine hg_ ?_
    clear hg_ hG_
    have hnT:=hb1 n (List.mem_of_getElem? hn)
    have hjz:j<200:=by have:=(List.getElem?_eq_some_iff.mp hn).1;omega
    k_extra "ma"
    rename Fr _ _ _ _=>F2
    rename News _ _ _ _=>N2
    refine a9a (LO.call p v n (j+1) ns1.length _ _ _ hpv hnT (by omega)) B X TT F2 N2 (by k_extra "mc") (by k_extra "mc") (LO.st _ _ hLP F2.keep) ?_ rfl rfl
    clear F2 N2
    intro h3 tk3 r3 F N st3 hV
    k_extra "ma"
    refine dba (hEa w r3 _ (j+1) _) B X TT F N (by k_extra "mc") (by k_extra "mc") hV ?_ rfl rfl
    clear F N
    intro h4 tk4 F N st4
    dsimp only [List.cons_append,List.nil_append] at N hsep2
    simp only [ara,aOa,and_true] at hsep2
    have nl:=nf.len
    have hfz:fs.length<200:=by
     rw [he,List.length_map]
     exact Nat.lt_of_le_of_lt (List.length_filter_le _ _) (by rw [List.length_take,List.length_zipIdx];omega)
    k_extra "ma"
    ·refine aHa.intro (⟨fv++ [.int n tn],fn+1,fs++ [n]⟩:StF) (by assumption) (by assumption) (by walk_at "mb") ⟨nf.snoc _ _, ?_⟩ (fun q hq p hp=>by rw [lsM hq];exact hsep2 p hp) (by k_extra "md") (by k_extra "mj")
     show fs++ [n]=_
     rw [dHa hn,if_pos (show b6a T p ns1 (n,j)=true from by assumption),<-he]
    ·refine aHa.intro (⟨fv,fn,fs⟩:StF) (by assumption) (by assumption) (by walk_at "mb") ⟨nf, ?_⟩ (fun q hq p hp=>by rw [lsM hq];exact hsep2 p hp) (by k_extra "md") (by k_extra "mj")
     show fs=_
     rw [dHa hn,if_neg (show¬b6a T p ns1 (n,j)=true from fun q=>Bool.noConfusion (q.symm.trans (show b6a T p ns1 (n,j)=false from by assumption))),<-he,List.append_nil]
   ·clear F N
    rintro cS_ u2 h tk hJ0_ F N hsep2
    k_extra "mf"
    obtain⟨fv,fn,fs⟩:=cS_
    dsimp only at F N hsep2 hJ0_ ⊢
    refine bua ?_
    intro hG_ hg_
    obtain⟨nf,he⟩:=hJ0_
    refine hg_ ?_
    clear hg_ hG_
    have he2:fs=fja T p ns1:=by rw [he,hvl1,<-List.length_zipIdx (l:=ns1) (i:=0),List.take_length];rfl
    have hfDn:=(N (fD,listOf fv.toArray fn) (.head _)).2.2
    k_extra "ma"
    refine aHa.intro (⟨fD, [(fD,listOf fv.toArray fn)],fv,fs⟩:StK) (by assumption) (by assumption) (by walk_at "mb") ⟨nf, ?_, ?_, .inr ⟨fn,rfl⟩⟩ ?_ (by k_extra "mo") (by k_extra "mj")
    ·show fs=_
     rw [he2,hn1,<-d6a hpk]
    ·intro p hp
     rw [lsM hp]
     exact hfDn
    ·intro q hq p hp
     rw [lsM hq]
     exact hsep2 _ (.head _) p (laG _ (by simpa using hp))
 ·clear F N
  rintro cS_ u h tk hJ0_ F N hsep
  k_extra "mf"
  obtain⟨l1,ts,vs1,ns1⟩:=cS_
  dsimp only at F N hsep hJ0_ ⊢
  refine bua ?_
  intro hG_ hg_
  obtain⟨hv1,hn1,hnone,hcase⟩:=hJ0_
  refine hg_ ?_
  clear hg_ hG_
  rw [hps.len,List.take_length] at hn1
  k_extra "ma"
  rcases hcase with⟨rfl,rfl,rfl⟩|⟨n,rfl⟩
  ·exact hret _ _ _ (Fr.keep F) ⟨_,rfl,⟨_,c,F.keep _ _ hl,hn1▸hv1⟩, .inl rfl⟩
  ·exact hret _ _ _ (Fr.keep F) ⟨_,rfl,⟨_,n,(N _ (.head _)).1,hn1▸hv1⟩, .inr (hnone _ (.head _))⟩))
end
section
theorem ar46:True:=by
 k_with "ar46" =>with_reducible first|exact lKa ‹_› |exact lLa ‹_›
 trivial
theorem q7a:True:=by
 k_with "S46 setItem ref int" =>
  ((with_reducible show wpAny _ _ (setItem (Value.ref _) (Value.int _ _) (Value.bool _)) _ _ _);k_dflt (refine' kda_set (knd:=PySem.intKind _ _) ?q24F ?q24N ?q24U ?q24d (intKind_is _ _ _ _) ?q24z ?_;(case q24F=>k_asm);(case q24N=>k_asm);(case q24U=>k_updF);(case q24d=>k_asm);(case q24z=>assumption));intro _ _ _ N' hd';(try dsimp only at N');revert N' hd';intros;(try k_sweep))
 k_with "S46 call type:list" =>
  (
   (with_reducible show wpAny _ _ (call (Value.type "list") [Value.ref _]) _ _ _)
   k_dflt (refine k6a rfl (by assumption) (by assumption) (by k_mem) (by assumption) (by assumption) (by assumption) (by omega) ?_)
   intro _ _ _ _ _ _ _ l1 nv'
   (first|(k_lt l1;(try revert l1);revert nv')|revert l1 nv');intros;(try k_sweep))
 trivial
structure StU where
 o:Obj
 kvs:List (Int×Value)
theorem gba:∀ (w:World) (l:Addr) (ns:List Nat) (hz:ns.length<65536) (hzu:(fya ns).length<4096),
 RO1 w 220 [.ref l] 5 (fun h=>dqa h l ns) (fun h h' v=>apa h h' v (fya ns)):=gP_ (by trivial:Ca_ (by
 intro w l ns hz hzu
 refine Mine.hRO ?_
 intro A s Q E
 revert hz hzu
 revert w l ns A s Q E
 k_extra "mX"
 intro w l ns A s Q E hz hzu H hr hp hret
 obtain⟨vs,hl,hv⟩:=hp
 have hvl:=hv.len
 k_extra "mi"
 k_extra "ma"
 rename_i d1 _ o1 lo hs fs hi fi _ _ F N
 refine bCa rfl (σ:=StU) (fun c=> [(d1,c.o)]) (fun _=> []) [] (fun k c=>Obj.IsDictOf (intKind _ w) c.o c.kvs∧c.kvs.map (·.1)=(fya (ns.take k)).map Int.ofNat) ⟨o1, []⟩ []
  rfl (a2a hl F) (bca F hl) F N (by k_extra "mn") (by simp) (fun c p hp=>by have:=foa N hl;simp only [ara] at this;rw [lsM hp];exact this.1) (by simp) ⟨hi,rfl⟩ ?_ ?_
 ·rintro k v cS_ u h tk own hk hkl hJ0_ F N hsep
  k_extra "mf"
  obtain⟨o,kvs⟩:=cS_
  dsimp only at F N hsep hJ0_ ⊢
  refine bua ?_
  intro hG_ hg_
  obtain⟨hdi,hks⟩:=hJ0_
  refine hg_ ?_
  clear hg_ hG_
  dsimp only [List.cons_append,List.nil_append] at N hsep
  simp only [ara,aOa,and_true] at hsep
  obtain⟨n,tn,hn,rfl⟩:=hv.get hk
  have hsz:kvs.length≤sizeLine:=by
   have h1:=congrArg List.length hks
   simp only [List.length_map] at h1
   have h2:=gEa (ns.take k)
   rw [List.length_take] at h2
   rw [sizeLine_eq];omega
  k_extra "ma"
  rename_i o2 _ _ hd2
  exact aHa.intro (⟨o2,stored kvs (n:Int) (.bool true)⟩:StU) (by assumption) (by assumption) (by k_extra "mn") ⟨hd2,by dsimp only;rw [gfa hks,h0a hn]⟩ (by k_extra "mr") (by k_extra "mo") (by k_extra "mj")
 ·rintro cS_ u h tk hJ0_ F N hsep
  k_extra "mf"
  obtain⟨o,kvs⟩:=cS_
  dsimp only at F N hsep hJ0_ ⊢
  refine bua ?_
  intro hG_ hg_
  obtain⟨hdi,hks⟩:=hJ0_
  refine hg_ ?_
  clear hg_ hG_
  rw [hvl,List.take_length] at hks
  have hul:=gEa ns
  k_extra "ma"
  exact hret _ _ _ (Fr.keep (by assumption)) (aca (by assumption) (by k_mem) (by assumption) (by omega))))
inductive c8a(P:Params)(h:Heap)(a:Addr)(st:Stp):Prop
 |ik (d tt tp:Addr) (k1 k2 k3 t1 ep:Nat) (pvs:List Value)
  (f0:h.get? a=some (instObj 474 d))
  (f1:h.get? d=some (dictOf [⟨PyData.keyHash P (Str.ofString "axis"), .str (Str.ofString "axis") k1, .str st.ax t1⟩,⟨PyData.keyHash P (Str.ofString "test"), .str (Str.ofString "test") k2, .ref tt⟩,⟨PyData.keyHash P (Str.ofString "predicates"), .str (Str.ofString "predicates") k3, .ref tp⟩] ep))
  (f2:cqa h tt st.tst)
  (f3:h.get? tp=some (aea pvs.toArray))
  (f4:cca pvs st.prd):c8a P h a st
theorem c8a.stays{P:Params}{h h':Heap}{a:Addr}{x:Stp}(X:c8a P h a x)(st:h.StaysIn h'):c8a P h' a x:=by
 obtain⟨d,tt,tp,k1,k2,k3,t1,ep,pvs,e1,e2,e3,e4,e5⟩:=X
 exact⟨d,tt,tp,k1,k2,k3,t1,ep,pvs,st _ _ e1,st _ _ e2,e3.stays st,st _ _ e4,e5⟩
theorem q4a:True:=by
 k_with "S46 call ref" =>
  (
   (with_reducible show wpAny _ _ (call (Value.ref 168) [Value.ref _,Value.int _ _,Value.str _ _,Value.ref _,Value.ref _]) _ _ _)
   k_dflt (
    refine dba (gna _ _ _ _ _ _ _ _ _ _ (by assumption) (by assumption) (by k_extra "ml") (by assumption)) (by assumption) (by assumption) (by assumption) (by assumption) (by assumption) (by k_extra "mc") (by k_extra "mc") ⟨by k_extra "mq",cqa.stays (by assumption) (Fr.keep (by assumption))⟩ ?_ rfl rfl
    intro _ _ _ _ _
    (try k_sweep)))
 trivial
theorem era:∀ (w:World) (t st nm f:Addr) (i:Nat) (tki:Tok) (x:Stp) (T:List aaa) (W:WF T) (WN:fta T) (LP:Heap->Prop) (LO:hVa w f T LP) (hi:i<T.length) (hn:x.ax∈aga++aya),
 RO1 w 213 [.ref t, .int i tki, .ref st, .ref nm, .ref f] 24 (fun h=>ava w h t T∧c8a w.params h st x∧LP h) (fun h h' v=>apa h h' v (d4a T x i)):=gP_ (by trivial:Ca_ (by
 intro w t st nm f i tki x T W WN LP LO hi hn
 refine Mine.hRO ?_
 intro A s Q E
 revert W WN LO hi hn
 revert w t st nm f i tki x T LP A s Q E
 k_extra "mM"
 intro w t st nm f i tki x T LP A s Q E W WN LO hi hn H hr hp hret
 obtain⟨hp,⟨d,tt,tp,k1,k2,k3,t1,ep,pvs,e1,e2,htt,e4,hpv⟩,hLP⟩:=hp
 obtain⟨dt,rl,tk1,ep1,I1⟩:=hp.inst
 have I2:=eKa e1 e2
 have hT:=W.small
 have hzz:=aMa W hi x.ax
 have hax9:x.ax≠sNs:=fun e=>absurd (e▸hn) (by decide)
 k_extra "mG"
 k_extra "ma"
 rename_i L' h1 tk2 B X TT F hd' hu' on os ot dn ds dT N
 replace dn:on.data= .cell (some (.ref nm)):=dn
 replace ds:os.data= .cell (some (.ref st)):=ds
 replace dT:ot.data= .cell (some (.ref t)):=dT
 replace F:Fr s.heap L' h1 (fun y=>if y=Str.ofString "value_of" then some (.ref f) else if y=Str.ofString "node" then some (.int i tki) else none):=F
 refine cKa (cl:= [(Str.ofString "tree",L'+1),(Str.ofString "step",L'+1+1),(Str.ofString "names",L'+1+1+1)]) F rfl rfl rfl (by decide) rfl (by decide) rfl rfl rfl ?_
 k_extra "ma"
 rename_i l1 vs c1 F N nv ll _ lN
 have hax:∀ y∈aDa T i x.ax,y<T.length:=fun y hy=>gza W hi x.ax hy
 refine aVa (σ:=StL) (fun _=> []) (fun c=>c.ys) (fun k c=>NV c.ys (((aDa T i x.ax).take k).filter fun y=>dYa T y x.ax x.tst)) ⟨[]⟩ [(l1,listOf vs.toArray c1),(L'+1+1+1,on),(L'+1+1,os),(L'+1,ot)] rfl (by k_extra "mg") (N (l1,listOf vs.toArray c1) (by k_mem)).2.1 (by rw [sizeLine_eq];omega)
  F N (by walk_at "mb") (by k_extra "md") (by k_extra "md") rfl .nil ?_ ?_
 ·rintro k v cS_ h tk own C oC m₂ E' hvi hi2 h1 hyl hC hoC hx F N hsep
  k_extra "mf"
  obtain⟨ys⟩:=cS_
  dsimp only at h1 hyl N hsep ⊢
  obtain⟨n,tn,hn,rfl⟩:=nv.get hvi
  have hnb:=hax n (List.mem_of_getElem? hn)
  have N2:News s.heap L' h ((C,oC)::(l1,listOf vs.toArray c1)::(L'+1+1+1,on)::(L'+1+1,os)::(L'+1,ot)::own):=News.sub N (by walk_at "mb")
  k_extra "ma"
  ·exact aba.intro (⟨ys++ [.int n tn]⟩:StL) (by assumption) (by assumption) (by walk_at "mb") rfl (cOa h1 hn (by assumption)) (by k_extra "md")
  ·exact aba.intro (⟨ys⟩:StL) (by assumption) (by assumption) (by walk_at "mb") rfl (c9a h1 hn (by assumption)) (by k_extra "md")
 ·rintro D cS_ h tk h1 hyl F N hD hsep
  k_extra "mf"
  obtain⟨ys⟩:=cS_
  dsimp only at h1 hyl N hsep hD ⊢
  rw [nv.len,List.take_length] at h1
  change News _ L' h ((D,listOf ys.toArray ys.length)::_) at N
  k_extra "ma"
  have hal:∀ y∈(aDa T i x.ax).filter (fun y=>dYa T y x.ax x.tst),y<T.length:=fun y hy=>hax y (List.mem_filter.mp hy).1
  have hzl:((aDa T i x.ax).filter fun y=>dYa T y x.ax x.tst).length<200:=Nat.lt_of_le_of_lt (List.length_filter_le _ _) (Nat.lt_trans hzz (by decide))
  refine a9a (iBa w D tp f _ pvs x.prd T LP LO hal hzl hpv) B X TT F N (by k_extra "mc") (by k_extra "mc") ⟨⟨ys,_,(N _ (.head _)).1,h1⟩,F.keep _ _ e4,LO.st _ _ hLP F.keep⟩ ?_ rfl rfl
  rintro h2 tk2 r2 F2 N2 st2 ⟨l',rfl,⟨vs',c',e1',nv'⟩,hl'⟩
  refine hret _ _ _ F2.keep ⟨l',vs',c',rfl,e1',nv', ?_,Nat.lt_of_le_of_lt bia (Nat.lt_trans hzl (by decide))⟩
  rcases hl' with rfl|hl'
  ·exact(N _ (.head _)).2.2
  ·cases q:s.heap.get? l' with
   |none=>rfl
   |some o=>rw [F.keep _ _ q] at hl';cases hl'))
end
section
theorem ar47:True:=by
 k_with "ar47" =>with_reducible first|((show _<_);first|exact nPa ‹_› ‹_› ‹_› |exact nja ‹_› ‹_› ‹_› |exact oqa ‹_› ‹_› |exact oda ‹_› ‹_› |exact jda ‹_›)
 trivial
theorem q3a:True:=by
 k_with "S47 call ref" =>
  (
   (with_reducible show wpAny _ _ (call (Value.ref 220) [Value.ref _]) _ _ _)
   k_dflt (
    refine e8a (gba _ _ _ (by assumption) (by assumption)) (by assumption) (by assumption) (by assumption) (by assumption) (by assumption) (by k_extra "mc") (by k_extra "mc") (dqa.mk (by k_extra "mg") (by walk_at "mp")) ?_ rfl rfl
    intro _ _ _ _ _ _ _ l1 nv' ll' st'
    (first|(simp only [ara,aOa,and_true] at l1;(try revert l1);revert nv' ll' st')|revert l1 nv' ll' st');intros
    (try k_sweep)))
 k_with "S47 call ref" =>
  (
   (with_reducible show wpAny _ _ (call (Value.ref 213) [Value.ref _,Value.int _ _,Value.ref _,Value.ref _,_]) _ _ _)
   k_dflt (
    refine e8a (era _ _ _ _ _ _ _ _ _ (by assumption) (by assumption) _ (by assumption) (by k_extra "ml") (by assumption)) (by assumption) (by assumption) (by assumption) (by assumption) (by assumption) (by k_extra "mc") (by k_extra "mc") ⟨by k_extra "mq",c8a.stays (by assumption) (Fr.keep (by assumption)),hVa.st (by assumption) _ _ (by assumption) (Fr.keep (by assumption))⟩ ?_ rfl rfl
    intro _ _ _ _ _ _ _ l1 nv' ll' st'
    (first|(simp only [ara,aOa,and_true] at l1;(try revert l1);revert nv' ll' st')|revert l1 nv' ll' st');intros
    (try k_sweep)))
 trivial
theorem hSa:∀ (w:World) (t l st nm f:Addr) (x:Stp) (T:List aaa) (W:WF T) (WN:fta T) (LP:Heap->Prop) (LO:hVa w f T LP) (ns:List Nat) (hrT:0<T.length) (hwk:aEa T 0=List.range T.length) (hb:∀ y∈ns,y<T.length) (hnz:ns.length<60) (hnm:x.ax∈aga++aya),
 RW1 w 227 [.ref t, .ref l, .ref st, .ref nm, .ref f] 28 (fun g h=>ava w g t T∧dqa g l ns∧c8a w.params g st x∧LP g∧CodeHd g 193 191∧∃ tl,f7a tl∧Hid g h tl)
  (fun g _ h' v=>(∃ tl,f7a tl∧Hid g h' tl)∧apa g h' v (jNa T x ns)):=gP_ (by trivial:Ca_ (by
 intro w t l st nm f x T W WN LP LO ns hrT hwk hb hnz hnm
 refine Mine.hRW ?_
 intro A s g Q E
 revert W WN LO hrT hwk hb hnz hnm
 revert w t l st nm f x T LP ns A s g Q E
 k_extra "mL"
 intro w t l st nm f x T LP ns A s g Q E W WN LO hrT hwk hb hnz hnm H hst hsz hr hp hret
 obtain⟨hp,⟨vs,hl,hv⟩,hstep,hLP,hcd,hp2⟩:=hp
 revert hp2
 k_extra "ms"
 intro tl
 rintro⟨htl,hhid⟩
 obtain⟨dt,rl,tk1,ep1,I1⟩:=hp.inst
 have hT:=W.small
 have hvl:=hv.len
 have hfl:(ns.flatMap fun n=>d4a T x n).length≤120*ns.length:=dja fun n hn=>Nat.le_trans bia (Nat.le_trans (List.length_filter_le _ _) (Nat.le_of_lt (aMa W (hb n hn) x.ax)))
 k_extra "my"
 k_extra "ma"
 rename Fr _ _ _ _=>F
 rename News _ _ _ _=>N
 rename_i B X TT l0 hd' hu' fD _ lf _
 have hlt:∀ p∈tl, @Ne Nat p.1 fD:=fun p hp=>Nat.ne_of_lt (lf p hp)
 refine bCa rfl (σ:=StF) (fun c=> [(fD,listOf c.fv.toArray c.fn)]) (fun _=> []) [] (fun k c=>NV c.fv c.fs∧c.fs=(ns.take k).flatMap fun n=>d4a T x n) ⟨[],0, []⟩ tl
  rfl (a2a hl F) (bca F hl) F N (by walk_at "mb") (fun q hq p hp=>by rw [lsM hq];exact hlt p hp) (fun c p hp=>by have:=foa N hl;simp only [ara] at this;rw [lsM hp];exact this.1) (by simp) ⟨.nil,rfl⟩ ?_ ?_
 ·rintro k v cS_ u h tk own hk hkl hJ0_ F N hsep
  k_extra "mf"
  obtain⟨fv,fn,fs⟩:=cS_
  dsimp only at F N hsep hJ0_ ⊢
  refine bua ?_
  intro hG_ hg_
  obtain⟨nf,he⟩:=hJ0_
  refine hg_ ?_
  clear hg_ hG_
  dsimp only [List.cons_append,List.nil_append] at N hsep
  simp only [ara,aOa,and_true] at hsep
  obtain⟨n,tn,hn,rfl⟩:=hv.get hk
  have hnb:=hb n (List.mem_of_getElem? hn)
  have hz1:fs.length<65536:=by
   have h1:=aYa (g:=fun n=>d4a T x n) ns k
   rw [he];omega
  have hz2:=nf.len
  k_extra "ma"
  rename_i l2 vs2 c2 nv2 _ _ _ _ n2 F2 N2
  have he2:fs++d4a T x n=(ns.take (k+1)).flatMap fun n=>d4a T x n:=by rw [he];exact(awa hn).symm
  exact aHa.intro (⟨fv++vs2,n2,_⟩:StF) F2 N2 (by walk_at "mb") ⟨nf.app nv2,he2⟩ (by k_extra "mr") (by k_extra "mo") (by k_extra "mj")
 ·rintro cS_ u h tk hJ0_ F N hsep
  k_extra "mf"
  obtain⟨fv,fn,fs⟩:=cS_
  dsimp only at F N hsep hJ0_ ⊢
  refine bua ?_
  intro hG_ hg_
  obtain⟨nf,he⟩:=hJ0_
  refine hg_ ?_
  clear hg_ hG_
  dsimp only [List.cons_append,List.nil_append] at N hsep
  simp only [ara,aOa,and_true] at hsep
  rw [hvl,List.take_length] at he
  have hz1:fs.length<65536:=by rw [he];omega
  have hsub:∀ y∈fya fs,y∈aEa T 0:=fun y hy=>by
   rw [gDa,he] at hy
   obtain⟨n,hn,hy⟩:=List.mem_flatMap.mp hy
   rw [hwk]
   exact List.mem_range.mpr (gza W (hb n hn) x.ax (List.mem_filter.mp (cva hy)).1)
  have hzu:(fya fs).length<4096:=by
   have:=baa (eAa fs) (n:=T.length) fun x hx=>(bxa W hrT x (hsub x hx)).2
   omega
  have hz2:=nf.len
  k_extra "ma"
  rename_i l2 vs2 c2 F2 N2 nv2 _ _ l3
  refine bra (fMa w t l2 T W 0 (fya fs) hrT (eAa _) hsub) B X TT F2 N2 (by k_extra "mc") (by k_extra "mc") tl [(l2,listOf vs2.toArray c2)] (by walk_at "mb") (by walk_at "mb") (fun p hp q hq=>by
   rw [lsM hp];exact(l3.2 q hq).symm) (fun g' st1 h1 h2 st2=>⟨hp.stays st1,⟨vs2,⟨_,h2 _ (.head _),rfl,_,rfl⟩,nv2⟩,hcd.keeps (fun b o e=>st1 b o e),tl,htl,h1⟩) ?_ rfl rfl
  rintro g' h' tk' r' F' N' st1 hl kp ⟨⟨tl2,htl2,hh2⟩,la,va,ca,e1,e2,e3,e4,e5⟩
  refine hret _ _ _ F'.keep ⟨⟨tl2,htl2,a5a (hl tl2 hh2)⟩,la,va,ca,e1,e2, ?_, ?_, ?_⟩
  ·have:jNa T x ns=(aEa T 0).filter fun y=>decide (y∈fya fs):=by
    rw [hwk]
    unfold jNa
    apply List.filter_congr
    intro y hy
    apply decide_eq_decide.mpr
    rw [gDa,he,List.mem_flatMap]
   rw [this];exact e3
  ·cases q:g.get? la with
   |none=>rfl
   |some o=>have:=st1 _ _ q;rw [e4] at this;cases this
  ·exact Nat.lt_of_le_of_lt (List.length_filter_le _ _) (by rw [List.length_range];omega)))
end
section
theorem ar48:True:=by
 k_with "ar48" =>
  fail
 trivial
structure StS where
 l:Addr
 ts:List (Addr×Obj)
 tl:List (Addr×Obj)
 vs:List Value
theorem eqa:∀ (w:World) (t l sl nm f:Addr) (xs:List Stp) (T:List aaa) (W:WF T) (WN:fta T) (LP:Heap->Prop) (LO:hVa w f T LP) (ns:List Nat) (hrT:0<T.length) (hwk:aEa T 0=List.range T.length) (hb:∀ y∈ns,y<T.length) (hnz:ns.length<60) (hnm:∀ x∈xs,x.ax∈aga++aya) (hn0:0<xs.length),
 RW1 w 234 [.ref t, .ref l, .ref sl, .ref nm, .ref f] 32 (fun g h=>ava w g t T∧dqa g l ns∧(∃ svs,g.IsList sl (List.toArray svs)∧bna (c8a w.params g) svs xs)∧LP g∧CodeHd g 193 191∧∃ tl,f7a tl∧Hid g h tl)
  (fun g _ h' v=>(∃ tl,f7a tl∧Hid g h' tl)∧apa g h' v (cZa T xs ns)):=gP_ (by trivial:Ca_ (by
 intro w t l sl nm f xs T W WN LP LO ns hrT hwk hb hnz hnm hn0
 refine Mine.hRW ?_
 intro A s g Q E
 revert W WN LO hrT hwk hb hnz hnm hn0
 revert w t l sl nm f xs T LP ns A s g Q E
 k_extra "mL"
 intro w t l sl nm f xs T LP ns A s g Q E W WN LO hrT hwk hb hnz hnm hn0 H hst hsz hr hp hret
 obtain⟨hp,⟨vs,hl,hv⟩,⟨svs,hsl,hlin⟩,hLP,hcd,hp2⟩:=hp
 revert hp2
 k_extra "ms"
 intro tl
 rintro⟨htl,hhid⟩
 obtain⟨dt,rl,tk1,ep1,I1⟩:=hp.inst
 have hT:=W.small
 have hvl:=hv.len
 have hsvl:=hlin.len
 k_extra "my"
 k_extra "ma"
 rename Fr _ _ _ _=>F
 rename News _ _ _ _=>N
 rename Below _ _ _ _=>B
 rename Frag.In _ _=>X
 rename Top _ _ _ _ _ _=>TT
 have hslL:=bca F hsl
 have hlL:=bca F hl
 refine bTa rfl (σ:=StS) (fun c=>c.ts++c.tl) (fun c=> [(Str.ofString "nodes", .ref c.l)]) [] (fun k c=>f7a c.tl∧NV c.vs (cZa T (xs.take k) ns)∧(∀ p∈c.ts++c.tl,g.get? p.1=none)∧(∀ p∈c.ts,∀ q∈c.tl, @Ne Nat p.1 q.1)∧((k=0∧c.l=l∧c.ts= []∧c.vs=vs)∨∃ n,c.ts= [(c.l,listOf c.vs.toArray n)])) ⟨l, [],tl,vs⟩ []
  rfl (a2a hsl F) hslL F N (by walk_at "mb") (by simp) (fun k c hJ p hp e=>by
   have h0:=hJ.2.2.1 p hp
   obtain⟨o,ho,_⟩:=hsl
   have e':p.1=sl:=e
   rw [e',ho] at h0;cases h0) (by k_extra "mo") ⟨htl,by simpa [cZa] using hv,fun p hp=>(hhid p (by simpa using hp)).2,by simp, .inl ⟨rfl,rfl,rfl,rfl⟩⟩ ?_ ?_
 ·rintro k v cS_ u h tk own hk hkl hJ0_ F N hsep
  k_extra "mf"
  obtain⟨l1,ts,tl1,vs1⟩:=cS_
  dsimp only at F N hsep hJ0_ ⊢
  refine bua ?_
  intro hG_ hg_
  obtain⟨ht1,hv1,hnone,hsp,hcase⟩:=hJ0_
  obtain⟨sa,nm1,rfl,hnk,hsa⟩:=hlin.get hk
  refine hg_ ?_
  clear hg_ hG_
  have hw1:=dJa hb (xs.take k)
  have hz1:=cka hT hnz (xs.take k)
  have hnm1:=hnm nm1 (List.mem_of_getElem? hnk)
  rename_i h1 l0 hd' hu' _
  k_extra "ma"
  have hkeepG:∀ g',g.StaysIn g'->(∀ p∈ts++own,g'.get? p.1=some p.2)->dqa g' l1 (cZa T (xs.take k) ns):=by
   intro g' st1 h2
   rcases hcase with⟨rfl,rfl,rfl,rfl⟩|⟨n,rfl⟩
   ·obtain⟨o,ho,hr2⟩:=hl
    exact⟨vs1,⟨o,st1 _ _ ho,hr2⟩,hv1⟩
   ·exact⟨vs1,⟨_,h2 _ (.head _),rfl,_,rfl⟩,hv1⟩
  refine bra (hSa w t l1 sa nm f nm1 T W WN LP LO (cZa T (xs.take k) ns) hrT hwk hw1 hz1 hnm1) B X TT F N (by k_extra "mc") (by k_extra "mc") tl1 (ts++own) (by walk_at "mb") (by walk_at "mb") (fun p hp q hq=> ?_)
   (fun g' st1 h1 h2 st2=>⟨hp.stays st1,hkeepG g' st1 h2,hsa.stays st1,LO.st _ _ hLP st1,hcd.keeps (fun b o e=>st1 b o e),tl1,ht1,h1⟩) ?_ rfl rfl
  ·rcases laM hp with hp|hp
   ·exact hsp p hp q hq
   ·exact hsep q (laG _ hq) p (by simpa using hp)
  rintro g' h' tk' r' F' N' st1 hl1 kp ⟨⟨tl2,htl2,hh2⟩,la,va,ca,rfl,e2,e3,e4,e5⟩
  have N3:News g _ h' ((la,listOf va.toArray ca)::(tl2++(ts++own))):=fun p hp=>by
   rcases lcM hp with rfl|hp
   ·exact hl1 [(la,listOf va.toArray ca)] (fun q hq=>by rw [lsM hq];exact⟨e2,e4⟩) _ (.head _)
   ·rcases laM hp with hp|hp
    ·exact hl1 tl2 hh2 p hp
    ·exact N' p hp
  have hN3:∀ p∈(la,listOf va.toArray ca)::(tl2++(ts++own)),g.get? p.1=none:=fun p hp=>(N3 p hp).2.2
  k_extra "ma"
  refine aHa.intro (⟨la, [(la,listOf va.toArray ca)],tl2,va⟩:StS) (by assumption) (by assumption) (by walk_at "mb") ⟨htl2, ?_, ?_, ?_, .inr ⟨ca,rfl⟩⟩ ?_ (by k_extra "mo") (by k_extra "mj")
  ·dsimp only;rw [eNa hnk];exact e3
  ·intro p hp
   exact hN3 p (by simp only [List.cons_append,List.nil_append,List.mem_cons,List.mem_append] at hp ⊢;rcases hp with hp|hp<;>simp [hp])
  ·intro p hp q hq
   rw [lsM hp]
   exact gca htl2 hh2 e2 q hq
  ·intro q hq p hp e
   have e':p.1=q.1:=e
   have h1:=kp p (laG _ (by simpa using hp))
   rw [e'] at h1
   rcases laM hq with hq|hq
   ·rw [lsM hq,e4] at h1;cases h1
   ·rw [(hh2 q hq).2] at h1;cases h1
 ·rintro cS_ u h tk hJ0_ F N hsep
  k_extra "mf"
  obtain⟨l1,ts,tl1,vs1⟩:=cS_
  dsimp only at F N hsep hJ0_ ⊢
  refine bua ?_
  intro hG_ hg_
  obtain⟨ht1,hv1,hnone,hsp,hcase⟩:=hJ0_
  refine hg_ ?_
  clear hg_ hG_
  rw [hsvl,List.take_length] at hv1
  k_extra "ma"
  rcases hcase with⟨h0,_⟩|⟨n,rfl⟩
  ·omega
  ·refine hret _ _ _ (Fr.keep F) ⟨⟨tl1,ht1,a5a (News.sub N (by walk_at "mb"))⟩,l1,vs1,n,rfl,(N _ (.head _)).1,hv1,hnone _ (.head _), ?_⟩
   exact Nat.lt_trans (cka hT hnz xs) (by decide)))
end
theorem q2a:True:=by
 k_with "mt" =>
  exact hNa _ _ _ _ _ _ _ (by assumption) (by k_extra "ml") (by assumption) (by assumption)
 k_with "w call ref" =>
  (
   (with_reducible show wpAny _ _ (call (Value.ref 525) [Value.ref _,Value.str _ _,Value.ref _]) _ _ _)
   k_dflt (
    refine dba (fHa _ _ _ _ _ _ _ _ _ (by assumption)) (by assumption) (by assumption) (by assumption) (by assumption) (by assumption) (by k_extra "mc") (by k_extra "mc") ⟨lwa.stays (by assumption) (Fr.keep (by assumption)),cqa.stays (by assumption) (Fr.keep (by assumption))⟩ ?_ rfl rfl
    intro _ _ _ _ _
    (try k_sweep)))
 k_with "w call ref" =>
  (
   (with_reducible show wpAny _ _ (call (Value.ref 537) [_,Value.int _ _]) _ _ _)
   k_dflt (
    refine dba (gra _ _ _ _ _) (by assumption) (by assumption) (by assumption) (by assumption) (by assumption) (by k_extra "mc") (by k_extra "mc") (by assumption) ?_ rfl rfl
    intro _ _ _ _ _
    (try k_sweep)))
 trivial
section
theorem ar49:True:=by
 k_with "ar49" =>with_reducible first|((show _<_);first|exact jea ‹_› ‹_› |exact kCa ‹_› ‹_› |exact lEa ‹_› |exact oba ‹_› ‹_› ‹_› ‹_› |exact mUa ‹_› ‹_› ‹_› |exact oga ‹_› ‹_›)|((show _≤_);first|exact nua ‹_› ‹_› ‹_› |exact lLa ‹_› |exact nma ‹_› ‹_› |exact kFa ‹_›)|exact(oha ‹_›).elim|exact(ola ‹_›).elim|exact(m6a ‹_›).elim|exact(oBa ‹_›).elim|exact(oGa ‹_›).elim|exact(nTa ‹_›).elim|exact(n0a ‹_›).elim|exact(lCa ‹_› ‹_›).elim
 trivial
theorem q1a:True:=by
 k_with "S49 mby" =>
  (simp only [List.nil_append,List.mem_cons];(repeat(first|assumption|refine Or.inr ?_)))
 k_with "S49 exec For" =>
  (
   (with_reducible show wpAny _ _ (exec (Stmt.For (Expr.Name _ _) _ _ [] _) _) _ _ _)
   k_dflt (first
    |(refine' For_invVF ?q25F ?q25a ?q25b ?_ ?q25c ?q25d;(case q25F=>assumption);(case q25a=>exact rfl);(case q25b=>exact rfl);(case q25c=>exact fun _=>rfl);(case q25d=>exact PassesOwn.never))
    |(refine' For_turns ?q25F ?_ ?q25c ?q25d;(case q25F=>assumption);(case q25c=>exact fun _=>rfl);(case q25d=>first|exact PassesOwn.never|passes_own))))
 k_with "S49 call type:enumerate" =>
  ((with_reducible show wpAny _ _ (call (Value.type "enumerate") _) _ _ _);refine cfa ?_)
 trivial
structure StQ where
 op:Obj
 ok:Obj
 kl:Addr
 kv:List Value
 ks:List Nat
structure mLa where
 ts:List (Addr×Obj)
 ys:List Value
structure StV where
 op:Obj
 ok:Obj
 of:Obj
 fl:Addr
 fv:List Value
 fn:Nat
 fs:List Nat
set_option maxHeartbeats 3000000 in
theorem iwa:∀ (w:World) (lr lp sa:Addr) (x:Stp) (T:List aaa) (W:WF T) (O:Ord T) (ns:List Nat) (hb:∀ y∈ns,y<T.length) (hnz:ns.length<60) (hax:x.ax∈aga++aya),
 RO1 w 542 [.ref lr, .ref lp, .ref sa] 16 (fun h=>b9a h lr T∧dqa h lp ns∧ema h sa x) (fun h h' v=>apa h h' v (jNa T x ns)):=gP_ (by trivial:Ca_ (by
 intro w lr lp sa x T W O ns hb hnz hax
 refine Mine.hRO ?_
 intro A s Q E
 revert W O hb hnz hax
 revert w lr lp sa x T ns A s Q E
 k_extra "mw"
 intro w lr lp sa x T ns A s Q E W O hb hnz hax H hr hp hret
 obtain⟨hp,⟨vn,hln,hvn⟩,⟨t1,tt,tp,pvs,hsa,htt,htp,hpv⟩⟩:=hp
 have hp0:=hp
 obtain⟨vs,hl,hvl,hrow⟩:=hp
 have hT:=W.small
 have hvz:vs.length<2^24:=by omega
 have hit:s.heap.IsTuple sa _:=⟨_,hsa,rfl,_,rfl⟩
 have hsa2:=ala hsa
 have htpT:s.heap.IsTuple tp pvs.toArray:=⟨_,htp,rfl,_,rfl⟩
 have hvnl:=hvn.len
 k_extra "mG"
 rename_i L' h1 tk1 B X TT F hd' hu' o6 o5 o4 o3 o2 o1 d6 d5 d4 d3 d2 d1 N
 replace d6:o6.data= .cell none:=d6
 replace d5:o5.data= .cell none:=d5
 replace d4:o4.data= .cell none:=d4
 replace d3:o3.data= .cell none:=d3
 replace d2:o2.data= .cell none:=d2
 replace d1:o1.data= .cell (some (.ref lr)):=d1
 replace F:Fr s.heap L' h1 (fun y=>if y=Str.ofString "step" then some (.ref sa) else if y=Str.ofString "places" then some (.ref lp) else none):=F
 k_extra "ma"
 clear d4 d3 d2
 rename Fr _ _ _ _=>F
 rename News _ _ _ _=>N
 rename_i h2 h3 e2 d2 h4 e3 d3 h5 fD h6 lf h7 e4 d4
 have cN:=foa N hln
 have hspN:∀ p∈ [(L'+1+1+1,e3),(L'+1+1,e2),(L'+1,o1)],∀ q∈ [(L'+1+1+1+1+1+1,o6),(L'+1+1+1+1+1,o5),(L'+1+1+1+1,e4),(fD,listOf [].toArray 0)], @Ne Nat p.1 q.1:=by
  intro p hp q hq
  simp only [List.mem_cons,List.not_mem_nil,or_false] at hp hq
  rcases hp with rfl|rfl|rfl<;>rcases hq with rfl|rfl|rfl|rfl<;>(show @Ne Nat _ _;omega)
 refine bTa rfl (σ:=StV) (fun c=> [(L'+1+1+1+1+1+1,c.op),(L'+1+1+1+1+1,c.ok),(L'+1+1+1+1,c.of),(c.fl,listOf c.fv.toArray c.fn)]) (fun _=> []) [Str.ofString "pairs",Str.ofString "values",Str.ofString "predicate"] (fun k c=>(∃ v,c.op.data= .cell v)∧(∃ v,c.ok.data= .cell v)∧c.of.data= .cell (some (.ref c.fl))∧NV c.fv c.fs∧c.fs=(ns.take k).flatMap (d4a T x)∧s.heap.get? c.fl=none∧ @Ne Nat c.fl (L'+1+1+1+1+1+1)∧ @Ne Nat c.fl (L'+1+1+1+1+1)∧ @Ne Nat c.fl (L'+1+1+1+1)) ⟨o6,o5,e4,fD, [],0, []⟩ [(L'+1+1+1,e3),(L'+1+1,e2),(L'+1,o1)]
  rfl (a2a hln F) (bca F hln) F N (by walk_at "mb") (fun q hq p hp=>hspN p hp q hq) ?_ (by k_extra "md") ⟨⟨_,d6⟩,⟨_,d5⟩,d4, .nil,rfl,(N (fD,_) (.head _)).2.2,(by show @Ne Nat fD (L'+1+1+1+1+1+1);omega),(by show @Ne Nat fD (L'+1+1+1+1+1);omega),(by show @Ne Nat fD (L'+1+1+1+1);omega)⟩ ?_ ?_
 ·rintro k ⟨op,ok,of,fl,fv,fn,fs⟩ ⟨-,-,-,-,-,hfl0,-⟩ p hp
  rcases lcM hp with rfl|hp
  ·exact cN (L'+1+1+1+1+1+1,o6) (by k_extra "me")
  rcases lcM hp with rfl|hp
  ·exact cN (L'+1+1+1+1+1,o5) (by k_extra "me")
  rcases lcM hp with rfl|hp
  ·exact cN (L'+1+1+1+1,e4) (by k_extra "me")
  rw [lsM hp]
  obtain⟨ol,hol,-⟩:=id hln
  exact fun e=>by
   have e':fl=lp:=e
   have h0:s.heap.get? fl=none:=hfl0
   rw [e',hol] at h0;cases h0
 ·clear F N
  rintro k v cS_ u h tk own hvk hk hJ0_ F N hsep
  k_extra "mf"
  obtain⟨op,ok,of,fl,fv,fn,fs⟩:=cS_
  dsimp only at F N hsep hJ0_ ⊢
  refine bua ?_
  intro hG_ hg_
  obtain⟨⟨vp,hop⟩,⟨vk,hok⟩,hof,nf,he,hfl0,f6,f5,f4⟩:=hJ0_
  obtain⟨n,tn,hn,rfl⟩:=hvn.get hvk
  refine hg_ ?_
  clear hg_ hG_
  have hnT:=hb n (List.mem_of_getElem? hn)
  have hsp:=hsep
  simp only [List.cons_append,List.nil_append,ara,aOa,and_true] at N hsep
  k_extra "ma"
  refine wpAny_Assign_Name ?_
  refine aGa (cl:= [(Str.ofString "test",L'+1+1+1),(Str.ofString "rows",L'+1),(Str.ofString "axis_here",L'+1+1)]) (by assumption) rfl (by decide) rfl (by decide) rfl ?_
  k_extra "ma"
  rename Fr _ _ _ _=>F2
  rename News _ _ _ _=>N2
  rename_i hA tkA la va ca nva lla sta lA
  have hax9:∀ y∈aDa T n x.ax,y<T.length:=fun y hy=>gza W hnT x.ax hy
  have hzz:=aMa W hnT x.ax
  refine aVa (σ:=StL) (fun _=> []) (fun c=>c.ys) (fun k c=>NV c.ys (((aDa T n x.ax).take k).filter fun y=>dYa T y x.ax x.tst)) ⟨[]⟩ ((la,listOf va.toArray ca)::(L'+1+1+1+1+1+1,op)::(L'+1+1+1+1+1,ok)::(L'+1+1+1+1,of)::(fl,listOf fv.toArray fn)::(L'+1+1+1,e3)::(L'+1+1,e2)::(L'+1,o1)::own) rfl (by k_extra "mg") (N2 (la,listOf va.toArray ca) (.head _)).2.1 (by rw [sizeLine_eq];omega)
   F2 N2 (by walk_at "mb") (by k_extra "md") (by k_extra "md") rfl .nil ?_ ?_
  ·clear F2 N2
   rintro j v cS_ h tk own2 C oC m₂ E' hvj hj2 h1 hyl hC hoC hx F N hsep3
   k_extra "mf"
   obtain⟨ys⟩:=cS_
   dsimp only at h1 hyl N hsep3 ⊢
   obtain⟨y,ty,hy2,rfl⟩:=nva.get hvj
   have hyT:=hax9 y (List.mem_of_getElem? hy2)
   have hyz:y<2^24:=by omega
   obtain⟨r,hr2⟩:=bma hyT
   obtain⟨v,hv,hLR⟩:=hrow y r hr2
   obtain⟨a,t1',t2',t3',pv,rfl,hta,hpv'⟩:=id hLR
   have N3:=News.sub N (l':=(C,oC)::(la,listOf va.toArray ca)::(L'+1+1+1+1+1+1,op)::(L'+1+1+1+1+1,ok)::(L'+1+1+1+1,of)::(fl,listOf fv.toArray fn)::(L'+1+1+1,e3)::(L'+1+1,e2)::(L'+1,o1)::(own++own2)) (by walk_at "mb")
   clear N
   k_extra "ma"
   ·exact aba.intro (⟨ys++ [.int y ty]⟩:StL) (by assumption) (by assumption) (by walk_at "mb") rfl (cOa h1 hy2 (by assumption)) (by k_extra "md")
   ·exact aba.intro (⟨ys⟩:StL) (by assumption) (by assumption) (by walk_at "mb") rfl (c9a h1 hy2 (by assumption)) (by k_extra "md")
  clear F2 N2
  rintro kl cS_ h8 tk8 hk0 hyl F N hD-
  k_extra "mf"
  obtain⟨yk⟩:=cS_
  dsimp only at hk0 hyl N hD ⊢
  rw [nva.len,List.take_length] at hk0
  change News _ L' h8 ((kl,listOf yk.toArray yk.length)::_) at N
  have k6:=hD (L'+1+1+1+1+1+1,op) (by k_extra "me")
  have k5:=hD (L'+1+1+1+1+1,ok) (by k_extra "me")
  have k4:=hD (L'+1+1+1+1,of) (by k_extra "me")
  have kf:=hD (fl,listOf fv.toArray fn) (by k_extra "me")
  have k3:=hD (L'+1+1+1,e3) (by k_extra "me")
  have k2:=hD (L'+1+1,e2) (by k_extra "me")
  have k1:=hD (L'+1,o1) (by k_extra "me")
  have hc6:=(N (L'+1+1+1+1+1+1,op) (by k_extra "me")).2.2
  have hc5:=(N (L'+1+1+1+1+1,ok) (by k_extra "me")).2.2
  have NS:=News.sub N (l':=(L'+1+1+1+1+1,ok)::(L'+1+1+1+1+1+1,op)::(kl,listOf yk.toArray yk.length)::(L'+1+1+1+1,of)::(fl,listOf fv.toArray fn)::(L'+1+1+1,e3)::(L'+1+1,e2)::(L'+1,o1)::own) (by walk_at "mb")
  have own5:∀ p∈own, @Ne Nat p.1 (L'+1+1+1+1+1):=fun p hp=>hsp (L'+1+1+1+1+1,ok) (by k_extra "me") p (laG _ hp)
  have own6:∀ p∈own, @Ne Nat p.1 (L'+1+1+1+1+1+1):=fun p hp=>hsp (L'+1+1+1+1+1+1,op) (by k_extra "me") p (laG _ hp)
  have ownk:∀ p∈own, @Ne Nat p.1 kl:=fun p hp=>hD p (by walk_at "mby")
  refine storeX_C F NS (c:=L'+1+1+1+1+1) rfl (UpdF.head (fc (ck L' 6 5 (by decide)) (fc k5.symm (fc (ck L' 4 5 (by decide)) (fc f5 (fc (ck L' 3 5 (by decide)) (fc (ck L' 2 5 (by decide)) (fc (ck L' 1 5 (by decide)) own5)))))))) hok ?_
  have hkl0:=(N (kl,listOf yk.toArray yk.length) (.head _)).2.2
  clear F N NS hD
  intro h9 ok9 F N hok9
  try dsimp only at N
  k_extra "ma"
  have hk0l:((aDa T n x.ax).filter fun y=>dYa T y x.ax x.tst).length<200:=Nat.lt_of_le_of_lt (List.length_filter_le _ _) (Nat.lt_trans hzz (by decide))
  have hkT:∀ y∈(aDa T n x.ax).filter (fun y=>dYa T y x.ax x.tst),y<T.length:=fun y hy=>hax9 y (List.mem_filter.mp hy).1
  have htpk:∀ a:Addr,s.heap.get? a=none-> @Ne Nat a tp:=fun a h e=>by have e':a=tp:=e;rw [e',htp] at h;cases h
  refine iEa rfl (σ:=StQ) (x:=Str.ofString "predicate") (fun c=> [(L'+1+1+1+1+1+1,c.op),(L'+1+1+1+1+1,c.ok),(c.kl,listOf c.kv.toArray c.kv.length)]) (fun _=> []) [Str.ofString "pairs",Str.ofString "values"] (fun k c=>(∃ v,c.op.data= .cell v)∧c.ok.data= .cell (some (.ref c.kl))∧NV c.kv c.ks∧c.ks=c0a T (x.prd.take k) ((aDa T n x.ax).filter fun y=>dYa T y x.ax x.tst)∧s.heap.get? c.kl=none∧ @Ne Nat c.kl (L'+1+1+1+1+1+1)∧ @Ne Nat c.kl (L'+1+1+1+1+1)) ⟨op,ok9,kl,yk,_⟩ ((L'+1+1+1+1,of)::(fl,listOf fv.toArray fn)::(L'+1+1+1,e3)::(L'+1+1,e2)::(L'+1,o1)::own)
   rfl (by obtain⟨o,e,r⟩:=htpT;exact⟨o,F.keep _ _ e,r⟩) (fun e=>Nat.lt_irrefl _ (Nat.lt_of_lt_of_le (Heap.lt_size htp) (e▸F.above))) F N (by walk_at "mb") (fun q hq=>by
    rcases lcM hq with rfl|hq
    ·exact fc (ck L' 4 6 (by decide)) (fc f6 (fc (ck L' 3 6 (by decide)) (fc (ck L' 2 6 (by decide)) (fc (ck L' 1 6 (by decide)) own6))))
    rcases lcM hq with rfl|hq
    ·exact fc (ck L' 4 5 (by decide)) (fc f5 (fc (ck L' 3 5 (by decide)) (fc (ck L' 2 5 (by decide)) (fc (ck L' 1 5 (by decide)) own5))))
    ·rw [lsM hq]
     exact fc k4 (fc kf (fc k3 (fc k2 (fc k1 ownk))))) (fun k c hJ p hp=>by
    rcases lcM hp with rfl|hp
    ·exact htpk _ hc6
    rcases lcM hp with rfl|hp
    ·exact htpk _ hc5
    ·rw [lsM hp];exact htpk _ hJ.2.2.2.2.1) (by k_extra "md") ⟨⟨_,hop⟩,hok9,hk0,rfl,hkl0,k6.symm,k5.symm⟩ ?_ ?_
  ·clear F N
   rintro j v cS_ u2 h tk own2 hvj hj hJ0_ F N hsep2
   k_extra "mf"
   obtain⟨op2,ok2,kl2,kv,ks⟩:=cS_
   dsimp only at F N hsep2 hJ0_ ⊢
   refine bua ?_
   intro hG_ hg_
   obtain⟨⟨vp2,hop2⟩,hok2,nk,hke,hkl2,g6,g5⟩:=hJ0_
   obtain⟨p,hpj,hpv2⟩:=hpv.get hvj
   refine hg_ ?_
   clear hg_ hG_
   have hksT:∀ y∈ks,y<T.length:=fun y hy=>hkT y (cva (hke▸hy))
   have hksz:ks.length<200:=by rw [hke];exact Nat.lt_of_le_of_lt bia hk0l
   have nkl:=nk.len
   have own26:∀ p∈own++own2, @Ne Nat p.1 (L'+1+1+1+1+1+1):=fun p hp=>(laM hp).elim (own6 p) fun hp=>hsep2 (L'+1+1+1+1+1+1,op2) (by k_extra "me") p (laG _ hp)
   have own25:∀ p∈own++own2, @Ne Nat p.1 (L'+1+1+1+1+1):=fun p hp=>(laM hp).elim (own5 p) fun hp=>hsep2 (L'+1+1+1+1+1,ok2) (by k_extra "me") p (laG _ hp)
   have NS:=News.sub N (l':=(L'+1+1+1+1+1+1,op2)::(L'+1+1+1+1+1,ok2)::(kl2,listOf kv.toArray kv.length)::(L'+1+1+1+1,of)::(fl,listOf fv.toArray fn)::(L'+1+1+1,e3)::(L'+1+1,e2)::(L'+1,o1)::(own++own2)) (by walk_at "mb")
   refine wpAny_assign_Name (storeX_C F NS (c:=L'+1+1+1+1+1+1) rfl (UpdF.head (fc (ck L' 5 6 (by decide)) (fc g6 (fc (ck L' 4 6 (by decide)) (fc f6 (fc (ck L' 3 6 (by decide)) (fc (ck L' 2 6 (by decide)) (fc (ck L' 1 6 (by decide)) own26)))))))) hop2 ?_)
   clear F N NS
   intro h10 op3 F N hop3
   try dsimp only at N
   k_extra "ma"
   refine cna (cl:= []) F rfl rfl rfl (by decide) rfl (by decide) rfl rfl ?_
   k_extra "ma"
   refine iVa (σ:=mLa) (fun c=>c.ts) (fun c=>c.ys) (fun k c=>c.ys.length=k∧cra ks c.ts c.ys) ⟨[], []⟩ ((L'+1+1+1+1+1+1,op3)::(L'+1+1+1+1+1,ok2)::(kl2,listOf kv.toArray kv.length)::(L'+1+1+1+1,of)::(fl,listOf fv.toArray fn)::(L'+1+1+1,e3)::(L'+1+1,e2)::(L'+1,o1)::(own++own2)) rfl rfl rfl rfl (by decide) (by k_extra "mg") (N (kl2,listOf kv.toArray kv.length) (by k_extra "me")).2.1 (by rw [sizeLine_eq];omega)
    F N (by walk_at "mb") (by k_extra "md") (by k_extra "md") rfl ⟨rfl,cra.nil⟩ ?_ ?_
   ·clear F N
    rintro i2 cS_ h tk own3 C oC m₂ E' hJ0_ hi2 hJ1_ hyl hC hoC F N hsep3
    k_extra "mf"
    obtain⟨ts,ys⟩:=cS_
    dsimp only at hyl N hsep3 hJ0_ hJ1_ ⊢
    refine bua ?_
    intro hG_ hg_
    obtain⟨t0,v0,hv0,hx1,hx2⟩:=hJ0_
    obtain⟨hyl2,hPI⟩:=hJ1_
    obtain⟨y,ty,hy2,rfl⟩:=nk.get hv0
    refine hg_ ?_
    clear hg_ hG_
    have N3:=News.sub N (l':=(C,oC)::(ts++((L'+1+1+1+1+1+1,op3)::(L'+1+1+1+1+1,ok2)::(kl2,listOf kv.toArray kv.length)::(L'+1+1+1+1,of)::(fl,listOf fv.toArray fn)::(L'+1+1+1,e3)::(L'+1+1,e2)::(L'+1,o1)::(own++(own2++own3))))) (by walk_at "mb")
    clear N
    k_extra "ma"
    rename Fr _ _ _ _=>F'
    rename News _ _ _ _=>N'
    rename _∧_=>lD
    exact aba.intro (⟨(_,aea #[.int (i2+1:Nat) (tk+1), .int y ty])::ts,ys++ [.ref _]⟩:mLa) F' N' (by walk_at "mb") rfl ⟨by rw [List.length_append,hyl2,List.length_singleton],cra.snoc hPI ⟨y,_,_,hyl2▸hy2,by rw [hyl2],rfl⟩⟩
     (fun q hq p hp=>by
       rcases lcM hq with rfl|hq
       ·first
         |exact Nat.ne_of_lt (aia lD.2 p (laG _ hp))
         |(rw [List.append_assoc] at hp;exact Nat.ne_of_lt (aia lD.2 p (laG _ hp)))
         |exact Nat.ne_of_lt (aia lD.2 p (by simp only [List.append_assoc,List.cons_append,List.mem_append,List.mem_cons] at hp ⊢;exact .inr hp))
       ·exact hsep3 q hq p hp)
   ·clear F N
    rintro pl cS_ h11 tk11 hJ0_ hyl F N hD hsp3
    k_extra "mf"
    obtain⟨ts,ys⟩:=cS_
    dsimp only at hyl N hD hsp3 hJ0_ ⊢
    refine bua ?_
    intro hG_ hg_
    obtain⟨hpl,hPI⟩:=hJ0_
    refine hg_ ?_
    clear hg_ hG_
    change News _ L' h11 ((pl,listOf ys.toArray ys.length)::_) at N
    k_extra "ma"
    refine cna (cl:= [(Str.ofString "rows",L'+1),(Str.ofString "predicate",L'+1+1+1+1+1+1),(Str.ofString "kept_here",L'+1+1+1+1+1)]) F rfl rfl rfl (by decide) rfl (by decide) rfl rfl ?_
    k_extra "ma"
    refine hJa (σ:=mLa) (fun c=>c.ts) (fun c=>c.ys) (fun k c=>c.ys.length=k∧dza T p ks c.ts c.ys) ⟨[], []⟩ ((pl,listOf ys.toArray ys.length)::(ts++(L'+1+1+1+1+1+1,op3)::(L'+1+1+1+1+1,ok2)::(kl2,listOf kv.toArray kv.length)::(L'+1+1+1+1,of)::(fl,listOf fv.toArray fn)::(L'+1+1+1,e3)::(L'+1+1,e2)::(L'+1,o1)::(own++own2))) ts (PE ks) rfl rfl rfl rfl (by decide) (by k_extra "mg") (N (pl,listOf ys.toArray ys.length) (.head _)).2.1 (by rw [sizeLine_eq];omega)
     F N (by walk_at "mb") (fun p hp=>List.mem_cons_of_mem _ (laL _ hp)) hPI (by k_extra "md") (by k_extra "md") rfl ⟨rfl,dza.nil⟩ ?_ ?_
    ·clear F N
     rintro i3 cS_ h tk own4 C oC m₂ E' hJ0_ hi3 hJ1_ hzl2 hC hoC F N hsep4
     k_extra "mf"
     obtain⟨os,zs⟩:=cS_
     dsimp only at hzl2 N hsep4 hJ0_ hJ1_ ⊢
     refine bua ?_
     intro hG_ hg_
     obtain⟨a,b,⟨y,ty1,ty2,hy2,rfl,rfl⟩,hx1,hx2⟩:=hJ0_
     obtain⟨hzl,hVI⟩:=hJ1_
     refine hg_ ?_
     clear hg_ hG_
     have hyT:=hksT y (List.mem_of_getElem? hy2)
     have hyz:y<2^24:=by omega
     obtain⟨r,hr2⟩:=bma hyT
     obtain⟨v,hv,hLR⟩:=hrow y r hr2
     obtain⟨a,t1',t2',t3',pv,rfl,hta,hpv'⟩:=id hLR
     have hta2:=ala hta
     have N3:=News.sub N (l':=(C,oC)::(L'+1+1+1+1+1+1,op3)::(L'+1+1+1+1+1,ok2)::(kl2,listOf kv.toArray kv.length)::(L'+1+1+1+1,of)::(fl,listOf fv.toArray fn)::(L'+1+1+1,e3)::(L'+1+1,e2)::(L'+1,o1)::(pl,listOf ys.toArray ys.length)::(own++(own2++(own4++(os++ts))))) (by walk_at "mb")
     clear N
     k_extra "ma"
     rename Fr _ _ _ _=>F
     refine a9a (d3a w lr p v y (i3+1) (List.map Int.ofNat ks).length _ _ _ T hT hyT (by omega) hpv2) B X TT F N3 (by k_extra "mc") (by k_extra "mc") (hp0.stays F.keep) ?_ rfl rfl
     rintro h' tk' rv F' N' st' ⟨hva,hfr⟩
     obtain⟨ob,hob,hHid,-⟩:=hva.objs (h:=h) hfr
     have hnew:∀ q∈ob,∀ p∈(L'+1+1+1+1+1+1,op3)::(L'+1+1+1+1+1,ok2)::(kl2,listOf kv.toArray kv.length)::(L'+1+1+1+1,of)::(fl,listOf fv.toArray fn)::(L'+1+1+1,e3)::(L'+1+1,e2)::(L'+1,o1)::(pl,listOf ys.toArray ys.length)::(own++(own2++(own4++(os++ts)))), @Ne Nat p.1 q.1:=fun q hq p hp e=>by
      have h1:=(N3 p (.tail _ hp)).1
      have h2:=(hHid q hq).2
      have e':p.1=q.1:=e
      rw [e',h2] at h1;cases h1
     have N4:=fda F N' hHid
     clear N' N3
     k_extra "ma"
     rw [List.length_map] at hob
     exact aba.intro (⟨ob++os,zs++ [rv]⟩:mLa) F' N4 (by walk_at "mb") rfl ⟨by rw [List.length_append,hzl,List.length_singleton],dza.snoc hVI (hzl▸hy2) (hzl▸hob)⟩
      (fun q hq p hp=>by
        rcases laM hq with hq|hq
        ·exact hnew q hq p (by revert hp;revert p;walk_at "mb")
        ·exact hsep4 q hq p hp)
    ·clear F N
     rintro vl cS_ h12 tk12 hJ0_ hzl2 F N hD2 hsp4
     k_extra "mf"
     obtain⟨os,zs⟩:=cS_
     dsimp only at hzl2 N hD2 hsp4 hJ0_ ⊢
     refine bua ?_
     intro hG_ hg_
     obtain⟨hzl,hVI⟩:=hJ0_
     refine hg_ ?_
     clear hg_ hG_
     change News _ L' h12 ((vl,listOf zs.toArray zs.length)::_) at N
     have N5:=News.sub N (l':=(vl,listOf zs.toArray zs.length)::(pl,listOf ys.toArray ys.length)::(L'+1+1+1+1+1+1,op3)::(L'+1+1+1+1+1,ok2)::(kl2,listOf kv.toArray kv.length)::(L'+1+1+1+1,of)::(fl,listOf fv.toArray fn)::(L'+1+1+1,e3)::(L'+1+1,e2)::(L'+1,o1)::(own++(own2++(os++ts)))) (by walk_at "mb")
     clear N
     k_extra "ma"
     refine wpAny_Assign_Name ?_
     refine dka (cl:= []) F rfl (by decide) rfl (by decide) ?_
     k_extra "ma"
     refine j1a (σ:=StL) (fun _=> []) (fun c=>c.ys) (fun k c=>NV c.ys (((ks.zipIdx.take k).filter (b6a T p ks)).map (·.1))) ⟨[]⟩ ((vl,listOf zs.toArray zs.length)::(pl,listOf ys.toArray ys.length)::(L'+1+1+1+1+1+1,op3)::(L'+1+1+1+1+1,ok2)::(kl2,listOf kv.toArray kv.length)::(L'+1+1+1+1,of)::(fl,listOf fv.toArray fn)::(L'+1+1+1,e3)::(L'+1+1,e2)::(L'+1,o1)::(own++(own2++(os++ts)))) ts (PE ks) rfl rfl rfl rfl rfl (by decide) (by decide) (by decide) (by k_extra "mg") (by k_extra "mg") (N5 (pl,listOf ys.toArray ys.length) (by k_extra "me")).2.1 (N5 (vl,listOf zs.toArray zs.length) (.head _)).2.1 hzl.symm (by rw [sizeLine_eq];omega)
      F N5 (by walk_at "mb") (by walk_at "mb") hPI (by k_extra "md") (by k_extra "md") rfl .nil ?_ ?_
     ·clear F N5
      rintro i4 cS_ h tk own5 C oC m₂ E' hJ0_ hi4 hNV hle hC hoC F N hsep5
      k_extra "mf"
      obtain⟨zs2⟩:=cS_
      dsimp only at hNV hle N hsep5 hJ0_ ⊢
      refine bua ?_
      intro hG_ hg_
      obtain⟨a,b,c,⟨y,ty1,ty2,hy2,rfl,rfl⟩,hwi,hx1,hx2,hx3⟩:=hJ0_
      obtain⟨y',hy3,hvin⟩:=hVI i4 c hwi
      refine hg_ ?_
      clear hg_ hG_
      cases hy2.symm.trans hy3
      have hvat:dMa h c (kea T p y (i4+1) ks.length):=hvin.at (fun q hq=>(N q (by revert hq;revert q;walk_at "mb")).1)
      have N6:=News.sub N (l':=(C,oC)::(vl,listOf zs.toArray zs.length)::(pl,listOf ys.toArray ys.length)::(L'+1+1+1+1+1+1,op3)::(L'+1+1+1+1+1,ok2)::(kl2,listOf kv.toArray kv.length)::(L'+1+1+1+1,of)::(fl,listOf fv.toArray fn)::(L'+1+1+1,e3)::(L'+1+1,e2)::(L'+1,o1)::(own++(own2++(own5++(os++ts))))) (by walk_at "mb")
      clear N
      k_extra "ma"
      ·exact aba.intro (⟨zs2++ [.int y ty2]⟩:StL) (by assumption) (by assumption) (by walk_at "mb") rfl (by rw [dHa hy2,if_pos (show b6a T p ks (y,i4)=true from by assumption)];exact hNV.snoc _ _) (by k_extra "md")
      ·exact aba.intro (⟨zs2⟩:StL) (by assumption) (by assumption) (by walk_at "mb") rfl (by rw [dHa hy2,if_neg (show¬b6a T p ks (y,i4)=true from fun q=>Bool.noConfusion (q.symm.trans (show b6a T p ks (y,i4)=false from by assumption))),List.append_nil];exact hNV) (by k_extra "md")
     ·clear F N5
      rintro nl cS_ h13 tk13 hNV hle F N hD3-
      k_extra "mf"
      obtain⟨zs2⟩:=cS_
      dsimp only at hNV hle N hD3 ⊢
      change News _ L' h13 ((nl,listOf zs2.toArray zs2.length)::_) at N
      have n5:=hD3 (L'+1+1+1+1+1,ok2) (by k_extra "me")
      have n6:=hD3 (L'+1+1+1+1+1+1,op3) (by k_extra "me")
      have hnl0:=(N (nl,listOf zs2.toArray zs2.length) (.head _)).2.2
      have NS:=News.sub N (l':=(L'+1+1+1+1+1,ok2)::(L'+1+1+1+1+1+1,op3)::(nl,listOf zs2.toArray zs2.length)::(L'+1+1+1+1,of)::(fl,listOf fv.toArray fn)::(L'+1+1+1,e3)::(L'+1+1,e2)::(L'+1,o1)::(own++own2)) (by walk_at "mb")
      have hrest:∀ p∈(L'+1+1+1+1,of)::(fl,listOf fv.toArray fn)::(L'+1+1+1,e3)::(L'+1+1,e2)::(L'+1,o1)::(own++own2), @Ne Nat p.1 nl:=fun p hp=>hD3 p (by revert hp;revert p;walk_at "mb")
      refine storeX_C F NS (c:=L'+1+1+1+1+1) rfl (UpdF.head (fc (ck L' 6 5 (by decide)) (fc n5.symm (fc (ck L' 4 5 (by decide)) (fc f5 (fc (ck L' 3 5 (by decide)) (fc (ck L' 2 5 (by decide)) (fc (ck L' 1 5 (by decide)) own25)))))))) hok2 ?_
      clear F N NS hD3
      intro h14 ok3 F N hok3
      try dsimp only at N
      k_extra "ma"
      exact aHa.intro (⟨op3,ok3,nl,zs2,fja T p ks⟩:StQ) (by assumption) (by assumption) (by walk_at "mb") ⟨⟨_,hop3⟩,hok3,(by have h9:=hNV;rw [hpl,nkl,<-List.length_zipIdx (l:=ks) (i:=0),List.take_length] at h9;exact h9),(by rw [d6a hpj,<-hke]),hnl0,n6.symm,n5.symm⟩
       (fun q hq p hp=>by
         rcases lcM hq with rfl|hq
         ·exact hsep2 (L'+1+1+1+1+1+1,op2) (by k_extra "me") p hp
         rcases lcM hq with rfl|hq
         ·exact hsep2 (L'+1+1+1+1+1,ok2) (by k_extra "me") p hp
         ·rw [lsM hq];exact hrest p hp) (by k_extra "md") (by k_extra "mj")
  ·clear F N
   rintro cS_ u2 h tk hJ0_ F N hsep2
   k_extra "mf"
   obtain⟨op2,ok2,kl2,kv,ks⟩:=cS_
   dsimp only at F N hsep2 hJ0_ ⊢
   refine bua ?_
   intro hG_ hg_
   obtain⟨⟨vp2,hop2⟩,hok2,nk,hke,hkl2,g6,g5⟩:=hJ0_
   refine hg_ ?_
   clear hg_ hG_
   rw [hpv.len,List.take_length] at hke
   have hksz:ks.length<200:=by rw [hke];exact Nat.lt_of_le_of_lt bia hk0l
   have nkl:=nk.len
   change Fr s.heap L' h _ at F
   change News s.heap L' h _ at N
   have hfsz:fs.length<2^17:=by
    rw [he]
    have h1:∀ a∈ns.take k,(d4a T x a).length≤120:=fun a ha=>Nat.le_of_lt (Nat.lt_of_le_of_lt (Nat.le_trans bia (List.length_filter_le _ _)) (aMa W (hb a (List.mem_of_mem_take ha)) x.ax))
    have h2:=dja h1
    have h3:(ns.take k).length≤ns.length:=by rw [List.length_take];exact Nat.min_le_right _ _
    omega
   have hll2:=(N (kl2,listOf kv.toArray kv.length) (by k_extra "me"))
   have NS:=News.sub N (l':=(fl,listOf fv.toArray fn)::(kl2,listOf kv.toArray kv.length)::(L'+1+1+1+1+1+1,op2)::(L'+1+1+1+1+1,ok2)::(L'+1+1+1+1,of)::(L'+1+1+1,e3)::(L'+1+1,e2)::(L'+1,o1)::own) (by walk_at "mb")
   clear N
   k_extra "ma"
   rename Fr _ _ _ _=>F
   rename News _ _ _ _=>N
   rename_i D h15 nv9 l9
   have own4:∀ p∈own, @Ne Nat p.1 (L'+1+1+1+1):=fun p hp=>hsp (L'+1+1+1+1,of) (by k_extra "me") p (laG _ hp)
   have hD0:=(N (D,listOf (fv++kv).toArray 0) (.head _)).2.2
   have NS:=News.sub N (l':=(L'+1+1+1+1,of)::(L'+1+1+1+1+1+1,op2)::(L'+1+1+1+1+1,ok2)::(D,listOf (fv++kv).toArray 0)::(L'+1+1+1,e3)::(L'+1+1,e2)::(L'+1,o1)::own) (by walk_at "mb")
   have n4: @Ne Nat D (L'+1+1+1+1):=by omega
   have n5: @Ne Nat D (L'+1+1+1+1+1):=by omega
   have n6: @Ne Nat D (L'+1+1+1+1+1+1):=by omega
   refine storeX_C F NS (c:=L'+1+1+1+1) rfl (UpdF.head (fc (ck L' 6 4 (by decide)) (fc (ck L' 5 4 (by decide)) (fc n4 (fc (ck L' 3 4 (by decide)) (fc (ck L' 2 4 (by decide)) (fc (ck L' 1 4 (by decide)) own4))))))) hof ?_
   clear F N NS
   intro h16 of2 F N hof2
   try dsimp only at N
   k_extra "ma"
   exact aHa.intro (⟨op2,ok2,of2,D,fv++kv,0,fs++ks⟩:StV) (by assumption) (by assumption) (by walk_at "mb") ⟨⟨_,hop2⟩,⟨_,hok2⟩,hof2,nv9,(by rw [awa hn,<-he,hke];rfl),hD0,n6,n5,n4⟩ (fun q hq p hp=>by
    rcases lcM hq with rfl|hq
    ·exact hsp (L'+1+1+1+1+1+1,op) (by k_extra "me") p hp
    rcases lcM hq with rfl|hq
    ·exact hsp (L'+1+1+1+1+1,ok) (by k_extra "me") p hp
    rcases lcM hq with rfl|hq
    ·exact hsp (L'+1+1+1+1,of) (by k_extra "me") p hp
    rw [lsM hq]
    exact(fc (show @Ne Nat (L'+1+1+1) D by omega) (fc (show @Ne Nat (L'+1+1) D by omega) (fc (show @Ne Nat (L'+1) D by omega) fun p hp=>Nat.ne_of_lt (aia l9.2.2.2.2.2.2.2.2 p hp))):∀ p∈(L'+1+1+1,e3)::(L'+1+1,e2)::(L'+1,o1)::own, @Ne Nat p.1 D) p hp) (by k_extra "md") (by k_extra "mj")
 ·clear F N
  rintro cS_ u h tk hJ0_ F N hsep
  k_extra "mf"
  obtain⟨op,ok,of,fl,fv,fn,fs⟩:=cS_
  dsimp only at F N hsep hJ0_ ⊢
  refine bua ?_
  intro hG_ hg_
  obtain⟨⟨vp,hop⟩,⟨vk,hok⟩,hof,nf,he,hfl0,f6,f5,f4⟩:=hJ0_
  refine hg_ ?_
  clear hg_ hG_
  rw [hvnl,List.take_length] at he
  change Fr s.heap L' h _ at F
  change News s.heap L' h _ at N
  k_extra "ma"
  refine aGa (cl:= [(Str.ofString "found",L'+1+1+1+1)]) F rfl (by decide) rfl (by decide) rfl ?_
  k_extra "ma"
  rename IsRange _ _ _ _ _ _ _ _=>R
  rename News _ _ _ _=>N
  rename Fr _ _ _ _=>F
  have hiff:∀ k,k∈fs↔∃ n∈ns,k∈d4a T x n:=fun k=>by rw [he];exact List.mem_flatMap
  refine bza (n:=vs.length) (σ:=StL) (fun _=> []) (fun c=>c.ys) (fun k c=>NV c.ys ((List.range k).filter fun y=>decide (∃ n∈ns,y∈d4a T x n))) ⟨[]⟩ [(L'+1+1+1+1+1+1,op),(L'+1+1+1+1+1,ok),(L'+1+1+1+1,of),(fl,listOf fv.toArray fn),(L'+1+1+1,e3),(L'+1+1,e2),(L'+1,o1)] rfl R (small_one (by omega) (by omega) (by omega) (by omega)) (by rw [rangeSize_nat];omega) (by rw [sizeLine_eq];omega)
   F N (by walk_at "mb") (by k_extra "md") rfl .nil ?_ ?_
  ·clear F N R
   rintro k tkk cS_ h tk own C oC m₂ E' hk h1 hyl hC hoC hx F N hsep
   k_extra "mf"
   obtain⟨ys⟩:=cS_
   dsimp only at h1 hyl N hsep ⊢
   rw [Int.zero_add] at hx
   have N2:=News.sub N (l':=(C,oC)::(L'+1+1+1+1+1+1,op)::(L'+1+1+1+1+1,ok)::(L'+1+1+1+1,of)::(fl,listOf fv.toArray fn)::(L'+1+1+1,e3)::(L'+1+1,e2)::(L'+1,o1)::own) (by walk_at "mb")
   clear N
   k_extra "ma"
   ·exact aba.intro (⟨ys++ [.int k tkk]⟩:StL) (by assumption) (by assumption) (by walk_at "mb") rfl (e9a h1 (decide_eq_true ((hiff k).mp (by assumption)))) (by k_extra "md")
   ·exact aba.intro (⟨ys⟩:StL) (by assumption) (by assumption) (by walk_at "mb") rfl (fCa h1 (decide_eq_false fun q=>absurd ((hiff k).mpr q) (by assumption))) (by k_extra "md")
  ·clear F N R
   rintro lw cS_ h2 tk2 hw hyl F N hD-
   k_extra "mf"
   obtain⟨yw⟩:=cS_
   dsimp only at hw hyl N hD ⊢
   rw [hvl] at hw
   change NV yw (jNa T x ns) at hw
   change News _ L' h2 ((lw,listOf yw.toArray yw.length)::_) at N
   exact hret _ _ _ (Fr.keep F) (aca N (.head _) hw (Nat.lt_trans (gVa hT x ns) (by decide)))))
end
section
theorem ar50:True:=by
 k_with "ar50" =>with_reducible first|exact owa ‹_› ‹_›
 trivial
inductive Src(h:Heap)(l:Addr):Prop
 |ik (d m:Int) (td tm:Tok) (c:Nat)
  (f0:h.get? l=some (listOf #[.int d td, .int m tm] c))
  (f1:0≤d)
  (f2:0≤m)
  (f3:m<2147483647):Src h l
theorem sya{c:Prop}[Decidable c]:(0:Int)≤if c then 1 else 0:=by split<;>decide
theorem ipa:∀ (w:World) (sc:Addr) (k:Nat) (tk:Tok) (ns:List Int) (hz:ns.length<64) (hk:k<2),
 RO1 w 485 [.ref sc, .int k tk] 8 (fun h=>∃ vs,h.IsList sc (List.toArray vs)∧IntsAre vs ns) (fun h h' v=>∃ l,v= .ref l∧Src h' l∧h.get? l=none):=gP_ (by trivial:Ca_ (by
 intro w sc k tk ns hz hk
 refine Mine.hRO ?_
 intro A s Q E
 revert hz hk
 revert w sc k tk ns A s Q E
 k_extra "mu"
 intro w sc k tk ns A s Q E hz hk H hr hp hret
 obtain⟨vs,hl,hv⟩:=hp
 have hvl:=IntsAre.length hv
 k_extra "mi"
 k_extra "ma"
 all_goals
  rename Fr _ _ _ _=>F
  rename News _ _ _ _=>N
  refine hret _ _ _ F.keep ⟨_,rfl,⟨_,_,_,_,0,(N _ (.head _)).1, ?_,Int.fmod_nonneg_of_pos _ (by decide),Int.fmod_lt_of_pos _ (by decide)⟩,(N _ (.head _)).2.2⟩
  refine Int.mul_nonneg ?_ ?_
  ·split<;>omega
  ·exact sya))
end
noncomputable abbrev aCa(w:World):=ela 441 252 w.params
section
theorem ar51:True:=by
 k_with "ar51" =>with_reducible first|((show _<_);first|exact ota ‹_› |exact nea ‹_› |exact m3a ‹_› |exact kBa ‹_› ‹_› |exact oka ‹_› ‹_›)
 trivial
theorem fca(w:World)(kind name uri loc value:Str)(c1 c2 c3 c4 c5:Tok)(po:Option Nat)(pv:Value)(hpv:b2a po pv):
 RO1 w 252 [.str kind c1, .str name c2, .str uri c3, .str loc c4, .str value c5,pv] 6 (fun _=>True) (fun h h' v=>∃ m:bha,v= .ref m.a∧m.r=⟨kind,name,uri,loc,value,po, [], [], []⟩∧m.ok∧
  Hid h h' (m.objs 252 w.params)∧(m.objs 252 w.params).Pairwise fun p q=> @Ne Nat p.1 q.1):=gP_ (by trivial:Ca_ (by
 intro A s Q E H hr _ hret
 k_extra "mH"
 k_extra "ma"
 rename Fr _ _ _ _=>F
 rename News _ _ _ _=>N
 rename_i x dx _ _ _ lx _ _ _ _ _ _ _ _ _ lc _ l2 _ la _ l3 _ ln _ l4 _
 have hN:=a5a N
 exact hret _ _ _ F.keep (bha.made hpv (a5a N) lx (by omega) (by omega) (by omega))))
theorem cYa(w:World)(M:aha)(tag:Addr->Nat×Nat)(ho:M.ok tag)(kind name uri loc value:Str)(c1 c2 c3 c4 c5:Tok)(po:Option Nat)(pv:Value)(hpv:b2a po pv)(hml:M.ms.length<60):
 RW1 w 277 [.ref M.t, .str kind c1, .str name c2, .str uri c3, .str loc c4, .str value c5,pv] 10 (fun g h=>Hid g h (M.led 441 252 w.params))
  (fun g _ h' v=>∃ (m:bha) (e:Nat) (tag':Addr->Nat×Nat),m.r=⟨kind,name,uri,loc,value,po, [], [], []⟩∧aha.ok {M with ms:=M.ms++ [m],ep2:=e} tag'∧Hid g h' (aha.led 441 252 w.params {M with ms:=M.ms++ [m],ep2:=e})∧∃ tk,v= .int M.ms.length tk):=gP_ (by trivial:Ca_ (by
 intro A s g Q E H hst hsz hr hhid hret
 have hvl:=M.vs_len
 k_extra "mv"
 have hall:∀ p∈(M.t,instObj 441 M.dt)::(M.dt,dictOf [⟨PyData.keyHash w.params (Str.ofString "rows"), .str (Str.ofString "rows") M.tk, .ref M.rl⟩] M.ep1)::but (M.led 441 252 w.params) M.rl,p.1≠M.rl:=by
  refine List.forall_mem_cons.mpr ⟨aUa ho.t ho.rl (fun e=>nomatch e),List.forall_mem_cons.mpr ⟨aUa ho.dt ho.rl (fun e=>nomatch e),g8a⟩⟩
 rename Fr _ _ _ _=>F
 rename News _ _ _ _=>N
 rename Below _ _ _ _=>B
 rename Frag.In _ _=>X
 rename Top _ _ _ _ _ _=>TT
 have N2:=News.sub N (l':=(M.rl,listOf M.vs.toArray M.ep2)::(M.t,instObj 441 M.dt)::(M.dt,dictOf [⟨PyData.keyHash w.params (Str.ofString "rows"), .str (Str.ofString "rows") M.tk, .ref M.rl⟩] M.ep1)::but (M.led 441 252 w.params) M.rl) (by
  intro p hp
  rcases lcM hp with rfl|hp
  ·exact .tail _ (.tail _ (.head _))
  rcases lcM hp with rfl|hp
  ·exact .head _
  rcases lcM hp with rfl|hp
  ·exact .tail _ (.head _)
  ·exact gxa p hp)
 clear N
 k_extra "ma"
 refine a9a (fca w kind name uri loc value _ _ _ _ _ po pv hpv) B X TT F N2 (by k_extra "mc") (by k_extra "mc") trivial ?_ rfl rfl
 rintro h' tk' r' F' N' st' ⟨m,rfl,hmr,hmo,hmh,hmd⟩
 have N3:=News.sub (fda F N' hmh) (l':=(M.rl,listOf M.vs.toArray M.ep2)::(M.t,instObj 441 M.dt)::(M.dt,dictOf [⟨PyData.keyHash w.params (Str.ofString "rows"), .str (Str.ofString "rows") M.tk, .ref M.rl⟩] M.ep1)::(m.objs 252 w.params++but (M.led 441 252 w.params) M.rl)) (by walk_at "mb")
 have hall2:∀ p∈(M.t,instObj 441 M.dt)::(M.dt,dictOf [⟨PyData.keyHash w.params (Str.ofString "rows"), .str (Str.ofString "rows") M.tk, .ref M.rl⟩] M.ep1)::(m.objs 252 w.params++but (M.led 441 252 w.params) M.rl),p.1≠M.rl:=by
  refine List.forall_mem_cons.mpr ⟨hall _ (.head _),List.forall_mem_cons.mpr ⟨hall _ (.tail _ (.head _)),fun p hp=> ?_⟩⟩
  rcases laM hp with hp|hp
  ·exact fNa hmh (N2 _ (.head _)).1 p hp
  ·exact g8a p hp
 have hmn:∀ p∈m.objs 252 w.params,∀ q∈M.led 441 252 w.params, @Ne Nat q.1 p.1:=fun p hp q hq=>by
  by_cases hq2:q.1=M.rl
  ·rw [hq2];exact(fNa hmh (N2 _ (.head _)).1 p hp).symm
  ·exact(fNa hmh (N2 q (.tail _ (.tail _ (.tail _ (dla hq hq2))))).1 p hp).symm
 clear N' N2 hall
 k_extra "ma"
 rename News _ _ _ _=>N4
 obtain⟨⟨tag',ho'⟩,hs'⟩:=aha.push ho hmo (M.ep2+1) hmd hmn
 refine hret _ _ _ (Fr.keep (by assumption)) ⟨m,M.ep2+1,tag',hmr,ho', ?_, ?_⟩
 ·intro p hp
  refine a5a N4 p ?_
  rcases hs' p hp with rfl|hp|⟨hp,hne⟩
  ·exact .head _
  ·exact .tail _ (.tail _ (.tail _ (laL _ hp)))
  ·exact .tail _ (.tail _ (.tail _ (laG _ (dla hp hne))))
 ·exact kqa (by simp [hvl])))
theorem dxa(w:World)(t:Addr)(kind name uri loc value:Str)(c1 c2 c3 c4 c5:Tok)(po:Option Nat)(pv:Value)(hpv:b2a po pv)(T:List aaa)(hT:T.length<60):
 RW1 w 277 [.ref t, .str kind c1, .str name c2, .str uri c3, .str loc c4, .str value c5,pv] 10 (fun g h=>∃ l,aCa w t T l∧Hid g h l)
  (fun g _ h' v=>(∃ l,aCa w t (T++ [⟨kind,name,uri,loc,value,po, [], [], []⟩]) l∧Hid g h' l)∧∃ tk,v= .int T.length tk):=by
 intro A s g Q E H hst hsz hr hp hret
 obtain⟨l,⟨M,tag,rfl,rfl,ho,rfl⟩,hhid⟩:=hp
 refine cYa w M tag ho kind name uri loc value c1 c2 c3 c4 c5 po pv hpv (by simpa using hT) A s g Q E H hst hsz hr hhid ?_
 rintro h' tk' r st' ⟨m,e,tag',hmr,ho',hh',tk,rfl⟩
 exact hret _ _ _ st' ⟨⟨_,⟨{M with ms:=M.ms++ [m],ep2:=e},tag',rfl,by simp [hmr],ho',rfl⟩,hh'⟩,kqa (by simp)⟩
end
section
theorem ar52:True:=by
 k_with "ar52" =>with_reducible first|exact kAa ‹_› |exact n4a ‹_› ‹_› |exact jea ‹_› ‹_›
 trivial
theorem e2a(w:World):
 RO1 w 441 [] 6 (fun _=>True) (fun h h' v=>∃ (t:Addr) (l:List (Addr×Obj)),v= .ref t∧aCa w t [] l∧Hid h h' l):=by
 intro A s Q E H hr _ hret
 k_extra "mH"
 k_extra "ma"
 rename Fr _ _ _ _=>F
 rename News _ _ _ _=>N
 rename_i x dx _ _ _ l1 _ _ _ rl _ l2 _
 exact hret _ _ _ F.keep (ela.made (a5a N) l1 l2.1)
theorem fea(w:World)(t:Addr)(T:List aaa)(hT:T.length<60):
 RW1 w 291 [.ref t] 14 (fun g h=>∃ l,aCa w t T l∧Hid g h l)
  (fun g _ h' v=>(∃ l,aCa w t (T++ [⟨sRoot,Str.ofString "",Str.ofString "",Str.ofString "",Str.ofString "",none, [], [], []⟩]) l∧Hid g h' l)∧∃ tk,v= .int T.length tk):=gP_ (by trivial:Ca_ (by
 intro A s g Q E H hst hsz hr hp hret
 obtain⟨l,htl,hhid⟩:=hp
 obtain⟨M,tag,rfl,rfl,ho,rfl⟩:=id htl
 k_extra "mv"
 rename Fr _ _ _ _=>F
 rename News _ _ _ _=>N
 rename Below _ _ _ _=>B
 rename Frag.In _ _=>X
 rename Top _ _ _ _ _ _=>TT
 have N2:=News.sub N (l':=M.top 441 w.params (M.ms.flatMap (bha.objs 252 w.params))) (fun p hp=>hp)
 clear N
 k_extra "ma"
 refine bra (dxa w M.t sRoot (Str.ofString "") (Str.ofString "") (Str.ofString "") (Str.ofString "") _ _ _ _ _ none _ b2a.none _ hT) B X TT F N2 (by k_extra "mc") (by k_extra "mc") (M.led 441 252 w.params) [] (fun p hp=>hp) (fun _ hp=>nomatch hp) (fun _ hp=>nomatch hp) (fun g' _ hh _ _=>⟨_,htl,hh⟩) ?_ rfl rfl
 rintro g' h' tk' r' F' N' st1 hl1 kp ⟨⟨l2,htl2,hh2⟩,tk2,rfl⟩
 k_extra "ma"
 exact hret _ _ _ F'.keep ⟨⟨l2,htl2,a5a (hl1 l2 hh2)⟩,_,rfl⟩))
noncomputable def eka(T:List aaa)(i:Nat)(ri r:aaa):List aaa:=(T++ [r]).set i {ri with children:=ri.children++ [T.length]}
theorem bla(w:World)(t:Addr)(i:Nat)(ti:Tok)(kind name uri loc value:Str)(c1 c2 c3 c4 c5:Tok)(T:List aaa)(hT:T.length<60)(ri:aaa)(hi:T[i]?=some ri)(hk:ri.kind=aLa∨ri.kind=sRoot)(hcl:ri.children.length<60):
 RW1 w 298 [.ref t, .int i ti, .str kind c1, .str name c2, .str uri c3, .str loc c4, .str value c5] 14 (fun g h=>∃ l,aCa w t T l∧Hid g h l)
  (fun g _ h' v=>(∃ l,aCa w t (eka T i ri ⟨kind,name,uri,loc,value,some i, [], [], []⟩) l∧Hid g h' l)∧∃ tk,v= .int T.length tk):=gP_ (by trivial:Ca_ (by
 intro A s g Q E H hst hsz hr hp hret
 obtain⟨l,htl,hhid⟩:=hp
 obtain⟨M,tag,rfl,hMT,ho,rfl⟩:=id htl
 k_extra "mv"
 rename Fr _ _ _ _=>F
 rename News _ _ _ _=>N
 rename Below _ _ _ _=>B
 rename Frag.In _ _=>X
 rename Top _ _ _ _ _ _=>TT
 have N2:=News.sub N (l':=M.top 441 w.params (M.ms.flatMap (bha.objs 252 w.params))) (fun p hp=>hp)
 clear N
 k_extra "ma"
 refine a9a (gNa w M.t i ti T ri hi (by omega)) B X TT F N2 (by k_extra "mc") (by k_extra "mc") (htl.at fun p hp=>(N2 p hp).1) ?_ rfl rfl
 rintro h' tk' r' F' N' st' ⟨a,rfl,d,lc,la,ln,k1,k2,k3,k4,k5,k6,k7,k8,k9,t1,t2,t3,t4,t5,ep,pv,e1,e2,e3⟩
 have I1:=eKa e1 e2
 clear N2 F
 have hks:([Str.ofString "root",Str.ofString "element"].any fun x=>x==ri.kind)=true:=by
  rcases hk with e|e<;>rw [e]<;>decide
 k_extra "ma"
 rename Fr _ _ _ _=>F
 rename News _ _ _ _=>N
 refine bra (dxa w M.t kind name uri loc value _ _ _ _ _ (some i) _ (b2a.some i _) T hT) B X TT F N (by k_extra "mc") (by k_extra "mc") (M.led 441 252 w.params) [] (fun p hp=>hp) (fun _ hp=>nomatch hp) (fun _ hp=>nomatch hp) (fun g' _ hh _ _=>⟨_,htl,hh⟩) ?_ rfl rfl
 rintro g2 h2 tk2 r2 F2-st1 hl1 kp ⟨⟨l2,⟨M2,tag2,hMt,hMT2,ho2,rfl⟩,hh2⟩,tk3,rfl⟩
 have hi2:(T++ [⟨kind,name,uri,loc,value,some i, [], [], []⟩])[i]?=some ri:=by
  rw [List.getElem?_append_left (List.getElem?_eq_some_iff.mp hi).1];exact hi
 obtain⟨m,hm,hmr,hmv⟩:=aha.get hMT2 hi2
 obtain⟨N2,hall⟩:=aha.pick_lc ho2 hm (hl1 _ hh2)
 have hms:m.vc.length<60:=by
  rw [(ho2.row i m hm).1.c.len,hmr];exact hcl
 have hvl:=M2.vs_len
 have hml:M2.ms.length<61:=by
  have:(M2.ms.map (·.r)).length=_:=congrArg List.length hMT2
  simp at this;omega
 have hi3:i<2^24:=by have:=(List.getElem?_eq_some_iff.mp hi).1;omega
 rw [<-hMt] at F2 hret
 clear F N st' e1 e2 I1
 k_extra "ma"
 rename Fr _ _ _ _=>F
 rename News _ _ _ _=>N
 obtain⟨l4,hl4,hh4⟩:=aha.lay_lc ho2 hm (a5a N)
 rw [hMT2,hmr] at hl4
 exact hret _ _ _ F.keep ⟨⟨l4,hl4,hh4⟩,_,rfl⟩))
end
section
theorem ar53:True:=by
 k_with "ar53" =>
  fail
 trivial
theorem dGa(w:World)(t:Addr)(i:Nat)(ti:Tok)(name uri loc:Str)(c1 c2 c3:Tok)(T:List aaa)(hT:T.length<60)(ri:aaa)(hi:T[i]?=some ri)(hk:ri.kind=aLa∨ri.kind=sRoot)(hcl:ri.children.length<60):
 RW1 w 305 [.ref t, .int i ti, .str name c1, .str uri c2, .str loc c3] 18 (fun g h=>∃ l,aCa w t T l∧Hid g h l)
  (fun g _ h' v=>(∃ l,aCa w t (eka T i ri ⟨aLa,name,uri,loc,Str.ofString "",some i, [], [], []⟩) l∧Hid g h' l)∧∃ tk,v= .int T.length tk):=gP_ (by trivial:Ca_ (by
 intro A s g Q E H hst hsz hr hp hret
 obtain⟨l,htl,hhid⟩:=hp
 obtain⟨M,tag,rfl,rfl,ho,rfl⟩:=id htl
 k_extra "mv"
 rename Fr _ _ _ _=>F
 rename News _ _ _ _=>N
 rename Below _ _ _ _=>B
 rename Frag.In _ _=>X
 rename Top _ _ _ _ _ _=>TT
 have N2:=News.sub N (l':=M.top 441 w.params (M.ms.flatMap (bha.objs 252 w.params))) (fun p hp=>hp)
 clear N
 k_extra "ma"
 refine bra (bla w M.t i ti aLa name uri loc (Str.ofString "") _ _ _ _ _ _ hT ri hi hk hcl) B X TT F N2 (by k_extra "mc") (by k_extra "mc") (M.led 441 252 w.params) [] (fun p hp=>hp) (fun _ hp=>nomatch hp) (fun _ hp=>nomatch hp) (fun g' _ hh _ _=>⟨_,htl,hh⟩) ?_ rfl rfl
 rintro g' h' tk' r' F' N' st1 hl1 kp ⟨⟨l2,htl2,hh2⟩,tk2,rfl⟩
 k_extra "ma"
 exact hret _ _ _ F'.keep ⟨⟨l2,htl2,a5a (hl1 l2 hh2)⟩,_,rfl⟩))
theorem fra(w:World)(t:Addr)(i:Nat)(ti:Tok)(value:Str)(c1:Tok)(T:List aaa)(hT:T.length<60)(ri:aaa)(hi:T[i]?=some ri)(hk:ri.kind=aLa∨ri.kind=sRoot)(hcl:ri.children.length<60):
 RW1 w 312 [.ref t, .int i ti, .str value c1] 18 (fun g h=>∃ l,aCa w t T l∧Hid g h l)
  (fun g _ h' v=>(∃ l,aCa w t (eka T i ri ⟨(Str.ofString "text"),Str.ofString "",Str.ofString "",Str.ofString "",value,some i, [], [], []⟩) l∧Hid g h' l)∧∃ tk,v= .int T.length tk):=gP_ (by trivial:Ca_ (by
 intro A s g Q E H hst hsz hr hp hret
 obtain⟨l,htl,hhid⟩:=hp
 obtain⟨M,tag,rfl,rfl,ho,rfl⟩:=id htl
 k_extra "mv"
 rename Fr _ _ _ _=>F
 rename News _ _ _ _=>N
 rename Below _ _ _ _=>B
 rename Frag.In _ _=>X
 rename Top _ _ _ _ _ _=>TT
 have N2:=News.sub N (l':=M.top 441 w.params (M.ms.flatMap (bha.objs 252 w.params))) (fun p hp=>hp)
 clear N
 k_extra "ma"
 refine bra (bla w M.t i ti (Str.ofString "text") (Str.ofString "") (Str.ofString "") (Str.ofString "") value _ _ _ _ _ _ hT ri hi hk hcl) B X TT F N2 (by k_extra "mc") (by k_extra "mc") (M.led 441 252 w.params) [] (fun p hp=>hp) (fun _ hp=>nomatch hp) (fun _ hp=>nomatch hp) (fun g' _ hh _ _=>⟨_,htl,hh⟩) ?_ rfl rfl
 rintro g' h' tk' r' F' N' st1 hl1 kp ⟨⟨l2,htl2,hh2⟩,tk2,rfl⟩
 k_extra "ma"
 exact hret _ _ _ F'.keep ⟨⟨l2,htl2,a5a (hl1 l2 hh2)⟩,_,rfl⟩))
theorem b7a(w:World)(t:Addr)(i:Nat)(ti:Tok)(value:Str)(c1:Tok)(T:List aaa)(hT:T.length<60)(ri:aaa)(hi:T[i]?=some ri)(hk:ri.kind=aLa∨ri.kind=sRoot)(hcl:ri.children.length<60):
 RW1 w 319 [.ref t, .int i ti, .str value c1] 18 (fun g h=>∃ l,aCa w t T l∧Hid g h l)
  (fun g _ h' v=>(∃ l,aCa w t (eka T i ri ⟨(Str.ofString "comment"),Str.ofString "",Str.ofString "",Str.ofString "",value,some i, [], [], []⟩) l∧Hid g h' l)∧∃ tk,v= .int T.length tk):=gP_ (by trivial:Ca_ (by
 intro A s g Q E H hst hsz hr hp hret
 obtain⟨l,htl,hhid⟩:=hp
 obtain⟨M,tag,rfl,rfl,ho,rfl⟩:=id htl
 k_extra "mv"
 rename Fr _ _ _ _=>F
 rename News _ _ _ _=>N
 rename Below _ _ _ _=>B
 rename Frag.In _ _=>X
 rename Top _ _ _ _ _ _=>TT
 have N2:=News.sub N (l':=M.top 441 w.params (M.ms.flatMap (bha.objs 252 w.params))) (fun p hp=>hp)
 clear N
 k_extra "ma"
 refine bra (bla w M.t i ti (Str.ofString "comment") (Str.ofString "") (Str.ofString "") (Str.ofString "") value _ _ _ _ _ _ hT ri hi hk hcl) B X TT F N2 (by k_extra "mc") (by k_extra "mc") (M.led 441 252 w.params) [] (fun p hp=>hp) (fun _ hp=>nomatch hp) (fun _ hp=>nomatch hp) (fun g' _ hh _ _=>⟨_,htl,hh⟩) ?_ rfl rfl
 rintro g' h' tk' r' F' N' st1 hl1 kp ⟨⟨l2,htl2,hh2⟩,tk2,rfl⟩
 k_extra "ma"
 exact hret _ _ _ F'.keep ⟨⟨l2,htl2,a5a (hl1 l2 hh2)⟩,_,rfl⟩))
theorem bva(w:World)(t:Addr)(i:Nat)(ti:Tok)(target value:Str)(c1 c2:Tok)(T:List aaa)(hT:T.length<60)(ri:aaa)(hi:T[i]?=some ri)(hk:ri.kind=aLa∨ri.kind=sRoot)(hcl:ri.children.length<60):
 RW1 w 326 [.ref t, .int i ti, .str target c1, .str value c2] 18 (fun g h=>∃ l,aCa w t T l∧Hid g h l)
  (fun g _ h' v=>(∃ l,aCa w t (eka T i ri ⟨(Str.ofString "instruction"),target,Str.ofString "",target,value,some i, [], [], []⟩) l∧Hid g h' l)∧∃ tk,v= .int T.length tk):=gP_ (by trivial:Ca_ (by
 intro A s g Q E H hst hsz hr hp hret
 obtain⟨l,htl,hhid⟩:=hp
 obtain⟨M,tag,rfl,rfl,ho,rfl⟩:=id htl
 k_extra "mv"
 rename Fr _ _ _ _=>F
 rename News _ _ _ _=>N
 rename Below _ _ _ _=>B
 rename Frag.In _ _=>X
 rename Top _ _ _ _ _ _=>TT
 have N2:=News.sub N (l':=M.top 441 w.params (M.ms.flatMap (bha.objs 252 w.params))) (fun p hp=>hp)
 clear N
 k_extra "ma"
 refine bra (bla w M.t i ti (Str.ofString "instruction") target (Str.ofString "") target value _ _ _ _ _ _ hT ri hi hk hcl) B X TT F N2 (by k_extra "mc") (by k_extra "mc") (M.led 441 252 w.params) [] (fun p hp=>hp) (fun _ hp=>nomatch hp) (fun _ hp=>nomatch hp) (fun g' _ hh _ _=>⟨_,htl,hh⟩) ?_ rfl rfl
 rintro g' h' tk' r' F' N' st1 hl1 kp ⟨⟨l2,htl2,hh2⟩,tk2,rfl⟩
 k_extra "ma"
 exact hret _ _ _ F'.keep ⟨⟨l2,htl2,a5a (hl1 l2 hh2)⟩,_,rfl⟩))
end
section
theorem ar54:True:=by
 k_with "ar54" =>with_reducible first|((show _<_);first|exact n8a ‹_› ‹_› |exact nIa ‹_› |exact m8a ‹_› ‹_› |exact nAa ‹_› ‹_›)
 trivial
inductive hUa(w:World)(h:Heap)(t:Addr)(i:Nat)(a:Addr):Prop
 |ik (dt rl:Addr) (k ep1 ep2:Nat) (vs:List Value)
  (f0:h.get? t=some (instObj 441 dt))
  (f1:h.get? dt=some (dictOf [⟨PyData.keyHash w.params (Str.ofString "rows"), .str (Str.ofString "rows") k, .ref rl⟩] ep1))
  (f2:h.get? rl=some (listOf vs.toArray ep2))
  (f3:vs[i]?=some (.ref a))
  (f4:vs.length<100):hUa w h t i a
theorem hUa.stays{w:World}{h h':Heap}{t a:Addr}{i:Nat}(H:hUa w h t i a)(st:h.StaysIn h'):hUa w h' t i a:=by
 obtain⟨dt,rl,k,ep1,ep2,vs,e1,e2,e3,e4,e5⟩:=H
 exact⟨dt,rl,k,ep1,ep2,vs,st _ _ e1,st _ _ e2,st _ _ e3,e4,e5⟩
theorem gka(w:World)(t:Addr)(i:Nat)(ti:Tok)(a:Addr):
 RO1 w 284 [.ref t, .int i ti] 3 (fun h=>hUa w h t i a) (fun _ _ v=>v= .ref a):=gP_ (by trivial:Ca_ (by
 intro A s Q E H hr hp hret
 obtain⟨dt,rl,tk,ep1,ep2,vs,e1,e2,e3,ha,hvs⟩:=hp
 have I1:=eKa e1 e2
 have L1:s.heap.IsList rl vs.toArray:=⟨_,e3,rfl,_,rfl⟩
 have hi2:i<vs.length:=(List.getElem?_eq_some_iff.mp ha).1
 have hi1:i<2^24:=by omega
 k_extra "mk"
 k_extra "ma"
 exact hret _ _ _ (Fr.keep (by assumption)) rfl))
theorem dEa(w:World)(t:Addr)(i:Nat)(ti:Tok)(a:Addr)(r:aaa)(hk:r.kind=aLa):
 RO1 w 333 [.ref t, .int i ti] 6 (fun h=>hUa w h t i a∧f6a 252 w.params h a r) (fun _ _ v=>v= .ref a):=gP_ (by trivial:Ca_ (by
 intro A s Q E H hr hp hret
 obtain⟨hp,d,lc,la,ln,k1,k2,k3,k4,k5,k6,k7,k8,k9,t1,t2,t3,t4,t5,ep,pv,e1,e2,e3⟩:=hp
 have I1:=eKa e1 e2
 rw [hk] at I1
 obtain⟨dt,rl,k,ep1,ep2,vs,f1,f2,f3⟩:=id hp
 have I0:=eKa f1 f2
 k_extra "mk"
 rename Fr _ _ _ _=>F
 rename News _ _ _ _=>N
 rename Below _ _ _ _=>B
 rename Frag.In _ _=>X
 rename Top _ _ _ _ _ _=>TT
 k_extra "ma"
 refine a9a (gka w t i ti a) B X TT F N (by k_extra "mc") (by k_extra "mc") (by exact hp.stays F.keep) ?_ rfl rfl
 rintro h' tk' r' F' N' st' rfl
 k_extra "ma"
 exact hret _ _ _ (Fr.keep (by assumption)) rfl))
noncomputable def f3a(T:List aaa)(i:Nat)(ri r:aaa):List aaa:=(T++ [r]).set i {ri with attrs:=ri.attrs++ [T.length]}
theorem cSa(w:World)(t:Addr)(i:Nat)(ti:Tok)(name uri loc value:Str)(c1 c2 c3 c4:Tok)(T:List aaa)(W:WF T)(ri:aaa)(hi:T[i]?=some ri)(hk:ri.kind=aLa)(hno:∀ j rj,j∈ri.attrs->T[j]?=some rj->(rj.uri==uri)=true->(rj.loc==loc)=false):
 RW1 w 340 [.ref t, .int i ti, .str name c1, .str uri c2, .str loc c3, .str value c4] 18 (fun g h=>∃ l,aCa w t T l∧Hid g h l)
  (fun g _ h' v=>(∃ l,aCa w t (f3a T i ri ⟨afa,name,uri,loc,value,some i, [], [], []⟩) l∧Hid g h' l)∧∃ tk,v= .int T.length tk):=gP_ (by trivial:Ca_ (by
 intro A s g Q E H hst hsz hr hp hret
 obtain⟨l,htl,hhid⟩:=hp
 obtain⟨M,tag,rfl,hMT,ho,rfl⟩:=id htl
 obtain⟨m,hm,hmr,hmv⟩:=aha.get hMT hi
 have hvl:=M.vs_len
 have hml:M.ms.length<60:=by have:=W.small;rw [<-hMT] at this;simpa using this
 have hva:=(ho.row i m hm).1.t
 have hal:m.va.length<60:=by rw [hva.len,hmr,<-bFa hi];exact c7a W i
 k_extra "mv"
 rename Fr _ _ _ _=>F
 rename News _ _ _ _=>N
 rename Below _ _ _ _=>B
 rename Frag.In _ _=>X
 rename Top _ _ _ _ _ _=>TT
 have N2:=News.sub N (l':=M.view 441 252 w.params m) (aha.view_sub hm)
 clear N
 k_extra "ma"
 refine a9a (dEa w M.t i ti m.a ri hk) B X TT F N2 (by k_extra "mc") (by k_extra "mc") ?_ ?_ rfl rfl
 ·refine⟨⟨M.dt,M.rl,M.tk,M.ep1,M.ep2,M.vs,(N2 _ (.head _)).1,(N2 _ (.tail _ (.head _))).1,(N2 _ (.tail _ (.tail _ (.head _)))).1,hmv,by omega⟩, ?_⟩
  rw [<-hmr]
  exact bha.at _ _ (ho.row i m hm).1 fun p hp=>(N2 p (.tail _ (.tail _ (.tail _ (.tail _ (.tail _ (.tail _ (.tail _ (.tail _ (aha.mem_row hm p hp)))))))))).1
 rintro h' tk' r' F' N' st' rfl
 k_extra "ma"
 rename Fr _ _ _ _=>F
 rename News _ _ _ _=>N
 refine bCa rfl (σ:=Unit) (fun _=> []) (fun _=> []) [Str.ofString "known"] (fun _ _=>True) () (M.led 441 252 w.params) rfl (by k_extra "mg") (N _ (.tail _ (.tail _ (.tail _ (.tail _ (.tail _ (.tail _ (.head _)))))))).2.1 F N
  (fun p hp=> .tail _ (.tail _ (.tail _ (.tail _ (.tail _ (.tail _ (.tail _ (.tail _ hp)))))))) (by k_extra "md") (by k_extra "md") (by k_extra "md") trivial ?_ ?_
 ·rintro k v ⟨⟩ u h tk own hvk hkl _ F N hsep
  dsimp only at F N ⊢
  obtain⟨j,tj,hj,rfl⟩:=hva.get hvk
  rw [hmr] at hj
  have hja:=W.att i j (by rw [bFa hi];exact List.mem_of_getElem? hj)
  obtain⟨rj,hrj⟩:∃ rj,T[j]?=some rj:=⟨_,List.getElem?_eq_getElem hja.2.1⟩
  obtain⟨mj,hmj,hmjr,hmjv⟩:=aha.get hMT hrj
  have hj3:j<2^24:=by have:=W.small;omega
  cases hq1:mj.r.uri==uri with
  |false=>
   have N3:=News.sub N (l':=M.view 441 252 w.params mj++own) (fun p hp=>laG _ ((laM hp).elim (fun hp=>laL _ (aha.view_sub hmj p hp)) (laG _)))
   dsimp only [List.cons_append] at N3
   clear N
   k_extra "ma"
   exact aHa.intro () (by assumption) (by assumption) (fun p hp=> .tail _ (.tail _ (.tail _ (.tail _ (.tail _ (.tail _ (.tail _ (.tail _ (show p∈_++own by simpa using hp))))))))) trivial (by k_extra "md") (by k_extra "md") (by k_extra "mj")
  |true=>
   cases hq2:mj.r.loc==loc with
   |false=>
    have N3:=News.sub N (l':=M.view 441 252 w.params mj++own) (fun p hp=>laG _ ((laM hp).elim (fun hp=>laL _ (aha.view_sub hmj p hp)) (laG _)))
    dsimp only [List.cons_append] at N3
    clear N
    k_extra "ma"
    exact aHa.intro () (by assumption) (by assumption) (fun p hp=> .tail _ (.tail _ (.tail _ (.tail _ (.tail _ (.tail _ (.tail _ (.tail _ (show p∈_++own by simpa using hp))))))))) trivial (by k_extra "md") (by k_extra "md") (by k_extra "mj")
   |true=>
    rw [hmjr] at hq1 hq2
    exact Bool.noConfusion ((hno j rj (List.mem_of_getElem? hj) hrj hq1).symm.trans hq2)
 ·rintro⟨⟩ u h tk _ F N hsep
  dsimp only at F N ⊢
  have N2:=News.sub N (l':=M.view 441 252 w.params m) (fun p hp=>(aha.view_sub hm p hp))
  clear N
  k_extra "ma"
  refine bra (cYa w M tag ho afa name uri loc value _ _ _ _ _ (some i) _ (b2a.some i _) hml) B X TT F N2 (by k_extra "mc") (by k_extra "mc") (M.led 441 252 w.params) [] (fun p hp=> .tail _ (.tail _ (.tail _ (.tail _ (.tail _ (.tail _ (.tail _ (.tail _ hp)))))))) (fun _ hp=>nomatch hp) (fun _ hp=>nomatch hp) (fun g' _ hh _ _=>hh) ?_ rfl rfl
  rintro g2 h2 tk2 r2 F2-st1 hl1 kp ⟨m',e,tag2,hmr',ho2,hh2,tk3,rfl⟩
  have hm2:(aha.ms {M with ms:=M.ms++ [m'],ep2:=e})[i]?=some m:=by
   show(M.ms++ [m'])[i]?=some m
   rw [List.getElem?_append_left (List.getElem?_eq_some_iff.mp hm).1];exact hm
  obtain⟨N3,hall⟩:=aha.pick_la ho2 hm2 (hl1 _ hh2)
  clear F N2
  k_extra "ma"
  rename Fr _ _ _ _=>F
  rename News _ _ _ _=>N
  obtain⟨l4,hl4,hh4⟩:=aha.lay_la ho2 hm2 (a5a N)
  have hMl:M.ms.length=T.length:=by rw [<-hMT];simp
  rw [List.map_append,hMT,hmr,hMl] at hl4
  rw [hMl]
  simp only [List.map_cons,List.map_nil,hmr'] at hl4
  exact hret _ _ _ F.keep ⟨⟨l4,hl4,hh4⟩,_,rfl⟩))
end
section
theorem ar55:True:=by
 k_with "ar55" =>with_reducible first|exact oia ‹_› |exact lFa ‹_› ‹_›
 trivial
inductive eZa(o:Obj):Prop
 |ik (d m:Int) (td tm:Tok) (c:Nat)
  (f0:o=listOf [Value.int d td, .int m tm].toArray c)
  (f1:0≤d)
  (f2:0≤m)
  (f3:m<2147483647):eZa o
theorem Src.o{h:Heap}{l:Addr}(H:Src h l):∃ o,eZa o∧h.get? l=some o:=by
 obtain⟨d,m,td,tm,c,e,h1,h2,h3⟩:=H
 exact⟨_,⟨d,m,td,tm,c,rfl,h1,h2,h3⟩,e⟩
theorem k1a{a:Int}{n:Nat}(h0:0≤a)(h:a<n)(t:Tok):∃ (r:Nat) (t':Tok),Value.int a t= .int (r:Nat) t'∧r<n:=⟨a.toNat,t,by rw [Int.toNat_of_nonneg h0],by omega⟩
theorem k3a{prog:Program}{w:World}{A:Around}{E:Value->Shared->Prop}{s:Shared}{a b:Int}{t u:Tok}{Q:Value->Shared->Prop}(hb:0<b)(h:∀ (r:Int) (t':Tok) (k:Nat),0≤r->r<b->Q (.int r t') {s with toks:=k}):
 wpAny (model prog w) A (binaryOp .Mod (.int a t) (.int b u)) Q E s:=mod_int' (by omega) (h _ _ _ (Int.fmod_nonneg_of_pos _ hb) (Int.fmod_lt_of_pos _ hb))
theorem lga{prog:Program}{w:World}{A:Around}{E:Value->Shared->Prop}{s:Shared}{a b:Int}{t u:Tok}{Q:Value->Shared->Prop}(ha:0≤a)(hb:0<b)(hz:b<1000)(h:∀ (r:Int) (t':Tok) (k:Nat),0≤r->Q (.int r t') {s with toks:=k}):
 wpAny (model prog w) A (binaryOp .FloorDiv (.int a t) (.int b u)) Q E s:=floordiv_int (by omega) (h _ _ _ (Int.fdiv_nonneg ha (by omega))) (Or.inl (PyProof.noPylong_small (by omega)))
theorem q0a:True:=by
 k_with "S55 binaryOp Mod int int" =>
  ((refine k3a (by omega) ?_);intro _ _ _ _ _)
 k_with "S55 binaryOp FloorDiv int int" =>
  ((refine lga (by omega) (by omega) (by omega) ?_);intro _ _ _ _)
 k_with "S55 binaryOp Mult int int" =>
  (refine mul_int ?_ (IntMulOk.of_left (intBits_le_64 (by(show _≤(_:Int));simp;omega) (by(show(_:Int)≤_);simp;omega))))
 trivial
theorem fza:∀ (w:World) (sr:Addr) (top:Nat) (tt:Tok) (h0:0<top) (h1:top<1000),
 RW1 w 492 [.ref sr, .int top tt] 4 (fun g h=>∃ o,eZa o∧Hid g h [(sr,o)])
  (fun g _ h' v=>(∃ o,eZa o∧Hid g h' [(sr,o)])∧∃ (r:Nat) (t:Tok),v= .int r t∧r<top):=gP_ (by trivial:Ca_ (by
 intro w sr top tt h0 h1
 refine Mine.hRW ?_
 intro A s g Q E
 revert h0 h1
 revert w sr top tt A s g Q E
 k_extra "mJ"
 intro w sr top tt A s g Q E h0 h1 H hst hsz hr hp hret
 obtain⟨o,⟨d,m,td,tm,c,rfl,b1,b2,b3⟩,hhid⟩:=hp
 k_extra "my"
 k_extra "ma"
 all_goals
  rename Fr _ _ _ _=>F
  rename News _ _ _ _=>N
  refine hret _ _ _ F.keep ⟨⟨_,⟨_,_,_,_,_,rfl, ?_, ?_, ?_⟩,a5a N⟩,k1a (by assumption) (by assumption) _⟩
 all_goals omega))
theorem jGa:∀ (w:World) (sr tl:Addr) (vs:List Value) (h0:0<vs.length) (h1:vs.length<1000),
 RW1 w 499 [.ref sr, .ref tl] 8 (fun g h=>(∃ o,eZa o∧Hid g h [(sr,o)])∧g.IsList tl vs.toArray)
  (fun g _ h' v=>(∃ o,eZa o∧Hid g h' [(sr,o)])∧v∈vs):=gP_ (by trivial:Ca_ (by
 intro w sr tl vs h0 h1
 refine Mine.hRW ?_
 intro A s g Q E
 revert h0 h1
 revert w sr tl vs A s g Q E
 k_extra "mJ"
 intro w sr tl vs A s g Q E h0 h1 H hst hsz hr hp hret
 obtain⟨hp2,hl⟩:=hp
 revert hp2
 k_extra "ms"
 intro o
 rintro⟨ho,hhid⟩
 k_extra "my"
 k_extra "ma"
 rename Fr _ _ _ _=>F
 rename News _ _ _ _=>N
 rename Below _ _ _ _=>B
 rename Frag.In _ _=>X
 rename Top _ _ _ _ _ _=>TT
 refine bra (fza w sr vs.length _ h0 h1) B X TT F N (by k_extra "mc") (by k_extra "mc") [(sr,o)] [] (fun p hp=>hp) (fun _ hp=>nomatch hp) (fun _ hp=>nomatch hp) (fun g' _ hh _ _=>⟨o,ho,hh⟩) ?_ rfl rfl
 rintro g' h' tk' r' F' N' st1 hl1 kp ⟨⟨o2,ho2,hh2⟩,k,tk2,rfl,hk⟩
 have hk2:vs[k]?=some vs[k]:=List.getElem?_eq_getElem hk
 clear F N N'
 have N2:=hl1 _ hh2
 k_extra "ma"
 exact hret _ _ _ F'.keep ⟨⟨o2,ho2,a5a N2⟩,List.getElem_mem hk⟩))
end
section
theorem ar56:True:=by
 k_with "ar56" =>
  fail
 trivial
section
variable {w:World} {A₀:Around} {base g:Heap} {outer:List Env} {p:Program} {loose:List Str} {mean:ExcName->Option Value} {mg mb:Str->Option Value} {d u:Nat} {gd:Option (List Code)} {L:Addr} {m:Str->Option Value} {env:Env}
 {f:Addr} {vals:List Value} {n:Nat} {s:Shared} {Q E:Value->Shared->Prop} {news:List (Addr×Obj)}
theorem fba{sr Dv:Addr}{vs:List Value}{c:Nat}{o:Obj}(h0:0<vs.length)(h1:vs.length<1000)(ho:eZa o)(B:Below A₀ base outer g)(X:(hd.heap_1 w.params).In g)(T:Top p loose mean mg mb g)(F:Fr g L s.heap m)(N:News g L s.heap news)(hd:d+8<recursionLimit)(hu:u+8*8+200<cLine)
 (hs:(sr,o)∈news) (hv:(Dv,listOf vs.toArray c)∈news) (hne: @Ne Nat Dv sr) (rest:List (Addr×Obj)) (h2:∀ p∈rest,p∈news) (h3:∀ p∈rest, @Ne Nat p.1 sr)
 (h:∀ (h':Heap) (tk':Nat) (v:Value) (o':Obj),Fr g L h' m->eZa o'->News g L h' ((sr,o')::rest)->v∈vs->Q v {s with heap:=h',toks:=tk'})
 (hf:env.frame=some L) (hk:env.scope.kind= .function):
 wpAny (model PySem.Challenge.pw_nu0071_02 w) (dya d env outer gd u) (call (.ref 499) [.ref sr, .ref Dv]) Q E s:=by
 refine bra (jGa w sr Dv vs h0 h1) B X T F N hd hu [(sr,o)] ((Dv,listOf vs.toArray c)::rest) (fun p hp=>by rw [lsM hp];exact hs) (List.forall_mem_cons.mpr ⟨hv,h2⟩) (fun p hp q hq=>by
  rw [lsM hq]
  rcases lcM hp with rfl|hp
  ·exact hne
  ·exact h3 p hp) (fun g' st1 hh h2 _=>⟨⟨o,ho,hh⟩,⟨_,h2 _ (.head _),rfl,_,rfl⟩⟩) ?_ hf hk
 rintro g6 h6 tk8 r6 F6 N6 st6 hl6 kp6 ⟨⟨o6,ho6,hh6⟩,hv6⟩
 exact h h6 tk8 r6 o6 F6 ho6 (List.forall_mem_cons.mpr ⟨hl6 _ hh6 _ (.head _),fun p hp=>N6 p (.tail _ hp)⟩) hv6
theorem bja{sr:Addr}{top:Nat}{tt:Tok}{o:Obj}(h0:0<top)(h1:top<1000)(ho:eZa o)(B:Below A₀ base outer g)(X:(hd.heap_1 w.params).In g)(T:Top p loose mean mg mb g)(F:Fr g L s.heap m)(N:News g L s.heap news)(hd:d+4<recursionLimit)(hu:u+8*4+200<cLine)
 (hs:(sr,o)∈news) (rest:List (Addr×Obj)) (h2:∀ p∈rest,p∈news) (h3:∀ p∈rest, @Ne Nat p.1 sr)
 (h:∀ (h':Heap) (tk':Nat) (r:Nat) (tr:Tok) (o':Obj),Fr g L h' m->eZa o'->News g L h' ((sr,o')::rest)->r<top->Q (.int r tr) {s with heap:=h',toks:=tk'})
 (hf:env.frame=some L) (hk:env.scope.kind= .function):
 wpAny (model PySem.Challenge.pw_nu0071_02 w) (dya d env outer gd u) (call (.ref 492) [.ref sr, .int top tt]) Q E s:=by
 refine bra (fza w sr top tt h0 h1) B X T F N hd hu [(sr,o)] rest (fun p hp=>by rw [lsM hp];exact hs) h2 (fun p hp q hq=>by
  rw [lsM hq];exact h3 p hp) (fun g' st1 hh h2 _=>⟨o,ho,hh⟩) ?_ hf hk
 rintro g6 h6 tk8 r6 F6 N6 st6 hl6 kp6 ⟨⟨o6,ho6,hh6⟩,r,tr,rfl,hr⟩
 exact h h6 tk8 r tr o6 F6 ho6 (List.forall_mem_cons.mpr ⟨hl6 _ hh6 _ (.head _),N6⟩) hr
theorem e1a{t:Addr}{T:List aaa}{lt:List (Addr×Obj)}{P:List aaa->Value->Prop}(S:RW1 w f vals n (fun g h=>∃ l,aCa w t T l∧Hid g h l) (fun g _ h' v=>∃ T' l,aCa w t T' l∧Hid g h' l∧P T' v))(B:Below A₀ base outer g)(X:(hd.heap_1 w.params).In g)(TT:Top p loose mean mg mb g)(F:Fr g L s.heap m)(N:News g L s.heap news)(hd:d+n<recursionLimit)(hu:u+8*n+200<cLine)
 (htl:aCa w t T lt) (rest:List (Addr×Obj)) (h1:∀ p∈lt,p∈news) (h2:∀ p∈rest,p∈news) (h3:∀ p∈rest,∀ q∈lt, @Ne Nat p.1 q.1)
 (h:∀ (h':Heap) (tk':Nat) (v:Value) (T':List aaa) (l':List (Addr×Obj)),Fr g L h' m->aCa w t T' l'->News g L h' (l'++rest)->(∀ p∈l',∀ q∈rest, @Ne Nat q.1 p.1)->P T' v->Q v {s with heap:=h',toks:=tk'})
 (hf:env.frame=some L) (hk:env.scope.kind= .function):
 wpAny (model PySem.Challenge.pw_nu0071_02 w) (dya d env outer gd u) (call (.ref f) vals) Q E s:=by
 refine bra S B X TT F N hd hu lt rest h1 h2 h3 (fun g' _ hh _ _=>⟨_,htl,hh⟩) ?_ hf hk
 rintro g6 h6 tk8 r6 F6 N6 st6 hl6 kp6 ⟨T',l',htl',hh',hP⟩
 exact h h6 tk8 r6 T' l' F6 htl' (cXa (hl6 _ hh') N6) (c2a hh' kp6) hP
end
theorem ima{w:World}{f t:Addr}{vals:List Value}{n k:Nat}{T T1:List aaa}(S:RW1 w f vals n (fun g h=>∃ l,aCa w t T l∧Hid g h l) (fun g _ h' v=>(∃ l,aCa w t T1 l∧Hid g h' l)∧∃ tk,v= .int k tk)):
 RW1 w f vals n (fun g h=>∃ l,aCa w t T l∧Hid g h l) (fun g _ h' v=>∃ T' l,aCa w t T' l∧Hid g h' l∧(T'=T1∧∃ tk,v= .int k tk)):=
 fun A s g Q E H hst hsz hr hp hret=>S A s g Q E H hst hsz hr hp fun h' tk' r st q=>hret h' tk' r st (by obtain⟨⟨l,a,b⟩,c⟩:=q;exact⟨_,l,a,b,rfl,c⟩)
section
variable {w:World} {A₀:Around} {base g:Heap} {outer:List Env} {p:Program} {loose:List Str} {mean:ExcName->Option Value} {mg mb:Str->Option Value} {d u:Nat} {gd:Option (List Code)} {L:Addr} {m:Str->Option Value} {env:Env}
 {f:Addr} {vals:List Value} {n:Nat} {s:Shared} {Q E:Value->Shared->Prop} {news:List (Addr×Obj)}
theorem dha{t:Addr}{T T1:List aaa}{k:Nat}{lt:List (Addr×Obj)}(S:RW1 w f vals n (fun g h=>∃ l,aCa w t T l∧Hid g h l) (fun g _ h' v=>(∃ l,aCa w t T1 l∧Hid g h' l)∧∃ tk,v= .int k tk))(B:Below A₀ base outer g)(X:(hd.heap_1 w.params).In g)(TT:Top p loose mean mg mb g)(F:Fr g L s.heap m)(N:News g L s.heap news)(hd:d+n<recursionLimit)(hu:u+8*n+200<cLine)
 (htl:aCa w t T lt) (rest:List (Addr×Obj)) (h1:∀ p∈lt,p∈news) (h2:∀ p∈rest,p∈news) (h3:∀ p∈rest,∀ q∈lt, @Ne Nat p.1 q.1)
 (h:∀ (T':List aaa) (h':Heap) (tk':Nat) (tk:Tok) (l':List (Addr×Obj)),T'=T1->Fr g L h' m->aCa w t T' l'->News g L h' (l'++rest)->(∀ p∈l',∀ q∈rest, @Ne Nat q.1 p.1)->Q (.int k tk) {s with heap:=h',toks:=tk'})
 (hf:env.frame=some L) (hk:env.scope.kind= .function):
 wpAny (model PySem.Challenge.pw_nu0071_02 w) (dya d env outer gd u) (call (.ref f) vals) Q E s:=
 e1a (ima S) B X TT F N hd hu htl rest h1 h2 h3 (fun h' tk' v T' l' F' htl' N' hap hP=>by
  obtain⟨hT,tk,rfl⟩:=hP
  exact h T' h' tk' tk l' hT F' htl' N' hap) hf hk
end
end
section
theorem ar57:True:=by
 k_with "ar57" =>with_reducible first|((show _<_);first|exact m7a ‹_› |exact nNa ‹_› |exact nca ‹_› ‹_› |exact mCa ‹_› |exact oEa ‹_› ‹_› |exact nXa|exact nra ‹_› ‹_› ‹_› ‹_› ‹_› |exact nda ‹_› ‹_› ‹_› ‹_› ‹_› |exact nya ‹_› ‹_› ‹_› ‹_› |exact n9a ‹_› ‹_› ‹_› |exact nYa ‹_› ‹_› |exact n2a ‹_› ‹_› ‹_› ‹_› ‹_› |exact mZa|exact zq6 ‹_› |exact nVa ‹_› |exact m9a ‹_› ‹_› ‹_› |exact n3a ‹_› ‹_› ‹_› ‹_› |exact lMa|exact m5a ‹_› ‹_› |exact nta ‹_› ‹_› ‹_› |exact m0a ‹_› ‹_› ‹_›)|((show _≤_);first|exact nka ‹_› |exact n1a ‹_› |exact nMa ‹_› |exact ofa ‹_› ‹_› ‹_› |exact oca ‹_› ‹_›)|exact lPa ‹_› |exact oea ‹_› |exact nSa ‹_› ‹_› |exact nwa ‹_›
 trivial
noncomputable abbrev cea (w:World) (t dt rl:Addr) (tkr ep:Nat) (r:List (Addr×Obj)):List (Addr×Obj):=(t,instObj 441 dt)::(dt,dictOf [⟨PyData.keyHash w.params (Str.ofString "rows"), .str (Str.ofString "rows") tkr, .ref rl⟩] ep)::r
theorem qZa:True:=by
 k_with "S57 mb" =>
  (
   (try simp only [cea,List.cons_append,List.nil_append,List.append_nil,ara,fpa,aOa,and_true,true_and,implies_true])
   and_intros
   all_goals first
    |(simp only [List.mem_cons,List.mem_append,true_or,or_true];done)
    |(intro p hp;simp only [List.mem_cons,List.mem_append,hp,true_or,or_true];done))
 k_with "S57 mb" =>
  ((try dsimp only [cea,List.nil_append,List.cons_append]);(repeat' (first|(refine Mine.fc ?q26m ?_;(case q26m=>k_extra "me"))|exact Mine.fn|with_reducible exact jla|with_reducible exact kha|with_reducible exact kja|with_reducible exact kia|with_reducible exact kga|with_reducible refine gda ?_ ?_|with_reducible refine kOa ?_|with_reducible refine h6a ?_));done)
 k_with "S57 mbz" =>
  first|k_extra "me" |simp only [List.mem_cons,List.mem_append,true_or,or_true]
 trivial
theorem mea{M:Model}{A:Around}{E:Value->Shared->Prop}{s:Shared}{Q:Flow->Shared->Prop}{test:PySem.Expr}{body orelse:List Stmt}{pos:Pos}{env:Env}(h1:wpAny M A (isTrue test env (eval test env)) (fun _ s'=>∃ tk',s'= {s with toks:=tk'}) E s)(h2:∀ tk',wpAny M A (execs body env) Q E {s with toks:=tk'})(h3:∀ tk',wpAny M A (execs orelse env) Q E {s with toks:=tk'}):wpAny M A (exec (.If test body orelse pos) env) Q E s:=
 wpAny_If (wpAny_mono h1 (fun b s' h=>by
  obtain⟨tk',rfl⟩:=h
  cases b
  ·exact h3 tk'
  ·exact h2 tk') fun _ _ e=>e)
theorem qYa:True:=by
 k_with "S57 mbk" =>
  ((with_reducible show wpAny _ _ (exec (Stmt.If (PySem.Expr.BoolOp BoolOp.Or _ _) _ _ _) _) _ _ _);refine cfa ?_)
 trivial
theorem efa {T:List aaa} (D:Doc T) (hn:T.length<59) {i:Nat} {ri:aaa} (k n u l v:Str) (hi:T[i]?=some ri) (hk:ri.kind=aLa∨ri.kind=sRoot) (h1:k≠sRoot) (h2:k≠afa) (h3:k≠sNs) (hl:i=T.length-1∨i∈anc T (T.length-1)) (hm:k=aLa->l=n∧u=Str.ofString ""):
 Doc (eka T i ri ⟨k,n,u,l,v,some i, [], [], []⟩)∧dra T (eka T i ri ⟨k,n,u,l,v,some i, [], [], []⟩) ⟨k,n,u,l,v,some i, [], [], []⟩:=iPa D hn hi hk rfl rfl rfl rfl h1 h2 h3 hl hm
structure StG where
 T:List aaa
 lt:List (Addr×Obj)
 os:List (Addr×Obj)
 so:Obj
 rv:List Value
 rn:Nat
 ov:List Value
 on:Nat
 st:List Nat
structure GB(w:World)(t sr D O:Addr)(own:List (Addr×Obj))(T:List aaa)(lt os:List (Addr×Obj))(so:Obj)(rv:List Value):Prop where
 doc:Doc T
 led:aCa w t T lt
 so:eZa so
 rows:b8a os rv T
 a1:∀ p∈lt, @Ne Nat p.1 sr
 a2:∀ p∈lt, @Ne Nat p.1 D
 a3:∀ p∈lt, @Ne Nat p.1 O
 b1:∀ p∈os++own, @Ne Nat p.1 sr
 b2:∀ p∈os++own, @Ne Nat p.1 D
 b3:∀ p∈os++own, @Ne Nat p.1 O
 ab:∀ p∈os++own,∀ q∈lt, @Ne Nat p.1 q.1
 bo:∀ p∈own,∀ q∈os, @Ne Nat p.1 q.1
 q1: @Ne Nat sr D
 q2: @Ne Nat sr O
 q3: @Ne Nat D O
section
variable {w:World} {t sr D O:Addr} {own:List (Addr×Obj)} {T:List aaa} {lt os:List (Addr×Obj)} {so x y:Obj} {rv:List Value}
theorem GB.src(K:GB w t sr D O own T lt os so rv){so':Obj}(h:eZa so'):GB w t sr D O own T lt os so' rv:= {K with so:=h}
theorem GB.rest(K:GB w t sr D O own T lt os so rv):∀ p∈(D,x)::(O,y)::(sr,so)::(os++own),∀ q∈lt, @Ne Nat p.1 q.1:=
 fc (fun q hq=>(K.a2 q hq).symm) (fc (fun q hq=>(K.a3 q hq).symm) (fc (fun q hq=>(K.a1 q hq).symm) K.ab))
theorem GB.offS(K:GB w t sr D O own T lt os so rv):∀ p∈(D,x)::(O,y)::(lt++(os++own)), @Ne Nat p.1 sr:=
 fc K.q1.symm (fc K.q2.symm fun p hp=>(laM hp).elim (K.a1 p) (K.b1 p))
theorem GB.offO(K:GB w t sr D O own T lt os so rv):∀ p∈(D,x)::(sr,so)::(lt++(os++own)), @Ne Nat p.1 O:=
 fc K.q3 (fc K.q2 fun p hp=>(laM hp).elim (K.a3 p) (K.b3 p))
theorem GB.sep(K:GB w t sr D O own T lt os so rv):∀ q∈(sr,so)::(D,x)::(O,y)::(lt++os),∀ p∈own, @Ne Nat p.1 q.1:=gP_ (by trivial:Ca_ (by
 intro q hq p hp
 have hp2:=laG os hp
 rcases lcM hq with rfl|hq
 ·exact K.b1 p hp2
 rcases lcM hq with rfl|hq
 ·exact K.b2 p hp2
 rcases lcM hq with rfl|hq
 ·exact K.b3 p hp2
 rcases laM hq with hq|hq
 ·exact K.ab p hp2 q hq
 ·exact K.bo p hp q hq))
theorem GB.less(K:GB w t sr D O own T lt os so rv):GB w t sr D O [] T lt os so rv:=
 {K with b1:=fun p hp=>K.b1 p (by simpa using Or.inl (by simpa using hp)),b2:=fun p hp=>K.b2 p (by simpa using Or.inl (by simpa using hp)),b3:=fun p hp=>K.b3 p (by simpa using Or.inl (by simpa using hp)),ab:=fun p hp=>K.ab p (by simpa using Or.inl (by simpa using hp)),bo:=fun _ hp=>nomatch hp}
theorem GB.more(K:GB w t sr D O [] T lt os so rv)(h:∀ q∈(sr,so)::(D,x)::(O,y)::(lt++os),∀ p∈own, @Ne Nat p.1 q.1):GB w t sr D O own T lt os so rv:=by
 have h1:=h _ (.head _)
 have h2:=h _ (.tail _ (.head _))
 have h3:=h _ (.tail _ (.tail _ (.head _)))
 have h4:=fun q hq=>h q (.tail _ (.tail _ (.tail _ hq)))
 have up:∀ {P:(Addr×Obj)->Prop},(∀ p∈os++ [],P p)->(∀ p∈own,P p)->∀ p∈os++own,P p:=fun a b p hp=>(laM hp).elim (fun hp=>a p (laL _ hp)) (b p)
 exact {K with b1:=up K.b1 h1,b2:=up K.b2 h2,b3:=up K.b3 h3,ab:=up K.ab fun p hp q hq=>h4 q (laL _ hq) p hp,bo:=fun p hp q hq=>h4 q (laG _ hq) p hp}
theorem GB.step(K:GB w t sr D O own T lt os so rv){T':List aaa}{r:aaa}(D':Doc T')(G:dra T T' r){lt':List (Addr×Obj)}(htl:aCa w t T' lt')(hap:∀ p∈lt',∀ q∈(D,x)::(O,y)::(sr,so)::(os++own), @Ne Nat q.1 p.1)
 {a:Addr} {t1 t2 t3:Tok} {pv:Value} (hp:b2a r.parent pv) (q1: @LT.lt Nat _ D a) (q2: @LT.lt Nat _ O a) (q3: @LT.lt Nat _ sr a) (q4:∀ p∈lt'++(os++own), @LT.lt Nat _ p.1 a):
 GB w t sr D O own T' lt' ((a,aea #[.int (T.length:Nat) t1, .str r.kind t2, .str r.name t3,pv])::os) so (rv++ [.ref a]) where
 doc:=D'
 led:=htl
 so:=K.so
 rows:=K.rows.grow G hp
 a1 p hp:=(hap p hp _ (.tail _ (.tail _ (.head _)))).symm
 a2 p hp:=(hap p hp _ (.head _)).symm
 a3 p hp:=(hap p hp _ (.tail _ (.head _))).symm
 b1:=fc (Nat.ne_of_gt q3) K.b1
 b2:=fc (Nat.ne_of_gt q1) K.b2
 b3:=fc (Nat.ne_of_gt q2) K.b3
 ab:=fc (fun q hq=>Nat.ne_of_gt (q4 q (laL _ hq))) fun p hp q hq=>hap q hq p (.tail _ (.tail _ (.tail _ hp)))
 bo p hp:=fc (Nat.ne_of_lt (q4 p (laG _ (laG _ hp)))) (K.bo p hp)
 q1:=K.q1
 q2:=K.q2
 q3:=K.q3
theorem GB.offD(K:GB w t sr D O own T lt os so rv){lt':List (Addr×Obj)}(hap:∀ p∈lt',∀ q∈(D,x)::(O,y)::(sr,so)::(os++own), @Ne Nat q.1 p.1):∀ p∈(O,y)::(sr,so)::(lt'++(os++own)), @Ne Nat p.1 D:=
 fc K.q3.symm (fc K.q1 fun p hp=>(laM hp).elim (fun hp=>(hap p hp _ (.head _)).symm) (K.b2 p))
end
structure mua(w:World)(t sr D O:Addr)(k:Nat)(c:StG):Prop where
 gb:GB w t sr D O [] c.T c.lt c.os c.so c.rv
 len:c.T.length≤3*k+2
 nv:NV c.ov c.st
 stk:Stk c.T c.st
 ne:0<c.st.length
 sl:c.st.length≤k+1
structure mMa where
 T:List aaa
 lt:List (Addr×Obj)
 os:List (Addr×Obj)
 rv:List Value
 rn:Nat
structure kba(w:World)(t sr D O Dn:Addr)(so:Obj)(e n0:Nat)(st:List Nat)(k:Nat)(c:mMa):Prop where
 gb:GB w t sr D O [] c.T c.lt c.os so c.rv
 stk:Stk c.T (st++ [e])
 len:c.T.length≤n0+k
 lt:e<c.T.length
 el:kindOf c.T e=aLa
 ha:e=c.T.length-1∨(kindOf c.T (c.T.length-1)=afa∧par c.T (c.T.length-1)=some e)
 atl:∀ j rj,j∈bea c.T e->c.T[j]?=some rj->k≠0∧(k=1->rj.loc=Str.ofString "k")
 dn:∀ p∈c.lt++c.os, @Ne Nat p.1 Dn
theorem lua{T:List aaa}(D:Doc T)(hn:T.length<59){i:Nat}{ri:aaa}(name value:Str)(hi:T[i]?=some ri)(hk:ri.kind=aLa)(hl:i=T.length-1∨i∈anc T (T.length-1))(ha:i=T.length-1∨(kindOf T (T.length-1)=afa∧par T (T.length-1)=some i)):
 Doc (f3a T i ri ⟨afa,name,Str.ofString "",name,value,some i, [], [], []⟩)∧dra T (f3a T i ri ⟨afa,name,Str.ofString "",name,value,some i, [], [], []⟩) ⟨afa,name,Str.ofString "",name,value,some i, [], [], []⟩∧bea (f3a T i ri ⟨afa,name,Str.ofString "",name,value,some i, [], [], []⟩) i=bea T i++ [T.length]:=by
 obtain⟨a,b⟩:=lfa D hn name value hi hk hl ha
 refine⟨a,b, ?_⟩
 have hil:=(List.getElem?_eq_some_iff.mp hi).1
 rw [bFa hi]
 exact bFa (r:= {ri with attrs:=ri.attrs++ [T.length]}) (by unfold f3a;rw [eba (by simp;omega),if_pos rfl])
theorem kba.next{w:World}{t sr D O Dn:Addr}{so x y z:Obj}{e n0 k:Nat}{st:List Nat}{c:mMa}{own:List (Addr×Obj)}(J:kba w t sr D O Dn so e n0 st k c)(K:GB w t sr D O own c.T c.lt c.os so c.rv)(hDn:(Dn,z)∈own)
 {T':List aaa} {lb:Str} (D':Doc T') (G:dra c.T T' ⟨afa,lb,Str.ofString "",lb,Str.ofString "v",some e, [], [], []⟩) (hat:bea T' e=bea c.T e++ [c.T.length]) {lt':List (Addr×Obj)} (htl:aCa w t T' lt') (hap:∀ p∈lt',∀ q∈(D,x)::(O,y)::(sr,so)::(c.os++own), @Ne Nat q.1 p.1)
 {a:Addr} {t1 t2 t3:Tok} {pv:Value} (hp:b2a (some e) pv) (q1: @LT.lt Nat _ D a) (q2: @LT.lt Nat _ O a) (q3: @LT.lt Nat _ sr a) (q4:∀ p∈lt'++(c.os++own), @LT.lt Nat _ p.1 a) (hlb:k=0->lb=Str.ofString "k"):
 kba w t sr D O Dn so e n0 st (k+1) ⟨T',lt',(a,aea #[.int (c.T.length:Nat) t1, .str afa t2, .str lb t3,pv])::c.os,c.rv++ [.ref a],c.rn+1⟩∧GB w t sr D O own T' lt' ((a,aea #[.int (c.T.length:Nat) t1, .str afa t2, .str lb t3,pv])::c.os) so (c.rv++ [.ref a]):=gP_ (by trivial:Ca_ (by
 have KS:=K.step (t1:=t1) (t2:=t2) (t3:=t3) D' G htl hap hp q1 q2 q3 q4
 have el:=J.el
 have hlt:=J.lt
 have hlen:=J.len
 refine⟨⟨KS.less,J.stk.grow K.doc.wf D'.wf G rfl,by show T'.length≤_;rw [G.len];omega,by show e<T'.length;rw [G.len];omega,(G.kind hlt).trans el, .inr ?_,fun j rj hj hr=>⟨Nat.succ_ne_zero _,fun hk=> ?_⟩,fun p hp=> ?_⟩,KS⟩
 ·show kindOf T' (T'.length-1)=afa∧par T' (T'.length-1)=some e
  rw [G.len,Nat.add_sub_cancel];exact⟨G.kindN,G.parN⟩
 ·have hk0:k=0:=by omega
  have hj':j∈bea c.T e++ [c.T.length]:=by rw [<-hat];exact hj
  rcases laM hj' with h|h
  ·obtain⟨b,hb⟩:=bma (K.doc.wf.att e j h).2.1
   exact absurd hk0 (J.atl j b h hb).1
  ·rw [lsM h] at hr
   have e2:=G.new.symm.trans hr
   cases e2
   exact hlb hk0
 ·rcases laM hp with hp|hp
  ·exact(KS.ab (Dn,z) (laG _ hDn) p hp).symm
  ·exact(KS.bo (Dn,z) hDn p hp).symm))
inductive fua(w:World)(t sr:Addr)(g h':Heap)(v:Value):Prop
 |ik (lr:Addr) (rn:Nat) (T:List aaa) (l os:List (Addr×Obj)) (rv:List Value) (o:Obj)
  (f0:v= .ref lr) (f1:eZa o) (f2:aCa w t T l) (f3:Hid g h' ((lr,listOf rv.toArray rn)::(sr,o)::(l++os)))
  (f4: @Ne Nat lr sr) (f5:∀ p∈l, @Ne Nat p.1 sr) (f6:∀ p∈l, @Ne Nat p.1 lr) (f7:∀ p∈os, @Ne Nat p.1 sr) (f8:∀ p∈os,∀ q∈l, @Ne Nat p.1 q.1) (f9:Doc T) (fa:b8a os rv T) (fb:T.length<60):fua w t sr g h' v
theorem GB.res{w:World}{t sr D O:Addr}{T:List aaa}{lt os:List (Addr×Obj)}{so:Obj}{rv:List Value}(K:GB w t sr D O [] T lt os so rv){g h:Heap}{rn:Nat}(hh:Hid g h ((D,listOf rv.toArray rn)::(sr,so)::(lt++os)))(hT:T.length<60):fua w t sr g h (.ref D):=
 ⟨D,rn,T,lt,os,rv,so,rfl,K.so,K.led,hh,K.q1.symm,K.a1,K.a2,fun p hp=>K.b1 p (laL _ hp),fun p hp=>K.ab p (laL _ hp),K.doc,K.rows,hT⟩
theorem qXa:True:=by
 k_with "S57 call type:range" =>
  ((with_reducible show wpAny _ _ (call (Value.type "range") [Value.int _ _]) _ _ _);(refine range1_rows (by assumption) (by assumption) ?_);intro _ _ _ _ _ _ _ _ _;(try k_sweep))
 trivial
inductive rCa(w:World)(g:Heap)(L t sr:Addr)(s s':Shared):Prop
 |ik (D O:Addr) (c:StG) (h':Heap) (tk':Nat) (e:s'= {s with heap:=h',toks:=tk'}) (K:mua w t sr D O 0 c)
  (F:Fr g L h' (fun y=>if y=Str.ofString "rows" then some (.ref D) else if y=Str.ofString "open_ones" then some (.ref O) else List.lookup y [(Str.ofString "tree", .ref t),(Str.ofString "source", .ref sr)]))
  (N:News g L h' ((sr,c.so)::(D,listOf c.rv.toArray c.rn)::(O,listOf c.ov.toArray c.on)::(c.lt++c.os))):rCa w g L t sr s s'
theorem d5a(st:List Nat)(z:Nat):(List.map Int.ofNat (st++ [z])).getD (-1+((List.map Int.ofNat (st++ [z])).length:Int)).toNat 0=(z:Int):=by
 rw [show(-1+((List.map Int.ofNat (st++ [z])).length:Int)).toNat=st.length by simp only [List.length_map,List.length_append,List.length_singleton];omega]
 simp [List.getD_eq_getElem?_getD]
theorem qWa:True:=by
 k_with "S57 subscriptTail" =>
  ((with_reducible show wpAny _ _ (subscriptTail _ _ (Value.ref _) (Value.int (List.getD _ _ _) _)) _ _ _);rw [Mine.d5a];(refine d8a (by k_extra "mg") (by assumption) (by walk_at "mm") ?_))
 k_with "S57 subscriptTail Name Name ref int" =>
  ((with_reducible show wpAny _ _ (subscriptTail _ _ (Value.ref _) (Value.int _ _)) _ _ _);k_extra "w subscriptTail")
 k_with "S57 subscriptTail Name BinOp ref int" =>
  ((with_reducible show wpAny _ _ (subscriptTail _ _ (Value.ref _) (Value.int _ _)) _ _ _);k_extra "w subscriptTail")
 k_with "S57 subscriptTail Name Constant ref int" =>
  ((with_reducible show wpAny _ _ (subscriptTail _ _ (Value.ref _) (Value.int _ _)) _ _ _);k_extra "w subscriptTail")
 k_with "S57 subscriptTail Name UnaryOp ref int" =>
  ((with_reducible show wpAny _ _ (subscriptTail _ _ (Value.ref _) (Value.int _ _)) _ _ _);k_here;(with_unfolding_all refine' kde_neg ?q27k1 ?q27k2 ?q27k3 ?q27k4 ?q27k5 ?_ ?q27k6;(case q27k2=>decide);(case q27k3=>decide);(case q27k1=>is_list);(case q27k4=>exact rfl);(case q27k5=>exact rfl);(case q27k6=>with_unfolding_all rfl);k_whole))
 k_with "S57 call builtin:len" =>
  ((with_reducible show wpAny _ _ (call (Value.builtin "len") [Value.ref _]) _ _ _);k_dflt (k_extra "w call builtin:len"))
 trivial
structure rua where
 so:Obj
 ov:List Value
 on:Nat
 st:List Nat
inductive rsa(g:Heap)(L sr D O:Addr)(T:List aaa)(lt os own:List (Addr×Obj))(rv:List Value)(rn n:Nat)(m:Str->Option Value)(s s':Shared):Prop
 |ik (so:Obj) (ov:List Value) (on:Nat) (st:List Nat) (h':Heap) (tk':Nat) (e:s'= {s with heap:=h',toks:=tk'}) (f0:eZa so) (f1:NV ov st) (f2:Stk T st) (f3:0<st.length) (f4:st.length≤n)
  (F:Fr g L h' m) (N:News g L h' ((sr,so)::(D,listOf rv.toArray rn)::(O,listOf ov.toArray on)::(lt++(os++own)))):rsa g L sr D O T lt os own rv rn n m s s'
theorem kUa{u m:Str->Option Value}:bXa [] [] u m=m:=by funext z;simp [bXa]
set_option maxHeartbeats 8000000 in
theorem hFa:∀ (w:World) (sr t:Addr),
 RW1 w 506 [.ref sr, .ref t] 30 (fun g h=>∃ o l,eZa o∧aCa w t [] l∧Hid g h ((sr,o)::l)∧∀ p∈l, @Ne Nat p.1 sr)
  (fun g _ h' v=>fua w t sr g h' v):=gP_ (by trivial:Ca_ (by
 intro w sr t
 refine Mine.hRW ?_
 intro A s g Q E
 revert w sr t A s g Q E
 k_extra "mW"
 intro w sr t A s g Q E H hst hsz hr hp hret
 revert hp
 k_extra "ms"
 intro o
 k_extra "ms"
 intro l
 rintro⟨ho,htl,hhid,a1⟩
 have hh:=htl.head.ex
 revert hh
 k_extra "ms"
 intro dt
 k_extra "ms"
 intro rl
 k_extra "ms"
 intro tkr
 k_extra "ms"
 intro ep
 k_extra "ms"
 intro l'
 rintro rfl
 k_extra "my"
 rename Fr _ _ _ _=>F
 rename News _ _ _ _=>N
 rename Below _ _ _ _=>B
 rename Frag.In _ _=>X
 rename Top _ _ _ _ _ _=>TT
 rename_i L h1 tk1 lL hd hu
 refine gta (rCa w g L t sr s) ?_ ?_
 ·k_extra "ma"
  refine e1a (ima (fea w t [] (by simp))) B X TT (by assumption) (by assumption) (by k_extra "mc") (by k_extra "mc") htl [(sr,o)] (by walk_at "mb") (by walk_at "mb") (fun p hp q hq=>by
   rw [lsM hp];exact(a1 q hq).symm) ?_ rfl rfl
  rintro h2 tk2 v2 T lt F2 htl2 N2 hap ⟨hT,tk3,rfl⟩
  rw [List.nil_append] at hT
  subst hT
  obtain⟨dt,rl,tkr,ep,l2,rfl⟩:=htl2.head
  clear F N
  k_extra "ma"
  rename_i a h3 la D h4 lD O h5 lO a2 h6 la2 h7 h8 h9 F N
  have aD: @Ne Nat a D:=Nat.ne_of_lt lD.1
  have DO: @Ne Nat D O:=Nat.ne_of_lt lO.1
  have aO: @Ne Nat a O:=Nat.ne_of_lt lO.2.1
  have ltD:∀ p∈cea w t dt rl tkr ep l2++ [(sr,o)], @Ne Nat p.1 D:=fun p hp=>Nat.ne_of_lt (aia lD.2 p hp)
  have ltO:∀ p∈cea w t dt rl tkr ep l2++ [(sr,o)], @Ne Nat p.1 O:=fun p hp=>Nat.ne_of_lt (aia lO.2.2 p hp)
  have lta:∀ p∈cea w t dt rl tkr ep l2++ [(sr,o)], @Ne Nat p.1 a:=fun p hp=>Nat.ne_of_lt (la p hp)
  have srD:=ltD (sr,o) (by simp)
  have srO:=ltO (sr,o) (by simp)
  have sra:=lta (sr,o) (by simp)
  obtain⟨tr,tn,t0,hN⟩:∃ tr tn t0,News g L h9 ((sr,o)::(a,aea #[.int (0:Nat) tk3, .str sRoot tr, .str (Str.ofString "") tn, .none])::(D,listOf [Value.ref a].toArray 0)::(O,listOf [Value.int (0:Nat) t0].toArray 0)::cea w t dt rl tkr ep l2):=⟨_,_,_,News.sub N (by walk_at "mb")⟩
  have K0:GB w t sr D O [] _ _ [(a,aea #[.int (0:Nat) tk3, .str sRoot tr, .str (Str.ofString "") tn, .none])] o [.ref a]:= {
   doc:=jWa
   led:=htl2
   so:=ho
   rows:=b8a.root (r:=⟨sRoot,Str.ofString "",Str.ofString "",Str.ofString "",Str.ofString "",none, [], [], []⟩) .none
   a1:=fun p hp=>(hap p hp (sr,o) (.head _)).symm
   a2:=fun p hp=>ltD p (laL _ hp)
   a3:=fun p hp=>ltO p (laL _ hp)
   b1:=fc sra.symm fn
   b2:=fc aD fn
   b3:=fc aO fn
   ab:=fc (fun q hq=>(lta q (laL _ hq)).symm) fn
   bo:=fn
   q1:=srD
   q2:=srO
   q3:=DO}
  clear N ho aD DO aO ltD ltO lta srD srO sra la lD lO la2
  refine bja (top:=3) (by decide) (by decide) K0.so B X TT F hN (by k_extra "mc") (by k_extra "mc") (.head _) ((a,aea #[.int (0:Nat) tk3, .str sRoot tr, .str (Str.ofString "") tn, .none])::(D,listOf [Value.ref a].toArray 0)::(O,listOf [Value.int (0:Nat) t0].toArray 0)::cea w t dt rl tkr ep l2) (fun p hp=> .tail _ hp) (fc (K0.b1 _ (.head _)) (fc K0.q1.symm (fc K0.q2.symm K0.a1))) ?_ rfl rfl
  intro h10 tk10 way tkw o10 F10 ho10 N10 hway
  replace K0:=K0.src ho10
  clear F hN
  k_extra "ma"
  ·have N11:=News.sub N10 (l':=(D,listOf [Value.ref a].toArray 0)::(O,listOf [Value.int (0:Nat) t0].toArray 0)::(sr,o10)::cea w t dt rl tkr ep (l2++ [(a,aea #[.int (0:Nat) tk3, .str sRoot tr, .str (Str.ofString "") tn, .none])])) (by walk_at "mb")
   refine e1a (ima (b7a w t 0 _ (Str.ofString "y") _ _ (by decide) _ rfl (.inr rfl) (by decide))) B X TT F10 N11 (by k_extra "mc") (by k_extra "mc") K0.led ((D,listOf [Value.ref a].toArray 0)::(O,listOf [Value.int (0:Nat) t0].toArray 0)::(sr,o10)::([(a,aea #[.int (0:Nat) tk3, .str sRoot tr, .str (Str.ofString "") tn, .none])]++ [])) (by walk_at "mb") (by walk_at "mb") K0.rest ?_ rfl rfl
   rintro h11 tk11 v11 T' lt' F11 htl' N11 hap' ⟨hT',tk12,rfl⟩
   obtain⟨D',G⟩:Doc T'∧dra _ T' _:=by rw [hT'];exact iPa K0.doc (by decide) (i:=0) rfl (.inr rfl) (r:=⟨Str.ofString "comment",Str.ofString "",Str.ofString "",Str.ofString "",Str.ofString "y",some 0, [], [], []⟩) rfl rfl rfl rfl (by decide) (by decide) (by decide) K0.doc.last0 (fun e=>absurd e (by decide))
   have N12:=News.sub N11 (l':=(D,listOf [Value.ref a].toArray 0)::(O,listOf [Value.int (0:Nat) t0].toArray 0)::(sr,o10)::(lt'++([(a,aea #[.int (0:Nat) tk3, .str sRoot tr, .str (Str.ofString "") tn, .none])]++ []))) (by walk_at "mb")
   have hDa:=K0.offD hap'
   clear N10 N11 F10
   k_extra "ma"
   rename_i a4 h12 l4 h13 F N
   exact⟨D,O,⟨T',lt',_::_,o10, [.ref a]++ [.ref a4],1, [.int (0:Nat) t0],0, [0]⟩,_,_,rfl,⟨K0.step D' G htl' hap' (b2a.some 0 _) l4.1 l4.2.1 l4.2.2.1 (fun p hp=>aia l4.2.2.2 p hp),(by show T'.length≤_;rw [G.len];simp),NV.one,gHa.grow (st:= []) K0.doc.wf D'.wf G rfl,by simp,by simp⟩,F,News.sub N (by walk_at "mb")⟩
  ·exact⟨D,O,⟨_,_,_,o10, [.ref a],0, [.int (0:Nat) t0],0, [0]⟩,_,_,rfl,⟨K0,by simp,NV.one,gHa,by simp,by simp⟩,F10,News.sub N10 (by walk_at "mb")⟩
 ·clear F N
  rintro s' ⟨D,O,⟨T,lt,os,so,rv,rn,ov,on,st⟩,h',tk',rfl,⟨K,hTl,hnv,hstk,hne,hsl⟩,F,N⟩
  dsimp only at K hTl hnv hstk hne hsl F N
  k_extra "ma"
  refine bja (top:=4) (by decide) (by decide) K.so B X TT (by assumption) N (by k_extra "mc") (by k_extra "mc") (.head _) ((D,listOf rv.toArray rn)::(O,listOf ov.toArray on)::(lt++(os++ []))) (by walk_at "mb") K.offS ?_ rfl rfl
  intro h2 tk2 n5 tk3 so2 F2 ho2 N2 hn5
  replace K:=K.src ho2
  clear N
  k_extra "ma"
  rename Fr _ _ _ _=>F
  rename News _ _ _ _=>N
  rename IsRange _ _ _ _ _ _ _ _=>R
  refine ePa (n:=5+n5) rfl (σ:=StG) (fun c=>(sr,c.so)::(D,listOf c.rv.toArray c.rn)::(O,listOf c.ov.toArray c.on)::(c.lt++c.os)) (fun _=> []) [Str.ofString "at",Str.ofString "way",Str.ofString "here",Str.ofString "name",Str.ofString "label"] (fun k c=>mua w t sr D O k c) ⟨T,lt,os,so2,rv,rn,ov,on,st⟩ []
   rfl R (small_one (by omega) (by omega) (by omega) (by omega)) (by rw [rangeSize_nat];omega) F N (by walk_at "mb") (by k_extra "md") (by k_extra "md") ⟨K,hTl,hnv,hstk,hne,hsl⟩ ?_ ?_
  ·clear F N R K hTl hnv hstk hne hsl
   rintro k tkk cS_ u h tk own hk hJ0_ F N hsep
   k_extra "mf"
   obtain⟨T,lt,os,so,rv,rn,ov,on,st⟩:=cS_
   dsimp only [List.nil_append,List.append_nil] at F N hsep hJ0_ ⊢
   refine bua ?_
   intro hG_ hg_
   obtain⟨gb,hTl,hnv,hstk,hne,hsl⟩:=hJ0_
   refine hg_ ?_
   clear hg_ hG_
   dsimp only [List.nil_append,List.append_nil] at gb hTl hnv hstk hne hsl
   change Fr g L h _ at F
   change News g L h _ at N
   have K:=gb.more (own:=own) hsep
   clear gb hsep
   refine gXa (rsa g L sr D O T lt os own rv rn st.length (fun y=>if y=Str.ofString "turn" then some (.int (0+(k:Nat)) tkk) else bXa [] [Str.ofString "turn",Str.ofString "at",Str.ofString "way",Str.ofString "here",Str.ofString "name",Str.ofString "label"] u (fun y=>if y=Str.ofString "rows" then some (.ref D) else if y=Str.ofString "open_ones" then some (.ref O) else List.lookup y [(Str.ofString "tree", .ref t),(Str.ofString "source", .ref sr)]) y) s) ?_ ?_
   ·refine bQa rfl (σ:=rua) (fun c=>(sr,c.so)::(D,listOf rv.toArray rn)::(O,listOf c.ov.toArray c.on):: []) (fun _=> []) [] (fun c=>eZa c.so∧NV c.ov c.st∧Stk T c.st∧0<c.st.length∧c.st.length≤st.length) (fun c=>c.st.length) ⟨so,ov,on,st⟩ (lt++(os++own)) F N (by walk_at "mb") ?_ (by k_extra "md") ⟨K.so,hnv,hstk,hne,Nat.le_refl _⟩ ?_
    ·exact fc (fun p hp=>(laM hp).elim (K.a1 p) (K.b1 p)) (fc (fun p hp=>(laM hp).elim (K.a2 p) (K.b2 p)) (fc (fun p hp=>(laM hp).elim (K.a3 p) (K.b3 p)) fn))
    ·clear F N
     rintro cS_ u2 h tk hJ0_ F N hsep
     k_extra "mf"
     obtain⟨so2,ov2,on2,st2⟩:=cS_
     dsimp only at F N hsep hJ0_ ⊢
     refine bua ?_
     intro hG_ hg_
     obtain⟨hso2,hnv2,hstk2,hne2,hsl2⟩:=hJ0_
     refine hg_ ?_
     clear hg_ hG_
     rw [kUa] at F
     change Fr g L h _ at F
     change News g L h _ at N
     replace K:=K.src hso2
     obtain⟨dt,rl,tkr,ep,l',rfl⟩:=K.led.head
     rcases cHa st2 with rfl|⟨st3,z,rfl⟩
     ·exact absurd hne2 (by simp)
     obtain⟨ov3,tz,rfl,hnv3⟩:=NV.unsnoc hnv2
     have hl3:=hnv3.len
     k_extra "ma"
     ·refine bja (top:=3) (by decide) (by decide) hso2 B X TT F N (by k_extra "mc") (by k_extra "mc") (by k_extra "me") ((D,listOf rv.toArray rn)::(O,listOf (ov3++ [Value.int (z:Nat) tz]).toArray on2)::(cea w t dt rl tkr ep l'++(os++own))) (by walk_at "mb") K.offS ?_ rfl rfl
      intro h4 tk4 n6 tk5 so4 F4 ho4 N4 hn6
      replace K:=K.src ho4
      have hO:=K.offO (x:=listOf rv.toArray rn)
      have N5:=News.sub N4 (l':=(O,listOf (ov3++ [Value.int (z:Nat) tz]).toArray on2)::(D,listOf rv.toArray rn)::(sr,so4)::(cea w t dt rl tkr ep l'++(os++own))) (by walk_at "mb")
      clear F N N4
      rename _<(_:Int)=>hlen
      simp only [List.length_append,List.length_singleton] at hlen
      k_extra "ma"
      ·refine bwa.intro (⟨so4,ov3,on2+1,st3⟩:rua) (by assumption) (by assumption) (by walk_at "mb") ⟨ho4,hnv3,hstk2.sub (List.sublist_append_left _ _),(by show 0<st3.length;omega),Nat.le_trans (by simp) hsl2⟩ (by simp) ?_ (by k_extra "md") (fun _ _ _=>rfl)
       exact fc (fun p hp=>(laM hp).elim (K.a1 p) (K.b1 p)) (fc (fun p hp=>(laM hp).elim (K.a2 p) (K.b2 p)) (fc (fun p hp=>(laM hp).elim (K.a3 p) (K.b3 p)) fn))
      ·exact⟨so4,_,on2,_,_,_,rfl,ho4,hnv2,hstk2,hne2,hsl2,by assumption,News.sub (by assumption) (by walk_at "mb")⟩
     ·exact⟨so2,_,on2,_,_,_,rfl,hso2,hnv2,hstk2,hne2,hsl2,F,News.sub N (by walk_at "mb")⟩
   ·clear F N hnv hstk hne
    rintro s' ⟨so2,ov2,on2,st2,h',tk',rfl,ho2,hnv2,hstk2,hne2,hsl2,F,N⟩
    rcases cHa st2 with rfl|⟨st3,z,rfl⟩
    ·exact absurd hne2 (by simp)
    obtain⟨ov3,tz,rfl,hnv3⟩:=NV.unsnoc hnv2
    have hl3:=hnv3.len
    replace K:=K.src ho2
    obtain⟨dt,rl,tkr,ep,l',rfl⟩:=K.led.head
    have hzT:=hstk2.lt z (by simp)
    obtain⟨az,y1,y2,y3,kz,nz,pz,hrz,hmz⟩:=K.rows.get hzT
    have hrl:=K.rows.len
    k_extra "ma"
    rw [d5a]
    rename_i tat
    refine bja (top:=7) (by decide) (by decide) K.so B X TT F N (by k_extra "mc") (by k_extra "mc") (.head _) ((D,listOf rv.toArray rn)::(O,listOf (ov3++ [Value.int (z:Nat) tz]).toArray on2)::(cea w t dt rl tkr ep l'++(os++own))) (by walk_at "mb") K.offS ?_ rfl rfl
    intro h4 tk4 way tkw so4 F4 ho4 N4 hway
    replace K:=K.src ho4
    have N5:=News.sub N4 (l':=(az,aea #[.int (z:Nat) y1, .str kz y2, .str nz y3,pz])::(D,listOf rv.toArray rn)::(O,listOf (ov3++ [Value.int (z:Nat) tz]).toArray on2)::(sr,so4)::cea w t dt rl tkr ep (l'++(os++own))) (by
     refine List.forall_mem_cons.mpr ⟨?_,by walk_at "mb"⟩
     simp only [List.mem_cons,List.mem_append,hmz,true_or,or_true])
    clear F N N4
    have hzz:z<2^24:=by omega
    obtain⟨rz,hrz2⟩:=bma hzT
    have hrk:rz.kind=aLa∨rz.kind=sRoot:=by rw [<-aXa hrz2];exact hstk2.kind z (by simp)
    have hrc:rz.children.length<60:=by rw [<-cIa hrz2];exact a0a K.doc.wf z
    have hT50:T.length<50:=by omega
    have hl:=hstk2.last z (by simp)
    k_extra "ma"
    refine mea ?_ ?_ ?_
    ·k_extra "ma"
     all_goals exact⟨_,rfl⟩
    ·intro tkI
     k_extra "ma"
     ·rename_i Dn hN F N lN
      have hD2: @Ne Nat Dn sr:=Nat.ne_of_gt lN.2.2.2.1
      refine fba (by k_extra "md") (by k_extra "md") K.so B X TT F N (by k_extra "mc") (by k_extra "mc") (by walk_at "mbz") (.head _) hD2 ((D,listOf rv.toArray rn)::(O,listOf (ov3++ [Value.int (z:Nat) tz]).toArray on2)::(cea w t dt rl tkr ep l'++(os++own))) (by walk_at "mb") K.offS ?_ rfl rfl
      intro h8 tk8 v8 so8 F8 ho8 N8 hv8
      obtain⟨nm,tnm,rfl⟩:∃ nm tnm,v8= .str nm tnm:=by
       rcases iva hv8 with rfl|rfl|rfl<;>exact⟨_,_,rfl⟩
      replace K:=K.src ho8
      have N8':=News.sub N8 (l':=(D,listOf rv.toArray rn)::(O,listOf (ov3++ [Value.int (z:Nat) tz]).toArray on2)::(sr,so8)::cea w t dt rl tkr ep (l'++(os++own))) (by walk_at "mb")
      clear N8 F N lN hD2
      k_extra "ma"
      refine dha (dGa w t z y1 nm (Str.ofString "") nm _ _ _ T (by omega) rz hrz2 hrk hrc) B X TT (by assumption) (by assumption) (by k_extra "mc") (by k_extra "mc") K.led ((D,listOf rv.toArray rn)::(O,listOf (ov3++ [Value.int (z:Nat) tz]).toArray on2)::(sr,so8)::(os++own)) (by walk_at "mb") (by walk_at "mb") K.rest ?_ rfl rfl
      intro T' h9 tk9 tk10 lt' hT' F9 htl' N9 hap
      have DG:=efa K.doc (by omega) aLa nm (Str.ofString "") nm (Str.ofString "") hrz2 hrk (by decide) (by decide) (by decide) hl (fun _=>⟨rfl,rfl⟩)
      rw [<-hT'] at DG
      have D':=DG.1
      have G:=DG.2
      have N10:=News.sub N9 (l':=(D,listOf rv.toArray rn)::(O,listOf (ov3++ [Value.int (z:Nat) tz]).toArray on2)::(sr,so8)::(lt'++(os++own))) (by walk_at "mb")
      have hDa:=K.offD hap
      have hOa:∀ p∈(sr,so8)::(lt'++(os++own)), @Ne Nat p.1 O:=fc K.q2 fun p hp=>(laM hp).elim (fun hp=>(hap p hp _ (.tail _ (.head _))).symm) (K.b3 p)
      have q3: @Ne Nat D O:=K.q3
      clear N9
      k_extra "ma"
      rename_i a4 h11 l4 h12 tt kk h13 Dl h14 F N lD
      have eL:((rv++ [Value.ref a4]).length:Int)-1=(T.length:Nat):=by rw [<-hrl,List.length_append,List.length_singleton];omega
      rw [eL] at N
      have K1:GB w t sr D O own T' lt' ((a4,aea #[.int (T.length:Nat) tk10, .str aLa tk9, .str nm tnm, .int (z:Nat) tat])::os) so8 (rv++ [.ref a4]):=K.step D' G htl' hap (b2a.some z tat) l4.1 l4.2.1 l4.2.2.1 (fun p hp=>aia l4.2.2.2 p hp)
      have S1:=hstk2.push K.doc.wf D'.wf G rfl rfl
      have hlen1:T'.length=T.length+1:=G.len
      have hE:kindOf T' T.length=aLa:=G.kindN
      have hA0:bea T' T.length= []:=bFa G.new
      have hnv4:=hnv2.snoc T.length (kk+1)
      have hDl:=lD.2.2.2.1
      have hDl2:=lD.2.2.2.2
      have hDl3:=lD.2.1
      have hDl4:=lD.2.2.1
      have N1:=News.sub N (l':=(Dl,listOf [Value.str (Str.ofString "k") (kk+1+1),Value.str (Str.ofString "b") (kk+1+1+1)].toArray 0)::(D,listOf (rv++ [Value.ref a4]).toArray (rn+1))::(O,listOf (ov3++ [Value.int (z:Nat) tz]++ [Value.int (T.length:Nat) (kk+1)]).toArray (on2+1))::(sr,so8)::(lt'++(((a4,aea #[.int (T.length:Nat) tk10, .str aLa tk9, .str nm tnm, .int (z:Nat) tat])::os)++own))) (by walk_at "mb")
      have hDl5:∀ p∈lt'++(((a4,aea #[.int (T.length:Nat) tk10, .str aLa tk9, .str nm tnm, .int (z:Nat) tat])::os)++own), @Ne Nat p.1 Dl:=fun p hp=>by
       rcases laM hp with hp|hp
       ·exact Nat.ne_of_lt (aia hDl2 p (laL _ hp))
       rcases lcM hp with rfl|hp
       ·exact Nat.ne_of_lt lD.1
       ·exact Nat.ne_of_lt (aia hDl2 p (laG _ hp))
      clear N K G D' hap hDa hOa hT' htl' l4 lD hDl2 eL hv8
      generalize (a4,aea #[.int (T.length:Nat) tk10, .str aLa tk9, .str nm tnm, .int (z:Nat) tat])::os=os1 at K1 N1 hDl5
      generalize rv++ [Value.ref a4]=rv1 at K1 N1
      refine bja (top:=3) (by decide) (by decide) K1.so B X TT F N1 (by k_extra "mc") (by k_extra "mc") (by k_extra "me") ((Dl,listOf [Value.str (Str.ofString "k") (kk+1+1),Value.str (Str.ofString "b") (kk+1+1+1)].toArray 0)::(D,listOf rv1.toArray (rn+1))::(O,listOf (ov3++ [Value.int (z:Nat) tz]++ [Value.int (T.length:Nat) (kk+1)]).toArray (on2+1))::(lt'++(os1++own))) (by walk_at "mb") (fc (Nat.ne_of_gt hDl) K1.offS) ?_ rfl rfl
      intro h15 tk15 nl tkl so9 F9' ho9 N9' hnl
      replace K1:=K1.src ho9
      have N2:=News.sub N9' (l':=(Dl,listOf [Value.str (Str.ofString "k") (kk+1+1),Value.str (Str.ofString "b") (kk+1+1+1)].toArray 0)::(D,listOf rv1.toArray (rn+1))::(O,listOf (ov3++ [Value.int (z:Nat) tz]++ [Value.int (T.length:Nat) (kk+1)]).toArray (on2+1))::(sr,so9)::(lt'++(os1++own))) (by walk_at "mb")
      clear F N1 N9'
      k_extra "ma"
      rename_i Dn h16 F N lDn
      have dn1:=lDn.2.1
      have dn2:=lDn.2.2.1
      have dn3:=lDn.2.2.2.1
      have dn4:∀ p∈lt'++(os1++own), @LT.lt Nat _ p.1 Dn:=fun p hp=>aia lDn.2.2.2.2 p hp
      clear lDn hDl5 hDl hDl3 hDl4
      generalize hVL:(List.take nl [Value.str (Str.ofString "k") (kk+1+1),Value.str (Str.ofString "b") (kk+1+1+1)])=vl at N
      have hvl2:∀ i v,vl[i]?=some v->∃ lb tlb,v= .str lb tlb∧(i=0->lb=Str.ofString "k")∧(i≠0->lb=Str.ofString "b")∧i<2:=by
       intro i v hi
       rw [<-hVL] at hi
       have hi2:=List.mem_of_getElem? hi
       have hlt:=(List.getElem?_eq_some_iff.mp hi).1
       rw [List.length_take] at hlt
       have h2:i<2:=Nat.lt_of_lt_of_le hlt (Nat.min_le_right _ _)
       rw [List.getElem?_take_of_lt (by omega)] at hi
       rcases(show i=0∨i=1 by omega) with rfl|rfl
       ·cases hi;exact⟨_,_,rfl,fun _=>rfl,fun h=>absurd rfl h,h2⟩
       ·cases hi;exact⟨_,_,rfl,fun h=>(nomatch h),fun _=>rfl,h2⟩
      refine bTa rfl (σ:=mMa) (fun c=>(sr,so9)::(D,listOf c.rv.toArray c.rn)::(O,listOf (ov3++ [Value.int (z:Nat) tz]++ [Value.int (T.length:Nat) (kk+1)]).toArray (on2+1))::(c.lt++c.os)) (fun _=> []) [] (fun k c=>kba w t sr D O Dn so9 T.length (T.length+1) (st3++ [z]) k c) ⟨T',lt',os1,rv1,rn+1⟩ ((Dn,listOf vl.toArray 0)::own)
       rfl ⟨_,(N _ (.head _)).1,rfl,_,rfl⟩ (N _ (.head _)).2.1 F N (by walk_at "mb") ?_ ?_ (by k_extra "md") ⟨K1.less,S1,by dsimp only;omega,by dsimp only;omega,hE, .inl (by dsimp only;omega),fun j rj hj=>absurd (show j∈bea T' T.length from hj) (by rw [hA0];exact List.not_mem_nil),fun p hp=>Nat.ne_of_lt (dn4 p ((laM hp).elim (laL _) fun h=>laG _ (laL _ h)))⟩ ?_ ?_
      ·intro q hq p hp
       rcases lcM hp with rfl|hp
       ·rcases lcM hq with rfl|hq
        ·exact Nat.ne_of_gt dn3
        rcases lcM hq with rfl|hq
        ·exact Nat.ne_of_gt dn1
        rcases lcM hq with rfl|hq
        ·exact Nat.ne_of_gt dn2
        ·exact Nat.ne_of_gt (dn4 q ((laM hq).elim (laL _) fun h=>laG _ (laL _ h)))
       ·exact K1.sep q hq p hp
      ·intro k c J p hp
       rcases lcM hp with rfl|hp
       ·exact Nat.ne_of_lt dn3
       rcases lcM hp with rfl|hp
       ·exact Nat.ne_of_lt dn1
       rcases lcM hp with rfl|hp
       ·exact Nat.ne_of_lt dn2
       ·exact J.dn p hp
      ·clear F N
       rintro k2 v2 cS_ u2 h tk own2 hv2 hk2 J F N hsep2
       k_extra "mf"
       obtain⟨T2,lt2,os2,rv2,rn2⟩:=cS_
       dsimp only at F N hsep2 ⊢
       change Fr g L h _ at F
       change News g L h _ at N
       obtain⟨lb,tlb,rfl,hlb0,hlb1,hk22⟩:=hvl2 k2 _ hv2
       have K2:=J.gb.more (own:=(Dn,listOf vl.toArray 0)::(own++own2)) hsep2
       have S2:=J.stk
       have hl2:T2.length≤T.length+1+k2:=J.len
       have he2:T.length<T2.length:=J.lt
       obtain⟨ae,z1,z2,z3,ke,ne,pe,hre,hme⟩:=K2.rows.get he2
       obtain⟨re,hre2⟩:=bma he2
       have hek:re.kind=aLa:=by rw [<-aXa hre2];exact J.el
       have hrl2:rv2.length=T2.length:=K2.rows.len
       have hez:T.length<2^24:=by omega
       dsimp only at K2 hre hme S2
       obtain⟨dt2,rl2,tkr2,ep2,l2,rfl⟩:=K2.led.head
       have N3:=News.sub N (l':=(ae,aea #[.int (T.length:Nat) z1, .str ke z2, .str ne z3,pe])::(D,listOf rv2.toArray rn2)::(O,listOf (ov3++ [Value.int (z:Nat) tz]++ [Value.int (T.length:Nat) (kk+1)]).toArray (on2+1))::(sr,so9)::cea w t dt2 rl2 tkr2 ep2 (l2++(os2++((Dn,listOf vl.toArray 0)::(own++own2))))) (by
        refine List.forall_mem_cons.mpr ⟨?_,by walk_at "mb"⟩
        simp only [List.mem_cons,List.mem_append,show _∈os2 from hme,true_or,or_true])
       clear N
       k_extra "ma"
       have hno:∀ j rj,j∈re.attrs->T2[j]?=some rj->(rj.uri==Str.ofString "")=true->(rj.loc==lb)=false:=fun j rj hj hr _=>by
        obtain⟨q1,q2⟩:=J.atl j rj (show j∈bea T2 T.length by rw [bFa hre2];exact hj) hr
        rw [q2 (by omega),hlb1 q1];decide
       refine dha (cSa w t T.length z1 lb (Str.ofString "") lb (Str.ofString "v") _ _ _ _ T2 K2.doc.wf re hre2 hek hno) B X TT (by assumption) (by assumption) (by k_extra "mc") (by k_extra "mc") K2.led ((D,listOf rv2.toArray rn2)::(O,listOf (ov3++ [Value.int (z:Nat) tz]++ [Value.int (T.length:Nat) (kk+1)]).toArray (on2+1))::(sr,so9)::(os2++((Dn,listOf vl.toArray 0)::(own++own2)))) (by walk_at "mb") (by walk_at "mb") K2.rest ?_ rfl rfl
       intro T3 h9 tk9 tk12 lt3 hT3 F9 htl3 N9 hap3
       have DG3:=lua K2.doc (by omega) lb (Str.ofString "v") hre2 hek (S2.last _ (by simp)) J.ha
       rw [<-hT3] at DG3
       have D3:=DG3.1
       have G3:=DG3.2.1
       have hat3:=DG3.2.2
       have N10:=News.sub N9 (l':=(D,listOf rv2.toArray rn2)::(O,listOf (ov3++ [Value.int (z:Nat) tz]++ [Value.int (T.length:Nat) (kk+1)]).toArray (on2+1))::(sr,so9)::(lt3++(os2++((Dn,listOf vl.toArray 0)::(own++own2))))) (by walk_at "mb")
       have hDa:=K2.offD hap3
       clear N9
       k_extra "ma"
       rename_i a5 h21 l5 h22 F N
       rw [d5a] at N
       exact aHa.intro (⟨T3,lt3,_::os2,rv2++ [.ref a5],rn2+1⟩:mMa) F N (by walk_at "mb") (J.next K2 (.head _) D3 G3 hat3 htl3 hap3 (b2a.some _ _) l5.1 l5.2.1 l5.2.2.1 (fun p hp=>aia l5.2.2.2 p hp) hlb0).1 (J.next K2 (.head _) D3 G3 hat3 htl3 hap3 (b2a.some _ _) l5.1 l5.2.1 l5.2.2.1 (fun p hp=>aia l5.2.2.2 p hp) hlb0).2.sep (by k_extra "md") (by k_extra "mj")
      ·clear F N
       rintro cS_ u2 h tk J F N hsep2
       k_extra "mf"
       obtain⟨T2,lt2,os2,rv2,rn2⟩:=cS_
       dsimp only at F N hsep2 ⊢
       change Fr g L h _ at F
       change News g L h _ at N
       have KE:=J.gb.more (own:=(Dn,listOf vl.toArray 0)::own) hsep2
       have hl2:T2.length≤T.length+1+vl.length:=J.len
       have hvz:vl.length≤2:=by
        rw [<-hVL,List.length_take];exact Nat.min_le_right _ _
       k_extra "ma"
       rename Fr _ _ _ _=>F
       rename News _ _ _ _=>N
       exact aHa.intro (⟨T2,lt2,os2,so9,rv2,rn2,ov3++ [Value.int (z:Nat) tz]++ [Value.int (T.length:Nat) (kk+1)],on2+1,st3++ [z]++ [T.length]⟩:StG) F N (by walk_at "mb") ⟨J.gb,(by show T2.length≤_;omega),hnv4,J.stk,by simp,(by show(st3++ [z]++ [T.length]).length≤_;rw [List.length_append,List.length_singleton];omega)⟩ (fun q hq p hp=>KE.sep q hq p (.tail _ hp)) (by k_extra "md") (by k_extra "mj")
    ·intro tkI
     k_extra "ma"
     ·rename Fr _ _ _ _=>F
      rename News _ _ _ _=>N
      refine dha (fra w t z y1 (Str.ofString "x") _ T (by omega) rz hrz2 hrk hrc) B X TT (by assumption) (by assumption) (by k_extra "mc") (by k_extra "mc") K.led ((D,listOf rv.toArray rn)::(O,listOf (ov3++ [Value.int (z:Nat) tz]).toArray on2)::(sr,so4)::(os++own)) (by walk_at "mb") (by walk_at "mb") K.rest ?_ rfl rfl
      intro T' h9 tk9 tk10 lt' hT' F9 htl' N9 hap
      have DG:=efa K.doc (by omega) (Str.ofString "text") (Str.ofString "") (Str.ofString "") (Str.ofString "") (Str.ofString "x") hrz2 hrk (by decide) (by decide) (by decide) hl (fun e=>absurd e (by decide))
      rw [<-hT'] at DG
      have D':=DG.1
      have G:=DG.2
      have N10:=News.sub N9 (l':=(D,listOf rv.toArray rn)::(O,listOf (ov3++ [Value.int (z:Nat) tz]).toArray on2)::(sr,so4)::(lt'++(os++own))) (by walk_at "mb")
      have hDa:=K.offD hap
      clear F N N9
      k_extra "ma"
      rename_i a4 h12 l4 h13 F N
      exact aHa.intro (⟨T',lt',_::os,so4,rv++ [.ref a4],rn+1,ov3++ [.int (z:Nat) tz],on2,st3++ [z]⟩:StG) F N (by walk_at "mb") ⟨(K.step D' G htl' hap (b2a.some z _) l4.1 l4.2.1 l4.2.2.1 (fun p hp=>aia l4.2.2.2 p hp)).less,(by show T'.length≤_;rw [G.len];omega),hnv2,hstk2.grow K.doc.wf D'.wf G rfl,hne2,Nat.le_trans hsl2 (Nat.le_succ_of_le hsl)⟩ (K.step D' G htl' hap (b2a.some z _) l4.1 l4.2.1 l4.2.2.1 (fun p hp=>aia l4.2.2.2 p hp)).sep (by k_extra "md") (by k_extra "mj")
     ·rename Fr _ _ _ _=>F
      rename News _ _ _ _=>N
      refine dha (b7a w t z y1 (Str.ofString "y") _ T (by omega) rz hrz2 hrk hrc) B X TT (by assumption) (by assumption) (by k_extra "mc") (by k_extra "mc") K.led ((D,listOf rv.toArray rn)::(O,listOf (ov3++ [Value.int (z:Nat) tz]).toArray on2)::(sr,so4)::(os++own)) (by walk_at "mb") (by walk_at "mb") K.rest ?_ rfl rfl
      intro T' h9 tk9 tk10 lt' hT' F9 htl' N9 hap
      have DG:=efa K.doc (by omega) (Str.ofString "comment") (Str.ofString "") (Str.ofString "") (Str.ofString "") (Str.ofString "y") hrz2 hrk (by decide) (by decide) (by decide) hl (fun e=>absurd e (by decide))
      rw [<-hT'] at DG
      have D':=DG.1
      have G:=DG.2
      have N10:=News.sub N9 (l':=(D,listOf rv.toArray rn)::(O,listOf (ov3++ [Value.int (z:Nat) tz]).toArray on2)::(sr,so4)::(lt'++(os++own))) (by walk_at "mb")
      have hDa:=K.offD hap
      clear F N N9
      k_extra "ma"
      rename_i a4 h12 l4 h13 F N
      exact aHa.intro (⟨T',lt',_::os,so4,rv++ [.ref a4],rn+1,ov3++ [.int (z:Nat) tz],on2,st3++ [z]⟩:StG) F N (by walk_at "mb") ⟨(K.step D' G htl' hap (b2a.some z _) l4.1 l4.2.1 l4.2.2.1 (fun p hp=>aia l4.2.2.2 p hp)).less,(by show T'.length≤_;rw [G.len];omega),hnv2,hstk2.grow K.doc.wf D'.wf G rfl,hne2,Nat.le_trans hsl2 (Nat.le_succ_of_le hsl)⟩ (K.step D' G htl' hap (b2a.some z _) l4.1 l4.2.1 l4.2.2.1 (fun p hp=>aia l4.2.2.2 p hp)).sep (by k_extra "md") (by k_extra "mj")
     ·rename Fr _ _ _ _=>F
      rename News _ _ _ _=>N
      refine dha (bva w t z y1 (Str.ofString "b") (Str.ofString "z") _ _ T (by omega) rz hrz2 hrk hrc) B X TT (by assumption) (by assumption) (by k_extra "mc") (by k_extra "mc") K.led ((D,listOf rv.toArray rn)::(O,listOf (ov3++ [Value.int (z:Nat) tz]).toArray on2)::(sr,so4)::(os++own)) (by walk_at "mb") (by walk_at "mb") K.rest ?_ rfl rfl
      intro T' h9 tk9 tk10 lt' hT' F9 htl' N9 hap
      have DG:=efa K.doc (by omega) (Str.ofString "instruction") (Str.ofString "b") (Str.ofString "") (Str.ofString "b") (Str.ofString "z") hrz2 hrk (by decide) (by decide) (by decide) hl (fun e=>absurd e (by decide))
      rw [<-hT'] at DG
      have D':=DG.1
      have G:=DG.2
      have N10:=News.sub N9 (l':=(D,listOf rv.toArray rn)::(O,listOf (ov3++ [Value.int (z:Nat) tz]).toArray on2)::(sr,so4)::(lt'++(os++own))) (by walk_at "mb")
      have hDa:=K.offD hap
      clear F N N9
      k_extra "ma"
      rename_i a4 h12 l4 h13 F N
      exact aHa.intro (⟨T',lt',_::os,so4,rv++ [.ref a4],rn+1,ov3++ [.int (z:Nat) tz],on2,st3++ [z]⟩:StG) F N (by walk_at "mb") ⟨(K.step D' G htl' hap (b2a.some z _) l4.1 l4.2.1 l4.2.2.1 (fun p hp=>aia l4.2.2.2 p hp)).less,(by show T'.length≤_;rw [G.len];omega),hnv2,hstk2.grow K.doc.wf D'.wf G rfl,hne2,Nat.le_trans hsl2 (Nat.le_succ_of_le hsl)⟩ (K.step D' G htl' hap (b2a.some z _) l4.1 l4.2.1 l4.2.2.1 (fun p hp=>aia l4.2.2.2 p hp)).sep (by k_extra "md") (by k_extra "mj")
  ·clear F N R K hTl hnv hstk hne hsl
   rintro cS_ u h tk hJ0_ F N hsep
   k_extra "mf"
   obtain⟨T,lt,os,so,rv,rn,ov,on,st⟩:=cS_
   dsimp only [List.nil_append,List.append_nil] at F N hJ0_
   refine bua ?_
   intro hG_ hg_
   obtain⟨K,hTl,hnv,hstk,hne,hsl⟩:=hJ0_
   refine hg_ ?_
   clear hg_ hG_
   dsimp only [List.nil_append,List.append_nil] at K hTl
   change Fr g L h _ at F
   change News g L h _ at N
   clear hsep hnv hstk hne hsl
   have hrl:=K.rows.len
   obtain⟨r0,hr0⟩:=bma K.doc.pos
   have hrk:r0.kind=aLa∨r0.kind=sRoot:=by rw [<-aXa hr0];exact .inr K.doc.root
   have hrc:r0.children.length<60:=by rw [<-cIa hr0];exact a0a K.doc.wf 0
   obtain⟨a0,y1,y2,y3,k0,n0,p0,hra,hma⟩:=K.rows.get K.doc.pos
   obtain⟨dt,rl,tkr,ep,l',rfl⟩:=K.led.head
   k_extra "ma"
   refine bja (top:=2) (by decide) (by decide) K.so B X TT (by assumption) N (by k_extra "mc") (by k_extra "mc") (by k_extra "me") ((D,listOf rv.toArray rn)::(O,listOf ov.toArray on)::(cea w t dt rl tkr ep l'++(os++ []))) (by walk_at "mb") K.offS ?_ rfl rfl
   intro h4 tk4 n4 tkw so4 F4 ho4 N4 hway
   replace K:=K.src ho4
   have N5:=News.sub N4 (l':=(a0,aea #[.int (0:Nat) y1, .str k0 y2, .str n0 y3,p0])::(D,listOf rv.toArray rn)::(O,listOf ov.toArray on)::(sr,so4)::cea w t dt rl tkr ep (l'++(os++ []))) (by
    refine List.forall_mem_cons.mpr ⟨?_,by walk_at "mb"⟩
    simp only [List.mem_cons,List.mem_append,hma,true_or,or_true])
   clear N N4
   k_extra "ma"
   ·refine dha (bva w t 0 y1 (Str.ofString "b") (Str.ofString "z") _ _ T (by omega) r0 hr0 hrk hrc) B X TT (by assumption) (by assumption) (by k_extra "mc") (by k_extra "mc") K.led ((D,listOf rv.toArray rn)::(O,listOf ov.toArray on)::(sr,so4)::(os++ [])) (by walk_at "mb") (by walk_at "mb") K.rest ?_ rfl rfl
    intro T' h9 tk9 tk10 lt' hT' F9 htl' N9 hap
    have DG:=efa K.doc (by omega) (Str.ofString "instruction") (Str.ofString "b") (Str.ofString "") (Str.ofString "b") (Str.ofString "z") hr0 hrk (by decide) (by decide) (by decide) K.doc.last0 (fun e=>absurd e (by decide))
    rw [<-hT'] at DG
    have D':=DG.1
    have G:=DG.2
    have N10:=News.sub N9 (l':=(D,listOf rv.toArray rn)::(O,listOf ov.toArray on)::(sr,so4)::(lt'++(os++ []))) (by walk_at "mb")
    have hDa:=K.offD hap
    have hT3:=G.len
    clear N9
    k_extra "ma"
    rename_i a4 h12 l4 h13 F N
    exact hret _ _ _ (Fr.keep F) (GB.res (os:=_::os) (rn:=rn+1) (K.step D' G htl' hap (b2a.some 0 _) l4.1 l4.2.1 l4.2.2.1 (fun p hp=>aia l4.2.2.2 p hp)) (a5a (News.sub N (by walk_at "mb"))) (by omega))
   ·exact hret _ _ _ (Fr.keep F4) (K.res (rn:=rn) (a5a (News.sub N5 (by walk_at "mb"))) (by omega))))
end
section
theorem ar58:True:=by
 k_with "ar58" =>with_reducible first|((show _<_);first|exact mVa|exact n7a|exact m4a ‹_› |exact n5a ‹_› |exact oDa ‹_› |exact m1a ‹_› |exact n6a ‹_›)|((show _≤_);first|exact qLa ‹_› |exact nza ‹_› |exact nWa ‹_› ‹_› |exact nsa ‹_› ‹_›)|exact(ova ‹_› ‹_›).elim|exact(nZa ‹_› ‹_›).elim|exact(nba ‹_› ‹_›).elim|exact(nGa ‹_› ‹_›).elim|exact(oaa ‹_› ‹_›).elim|exact(nfa ‹_› ‹_›).elim|exact(nRa ‹_› ‹_›).elim|exact(oya ‹_› ‹_›).elim|exact(naa ‹_› ‹_›).elim
 trivial
inductive f8a(o:Obj):Tst->Prop
 |node (t:Tok):o=aea #[.str (Str.ofString "node") t]->f8a o .node
 |any (t:Tok):o=aea #[.str (Str.ofString "any") t]->f8a o .any
 |text (t:Tok):o=aea #[.str ika t]->f8a o (.kd ika)
 |comm (t:Tok):o=aea #[.str ila t]->f8a o (.kd ila)
 |nameB (t t1 t2:Tok):o=aea #[.str (Str.ofString "name") t, .str (Str.ofString "") t1, .str sB t2]->f8a o .nameB
 |instN (t:Tok):o=aea #[.str bSa t, .none]->f8a o (.instr none)
 |instS (t t1:Tok) (s:Str):o=aea #[.str bSa t, .str s t1]->f8a o (.instr (some s))
theorem f8a.at{o:Obj}{x:Tst}(X:f8a o x){h:Heap}{a:Addr}(e:h.get? a=some o):cqa h a x:=gP_ (by trivial:Ca_ (by
 cases X with
 |node t q=>exact .node t (q▸e)
 |any t q=>exact .any t (q▸e)
 |text t q=>exact .text t (q▸e)
 |comm t q=>exact .comm t (q▸e)
 |nameB t t1 t2 q=>exact .nameB t t1 t2 (q▸e)
 |instN t q=>exact .instN t (q▸e)
 |instS t t1 s q=>exact .instS t t1 s (q▸e)))
noncomputable def TIn(os:List (Addr×Obj))(vs:List Value):Prop:=∀ v∈vs,∃ a to x,v= .ref a∧(a,to)∈os∧f8a to x
theorem TIn.nil:TIn [] []:=fun _ h=>nomatch h
theorem TIn.cons{os:List (Addr×Obj)}{vs:List Value}{a:Addr}{to:Obj}{x:Tst}(ho:f8a to x)(h:TIn os vs):TIn ((a,to)::os) (.ref a::vs):=fun v hv=>by
 rcases lcM hv with rfl|hv
 ·exact⟨a,to,x,rfl, .head _,ho⟩
 ·obtain⟨b,tb,y,e,m,o⟩:=h v hv
  exact⟨b,tb,y,e, .tail _ m,o⟩
theorem TIn.snoc{os:List (Addr×Obj)}{vs:List Value}{a:Addr}{to:Obj}{x:Tst}(h:TIn os vs)(ho:f8a to x):TIn ((a,to)::os) (vs++ [.ref a]):=fun v hv=>by
 rcases laM hv with hv|hv
 ·obtain⟨b,tb,y,e,m,o⟩:=h v hv
  exact⟨b,tb,y,e, .tail _ m,o⟩
 ·exact⟨a,to,x,lsM hv, .head _,ho⟩
noncomputable def AIn(vs:List Value):Prop:=∀ v∈vs,∃ s t,v= .str s t∧s∈aga++aya
theorem AIn.nil:AIn []:=fun _ h=>nomatch h
theorem AIn.cons{vs:List Value}{s:Str}{t:Tok}(hs:s∈aga++aya)(h:AIn vs):AIn (.str s t::vs):=fun v hv=>by
 rcases lcM hv with rfl|hv
 ·exact⟨s,t,rfl,hs⟩
 ·exact h v hv
theorem jDa {t1 t2 t3 t4 t5:Tok} {v:Value} (h:v∈ [Value.int 1 t1, .int 2 t2, .str (Str.ofString "last") t3, .str (Str.ofString "odd") t4, .str sB t5]):∃ p,jca p v:=by
 simp only [List.mem_cons,List.not_mem_nil,or_false] at h
 rcases h with rfl|rfl|rfl|rfl|rfl
 ·exact⟨.num 1, .num 1 _ (by decide)⟩
 ·exact⟨.num 2, .num 2 _ (by decide)⟩
 ·exact⟨.last, .last _⟩
 ·exact⟨.odd, .odd _⟩
 ·exact⟨.isB, .isB _⟩
theorem cca.snoc{vs:List Value}{ps:List Prd}{v:Value}{p:Prd}(h:cca vs ps)(hp:jca p v):cca (vs++ [v]) (ps++ [p]):=by
 induction h with
 |nil=>exact .cons hp .nil
 |cons a _ ih=>exact .cons a ih
inductive i5a(sr:Addr)(g h':Heap)(v:Value):Prop
 |ik (a tt tp:Addr) (t1:Tok) (x:Stp) (pvs:List Value) (to o:Obj) (f0:v= .ref a) (f1:eZa o) (f2:f8a to x.tst) (f3:cca pvs x.prd) (f4:x.ax∈aga++aya) (f5:x.prd.length≤2)
  (f6:Hid g h' ((sr,o)::(a,aea #[.str x.ax t1, .ref tt, .ref tp])::(tt,to)::(tp,aea pvs.toArray):: [])) (f7: @Ne Nat a sr) (f8: @Ne Nat tt sr) (f9: @Ne Nat tp sr):i5a sr g h' v
structure rya where
 so:Obj
 ys:List Value
 ps:List Prd
theorem mla{prog:Program}{w:World}{A:Around}{E:Value->Shared->Prop}{s:Shared}{h₀:Heap}{L:Addr}{m:Str->Option Value}{news:List (Addr×Obj)}{vs ws:List Value}{a b:Addr}{Q:Value->Shared->Prop}(F:Fr h₀ L s.heap m)(N:News h₀ L s.heap news)(ha:s.heap.IsList a vs.toArray)(hb:s.heap.IsList b ws.toArray)(hz:vs.length+ws.length<2^20)
 (h:∀ D h',Fr h₀ L h' m->News h₀ L h' ((D,listOf (vs++ws).toArray 0)::news)->(∀ p∈news,p.1<D)->Q (.ref D) {s with heap:=h'}):
 wpAny (model prog w) A (binaryOp .Add (.ref a) (.ref b)) Q E s:=
 kmk_add_lit (zs:=vs++ws) F N ha hb rfl h (by simp only [List.size_toArray];unfold sizeLine;omega)
theorem qVa:True:=by
 k_with "S58 binaryOp Add ref ref" =>
  (
   (with_reducible show wpAny _ _ (binaryOp _ (Value.ref _) (Value.ref _)) _ _ _)
   k_dflt (refine mla (by assumption) (by assumption) (by k_extra "mg") (by k_extra "mg") (by walk_at "mm") ?_)
   intro _ _ _ _ l1
   (try k_lt l1);(try revert l1);intros;(try k_sweep))
 k_with "S58 call type:range" =>
  ((with_reducible show wpAny _ _ (call (Value.type "range") [Value.int _ _]) _ _ _);(refine range1_rows (by assumption) (by assumption) ?_);intro _ _ _ _ _ _ _ _ _;(try k_sweep))
 trivial
set_option maxHeartbeats 8000000 in
theorem fha:∀ (w:World) (sr:Addr),
 RW1 w 547 [.ref sr] 20 (fun g h=>∃ o,eZa o∧Hid g h [(sr,o)]) (fun g _ h' v=>i5a sr g h' v):=gP_ (by trivial:Ca_ (by
 intro w sr
 refine Mine.hRW ?_
 intro A s g Q E
 revert w sr A s g Q E
 k_extra "mV"
 intro w sr A s g Q E H hst hsz hr hp hret
 revert hp
 k_extra "ms"
 intro o
 rintro⟨ho,hhid⟩
 k_extra "mT"
 rename_i L h1 tk1 B X TT F lL hd hu o1 d1 N
 replace d1:o1.data= .cell (some (.ref sr)):=d1
 replace F:Fr g L h1 (fun _=>none):=F
 k_extra "ma"
 refine aGa (cl:= [(Str.ofString "source",L+1)]) (by assumption) rfl (by decide) rfl (by decide) rfl ?_
 k_extra "ma"
 rename_i A8 h2 q1 h3 A4 h4 q2 Al h5 q3 h6 D1 h7 p1 D2 h8 p2 D3 h9 p3 D4 h10 p4 D5 h11 p5 D6 h12 p6 D7 h13 p7 D8 h14 p8 Tl h15 q4 h16 D9 h17 p9 h18 F N
 obtain⟨os,tv,av,N1,hTI,hAI,hlt,hla,ho1⟩:∃ os tv av,News g L h18 ((sr,o)::(L+1,o1)::(Tl,listOf (List.toArray tv) 1)::(Al,listOf (List.toArray av) 0)::os)∧TIn os tv∧AIn av∧tv.length=9∧av.length=12∧∀ p∈os, @Ne Nat p.1 sr:=by
  refine' ⟨[(D9,_),(D1,_),(D2,_),(D3,_),(D4,_),(D5,_),(D6,_),(D7,_),(D8,_)], [.ref D1, .ref D2, .ref D3, .ref D4, .ref D5, .ref D6, .ref D7, .ref D8]++ [.ref D9], [_,_,_,_,_,_,_,_,_,_,_,_],News.sub N ?hs, ?_, ?_,rfl,rfl, ?_⟩
  case hs=>walk_at "mb"
  ·exact TIn.snoc (.cons (.node _ rfl) (.cons (.node _ rfl) (.cons (.node _ rfl) (.cons (.node _ rfl) (.cons (.any _ rfl) (.cons (.nameB _ _ _ rfl) (.cons (.text _ rfl) (.cons (.comm _ rfl) .nil)))))))) (.instN _ rfl)
  ·repeat(first|exact AIn.nil|refine AIn.cons (by decide) ?_)
  ·repeat(first|exact fn|refine fc ?n ?_;(case n=>(show @Ne Nat _ _;omega)))
 have sTl: @Ne Nat Tl sr:=by omega
 have sAl: @Ne Nat Al sr:=by omega
 have sL: @Ne Nat (L+1) sr:=Nat.ne_of_gt (Nat.lt_succ_of_lt (lL (sr,o) (.head _)))
 clear q1 q2 q3 q4 p1 p2 p3 p4 p5 p6 p7 p8 p9 N
 refine bja (top:=3) (by decide) (by decide) ho B X TT F N1 (by k_extra "mc") (by k_extra "mc") (.head _) ((L+1,o1)::(Tl,listOf tv.toArray 1)::(Al,listOf av.toArray 0)::os) (fun p hp=> .tail _ hp) (fc sL (fc sTl (fc sAl ho1))) ?_ rfl rfl
 intro h20 tk20 n5 tk21 o2 F2 ho2 N2 hn5
 clear F N1
 k_extra "ma"
 rename IsRange _ _ _ _ _ _ _ _=>R
 rename News _ _ _ _=>N
 rename Fr _ _ _ _=>F
 refine bza (n:=n5) (σ:=rya) (fun c=> [(sr,c.so)]) (fun c=>c.ys) (fun k c=>eZa c.so∧cca c.ys c.ps∧c.ps.length=k) ⟨o2, [], []⟩ ((L+1,o1)::(Tl,listOf tv.toArray 1)::(Al,listOf av.toArray 0)::os) rfl R (small_one (by omega) (by omega) (by omega) (by omega)) (by rw [rangeSize_nat];omega) (by rw [sizeLine_eq];omega)
  F N (by walk_at "mb") (fun q hq p hp=>by rw [lsM hq];exact(fc sL (fc sTl (fc sAl ho1)):∀ p∈(L+1,o1)::(Tl,listOf tv.toArray 1)::(Al,listOf av.toArray 0)::os, @Ne Nat p.1 sr) p hp) rfl ⟨ho2, .nil,rfl⟩ ?_ ?_
 ·clear F N R
  rintro k tkk cS_ h tk own C oC m₂ E' hk hJ0_ hyl hC hoC hx F N hsep
  k_extra "mf"
  obtain⟨so,ys,ps⟩:=cS_
  dsimp only at hyl N hsep hJ0_ ⊢
  refine bua ?_
  intro hG_ hg_
  obtain⟨hso,hpv,hlen⟩:=hJ0_
  refine hg_ ?_
  clear hg_ hG_
  have N3:=News.sub N (l':=(C,oC)::(sr,so)::(L+1,o1)::(Tl,listOf tv.toArray 1)::(Al,listOf av.toArray 0)::(os++own)) (by walk_at "mb")
  clear N
  k_extra "ma"
  rename_i cE Dn hN F N lN
  have hO:∀ p∈os++own, @Ne Nat p.1 sr:=fun p hp=>(laM hp).elim (ho1 p) fun hp=>hsep (sr,so) (.head _) p (laG _ hp)
  refine fba (by k_extra "md") (by k_extra "md") hso B X TT F N (by k_extra "mc") (by k_extra "mc") (by k_extra "me") (.head _) (Nat.ne_of_gt lN.2.1) ((L+1,o1)::(Tl,listOf tv.toArray 1)::(Al,listOf av.toArray 0)::(os++own)) (by walk_at "mb") (fc sL (fc sTl (fc sAl hO))) ?_ rfl rfl
  intro h9 tk9 v9 so9 F9 ho9 N9 hv9
  obtain⟨p9,hp9⟩:=jDa hv9
  clear F N
  k_extra "ma"
  exact aba.intro (⟨so9,ys++ [v9],ps++ [p9]⟩:rya) F9 N9 (by walk_at "mb") rfl ⟨ho9,hpv.snoc hp9,by simp [hlen]⟩ (fun q hq p hp=>by rw [lsM hq];exact hsep (sr,so) (.head _) p hp)
 clear F N R
 rintro Pl cS_ h8 tk8 hJ0_ hyl F N hD-
 k_extra "mf"
 obtain⟨so,ys,ps⟩:=cS_
 dsimp only at hyl N hD hJ0_ ⊢
 refine bua ?_
 intro hG_ hg_
 obtain⟨hso,hpv,hlen⟩:=hJ0_
 refine hg_ ?_
 clear hg_ hG_
 change News _ L h8 ((Pl,listOf ys.toArray ys.length)::_) at N
 k_extra "ma"
 rename_i Tp hA eA hB I1 hC l1 I2 hD' l2 Lq hE l3 T2 hF l4 hG F N
 have sO:∀ x:Nat,(∀ p∈ [(sr,so)]++((L+1,o1)::(Tl,listOf tv.toArray 1)::(Al,listOf av.toArray 0)::os), @LT.lt Nat _ p.1 x)-> @Ne Nat x sr:=fun x h=>Nat.ne_of_gt (h (sr,so) (.head _))
 have sTp: @Ne Nat Tp sr:=by
  intro e
  have q1:=(N (Tp,aea ys.toArray) (by k_extra "me")).1
  have q2:=(N (sr,so) (by k_extra "me")).1
  rw [show Tp=sr from e,q2] at q1
  obtain⟨d,m,td,tm,c,e0,-⟩:=hso
  rw [e0] at q1
  exact absurd (Value.type.inj (Option.some.inj (congrArg (Option.map Obj.cls) q1))) (by decide)
 have s1:=sO I1 (fun p hp=>aia l1.2.2 p hp)
 have s2:=sO I2 (fun p hp=>aia l2.2.2.2 p hp)
 have s3:=sO T2 (fun p hp=>aia l4.2.2.2.2.2 p hp)
 have hTI2:TIn ((I2,aea #[.str bSa (tk8+1+1+1), .str (Str.ofString "c") (tk8+1+1+1+1)])::(I1,aea #[.str bSa (tk8+1), .str (Str.ofString "b") (tk8+1+1)])::os) (tv++ [.ref I1]++ [.ref I2]):=(hTI.snoc (.instS _ _ _ rfl)).snoc (.instS _ _ _ rfl)
 have N3:=News.sub N (l':=(sr,so)::(L+1,o1)::(T2,listOf (tv++ [Value.ref I1]++ [Value.ref I2]).toArray 0)::(Al,listOf av.toArray 0)::(Tp,aea ys.toArray)::((I2,aea #[.str bSa (tk8+1+1+1), .str (Str.ofString "c") (tk8+1+1+1+1)])::(I1,aea #[.str bSa (tk8+1), .str (Str.ofString "b") (tk8+1+1)])::os)) (by rw [List.append_assoc];walk_at "mb")
 have ho2:∀ p∈(I2,aea #[.str bSa (tk8+1+1+1), .str (Str.ofString "c") (tk8+1+1+1+1)])::(I1,aea #[.str bSa (tk8+1), .str (Str.ofString "b") (tk8+1+1)])::os, @Ne Nat p.1 sr:=fc s2 (fc s1 ho1)
 clear N l1 l2 l3 l4 sO s1 s2 hTI ho1
 generalize (I2,aea #[.str bSa (tk8+1+1+1), .str (Str.ofString "c") (tk8+1+1+1+1)])::(I1,aea #[.str bSa (tk8+1), .str (Str.ofString "b") (tk8+1+1)])::os=os2 at N3 ho2 hTI2
 refine fba (vs:=av) (c:=0) (by omega) (by omega) hso B X TT F N3 (by k_extra "mc") (by k_extra "mc") (.head _) (by k_extra "me") sAl ((L+1,o1)::(T2,listOf (tv++ [Value.ref I1]++ [Value.ref I2]).toArray 0)::(Tp,aea ys.toArray)::os2) (by walk_at "mb") (fc sL (fc s3 (fc sTp ho2))) ?_ rfl rfl
 intro h9 tk9 v9 so9 F9 ho9 N9 hv9
 obtain⟨ax,ta,rfl,hax⟩:=hAI _ hv9
 clear N3 F
 k_extra "ma"
 have N10:=News.sub N9 (l':=(T2,listOf (tv++ [Value.ref I1]++ [Value.ref I2]).toArray 0)::(sr,so9)::(L+1,o1)::(Tp,aea ys.toArray)::os2) (by walk_at "mb")
 have hlt2:(tv++ [Value.ref I1]++ [Value.ref I2]).length=11:=by simp [hlt]
 refine fba (vs:=tv++ [Value.ref I1]++ [Value.ref I2]) (c:=0) (by omega) (by omega) ho9 B X TT F9 N10 (by k_extra "mc") (by k_extra "mc") (by k_extra "me") (.head _) s3 ((L+1,o1)::(Tp,aea ys.toArray)::os2) (by walk_at "mb") (fc sL (fc sTp ho2)) ?_ rfl rfl
 intro h10 tk10 v10 so10 F10 ho10 N11 hv10
 obtain⟨tt,to,x,rfl,hm,hto⟩:=hTI2 _ hv10
 have stt:=ho2 _ hm
 have N12:=News.sub N11 (l':=(sr,so10)::(tt,to)::(Tp,aea ys.toArray)::(L+1,o1):: []) (by
  refine List.forall_mem_cons.mpr ⟨.head _,List.forall_mem_cons.mpr ⟨.tail _ (.tail _ (.tail _ hm)),by walk_at "mb"⟩⟩)
 clear N9 N10 N11 F9
 k_extra "ma"
 rename_i a hZ F N la
 exact hret _ _ _ F.keep ⟨a,tt,Tp,ta,⟨ax,x,ps⟩,ys,to,so10,rfl,ho10,hto,hpv,hax,(by show ps.length≤2;omega),a5a (News.sub N (by walk_at "mb")),Nat.ne_of_gt la.1,stt,sTp⟩))
end
section
theorem ar59:True:=by
 k_with "ar59" =>
  fail
 trivial
theorem e4a(w:World)(tt tp:Addr)(tn:Tok)(name:Str):
 RO1 w 474 [.str name tn, .ref tt, .ref tp] 6 (fun _=>True) (fun h h' v=>∃ (a d:Addr) (k1 k2 k3 t1 ep:Nat),v= .ref a∧h'.get? a=some (instObj 474 d)∧
  h'.get? d=some (dictOf [⟨PyData.keyHash w.params (Str.ofString "axis"), .str (Str.ofString "axis") k1, .str name t1⟩,⟨PyData.keyHash w.params (Str.ofString "test"), .str (Str.ofString "test") k2, .ref tt⟩,⟨PyData.keyHash w.params (Str.ofString "predicates"), .str (Str.ofString "predicates") k3, .ref tp⟩] ep)∧
  h.get? a=none∧h.get? d=none∧ @LT.lt Nat _ d a):=by
 intro A s Q E H hr _ hret
 k_extra "mH"
 k_extra "ma"
 rename_i x dx _ _ _ l1 _ _ _ _ _ _ F N
 exact hret _ _ _ F.keep ⟨x,dx,_,_,_,_,_,rfl,(N _ (.head _)).1,(N _ (.tail _ (.head _))).1,(N _ (.head _)).2.2,(N _ (.tail _ (.head _))).2.2,l1⟩
end
section
theorem ar60:True:=by
 k_with "ar60" =>
  fail
 trivial
noncomputable abbrev llQ:Str:=Str.ofString "law.<locals>.<lambda>"
noncomputable abbrev qwa:=f5a 549 431 133 llQ
structure LW(L sr:Nat)(tl tq Z:List (Addr×Obj)):Prop where
 zs:∀ p∈Z, @Ne Nat p.1 sr
 z1:∀ p∈Z, @Ne Nat p.1 (L+1)
 z2:∀ p∈Z, @Ne Nat p.1 (L+1+1)
 z3:∀ p∈Z, @Ne Nat p.1 (L+1+1+1)
 ts:∀ p∈tl++tq, @Ne Nat p.1 sr
 t1:∀ p∈tl++tq, @Ne Nat p.1 (L+1)
 t2:∀ p∈tl++tq, @Ne Nat p.1 (L+1+1)
 t3:∀ p∈tl++tq, @Ne Nat p.1 (L+1+1+1)
 zt:∀ p∈Z,∀ q∈tl++tq, @Ne Nat p.1 q.1
 tt:∀ p∈tl,∀ q∈tq, @Ne Nat p.1 q.1
 s1: @Ne Nat sr (L+1)
 s2: @Ne Nat sr (L+1+1)
 s3: @Ne Nat sr (L+1+1+1)
section
variable {L sr:Nat} {tl tq Z:List (Addr×Obj)} {c1 c2 c3 so:Obj}
noncomputable abbrev mta(L sr:Nat)(c3 c2 c1 so:Obj)(tl tq Z:List (Addr×Obj)):List (Addr×Obj):=(L+1+1+1,c3)::(L+1+1,c2)::(L+1,c1)::(sr,so)::(tl++(tq++Z))
theorem LW.tz{E:List (Addr×Obj)}(_:LW L sr tl tq (E++Z)){P:(Addr×Obj)->Prop}(a:∀ p∈tl++tq,P p)(b:∀ p∈E++Z,P p):∀ p∈E++(tl++(tq++Z)),P p:=fun p hp=>by
 rcases laM hp with hp|hp
 ·exact b p (laL _ hp)
 rcases laM hp with hp|hp
 ·exact a p (laL _ hp)
 rcases laM hp with hp|hp
 ·exact a p (laG _ hp)
 ·exact b p (laG _ hp)
theorem LW.offS{E:List (Addr×Obj)}(K:LW L sr tl tq (E++Z)):∀ p∈(L+1+1+1,c3)::(L+1+1,c2)::(L+1,c1)::(E++(tl++(tq++Z))), @Ne Nat p.1 sr:=fc K.s3.symm (fc K.s2.symm (fc K.s1.symm (K.tz K.ts K.zs)))
theorem LW.off1{E:List (Addr×Obj)}(K:LW L sr tl tq (E++Z)):∀ p∈(L+1+1+1,c3)::(L+1+1,c2)::(sr,so)::(E++(tl++(tq++Z))), @Ne Nat p.1 (L+1):=fc (ck L 3 1 (by decide)) (fc (ck L 2 1 (by decide)) (fc K.s1 (K.tz K.t1 K.z1)))
theorem LW.off2{E:List (Addr×Obj)}(K:LW L sr tl tq (E++Z)):∀ p∈(L+1+1+1,c3)::(L+1,c1)::(sr,so)::(E++(tl++(tq++Z))), @Ne Nat p.1 (L+1+1):=fc (by show @Ne Nat _ _;omega) (fc (by show @Ne Nat _ _;omega) (fc K.s2 (K.tz K.t2 K.z2)))
theorem LW.off3{E:List (Addr×Obj)}(K:LW L sr tl tq (E++Z)):∀ p∈(L+1+1,c2)::(L+1,c1)::(sr,so)::(E++(tl++(tq++Z))), @Ne Nat p.1 (L+1+1+1):=fc (by show @Ne Nat _ _;omega) (fc (by show @Ne Nat _ _;omega) (fc K.s3 (K.tz K.t3 K.z3)))
theorem LW.offT{E:List (Addr×Obj)}(K:LW L sr tl tq (E++Z)):∀ p∈(L+1+1+1,c3)::(L+1+1,c2)::(L+1,c1)::(sr,so)::(E++(tq++Z)),∀ q∈tl, @Ne Nat p.1 q.1:=
 fc (fun q hq=>(K.t3 q (laL _ hq)).symm) (fc (fun q hq=>(K.t2 q (laL _ hq)).symm) (fc (fun q hq=>(K.t1 q (laL _ hq)).symm) (fc (fun q hq=>(K.ts q (laL _ hq)).symm) fun p hp q hq=>by
  rcases laM hp with hp|hp
  ·exact K.zt p (laL _ hp) q (laL _ hq)
  rcases laM hp with hp|hp
  ·exact(K.tt q hq p hp).symm
  ·exact K.zt p (laG _ hp) q (laL _ hq))))
theorem LW.offQ{E:List (Addr×Obj)}(K:LW L sr tl tq (E++Z)):∀ p∈(L+1+1+1,c3)::(L+1+1,c2)::(L+1,c1)::(sr,so)::(E++(tl++Z)),∀ q∈tq, @Ne Nat p.1 q.1:=
 fc (fun q hq=>(K.t3 q (laG _ hq)).symm) (fc (fun q hq=>(K.t2 q (laG _ hq)).symm) (fc (fun q hq=>(K.t1 q (laG _ hq)).symm) (fc (fun q hq=>(K.ts q (laG _ hq)).symm) fun p hp q hq=>by
  rcases laM hp with hp|hp
  ·exact K.zt p (laL _ hp) q (laG _ hq)
  rcases laM hp with hp|hp
  ·exact K.tt p hp q hq
  ·exact K.zt p (laG _ hp) q (laG _ hq))))
theorem LW.add(K:LW L sr tl tq Z){X:List (Addr×Obj)}(h:∀ p∈X,∀ q∈mta L sr c3 c2 c1 so tl tq Z, @Ne Nat q.1 p.1):LW L sr tl tq (X++Z):=by
 have up:∀ {P:(Addr×Obj)->Prop},(∀ p∈X,P p)->(∀ p∈Z,P p)->∀ p∈X++Z,P p:=fun a b p hp=>(laM hp).elim (a p) (b p)
 exact {K with
  zs:=up (fun p hp=>(h p hp _ (.tail _ (.tail _ (.tail _ (.head _))))).symm) K.zs
  z1:=up (fun p hp=>(h p hp _ (.tail _ (.tail _ (.head _)))).symm) K.z1
  z2:=up (fun p hp=>(h p hp _ (.tail _ (.head _))).symm) K.z2
  z3:=up (fun p hp=>(h p hp _ (.head _)).symm) K.z3
  zt:=up (fun p hp q hq=>(h p hp q (.tail _ (.tail _ (.tail _ (.tail _ (by rw [<-List.append_assoc];exact laL _ hq)))))).symm) K.zt}
theorem LW.add2(K:LW L sr tl tq Z){X:List (Addr×Obj)}(hs:∀ p∈X, @Ne Nat p.1 sr)(h:∀ p∈X,∀ q∈(L+1+1+1,c3)::(L+1+1,c2)::(L+1,c1)::(tl++(tq++Z)), @Ne Nat q.1 p.1):LW L sr tl tq (X++Z):=
 K.add (c3:=c3) (c2:=c2) (c1:=c1) (so:=c1) fun p hp q hq=>by
  rcases lcM hq with rfl|hq
  ·exact h p hp _ (.head _)
  rcases lcM hq with rfl|hq
  ·exact h p hp _ (.tail _ (.head _))
  rcases lcM hq with rfl|hq
  ·exact h p hp _ (.tail _ (.tail _ (.head _)))
  rcases lcM hq with rfl|hq
  ·exact(hs p hp).symm
  ·exact h p hp q (.tail _ (.tail _ (.tail _ hq)))
theorem LW.new(K:LW L sr tl tq Z){a:Nat}{o:Obj}{Z':List (Addr×Obj)}(q0:sr<a)(q3:L+1+1+1<a)(qT:∀ p∈tl++(tq++Z'), @LT.lt Nat _ p.1 a):LW L sr tl tq ((a,o)::Z):=
 {K with
  zs:=fc (Nat.ne_of_gt q0) K.zs
  z1:=fc (by show @Ne Nat _ _;omega) K.z1
  z2:=fc (by show @Ne Nat _ _;omega) K.z2
  z3:=fc (Nat.ne_of_gt q3) K.z3
  zt:=fc (fun q hq=>Nat.ne_of_gt (qT q (by rw [<-List.append_assoc];exact laL _ hq))) K.zt}
theorem LW.sub(K:LW L sr tl tq Z){Z':List (Addr×Obj)}(h:∀ p∈Z',p∈Z):LW L sr tl tq Z':=
 {K with zs:=fun p hp=>K.zs p (h p hp),z1:=fun p hp=>K.z1 p (h p hp),z2:=fun p hp=>K.z2 p (h p hp),z3:=fun p hp=>K.z3 p (h p hp),zt:=fun p hp=>K.zt p (h p hp)}
end
inductive eYa(zs:List (Addr×Obj))(v:Value)(x:Stp):Prop
 |ik (a tt tp:Addr) (t1:Tok) (pvs:List Value) (to:Obj) (f0:v= .ref a) (f1:(a,aea #[.str x.ax t1, .ref tt, .ref tp])∈zs) (f2:(tt,to)∈zs) (f3:f8a to x.tst) (f4:(tp,aea pvs.toArray)∈zs) (f5:cca pvs x.prd):eYa zs v x
theorem eYa.more{zs zs':List (Addr×Obj)}{v:Value}{x:Stp}(H:eYa zs v x)(h:∀ p∈zs,p∈zs'):eYa zs' v x:=let ⟨a,tt,tp,t1,pvs,to,e,m1,m2,o,m3,q⟩:=H;⟨a,tt,tp,t1,pvs,to,e,h _ m1,h _ m2,o,h _ m3,q⟩
structure dpa(zs:List (Addr×Obj))(ys:List Value)(xs:List Stp):Prop where
 len:ys.length=xs.length
 get:∀ (i:Nat) (v:Value),ys[i]?=some v->∃ x,xs[i]?=some x∧eYa zs v x
theorem dpa.nil{zs:List (Addr×Obj)}:dpa zs [] []:=⟨rfl,fun i v h=>by simp at h⟩
theorem dpa.snoc{zs zs':List (Addr×Obj)}{ys:List Value}{xs:List Stp}{v:Value}{x:Stp}(H:dpa zs ys xs)(h:eYa zs' v x)(hs:∀ p∈zs,p∈zs'):dpa zs' (ys++ [v]) (xs++ [x]):=gP_ (by trivial:Ca_ (by
 refine⟨by rw [List.length_append,List.length_append,H.len];rfl,fun i u e=> ?_⟩
 by_cases hi:i<ys.length
 ·rw [List.getElem?_append_left hi] at e
  obtain⟨y,e1,e2⟩:=H.get i u e
  exact⟨y,by rw [List.getElem?_append_left (by rw [<-H.len];exact hi)];exact e1,e2.more hs⟩
 ·have h3:i=ys.length:=by
   have:=(List.getElem?_eq_some_iff.mp e).1
   simp only [List.length_append,List.length_singleton] at this
   omega
  subst h3
  rw [List.getElem?_append_right (Nat.le_refl _),Nat.sub_self] at e
  cases e
  exact⟨x,by rw [H.len,List.getElem?_append_right (Nat.le_refl _),Nat.sub_self];rfl,h⟩))
inductive SpO(w:World)(zs zz:List (Addr×Obj))(v:Value)(x:Stp):Prop
 |ik (a d tt tp:Addr) (k1 k2 k3 t1 ep:Nat) (pvs:List Value) (to:Obj) (f0:v= .ref a) (f1:(a,instObj 474 d)∈zz)
  (f2:(d,dictOf [⟨PyData.keyHash w.params (Str.ofString "axis"), .str (Str.ofString "axis") k1, .str x.ax t1⟩,⟨PyData.keyHash w.params (Str.ofString "test"), .str (Str.ofString "test") k2, .ref tt⟩,⟨PyData.keyHash w.params (Str.ofString "predicates"), .str (Str.ofString "predicates") k3, .ref tp⟩] ep)∈zz)
  (f3:(tt,to)∈zs) (f4:f8a to x.tst) (f5:(tp,aea pvs.toArray)∈zs) (f6:cca pvs x.prd):SpO w zs zz v x
theorem SpO.more{w:World}{zs zz zz':List (Addr×Obj)}{v:Value}{x:Stp}(H:SpO w zs zz v x)(h:∀ p∈zz,p∈zz'):SpO w zs zz' v x:=
 let ⟨a,d,tt,tp,k1,k2,k3,t1,ep,pvs,to,e,m1,m2,m3,o,m4,q⟩:=H;⟨a,d,tt,tp,k1,k2,k3,t1,ep,pvs,to,e,h _ m1,h _ m2,m3,o,m4,q⟩
theorem SpO.at{w:World}{zs zz:List (Addr×Obj)}{v:Value}{x:Stp}(H:SpO w zs zz v x){h:Heap}(hz:∀ p∈zs,h.get? p.1=some p.2)(hy:∀ p∈zz,h.get? p.1=some p.2):∃ a,v= .ref a∧c8a w.params h a x:=
 let ⟨a,d,tt,tp,k1,k2,k3,t1,ep,pvs,_,e,m1,m2,m3,o,m4,q⟩:=H;⟨a,e,d,tt,tp,k1,k2,k3,t1,ep,pvs,hy _ m1,hy _ m2,o.at (hz _ m3),hz _ m4,q⟩
noncomputable def lAa(w:World)(zs zz:List (Addr×Obj))(ys:List Value)(xs:List Stp):Prop:=∀ (i:Nat) (v:Value),ys[i]?=some v->∃ x,xs[i]?=some x∧SpO w zs zz v x
theorem lAa.nil{w:World}{zs zz:List (Addr×Obj)}{xs:List Stp}:lAa w zs zz [] xs:=fun i v h=>by simp at h
theorem lAa.snoc{w:World}{zs zz zz':List (Addr×Obj)}{ys:List Value}{xs:List Stp}{v:Value}{x:Stp}(H:lAa w zs zz ys xs)(hx:xs[ys.length]?=some x)(h:SpO w zs zz' v x)(hs:∀ p∈zz,p∈zz'):lAa w zs zz' (ys++ [v]) xs:=fun i u e=>by
 by_cases hi:i<ys.length
 ·rw [List.getElem?_append_left hi] at e
  obtain⟨y,e1,e2⟩:=H i u e
  exact⟨y,e1,e2.more hs⟩
 ·have h3:i=ys.length:=by
   have:=(List.getElem?_eq_some_iff.mp e).1
   simp only [List.length_append,List.length_singleton] at this
   omega
  subst h3
  rw [List.getElem?_append_right (Nat.le_refl _),Nat.sub_self] at e
  cases e
  exact⟨x,hx,h⟩
theorem gUa{P:Addr->Stp->Prop}:∀ {vs:List Value} {xs:List Stp} (_:vs.length=xs.length) (_:∀ (i:Nat) (v:Value),vs[i]?=some v->∃ x,xs[i]?=some x∧∃ a,v= .ref a∧P a x),bna P vs xs
 | [], [],_,_=>trivial
 | [],_::_,h,_=>by simp at h
 |_::_, [],h,_=>by simp at h
 |v::vs,x::xs,hl,h=>⟨by
   obtain⟨y,e,a,q⟩:=h 0 v rfl
   cases e
   exact⟨a,q⟩,gUa (by simpa using hl) fun i u e=>by
   obtain⟨y,e1,e2⟩:=h (i+1) u (by simpa using e)
   exact⟨y,by simpa using e1,e2⟩⟩
structure rxa where
 ys:List Value
 zz:List (Addr×Obj)
structure rva where
 so:Obj
 ys:List Value
 xs:List Stp
 zs:List (Addr×Obj)
structure rza where
 l:Addr
 ts:List (Addr×Obj)
 vs:List Value
theorem f5a.mem{P:Addr}{line col:Nat}{qual:Str}{tl:List (Addr×Obj)}(H:f5a P line col qual tl):∃ o,(P,o)∈tl:=by
 rcases H with _|⟨_,_,_⟩
 ·exact⟨_, .head _⟩
 ·exact⟨_, .head _⟩
theorem LW.retab{L sr:Nat}{tl tq Z:List (Addr×Obj)}(K:LW L sr tl tq Z){P c':Addr}{o o' oc:Obj}(hP:(P,o)∈tq){c3 c2 c1 so:Obj}(hc:∀ q∈(L+1+1+1,c3)::(L+1+1,c2)::(L+1,c1)::(sr,so)::(tl++Z), @Ne Nat q.1 c'):LW L sr tl [(P,o'),(c',oc)] Z:=gP_ (by trivial:Ca_ (by
 have hPT:=laG tl hP
 have up:∀ {Q:(Addr×Obj)->Prop},(∀ p∈tl,Q p)->Q (P,o')->Q (c',oc)->∀ p∈tl++ [(P,o'),(c',oc)],Q p:=fun a b c p hp=>(laM hp).elim (a p) fun hp=>by
  rcases lcM hp with rfl|hp
  ·exact b
  ·rw [lsM hp];exact c
 have hc4:=fun q hq=>hc q (.tail _ (.tail _ (.tail _ (.tail _ hq))))
 exact {K with
  ts:=up (fun p hp=>K.ts p (laL _ hp)) (K.ts (P,o) hPT) (hc _ (.tail _ (.tail _ (.tail _ (.head _))))).symm
  t1:=up (fun p hp=>K.t1 p (laL _ hp)) (K.t1 (P,o) hPT) (hc _ (.tail _ (.tail _ (.head _)))).symm
  t2:=up (fun p hp=>K.t2 p (laL _ hp)) (K.t2 (P,o) hPT) (hc _ (.tail _ (.head _))).symm
  t3:=up (fun p hp=>K.t3 p (laL _ hp)) (K.t3 (P,o) hPT) (hc _ (.head _)).symm
  zt:=fun p hp=>up (fun q hq=>K.zt p hp q (laL _ hq)) (K.zt p hp (P,o) hPT) (hc4 p (laG _ hp))
  tt:=fun p hp=>fc (K.tt p hp (P,o) hP) (fc (hc4 p (laL _ hp)) fn)}))
theorem LW.retl{L sr:Nat}{tl tq Z:List (Addr×Obj)}(K:LW L sr tl tq Z){tl2:List (Addr×Obj)}{c3 c2 c1 so:Obj}(h:∀ p∈tl2,∀ q∈(L+1+1+1,c3)::(L+1+1,c2)::(L+1,c1)::(sr,so)::(tq++Z), @Ne Nat q.1 p.1):LW L sr tl2 tq Z:=gP_ (by trivial:Ca_ (by
 have up:∀ {Q:(Addr×Obj)->Prop},(∀ p∈tl2,Q p)->(∀ p∈tq,Q p)->∀ p∈tl2++tq,Q p:=fun a b p hp=>(laM hp).elim (a p) (b p)
 have h4:=fun p hp q hq=>h p hp q (.tail _ (.tail _ (.tail _ (.tail _ hq))))
 exact {K with
  ts:=up (fun p hp=>(h p hp _ (.tail _ (.tail _ (.tail _ (.head _))))).symm) fun p hp=>K.ts p (laG _ hp)
  t1:=up (fun p hp=>(h p hp _ (.tail _ (.tail _ (.head _)))).symm) fun p hp=>K.t1 p (laG _ hp)
  t2:=up (fun p hp=>(h p hp _ (.tail _ (.head _))).symm) fun p hp=>K.t2 p (laG _ hp)
  t3:=up (fun p hp=>(h p hp _ (.head _)).symm) fun p hp=>K.t3 p (laG _ hp)
  zt:=fun p hp=>up (fun q hq=>h4 q hq p (laG _ hp)) fun q hq=>K.zt p hp q (laG _ hq)
  tt:=fun p hp q hq=>(h4 p hp q (laL _ hq)).symm}))
structure qta where
 c3:Obj
 c2:Obj
 c1:Obj
 tl:List (Addr×Obj)
 tq:List (Addr×Obj)
structure LJ(L:Nat)(c:qta):Prop where
 d3:∃ v,c.c3.data= .cell v
 d2:∃ v,c.c2.data= .cell v
 d1:∃ v,c.c1.data= .cell v
 il:f7a c.tl
 iq:qwa c.tq
 t1:∀ p∈c.tl++c.tq, @Ne Nat p.1 (L+1)
 t2:∀ p∈c.tl++c.tq, @Ne Nat p.1 (L+1+1)
 t3:∀ p∈c.tl++c.tq, @Ne Nat p.1 (L+1+1+1)
 tt:∀ p∈c.tl,∀ q∈c.tq, @Ne Nat p.1 q.1
theorem qUa:True:=by
 k_with "S60 call type:range" =>
  ((with_reducible show wpAny _ _ (call (Value.type "range") [Value.int _ _]) _ _ _);(refine range1_rows (by assumption) (by assumption) ?_);intro _ _ _ _ _ _ _ _ _;(try k_sweep))
 trivial
theorem kXa{h:Heap}{r:Addr}{b:Int}{t u v:Tok}(R:IsRange h r 0 b 1 t u v)(h1:1≤b)(h2:b≤2):∃ n:Nat,1≤n∧n≤2∧IsRange h r 0 (n:Int) 1 t u v:=⟨b.toNat,by omega,by omega,by rw [Int.toNat_of_nonneg (by omega)];exact R⟩
theorem kZa{a:Nat}{t u:Tok}:NV [.int (a:Nat) t, .int 0 u] [a,0]:=NV.one.snoc 0 u
theorem qTa:True:=by
 k_with "S60 mp" =>
  first|assumption|exact Mine.kZa|exact NV.one|exact NV.nil
 k_with "S60 eval Name" =>
  (kc_free;k_dflt (refine k2a rfl (Fr.keep (by assumption) _ _ (by assumption)) (by assumption) ?_))
 trivial
set_option maxHeartbeats 16000000 in
theorem law_walk:PySem.Challenge.rw_nu0071_02.Holds:=hd (by
 k_go0
 rename World=>w
 rename IntsAre _ _=>hI
 rename_i h1 tk1 i3 i2 i1 d3 d2 d1 X0 XX TT BB F cdI N l0
 clear X0
 replace d3:i3.data= .cell none:=d3
 replace d2:i2.data= .cell none:=d2
 replace d1:i1.data= .cell none:=d1
 have hdd:(1+claimMargin+1)+100<recursionLimit:=by decide
 have huu:7+8*100+200<cLine:=by decide
 rename Shared=>s1
 change wpAny (model PySem.Challenge.pw_nu0071_02 _) (dya (1+claimMargin+1) _ [] (some []) 7) _ _ _ _
 obtain⟨QL,hret,hQL⟩:∃ QL:Flow->Shared->Prop,(∀ h' tk',(ghostOf s1.heap [(193,191),(551,549)]).StaysIn h'->GrownAll [(193,191),(551,549)] h'->QL (.ret (.bool true)) (⟨h',s1.gens,s1.drawn,tk',s1.os⟩:Shared))∧
  (∀ fl s',QL fl s'->∃ h' tk',fl=Flow.ret (.bool true)∧s'=(⟨h',s1.gens,s1.drawn,tk',s1.os⟩:Shared)∧(ghostOf s1.heap [(193,191),(551,549)]).StaysIn h'∧GrownAll [(193,191),(551,549)] h'):=
  ⟨fun fl s'=>∃ h' tk',fl=Flow.ret (.bool true)∧s'=(⟨h',s1.gens,s1.drawn,tk',s1.os⟩:Shared)∧(ghostOf s1.heap [(193,191),(551,549)]).StaysIn h'∧GrownAll [(193,191),(551,549)] h',fun h' tk' a b=>⟨h',tk',rfl,rfl,a,b⟩,fun _ _ q=>q⟩
 refine wpAny_mono (Q:=QL) (E:=fun _ _=>False) ?_ (fun fl s' q=>by
  obtain⟨h',tk',rfl,rfl,st,gr⟩:=hQL _ _ q
  refine⟨⟨.inl ⟨.bool true, .bool true, [],rfl,fun _=>rfl, .bool _, ?_, ?_⟩,st,rfl, ?_⟩,gr⟩
  ·first|with_unfolding_all rfl|kernel_rfl|(simp [PySem.Challenge.rw_nu0071_02,OpenLaw.row];done)
  ·exact fun _=>⟨.nil,fun _ h=>nomatch h⟩
  ·assumption) (fun _ _ q=>q.elim)
 generalize (1+claimMargin+1)=dd at hdd ⊢
 generalize (7:Nat)=uu at huu ⊢
 replace cdI:CodeHd _ 193 191:=cdI
 replace codeHd:CodeHd _ 551 549:=codeHd
 rename ¬ ((63:Nat):Int)<_=>hlen
 generalize hL:Array.size _=L at F N l0 ⊢
 generalize ghostOf s1.heap [(193,191),(551,549)]=g at BB XX TT F N lifted cdI codeHd hret ⊢
 clear hQL
 replace F:Fr g L h1 (fun y=>if y=Str.ofString "script" then some (.ref _) else none):=F
 k_extra "ma"
 rename_i hO2 tkO2 hO3 tkO3 hO4 tkO4 rtO ruO rvO R F N st
 obtain⟨n,hnA,hnB,R⟩:=kXa R (by(repeat' split)<;>omega) (by(repeat' split)<;>omega)
 refine ePa (n:=n) rfl (σ:=qta) (fun c=>(L+1+1+1,c.c3)::(L+1+1,c.c2)::(L+1,c.c1)::(c.tl++c.tq)) (fun _=> []) [Str.ofString "tree",Str.ofString "steps",Str.ofString "due",Str.ofString "step",Str.ofString "told"] (fun _ c=>LJ L c) ⟨i3,i2,i1, [(191,tabObj #[])], [(549,tabObj #[])]⟩ []
  rfl R (small_one (by omega) (by omega) (by omega) (by omega)) (by rw [rangeSize_nat];omega) F N (by walk_at "mb") (by k_extra "md") (by k_extra "md") ?_ ?_ ?_
 ·refine⟨⟨_,d3⟩,⟨_,d2⟩,⟨_,d1⟩, .fresh, .fresh,fc ?_ (fc ?_ fn),fc ?_ (fc ?_ fn),fc ?_ (fc ?_ fn),fc (fc ?_ fn) fn⟩
  all_goals(show @Ne Nat _ _)
  all_goals omega
 rotate_left
 ·clear F N R d3 d2 d1 st
  rintro cS_ u h tk hJ0_ F N-
  k_extra "mf"
  obtain⟨c3,c2,c1,tl,tq⟩:=cS_
  dsimp only [List.nil_append,List.append_nil] at F N hJ0_ ⊢
  refine bua ?_
  intro hG_ hg_
  obtain⟨-,-,-,il,iq,-,-,-,-⟩:=hJ0_
  refine hg_ ?_
  clear hg_ hG_
  change Fr g L h _ at F
  change News g L h _ at N
  k_extra "ma"
  have N2:=News.sub N (l':=tl++tq) (by walk_at "mb")
  refine hret _ _ (Fr.keep F) ⟨?_, ?_,trivial⟩
  ·rcases il with _|⟨hod,hov,hcne⟩<;>exact GrownAt.of N2 (.head _)
  ·rcases iq with _|⟨hod,hov,hcne⟩<;>exact GrownAt.of N2 (laG tl List.mem_cons_self)
 clear F N R d3 d2 d1 st
 rintro k tkk cS_ u h tk own hk hJ0_ F N hsep
 k_extra "mf"
 obtain⟨c3,c2,c1,tl,tq⟩:=cS_
 dsimp only [List.nil_append] at F N hsep hJ0_ ⊢
 refine bua ?_
 intro hG_ hg_
 obtain⟨⟨v3,d3⟩,⟨v2,d2⟩,⟨v1,d1⟩,il,iq,t1,t2,t3,tt⟩:=hJ0_
 refine hg_ ?_
 clear hg_ hG_
 change Fr g L h _ at F
 change News g L h _ at N
 simp only [Int.zero_add] at F
 k_extra "ma"
 refine a9a (ipa w _ k tkk _ (by omega) (by omega)) BB XX TT F N (by k_extra "mc") (by k_extra "mc") ⟨_,a2a lifted F,hI⟩ ?_ rfl rfl
 rintro h5 tk5 r5 F5 N5 st5 ⟨sr,rfl,hsr,hsrn⟩
 obtain⟨so,hso,hsr⟩:=hsr.o
 have N6:=dea F N5 st5 hsr hsrn
 have a1:∀ p∈(L+1+1+1,c3)::(L+1+1,c2)::(L+1,c1)::(tl++tq++own), @Ne Nat p.1 sr:=fun p hp=>ffa hsrn (N p hp).1
 have hs4:=fun q hq=>hsep q (.tail _ (.tail _ (.tail _ hq)))
 have K:LW L sr tl tq own:= {
  zs:=fun p hp=>a1 p (.tail _ (.tail _ (.tail _ (laG _ hp))))
  z1:=hsep _ (.tail _ (.tail _ (.head _)))
  z2:=hsep _ (.tail _ (.head _))
  z3:=hsep _ (.head _)
  ts:=fun p hp=>a1 p (.tail _ (.tail _ (.tail _ (laL _ hp))))
  t1:=t1
  t2:=t2
  t3:=t3
  zt:=fun p hp q hq=>hs4 q hq p hp
  tt:=tt
  s1:=(a1 _ (.tail _ (.tail _ (.head _)))).symm
  s2:=(a1 _ (.tail _ (.head _))).symm
  s3:=(a1 _ (.head _)).symm}
 have N7:=News.sub N6 (l':=mta L sr c3 c2 c1 so tl tq own) (by walk_at "mb")
 clear F N N5 N6 st5 a1 hs4 hsep t1 t2 t3 tt
 have NS:=News.sub N7 (l':=(L+1,c1)::(L+1+1+1,c3)::(L+1+1,c2)::(sr,so)::(tl++(tq++own))) (by walk_at "mb")
 refine storeX_C F5 NS (c:=L+1) rfl (UpdF.head (LW.off1 (E:= []) K)) d1 ?_
 clear NS N7 F5
 intro h6 e1 F N x1
 try dsimp only at N
 k_extra "ma"
 refine a9a (e2a w) BB XX TT F N (by k_extra "mc") (by k_extra "mc") trivial ?_ rfl rfl
 rintro h7 tk7 r7 F7 N7 st7 ⟨t,l,rfl,htl,hh⟩
 have a1:∀ p∈l, @Ne Nat p.1 sr:=fNa hh (N (sr,so) (by k_extra "me")).1
 have a2:∀ p∈(L+1+1+1,c3)::(L+1+1,c2)::(L+1,e1)::(tl++(tq++own)),∀ q∈l, @Ne Nat p.1 q.1:=fun p hp q hq=>(fNa hh (N p (by revert hp;revert p;walk_at "mb")).1 q hq).symm
 have N8:=News.sub (fda F N7 hh) (l':=l++(L+1+1+1,c3)::(L+1+1,c2)::(L+1,e1)::(sr,so)::(tl++(tq++own))) (by walk_at "mb")
 clear N F N7 st7 hh
 k_extra "ma"
 refine bra (hFa w sr t) BB XX TT (by assumption) (by assumption) (by k_extra "mc") (by k_extra "mc") ((sr,so)::l) ((L+1+1+1,c3)::(L+1+1,c2)::(L+1,e1)::(tl++(tq++own))) (by walk_at "mb") (by walk_at "mb") (fun p hp q hq=>by
  rcases lcM hq with rfl|hq
  ·exact LW.offS (E:= []) K p hp
  ·exact a2 p hp q hq) (fun g' _ hh _ _=>⟨so,l,hso,htl,hh,a1⟩) ?_ rfl rfl
 rintro g4 h4 tk4 r4 F4 N4 st4 hl4 kp4 ⟨lr,rn,TR,lt,os,rv,o4,rfl,ho4,htl4,hh4,b1,b2,b3,b4,b5,D4,hrw,hT60⟩
 have hap:=c2a hh4 kp4
 have N5:=cXa (hl4 _ hh4) N4
 have K2:LW L sr tl tq (((lr,listOf rv.toArray rn)::(lt++os))++own):=K.add2 (c3:=c3) (c2:=c2) (c1:=e1) (fc b1 fun p hp=>(laM hp).elim (b2 p) (b4 p)) (fc (hap _ (.head _)) fun p hp=>hap p (.tail _ (.tail _ hp)))
 replace K2:LW L sr tl tq ((lr,listOf rv.toArray rn)::(lt++(os++own))):=K2.sub (by walk_at "mb")
 have NS:=News.sub N5 (l':=(L+1+1+1,c3)::(L+1+1,c2)::(L+1,e1)::(sr,o4)::(lr,listOf rv.toArray rn)::(tl++(tq++(lt++(os++own))))) (by walk_at "mb")
 clear N4 N5 hl4 kp4 hap hh4 b1 b2 b3 b4 b5 K a1 a2 htl hso
 k_extra "ma"
 refine storeX_C F4 NS (c:=L+1+1+1) rfl (UpdF.head (K2.off3 (E:= [(lr,listOf rv.toArray rn)]))) d3 ?_
 clear NS F4
 intro h8 e3 F N x3
 try dsimp only at N
 have hrl:=hrw.len
 have hT0:=D4.pos
 k_extra "ma"
 refine bja (top:=rv.length) (by omega) (by omega) ho4 BB XX TT F N (by k_extra "mc") (by k_extra "mc") (by k_extra "me") ((L+1+1+1,e3)::(L+1+1,c2)::(L+1,e1)::(lr,listOf rv.toArray rn)::(tl++(tq++(lt++(os++own))))) (by walk_at "mb") (K2.offS (E:= [(lr,listOf rv.toArray rn)])) ?_ rfl rfl
 intro h9 tk9 n1 tn1 o5 F9 ho5 N10 hn1
 clear F N ho4
 k_extra "ma"
 rename_i Ln h10 lLn Dl vs2 ns2 cn2 h11 F N nv2 pm2 sd2 lD
 have hl2:ns2.length=2:=pm2.length_eq
 have hb2:∀ y∈ns2,y<TR.length:=fun y hy=>by
  have hy2:=pm2.mem_iff.mp hy
  simp only [List.mem_cons,List.not_mem_nil,or_false] at hy2
  rcases hy2 with rfl|rfl<;>omega
 have hvl2:=nv2.len
 have K3:LW L sr tl tq ((Dl,listOf vs2.toArray cn2)::(lr,listOf rv.toArray rn)::(lt++(os++own))):=K2.new lD.2.1 lD.2.2.1 (fun p hp=>aia lD.2.2.2.2.2.2 p hp)
 refine bja (top:=2) (by decide) (by decide) ho5 BB XX TT F N (by k_extra "mc") (by k_extra "mc") (by k_extra "me") ((L+1+1+1,e3)::(L+1+1,c2)::(L+1,e1)::(Dl,listOf vs2.toArray cn2)::(lr,listOf rv.toArray rn)::(tl++(tq++(lt++(os++own))))) (by walk_at "mb") (K3.offS (E:= [(Dl,listOf vs2.toArray cn2),(lr,listOf rv.toArray rn)])) ?_ rfl rfl
 intro h12 tk12 n2 tn2 o6 F12 ho6 N12 hn2
 clear F N ho5 lLn lD pm2 sd2
 k_extra "mF"
 refine kba_turn (value':=PySem.Expr.Name (PySem.Str.ofString "_") ⟨0,0,0,0⟩) (fun _=>rfl) ?_
 refine iNa F12 N12 (by k_extra "mg") (by omega) ?_ (by with_unfolding_all rfl) (by kmk_pure)
 intro Bl h13 F N lB
 w_top off
 have K4:LW L sr tl tq ((Bl,listOf (vs2.drop n2).toArray 0)::(lr,listOf rv.toArray rn)::(lt++(os++own))):=LW.new (Z':= []) (K3.sub (by walk_at "mb")) (lB (sr,o6) (by k_extra "me")) (lB (L+1+1+1,e3) (by k_extra "me")) (fun p hp=>lB p (by revert hp;revert p;walk_at "mb"))
 have NS:=News.sub N (l':=(L+1+1,c2)::(L+1+1+1,e3)::(L+1,e1)::(sr,o6)::(Bl,listOf (vs2.drop n2).toArray 0)::(lr,listOf rv.toArray rn)::(tl++(tq++(lt++(os++own))))) (by walk_at "mb")
 refine storeX_C F NS (c:=L+1+1) rfl (UpdF.head (K4.off2 (E:= [(Bl,listOf (vs2.drop n2).toArray 0),(lr,listOf rv.toArray rn)]))) d2 ?_
 clear NS F N lB K3 K2 F12 N12
 intro h14 e2 F N x2
 try dsimp only at N
 have nvB:=nv2.drop n2
 have hbB:∀ y∈ns2.drop n2,y<TR.length:=fun y hy=>hb2 y (List.mem_of_mem_drop hy)
 k_extra "ma"
 refine wpAny_Assign_Name ?_
 refine aGa (cl:= [(Str.ofString "begin",L+1+1)]) F rfl (by decide) rfl (by decide) rfl ?_
 k_extra "ma"
 rename IsRange _ _ _ _ _ _ _ _=>R
 rename News _ _ _ _=>N
 rename Fr _ _ _ _=>F
 refine bza (n:=rv.length) (σ:=StL) (fun _=> []) (fun c=>c.ys) (fun k c=>NV c.ys ((List.range k).filter fun y=>decide (y∈ns2.drop n2))) ⟨[]⟩ ((L+1+1+1,e3)::(L+1+1,e2)::(L+1,e1)::(sr,o6)::(Bl,listOf (vs2.drop n2).toArray 0)::(lr,listOf rv.toArray rn)::(tl++(tq++(lt++(os++own))))) rfl R (small_one (by omega) (by omega) (by omega) (by omega)) (by rw [rangeSize_nat];omega) (by rw [sizeLine_eq];omega)
  F N (by walk_at "mb") (by k_extra "md") rfl .nil ?_ ?_
 ·clear F N R
  rintro k tkk cS_ h tk own2 C oC m₂ E' hk h1 hyl hC hoC hx F N hsep
  k_extra "mf"
  obtain⟨ys⟩:=cS_
  dsimp only at h1 hyl N hsep ⊢
  rw [Int.zero_add] at hx
  have N2:=News.sub N (l':=(C,oC)::(L+1+1+1,e3)::(L+1+1,e2)::(L+1,e1)::(sr,o6)::(Bl,listOf (vs2.drop n2).toArray 0)::(lr,listOf rv.toArray rn)::(tl++(tq++(lt++(os++(own++own2)))))) (by walk_at "mb")
  clear N
  k_extra "ma"
  ·exact aba.intro (⟨ys++ [.int k tkk]⟩:StL) (by assumption) (by assumption) (by walk_at "mb") rfl (e9a h1 (decide_eq_true (by assumption))) (by k_extra "md")
  ·exact aba.intro (⟨ys⟩:StL) (by assumption) (by assumption) (by walk_at "mb") rfl (fCa h1 (decide_eq_false (by assumption))) (by k_extra "md")
 clear F N R
 rintro Cl cS_ h15 tk15 hyc hyl F N hD-
 k_extra "mf"
 obtain⟨yc⟩:=cS_
 dsimp only at hyc hyl N hD ⊢
 change News _ L h15 ((Cl,listOf yc.toArray yc.length)::_) at N
 have hbC:∀ y∈(List.range rv.length).filter (fun y=>decide (y∈ns2.drop n2)),y<TR.length:=fun y hy=>by have:=List.mem_range.mp (List.mem_filter.mp hy).1;omega
 have hzC:((List.range rv.length).filter fun y=>decide (y∈ns2.drop n2)).length<60:=Nat.lt_of_le_of_lt (List.length_filter_le _ _) (by rw [List.length_range];omega)
 generalize (List.range rv.length).filter (fun y=>decide (y∈ns2.drop n2))=nb at hyc hbC hzC
 have K5:LW L sr tl tq ((Cl,listOf yc.toArray yc.length)::(lr,listOf rv.toArray rn)::(lt++(os++own))):=LW.sub (K4.add2 (c3:=e3) (c2:=e2) (c1:=e1) (X:= [(Cl,listOf yc.toArray yc.length)]) (fc (hD (sr,o6) (by k_extra "me")).symm fn) (fc (fun q hq=>hD q (by revert hq;revert q;walk_at "mb")) fn)) (by walk_at "mb")
 have NS:=News.sub N (l':=(L+1+1,e2)::(L+1+1+1,e3)::(L+1,e1)::(sr,o6)::(Cl,listOf yc.toArray yc.length)::(lr,listOf rv.toArray rn)::(tl++(tq++(lt++(os++own))))) (by walk_at "mb")
 refine storeX_C F NS (c:=L+1+1) rfl (UpdF.head (K5.off2 (E:= [(Cl,listOf yc.toArray yc.length),(lr,listOf rv.toArray rn)]))) x2 ?_
 clear NS F N hD K4 hb2 hbB nv2 nvB hvl2 hl2 x2
 intro h16 e4 F N x4
 try dsimp only at N
 w_top off
 k_extra "ma"
 refine aGa (cl:= [(Str.ofString "source",L+1)]) F rfl (by decide) rfl (by decide) rfl ?_
 k_extra "ma"
 refine bja (top:=2) (by decide) (by decide) ho6 BB XX TT F N (by k_extra "mc") (by k_extra "mc") (by k_extra "me") ((L+1+1+1,e3)::(L+1+1,e4)::(L+1,e1)::(Cl,listOf yc.toArray yc.length)::(lr,listOf rv.toArray rn)::(tl++(tq++(lt++(os++own))))) (by walk_at "mb") (K5.offS (E:= [(Cl,listOf yc.toArray yc.length),(lr,listOf rv.toArray rn)])) ?_ rfl rfl
 intro h17 tk17 n3 tn3 o7 F17 ho7 N17 hn3
 clear F N ho6
 k_extra "ma"
 rename IsRange _ _ _ _ _ _ _ _=>R
 rename News _ _ _ _=>N
 rename Fr _ _ _ _=>F
 refine bza (n:=1+n3) (σ:=rva) (fun c=>(sr,c.so)::c.zs) (fun c=>c.ys) (fun k c=>eZa c.so∧dpa c.zs c.ys c.xs∧c.xs.length=k∧(∀ p∈c.zs, @Ne Nat p.1 sr)∧∀ x∈c.xs,x.ax∈aga++aya) ⟨o7, [], [], []⟩ ((L+1+1+1,e3)::(L+1+1,e4)::(L+1,e1)::(Cl,listOf yc.toArray yc.length)::(lr,listOf rv.toArray rn)::(tl++(tq++(lt++(os++own))))) rfl R (small_one (by omega) (by omega) (by omega) (by omega)) (by rw [rangeSize_nat];omega) (by rw [sizeLine_eq];omega)
  F N (by walk_at "mb") (fun q hq p hp=>by rw [lsM hq];exact K5.offS (E:= [(Cl,listOf yc.toArray yc.length),(lr,listOf rv.toArray rn)]) p hp) rfl ⟨ho7, .nil,rfl,fn,fun _ h=>nomatch h⟩ ?_ ?_
 ·clear F N R
  rintro k tkk cS_ h tk own2 C oC m₂ E' hk hJ0_ hyl hC hoC hx F N hsep
  k_extra "mf"
  obtain⟨so,ys,xs,zs⟩:=cS_
  dsimp only at hyl N hsep hJ0_ ⊢
  refine bua ?_
  intro hG_ hg_
  obtain⟨hso,hst,hlen,hzs,hax⟩:=hJ0_
  refine hg_ ?_
  clear hg_ hG_
  have hsS:=hsep (sr,so) (.head _)
  have N2:=News.sub N (l':=(C,oC)::(L+1,e1)::(sr,so)::(zs++((L+1+1+1,e3)::(L+1+1,e4)::(L+1,e1)::(Cl,listOf yc.toArray yc.length)::(lr,listOf rv.toArray rn)::(tl++(tq++(lt++(os++own))))++own2))) (by
   refine List.forall_mem_cons.mpr ⟨?_,by walk_at "mb"⟩
   simp only [List.mem_cons,List.mem_append,hC,or_true])
  clear N
  k_extra "ma"
  refine bra (fha w sr) BB XX TT F N2 (by k_extra "mc") (by k_extra "mc") [(sr,so)] (zs++((L+1+1+1,e3)::(L+1+1,e4)::(L+1,e1)::(Cl,listOf yc.toArray yc.length)::(lr,listOf rv.toArray rn)::(tl++(tq++(lt++(os++own))))++own2)) (fc (by k_extra "me") fn) (by walk_at "mb") (fun p hp q hq=>by
   rw [lsM hq];exact(laM hp).elim (hzs p) (hsS p)) (fun g' _ hh _ _=>⟨so,hso,hh⟩) ?_ rfl rfl
  rintro g6 h6 tk6 r6 F6 N6 st6 hl6 kp6 ⟨a,tt,tp,t1,x,pvs,to,o9,rfl,ho9,hto,hpv,hxa,hxl,hh6,q1,q2,q3⟩
  have hap6:=c2a hh6 kp6
  have N7:=cXa (hl6 _ hh6) N6
  clear N6 N2 F hl6 kp6 hh6
  k_extra "ma"
  exact aba.intro (⟨o9,ys++ [.ref a],xs++ [x],(a,aea #[.str x.ax t1, .ref tt, .ref tp])::(tt,to)::(tp,aea pvs.toArray)::zs⟩:rva) F6 N7 (by walk_at "mb") rfl ⟨ho9,hst.snoc ⟨a,tt,tp,t1,pvs,to,rfl, .head _, .tail _ (.head _),hto, .tail _ (.tail _ (.head _)),hpv⟩ (fun p hp=> .tail _ (.tail _ (.tail _ hp))),by simp [hlen],fc q1 (fc q2 (fc q3 hzs)),fun y hy=>(laM hy).elim (hax y) fun hy=>by rw [lsM hy];exact hxa⟩ (fun q hq p hp=>by
   rcases lcM hq with rfl|hq
   ·exact hsS p hp
   rcases lcM hq with rfl|hq
   ·exact hap6 _ (.tail _ (.head _)) p (laG _ hp)
   rcases lcM hq with rfl|hq
   ·exact hap6 _ (.tail _ (.tail _ (.head _))) p (laG _ hp)
   rcases lcM hq with rfl|hq
   ·exact hap6 _ (.tail _ (.tail _ (.tail _ (.head _)))) p (laG _ hp)
   ·exact hsep q (.tail _ hq) p hp)
 clear F N R
 rintro Sl cS_ h18 tk18 hJ0_ hyl8 F N hD hsep
 k_extra "mf"
 obtain⟨so8,ys,xs,zs⟩:=cS_
 dsimp only at hyl8 N hD hsep hJ0_ ⊢
 refine bua ?_
 intro hG_ hg_
 obtain⟨ho8,hst,hlen8,hzs,hax⟩:=hJ0_
 refine hg_ ?_
 clear hg_ hG_
 change News _ L h18 ((Sl,listOf ys.toArray ys.length)::_) at N
 have KZ:=K5.add2 (c3:=e3) (c2:=e4) (c1:=e1) (X:=zs) hzs (fun p hp q hq=>hsep p (.tail _ hp) q (by revert hq;revert q;walk_at "mb"))
 have K6:LW L sr tl tq ((Sl,listOf ys.toArray ys.length)::(Cl,listOf yc.toArray yc.length)::(lr,listOf rv.toArray rn)::(zs++(lt++(os++own)))):=LW.sub (KZ.add2 (c3:=e3) (c2:=e4) (c1:=e1) (X:= [(Sl,listOf ys.toArray ys.length)]) (fc (hD (sr,so8) (by k_extra "me")).symm fn) (fc (fun q hq=>hD q (by revert hq;revert q;walk_at "mb")) fn)) (by walk_at "mb")
 have N1:=News.sub N (l':=(L+1+1+1,e3)::(L+1+1,e4)::(L+1,e1)::(sr,so8)::(Sl,listOf ys.toArray ys.length)::(Cl,listOf yc.toArray yc.length)::(lr,listOf rv.toArray rn)::(tl++(tq++(zs++(lt++(os++own)))))) (by walk_at "mb")
 clear N hD hsep KZ K5 hzs
 w_top off
 k_extra "ma"
 rename_i hp4 F N
 have N1:=News.sub N (l':=(L+1+1+1,e3)::(L+1+1,e4)::(L+1,e1)::(sr,so8)::(Sl,listOf ys.toArray ys.length)::(Cl,listOf yc.toArray yc.length)::(lr,listOf rv.toArray rn)::(tl++(tq++(zs++(lt++(os++own)))))) (by walk_at "mb")
 clear N
 have hxz:=hst.len
 refine bTa rfl (σ:=rza) (fun c=>c.ts) (fun c=> [(Str.ofString "due", .ref c.l)]) [] (fun k c=>NV c.vs (cZa TR (xs.take k) nb)∧(∀ p∈c.ts, @Ne Nat p.1 Sl)∧((k=0∧c.l=Cl∧c.ts= []∧c.vs=yc)∨∃ n,c.ts= [(c.l,listOf c.vs.toArray n)])) ⟨Cl, [],yc⟩ ((L+1+1+1,e3)::(L+1+1,e4)::(L+1,e1)::(sr,so8)::(Sl,listOf ys.toArray ys.length)::(Cl,listOf yc.toArray yc.length)::(lr,listOf rv.toArray rn)::(tl++(tq++(zs++(lt++(os++own))))))
  rfl ⟨_,(N1 (Sl,listOf ys.toArray ys.length) (by k_extra "me")).1,rfl,_,rfl⟩ (N1 (Sl,listOf ys.toArray ys.length) (by k_extra "me")).2.1 F N1 (by walk_at "mb") (by k_extra "md") (fun k c hJ=>hJ.2.1) (by k_extra "mo") ⟨hyc,fn, .inl ⟨rfl,rfl,rfl,rfl⟩⟩ ?_ ?_
 ·clear F N1
  rintro j v cS_ u2 h tk own2 hvj hj hJ0_ F N hsep
  k_extra "mf"
  obtain⟨l1,ts,vs1⟩:=cS_
  dsimp only at F N hsep hJ0_ ⊢
  refine bua ?_
  intro hG_ hg_
  obtain⟨hv1,hts,hcase⟩:=hJ0_
  refine hg_ ?_
  clear hg_ hG_
  change Fr g L h _ at F
  change News g L h _ at N
  obtain⟨x,hxj,a,tt,tp,t1,pvs,to,rfl,m1,m2,hto,m3,hpv⟩:=hst.get _ _ hvj
  have hb1:=dJa hbC (xs.take j)
  have hz1:=cka hT60 hzC (xs.take j)
  have hxa:=hax x (List.mem_of_getElem? hxj)
  have hzN:∀ p∈zs,h.get? p.1=some p.2:=fun p hp=>(N p (by revert hp;revert p;walk_at "mb")).1
  have hRow:b9a h lr TR:=hrw.at ⟨_,(N (lr,listOf rv.toArray rn) (by simp only [List.mem_append,List.mem_cons,true_or,or_true])).1,rfl,_,rfl⟩ (fun p hp=>(N p (by revert hp;revert p;walk_at "mb")).1)
  have hNl:dqa h l1 (cZa TR (xs.take j) nb):=by
   rcases hcase with⟨-,rfl,rfl,rfl⟩|⟨n,rfl⟩
   ·exact⟨_,⟨_,(N (l1,listOf vs1.toArray vs1.length) (by k_extra "me")).1,rfl,_,rfl⟩,hv1⟩
   ·exact⟨_,⟨_,(N _ (.head _)).1,rfl,_,rfl⟩,hv1⟩
  k_extra "ma"
  refine a9a (iwa w lr l1 a x TR D4.wf D4.ord (cZa TR (xs.take j) nb) hb1 hz1 hxa) BB XX TT F N (by k_extra "mc") (by k_extra "mc") ⟨hRow,hNl,⟨t1,tt,tp,pvs,hzN _ m1,hto.at (hzN _ m2),hzN _ m3,hpv⟩⟩ ?_ rfl rfl
  rintro h20 tk20 r20 F20 N20 st20 ⟨la,va,ca,rfl,y2,y3,y4,y5⟩
  have N21:=dea F N20 st20 y2 y4
  have hla:∀ p∈ts++((L+1+1+1,e3)::(L+1+1,e4)::(L+1,e1)::(sr,so8)::(Sl,listOf ys.toArray ys.length)::(Cl,listOf yc.toArray yc.length)::(lr,listOf rv.toArray rn)::(tl++(tq++(zs++(lt++(os++own)))))++own2), @Ne Nat p.1 la:=fun p hp=>ffa y4 (N p hp).1
  clear N F N20
  k_extra "ma"
  exact aHa.intro (⟨la, [(la,listOf va.toArray ca)],va⟩:rza) (by assumption) (by assumption) (by walk_at "mb") ⟨(by rw [eNa hxj];exact y3),fc (hla (Sl,listOf ys.toArray ys.length) (laG _ (by k_extra "me"))).symm fn, .inr ⟨ca,rfl⟩⟩ (fun q hq p hp=>by rw [lsM hq];exact hla p (laG _ hp)) (by k_extra "mo") (by k_extra "mj")
 clear F N1
 rintro cS_ u2 h19 tk19 hJ0_ F N hsep
 k_extra "mf"
 obtain⟨l1,ts,vs1⟩:=cS_
 dsimp only at F N hsep hJ0_ ⊢
 refine bua ?_
 intro hG_ hg_
 obtain⟨hv1,hts,hcase⟩:=hJ0_
 refine hg_ ?_
 clear hg_ hG_
 change Fr g L h19 _ at F
 change News g L h19 _ at N
 rw [hxz,List.take_length] at hv1
 obtain⟨nd,rfl⟩:∃ n,ts= [(l1,listOf vs1.toArray n)]:=by
  rcases hcase with⟨h0,-⟩|h
  ·omega
  ·exact h
 have K7:LW L sr tl tq ((l1,listOf vs1.toArray nd)::(Sl,listOf ys.toArray ys.length)::(Cl,listOf yc.toArray yc.length)::(lr,listOf rv.toArray rn)::(zs++(lt++(os++own)))):=K6.add2 (c3:=e3) (c2:=e4) (c1:=e1) (X:= [(l1,listOf vs1.toArray nd)]) (fc (hsep _ (.head _) (sr,so8) (by k_extra "me")).symm fn) (fc (fun q hq=>hsep _ (.head _) q (by revert hq;revert q;walk_at "mb")) fn)
 have N2:=News.sub N (l':=(L+1+1+1,e3)::(L+1+1,e4)::(L+1,e1)::(sr,so8)::(l1,listOf vs1.toArray nd)::(Sl,listOf ys.toArray ys.length)::(Cl,listOf yc.toArray yc.length)::(lr,listOf rv.toArray rn)::(tl++(tq++(zs++(lt++(os++own)))))) (by walk_at "mb")
 clear N hsep hcase hts K6
 w_top off
 k_extra "ma"
 refine aGa (cl:= [(Str.ofString "rows",L+1+1+1)]) F rfl (by decide) rfl (by decide) rfl ?_
 k_extra "ma"
 refine aVa (σ:=StL) (fun _=> []) (fun c=>c.ys) (fun k c=>NV c.ys (nb.take k)) ⟨[]⟩ ((L+1+1+1,e3)::(L+1+1,e4)::(L+1,e1)::(sr,so8)::(l1,listOf vs1.toArray nd)::(Sl,listOf ys.toArray ys.length)::(Cl,listOf yc.toArray yc.length)::(lr,listOf rv.toArray rn)::(tl++(tq++(zs++(lt++(os++own)))))) rfl (by k_extra "mg") (N2 (Cl,listOf yc.toArray yc.length) (by k_extra "me")).2.1 (by rw [sizeLine_eq];omega)
  F N2 (fun _ h=>h) (by k_extra "md") (by k_extra "md") rfl .nil ?_ ?_
 ·clear F N2
  rintro j v cS_ h tk own2 C oC m₂ E' hvj hj2 h1 hyl hC hoC hx F N hsep
  k_extra "mf"
  obtain⟨ys9⟩:=cS_
  dsimp only at h1 hyl N hsep ⊢
  obtain⟨y,ty,hy,rfl⟩:=hyc.get hvj
  obtain⟨ay,y1,y2,y3,ky,ny,py,hry,hmy⟩:=hrw.get (hbC y (List.mem_of_getElem? hy))
  have hyz:y<2^24:=by have:=hbC y (List.mem_of_getElem? hy);omega
  have N3:=News.sub N (l':=(C,oC)::(ay,aea #[.int (y:Nat) y1, .str ky y2, .str ny y3,py])::(L+1+1+1,e3)::(L+1+1,e4)::(L+1,e1)::(sr,so8)::(l1,listOf vs1.toArray nd)::(Sl,listOf ys.toArray ys.length)::(Cl,listOf yc.toArray yc.length)::(lr,listOf rv.toArray rn)::(tl++(tq++(zs++(lt++(os++(own++own2))))))) (by
   refine List.forall_mem_cons.mpr ⟨?_,List.forall_mem_cons.mpr ⟨?_,by walk_at "mb"⟩⟩
   ·simp only [List.mem_cons,List.mem_append,hC,or_true]
   ·simp only [List.mem_cons,List.mem_append,hmy,true_or,or_true])
  clear N
  k_extra "ma"
  exact aba.intro (⟨ys9++ [.int (y:Nat) y1]⟩:StL) (by assumption) (by assumption) (by walk_at "mb") rfl (by rw [List.take_add_one,hy];exact h1.snoc y _) (by k_extra "md")
 clear F N2
 rintro Pl cS_ h21 tk21 hy9 hyl9 F N hD-
 k_extra "mf"
 obtain⟨y9⟩:=cS_
 dsimp only at hy9 hyl9 N hD ⊢
 rw [hyc.len,List.take_length] at hy9
 change News _ L h21 ((Pl,listOf y9.toArray y9.length)::_) at N
 have K8:LW L sr tl tq ((Pl,listOf y9.toArray y9.length)::(l1,listOf vs1.toArray nd)::(Sl,listOf ys.toArray ys.length)::(Cl,listOf yc.toArray yc.length)::(lr,listOf rv.toArray rn)::(zs++(lt++(os++own)))):=K7.add2 (c3:=e3) (c2:=e4) (c1:=e1) (X:= [(Pl,listOf y9.toArray y9.length)]) (fc (hD (sr,so8) (by k_extra "me")).symm fn) (fc (fun q hq=>hD q (by revert hq;revert q;walk_at "mb")) fn)
 have N2:=News.sub N (l':=(L+1+1+1,e3)::(L+1+1,e4)::(L+1,e1)::(sr,so8)::(Pl,listOf y9.toArray y9.length)::(l1,listOf vs1.toArray nd)::(Sl,listOf ys.toArray ys.length)::(Cl,listOf yc.toArray yc.length)::(lr,listOf rv.toArray rn)::(tl++(tq++(zs++(lt++(os++own)))))) (by walk_at "mb")
 clear N hD
 w_top off
 k_extra "ma"
 refine dka (cl:= []) F rfl (by decide) rfl (by decide) ?_
 k_extra "ma"
 refine hIa (σ:=rxa) (fun c=>c.zz) (fun c=>c.ys) (fun k c=>c.ys.length=k∧lAa w zs c.zz c.ys xs) ⟨[], []⟩ ((L+1+1+1,e3)::(L+1+1,e4)::(L+1,e1)::(sr,so8)::(Pl,listOf y9.toArray y9.length)::(l1,listOf vs1.toArray nd)::(Sl,listOf ys.toArray ys.length)::(Cl,listOf yc.toArray yc.length)::(lr,listOf rv.toArray rn)::(tl++(tq++(zs++(lt++(os++own)))))) zs (fun i a b c=>∃ x t1 tt tp pvs to,xs[i]?=some x∧a= .str x.ax t1∧b= .ref tt∧c= .ref tp∧(tt,to)∈zs∧f8a to x.tst∧(tp,aea (List.toArray pvs))∈zs∧cca pvs x.prd)
  rfl rfl rfl rfl rfl (by decide) (by decide) (by decide) (by k_extra "mg") (N2 (Sl,listOf ys.toArray ys.length) (by k_extra "me")).2.1 (by rw [sizeLine_eq];omega) F N2 (fun _ h=>h) (by walk_at "mb") (fun i v hv=>by
   obtain⟨x,hx,a,tt,tp,t1,pvs,to,rfl,m1,m2,o,m3,q⟩:=hst.get i v hv
   exact⟨a,_,_,_,rfl,⟨x,t1,tt,tp,pvs,to,hx,rfl,rfl,rfl,m2,o,m3,q⟩,m1⟩) (by k_extra "md") (by k_extra "md") rfl ⟨rfl, .nil⟩ ?_ ?_
 ·clear F N2
  rintro i3 cS_ h tk own4 C oC m₂ E' hJ0_ hi3 hJ1_ hyl hC hoC F N hsep
  k_extra "mf"
  obtain⟨ys5,zz⟩:=cS_
  dsimp only at hyl N hsep hJ0_ hJ1_ ⊢
  refine bua ?_
  intro hG_ hg_
  obtain⟨a,b,c,⟨x,t1,tt,tp,pvs,to,hx,rfl,rfl,rfl,m2,ho,m3,hq⟩,hx1,hx2,hx3⟩:=hJ0_
  obtain⟨hyl2,hS⟩:=hJ1_
  refine hg_ ?_
  clear hg_ hG_
  have N3:=News.sub N (l':=(C,oC)::(L+1+1+1,e3)::(L+1+1,e4)::(L+1,e1)::(sr,so8)::(Pl,listOf y9.toArray y9.length)::(l1,listOf vs1.toArray nd)::(Sl,listOf ys.toArray ys.length)::(Cl,listOf yc.toArray yc.length)::(lr,listOf rv.toArray rn)::(tl++(tq++(zs++(lt++(os++(own++(own4++zz)))))))) (by
   refine List.forall_mem_cons.mpr ⟨?_,by walk_at "mb"⟩
   simp only [List.mem_cons,List.mem_append,hC,or_true])
  clear N
  k_extra "ma"
  refine a9a (e4a w tt tp t1 x.ax) BB XX TT F N3 (by k_extra "mc") (by k_extra "mc") trivial ?_ rfl rfl
  rintro h6 tk6 r6 F6 N6 st6 ⟨a,d,k1,k2,k3,t1',ep,rfl,g1,g2,g3,g4,g5⟩
  have N7:=dea F (dea F N6 st6 g2 g4) st6 g1 g3
  have hA:∀ p∈(L+1+1+1,e3)::(L+1+1,e4)::(L+1,e1)::(sr,so8)::(Pl,listOf y9.toArray y9.length)::(l1,listOf vs1.toArray nd)::(Sl,listOf ys.toArray ys.length)::(Cl,listOf yc.toArray yc.length)::(lr,listOf rv.toArray rn)::(tl++(tq++(zs++(lt++(os++own)))))++own4, @Ne Nat p.1 a:=fun p hp=>ffa g3 (N3 p (by revert hp;revert p;walk_at "mb")).1
  have hB:∀ p∈(L+1+1+1,e3)::(L+1+1,e4)::(L+1,e1)::(sr,so8)::(Pl,listOf y9.toArray y9.length)::(l1,listOf vs1.toArray nd)::(Sl,listOf ys.toArray ys.length)::(Cl,listOf yc.toArray yc.length)::(lr,listOf rv.toArray rn)::(tl++(tq++(zs++(lt++(os++own)))))++own4, @Ne Nat p.1 d:=fun p hp=>ffa g4 (N3 p (by revert hp;revert p;walk_at "mb")).1
  clear N3 N6 F
  k_extra "ma"
  exact aba.intro (⟨ys5++ [.ref a],(a,_)::(d,_)::zz⟩:rxa) F6 N7 (by walk_at "mb") rfl ⟨by simp [hyl2],hS.snoc (hyl2▸hx) ⟨a,d,tt,tp,k1,k2,k3,t1',ep,pvs,to,rfl, .head _, .tail _ (.head _),m2,ho,m3,hq⟩ (fun p hp=> .tail _ (.tail _ hp))⟩ (fun q hq p hp=>by
   rcases lcM hq with rfl|hq
   ·exact hA p hp
   rcases lcM hq with rfl|hq
   ·exact hB p hp
   ·exact hsep q hq p hp)
 clear F N2
 rintro Ql cS_ h22 tk22 hJ0_ hyl6 F N hD hsep
 k_extra "mf"
 obtain⟨ys5,zz⟩:=cS_
 dsimp only at hyl6 N hD hsep hJ0_ ⊢
 refine bua ?_
 intro hG_ hg_
 obtain⟨hyl5,hS⟩:=hJ0_
 refine hg_ ?_
 clear hg_ hG_
 change News _ L h22 ((Ql,listOf ys5.toArray ys5.length)::_) at N
 have KZ:=K8.add2 (c3:=e3) (c2:=e4) (c1:=e1) (X:=zz) (fun p hp=>(hsep p hp (sr,so8) (by k_extra "me")).symm) (fun p hp q hq=>hsep p hp q (by revert hq;revert q;walk_at "mb"))
 have K9:LW L sr tl tq ((Ql,listOf ys5.toArray ys5.length)::(Pl,listOf y9.toArray y9.length)::(l1,listOf vs1.toArray nd)::(lr,listOf rv.toArray rn)::(zz++(zs++(lt++(os++own))))):=LW.sub (KZ.add2 (c3:=e3) (c2:=e4) (c1:=e1) (X:= [(Ql,listOf ys5.toArray ys5.length)]) (fc (hD (sr,so8) (by k_extra "mE")).symm fn) (fc (fun q hq=>hD q (by revert hq;revert q;walk_at "mb")) fn)) (by walk_at "mb")
 have N2:=News.sub N (l':=(L+1+1+1,e3)::(L+1+1,e4)::(L+1,e1)::(sr,so8)::(Ql,listOf ys5.toArray ys5.length)::(Pl,listOf y9.toArray y9.length)::(l1,listOf vs1.toArray nd)::(lr,listOf rv.toArray rn)::(tl++(tq++(zz++(zs++(lt++(os++own))))))) (by walk_at "mb")
 clear N hD hsep KZ K8 K7
 w_top off
 k_extra "ma"
 rename_i nm h23 on F N lo hs fs hi fi ln
 have K10:LW L sr tl tq ((nm,on)::(Ql,listOf ys5.toArray ys5.length)::(Pl,listOf y9.toArray y9.length)::(l1,listOf vs1.toArray nd)::(lr,listOf rv.toArray rn)::(zz++(zs++(lt++(os++own))))):=K9.new ln.2.2.2.1 ln.1 (fun p hp=>aia ln.2.2.2.2.2.2.2.2 p hp)
 have N3:=News.sub N (l':=tq++((L+1+1+1,e3)::(L+1+1,e4)::(L+1,e1)::(sr,so8)::(nm,on)::(Ql,listOf ys5.toArray ys5.length)::(Pl,listOf y9.toArray y9.length)::(l1,listOf vs1.toArray nd)::(lr,listOf rv.toArray rn)::(tl++(zz++(zs++(lt++(os++own))))))) (by walk_at "mb")
 clear N lo hs fs hi fi ln K9
 refine jOa iq rfl rfl rfl F N3 TT codeHd (K10.offQ (E:= [(nm,on),(Ql,listOf ys5.toArray ys5.length),(Pl,listOf y9.toArray y9.length),(l1,listOf vs1.toArray nd),(lr,listOf rv.toArray rn)])) rfl rfl ?_
 intro f c' oc vs2' t2' ctv h24 tk24 F24 N24 hod hov hcne hRc hRf
 generalize hOB:kla_obj _ llQ _ _ _ _ _ c' ctv=OB at N24
 have LO:hVa w f TR (fun h=>h.get? f=some OB∧h.get? c'=some oc∧h.get? (L+1+1+1)=some e3∧b9a h lr TR):=by
  refine⟨fun h h' a st=>⟨st _ _ a.1,st _ _ a.2.1,st _ _ a.2.2.1,a.2.2.2.stays st⟩,fun h a=> ?_, ?_⟩
  ·subst hOB
   exact⟨_,_,_,_,a.1⟩
  ·intro p pv i pos size t1 t2 t3 hpv hi hpos
   intro A s Q E H hr hp hR
   obtain⟨hf,hc,he,hrows⟩:=hp
   rw [<-hOB] at hf
   refine j2a H hr hf ⟨_,_,_,_,rfl,hc,hod,hov⟩ rfl (locs rfl) ?_ rfl rfl rfl (by decide)
   intro A₀ base outer p' loose mean mg mb d u gd L' h₁ tk₁ B X T F N hd hu
   k_extra "ma"
   refine a9a (d3a w lr p pv i pos size _ _ _ TR hT60 hi hpos hpv) B X T F N (by k_extra "mc") (by k_extra "mc") (hrows.stays F.keep) ?_ rfl rfl
   rintro h' tk' r F' N' st' ⟨hv,-⟩
   exact hR _ _ _ F'.keep hv
 obtain⟨oq,hoq⟩:=iq.mem
 have K11:LW L sr tl [(549,tabObj #[rawInt (431:Nat),rawInt (133:Nat), .ref c']),(c',oc)] ((nm,on)::(Ql,listOf ys5.toArray ys5.length)::(Pl,listOf y9.toArray y9.length)::(l1,listOf vs1.toArray nd)::(lr,listOf rv.toArray rn)::(zz++(zs++(lt++(os++own))))):=K10.retab hoq (c3:=e3) (c2:=e4) (c1:=e1) (so:=so8) (fun q hq=>hRc q (by revert hq;revert q;walk_at "mb"))
 have hfT:∀ q∈tl, @Ne Nat f q.1:=fun q hq=>Nat.ne_of_gt (hRf q (by revert hq;revert q;walk_at "mb"))
 clear K10 N3 hRc hRf hoq oq iq F
 w_top off
 k_extra "ma"
 have mlt:∀ p∈lt,p∈(f,OB)::(549,tabObj #[rawInt (431:Nat),rawInt (133:Nat), .ref c'])::(c',oc)::(L+1+1+1,e3)::(L+1+1,e4)::(L+1,e1)::(sr,so8)::(nm,on)::(Ql,listOf ys5.toArray ys5.length)::(Pl,listOf y9.toArray y9.length)::(l1,listOf vs1.toArray nd)::(lr,listOf rv.toArray rn)::(zz++(zs++(lt++(os++own)))):=by walk_at "mb"
 have mos:∀ p∈os,p∈(f,OB)::(549,tabObj #[rawInt (431:Nat),rawInt (133:Nat), .ref c'])::(c',oc)::(L+1+1+1,e3)::(L+1+1,e4)::(L+1,e1)::(sr,so8)::(nm,on)::(Ql,listOf ys5.toArray ys5.length)::(Pl,listOf y9.toArray y9.length)::(l1,listOf vs1.toArray nd)::(lr,listOf rv.toArray rn)::(zz++(zs++(lt++(os++own)))):=by walk_at "mb"
 have mzs:∀ p∈zs,p∈(f,OB)::(549,tabObj #[rawInt (431:Nat),rawInt (133:Nat), .ref c'])::(c',oc)::(L+1+1+1,e3)::(L+1+1,e4)::(L+1,e1)::(sr,so8)::(nm,on)::(Ql,listOf ys5.toArray ys5.length)::(Pl,listOf y9.toArray y9.length)::(l1,listOf vs1.toArray nd)::(lr,listOf rv.toArray rn)::(zz++(zs++(lt++(os++own)))):=by walk_at "mb"
 have mzz:∀ p∈zz,p∈(f,OB)::(549,tabObj #[rawInt (431:Nat),rawInt (133:Nat), .ref c'])::(c',oc)::(L+1+1+1,e3)::(L+1+1,e4)::(L+1,e1)::(sr,so8)::(nm,on)::(Ql,listOf ys5.toArray ys5.length)::(Pl,listOf y9.toArray y9.length)::(l1,listOf vs1.toArray nd)::(lr,listOf rv.toArray rn)::(zz++(zs++(lt++(os++own)))):=by walk_at "mb"
 have mPL:(Pl,listOf y9.toArray y9.length)∈(f,OB)::(549,tabObj #[rawInt (431:Nat),rawInt (133:Nat), .ref c'])::(c',oc)::(L+1+1+1,e3)::(L+1+1,e4)::(L+1,e1)::(sr,so8)::(nm,on)::(Ql,listOf ys5.toArray ys5.length)::(Pl,listOf y9.toArray y9.length)::(l1,listOf vs1.toArray nd)::(lr,listOf rv.toArray rn)::(zz++(zs++(lt++(os++own)))):=by k_extra "me"
 have mQL:(Ql,listOf ys5.toArray ys5.length)∈(f,OB)::(549,tabObj #[rawInt (431:Nat),rawInt (133:Nat), .ref c'])::(c',oc)::(L+1+1+1,e3)::(L+1+1,e4)::(L+1,e1)::(sr,so8)::(nm,on)::(Ql,listOf ys5.toArray ys5.length)::(Pl,listOf y9.toArray y9.length)::(l1,listOf vs1.toArray nd)::(lr,listOf rv.toArray rn)::(zz++(zs++(lt++(os++own)))):=by k_extra "me"
 have mRV:(lr,listOf rv.toArray rn)∈(f,OB)::(549,tabObj #[rawInt (431:Nat),rawInt (133:Nat), .ref c'])::(c',oc)::(L+1+1+1,e3)::(L+1+1,e4)::(L+1,e1)::(sr,so8)::(nm,on)::(Ql,listOf ys5.toArray ys5.length)::(Pl,listOf y9.toArray y9.length)::(l1,listOf vs1.toArray nd)::(lr,listOf rv.toArray rn)::(zz++(zs++(lt++(os++own)))):=by k_extra "me"
 have hT:∀ p∈(f,OB)::(549,tabObj #[rawInt (431:Nat),rawInt (133:Nat), .ref c'])::(c',oc)::(L+1+1+1,e3)::(L+1+1,e4)::(L+1,e1)::(sr,so8)::(nm,on)::(Ql,listOf ys5.toArray ys5.length)::(Pl,listOf y9.toArray y9.length)::(l1,listOf vs1.toArray nd)::(lr,listOf rv.toArray rn)::(zz++(zs++(lt++(os++own)))),∀ q∈tl, @Ne Nat p.1 q.1:=fc hfT fun p hp=>K11.offT (Z:=zz++(zs++(lt++(os++own)))) (E:= [(nm,on),(Ql,listOf ys5.toArray ys5.length),(Pl,listOf y9.toArray y9.length),(l1,listOf vs1.toArray nd),(lr,listOf rv.toArray rn)]) (c3:=e3) (c2:=e4) (c1:=e1) (so:=so8) p (by revert hp;revert p;walk_at "mb")
 refine bra (eqa w t Pl Ql nm f xs TR D4.wf D4.nm _ LO nb hT0 (fwa D4.wf D4.ord hT0) hbC hzC hax (by omega)) BB XX TT F24 N24 (by k_extra "mc") (by k_extra "mc") tl ((f,OB)::(549,tabObj #[rawInt (431:Nat),rawInt (133:Nat), .ref c'])::(c',oc)::(L+1+1+1,e3)::(L+1+1,e4)::(L+1,e1)::(sr,so8)::(nm,on)::(Ql,listOf ys5.toArray ys5.length)::(Pl,listOf y9.toArray y9.length)::(l1,listOf vs1.toArray nd)::(lr,listOf rv.toArray rn)::(zz++(zs++(lt++(os++own))))) (by walk_at "mb") (by walk_at "mb") hT
  (fun g' st1 h1 h2 _=>⟨htl4.at (fun p hp=>h2 p (mlt p hp)),⟨y9,⟨_,h2 _ mPL,rfl,_,rfl⟩,hy9⟩,⟨ys5,⟨_,h2 _ mQL,rfl,_,rfl⟩,gUa (hyl5.trans hst.len) fun i v e=>by
    obtain⟨x,hx,hsp⟩:=hS i v e
    exact⟨x,hx,hsp.at (fun p hp=>h2 p (mzs p hp)) (fun p hp=>h2 p (mzz p hp))⟩⟩,⟨h2 _ (.head _),h2 _ (.tail _ (.tail _ (.head _))),h2 _ (.tail _ (.tail _ (.tail _ (.head _)))),hrw.at ⟨_,h2 _ mRV,rfl,_,rfl⟩ (fun p hp=>h2 p (mos p hp))⟩,cdI.keeps (fun b o e=>st1 b o e),tl,il,h1⟩) ?_ rfl rfl
 rintro g26 h26 tk26 r26 F26 N26 st26 hl26 kp26 ⟨⟨tl2,il2,hh2⟩,la,va,ca,rfl,y2,y3,y4,y5⟩
 have hap:=c2a hh2 kp26
 have Na:=hl26 [(la,listOf va.toArray ca)] (fun q hq=>by rw [lsM hq];exact⟨y2,y4⟩)
 have N27:=News.sub (cXa (cXa Na (hl26 tl2 hh2)) N26) (l':=(la,listOf va.toArray ca)::(L+1+1+1,e3)::(L+1+1,e4)::(L+1,e1)::(l1,listOf vs1.toArray nd)::(lr,listOf rv.toArray rn)::(tl2++([(549,tabObj #[rawInt (431:Nat),rawInt (133:Nat), .ref c']),(c',oc)]++(zz++(zs++(lt++(os++own))))))) (by walk_at "mb")
 have K12:LW L sr tl2 [(549,tabObj #[rawInt (431:Nat),rawInt (133:Nat), .ref c']),(c',oc)] ((nm,on)::(Ql,listOf ys5.toArray ys5.length)::(Pl,listOf y9.toArray y9.length)::(l1,listOf vs1.toArray nd)::(lr,listOf rv.toArray rn)::(zz++(zs++(lt++(os++own))))):=K11.retl (c3:=e3) (c2:=e4) (c1:=e1) (so:=so8) fun p hp q hq=>hap p hp q (by revert hq;revert q;walk_at "mb")
 clear N24 Na N26 hl26 kp26 hap hh2 K11 mlt mos mzs mzz mPL mQL mRV hT F24 hfT
 k_extra "ma"
 rename News _ _ _ _=>N
 rename Fr _ _ _ _=>F
 have hbD:=dJa hbC xs
 refine aGa (cl:= [(Str.ofString "rows",L+1+1+1)]) F rfl (by decide) rfl (by decide) rfl ?_
 k_extra "ma"
 refine aVa (σ:=StL) (fun _=> []) (fun c=>c.ys) (fun k c=>NV c.ys ((cZa TR xs nb).take k)) ⟨[]⟩ ((la,listOf va.toArray ca)::(L+1+1+1,e3)::(L+1+1,e4)::(L+1,e1)::(l1,listOf vs1.toArray nd)::(lr,listOf rv.toArray rn)::(tl2++([(549,tabObj #[rawInt (431:Nat),rawInt (133:Nat), .ref c']),(c',oc)]++(zz++(zs++(lt++(os++own))))))) rfl (by k_extra "mg") (N (l1,listOf vs1.toArray nd) (by k_extra "me")).2.1 (by have:=hv1.len;have:=cka hT60 hzC xs;rw [sizeLine_eq];omega)
  F N (fun _ h=>h) (by k_extra "md") (by k_extra "md") rfl .nil ?_ ?_
 ·clear F N
  rintro j v cS_ h tk own2 C oC m₂ E' hvj hj2 h1 hyl hC hoC hx F N hsep
  k_extra "mf"
  obtain⟨ys9⟩:=cS_
  dsimp only at h1 hyl N hsep ⊢
  obtain⟨y,ty,hy,rfl⟩:=hv1.get hvj
  obtain⟨ay,y1,y2',y3',ky,ny,py,hry,hmy⟩:=hrw.get (hbD y (List.mem_of_getElem? hy))
  have hyz:y<2^24:=by have:=hbD y (List.mem_of_getElem? hy);omega
  have N3:=News.sub N (l':=(C,oC)::(ay,aea #[.int (y:Nat) y1, .str ky y2', .str ny y3',py])::(la,listOf va.toArray ca)::(L+1+1+1,e3)::(L+1+1,e4)::(L+1,e1)::(l1,listOf vs1.toArray nd)::(lr,listOf rv.toArray rn)::(tl2++([(549,tabObj #[rawInt (431:Nat),rawInt (133:Nat), .ref c']),(c',oc)]++(zz++(zs++(lt++(os++(own++own2)))))))) (by
   refine List.forall_mem_cons.mpr ⟨?_,List.forall_mem_cons.mpr ⟨?_,by walk_at "mb"⟩⟩
   ·simp only [List.mem_cons,List.mem_append,hC,or_true]
   ·simp only [List.mem_cons,List.mem_append,hmy,true_or,or_true])
  clear N
  k_extra "ma"
  exact aba.intro (⟨ys9++ [.int (y:Nat) y1]⟩:StL) (by assumption) (by assumption) (by walk_at "mb") rfl (by rw [List.take_add_one,hy];exact h1.snoc y _) (by k_extra "md")
 clear F N
 rintro Ul cS_ h31 tk31 hy10 hyl10 F N hD-
 k_extra "mf"
 obtain⟨y10⟩:=cS_
 dsimp only at hy10 hyl10 N hD ⊢
 rw [hv1.len,List.take_length] at hy10
 change News _ L h31 ((Ul,listOf y10.toArray y10.length)::_) at N
 clear hD
 k_extra "ma"
 ·have mo:∀ p∈own,p∈(nm,on)::(Ql,listOf ys5.toArray ys5.length)::(Pl,listOf y9.toArray y9.length)::(l1,listOf vs1.toArray nd)::(lr,listOf rv.toArray rn)::(zz++(zs++(lt++(os++own)))):=by walk_at "mb"
  exact aHa.intro (⟨e3,e4,e1,tl2, [(549,tabObj #[rawInt (431:Nat),rawInt (133:Nat), .ref c']),(c',oc)]⟩:qta) F N (by walk_at "mb") ⟨⟨_,x3⟩,⟨_,x4⟩,⟨_,x1⟩,il2, .made hod hov hcne,K12.t1,K12.t2,K12.t3,K12.tt⟩ (fun q hq p hp=>by
   rcases lcM hq with rfl|hq
   ·exact K12.z3 p (mo p hp)
   rcases lcM hq with rfl|hq
   ·exact K12.z2 p (mo p hp)
   rcases lcM hq with rfl|hq
   ·exact K12.z1 p (mo p hp)
   ·exact K12.zt p (mo p hp) q hq) (by k_extra "md") (by k_extra "mj")
 all_goals exact absurd rfl (by assumption))
end
end Mine
set_option maxRecDepth 100000 in
set_option maxHeartbeats 8000000 in
theorem PySem.Challenge.cw_nu0071_02_holds : PySem.Challenge.rw_nu0071_02.Holds := by
 exact Mine.law_walk
