import PyProof.Rows.All
import Wide.All
import OpenK.AllK
import Wide.FinOn
import PySem.Challenge.RW_oj0067_01
set_option Elab.async false
set_option linter.all false
set_option genInjectivity false
set_option genSizeOf false
set_option bootstrap.genMatcherCode false
set_option tactic.hygienic false
set_option maxRecDepth 1000000
set_option maxHeartbeats 0
open PySem PySem.W PyProof.Rows PySem.Calls
namespace Mine
section
theorem aK {P0 P1:Prop} {G:Prop} (h:P0/\P1) (k:P0->P1->G):G:=by obtain ⟨p0,p1⟩:=h;exact k p0 p1
theorem fw {P0 P1 P2:Prop} {G:Prop} (h:P0/\P1/\P2) (k:P0->P1->P2->G):G:=by obtain ⟨p0,p1,p2⟩:=h;exact k p0 p1 p2
theorem mx {P0 P1 P2 P3:Prop} {G:Prop} (h:P0/\P1/\P2/\P3) (k:P0->P1->P2->P3->G):G:=by obtain ⟨p0,p1,p2,p3⟩:=h;exact k p0 p1 p2 p3
theorem nr {P0 P1 P2 P3 P4:Prop} {G:Prop} (h:P0/\P1/\P2/\P3/\P4) (k:P0->P1->P2->P3->P4->G):G:=by obtain ⟨p0,p1,p2,p3,p4⟩:=h;exact k p0 p1 p2 p3 p4
theorem aB {cE:Type} {P0:cE->Prop} {G:Prop} (h:∃x0,P0 x0) (k:∀x0,P0 x0->G):G:=by obtain ⟨x0,p0⟩:=h;exact k x0 p0
theorem aw {cE:Type} {P0 P1:cE->Prop} {G:Prop} (h:∃x0,P0 x0/\P1 x0) (k:∀x0,P0 x0->P1 x0->G):G:=by obtain ⟨x0,p0,p1⟩:=h;exact k x0 p0 p1
theorem gR {cE:Type} {P0 P1 P2:cE->Prop} {G:Prop} (h:∃x0,P0 x0/\P1 x0/\P2 x0) (k:∀x0,P0 x0->P1 x0->P2 x0->G):G:=by obtain ⟨x0,p0,p1,p2⟩:=h;exact k x0 p0 p1 p2
theorem sH {cE:Type} {P0 P1 P2 P3:cE->Prop} {G:Prop} (h:∃x0,P0 x0/\P1 x0/\P2 x0/\P3 x0) (k:∀x0,P0 x0->P1 x0->P2 x0->P3 x0->G):G:=by obtain ⟨x0,p0,p1,p2,p3⟩:=h;exact k x0 p0 p1 p2 p3
theorem Ds {cE:Type} {P0 P1 P2 P3 P4:cE->Prop} {G:Prop} (h:∃x0,P0 x0/\P1 x0/\P2 x0/\P3 x0/\P4 x0) (k:∀x0,P0 x0->P1 x0->P2 x0->P3 x0->P4 x0->G):G:=by obtain ⟨x0,p0,p1,p2,p3,p4⟩:=h;exact k x0 p0 p1 p2 p3 p4
theorem eO {cE dC:Type} {P0:cE->dC->Prop} {G:Prop} (h:∃x0 x1,P0 x0 x1) (k:∀x0 x1,P0 x0 x1->G):G:=by obtain ⟨x0,x1,p0⟩:=h;exact k x0 x1 p0
theorem b_ {cE dC:Type} {P0 P1:cE->dC->Prop} {G:Prop} (h:∃x0 x1,P0 x0 x1/\P1 x0 x1) (k:∀x0 x1,P0 x0 x1->P1 x0 x1->G):G:=by obtain ⟨x0,x1,p0,p1⟩:=h;exact k x0 x1 p0 p1
theorem i_ {cE dC:Type} {P0 P1 P2:cE->dC->Prop} {G:Prop} (h:∃x0 x1,P0 x0 x1/\P1 x0 x1/\P2 x0 x1) (k:∀x0 x1,P0 x0 x1->P1 x0 x1->P2 x0 x1->G):G:=by obtain ⟨x0,x1,p0,p1,p2⟩:=h;exact k x0 x1 p0 p1 p2
theorem oP {cE dC:Type} {P0 P1 P2 P3:cE->dC->Prop} {G:Prop} (h:∃x0 x1,P0 x0 x1/\P1 x0 x1/\P2 x0 x1/\P3 x0 x1) (k:∀x0 x1,P0 x0 x1->P1 x0 x1->P2 x0 x1->P3 x0 x1->G):G:=by obtain ⟨x0,x1,p0,p1,p2,p3⟩:=h;exact k x0 x1 p0 p1 p2 p3
theorem xX {cE dC:Type} {P0 P1 P2 P3 P4:cE->dC->Prop} {G:Prop} (h:∃x0 x1,P0 x0 x1/\P1 x0 x1/\P2 x0 x1/\P3 x0 x1/\P4 x0 x1) (k:∀x0 x1,P0 x0 x1->P1 x0 x1->P2 x0 x1->P3 x0 x1->P4 x0 x1->G):G:=by obtain ⟨x0,x1,p0,p1,p2,p3,p4⟩:=h;exact k x0 x1 p0 p1 p2 p3 p4
theorem H9 {cE dC:Type} {P0 P1 P2 P3 P4 P5:cE->dC->Prop} {G:Prop} (h:∃x0 x1,P0 x0 x1/\P1 x0 x1/\P2 x0 x1/\P3 x0 x1/\P4 x0 x1/\P5 x0 x1) (k:∀x0 x1,P0 x0 x1->P1 x0 x1->P2 x0 x1->P3 x0 x1->P4 x0 x1->P5 x0 x1->G):G:=by obtain ⟨x0,x1,p0,p1,p2,p3,p4,p5⟩:=h;exact k x0 x1 p0 p1 p2 p3 p4 p5
theorem xL {cE dC iu:Type} {P0:cE->dC->iu->Prop} {G:Prop} (h:∃x0 x1 x2,P0 x0 x1 x2) (k:∀x0 x1 x2,P0 x0 x1 x2->G):G:=by obtain ⟨x0,x1,x2,p0⟩:=h;exact k x0 x1 x2 p0
theorem gN {cE dC iu:Type} {P0 P1:cE->dC->iu->Prop} {G:Prop} (h:∃x0 x1 x2,P0 x0 x1 x2/\P1 x0 x1 x2) (k:∀x0 x1 x2,P0 x0 x1 x2->P1 x0 x1 x2->G):G:=by obtain ⟨x0,x1,x2,p0,p1⟩:=h;exact k x0 x1 x2 p0 p1
theorem dW {cE dC iu:Type} {P0 P1 P2:cE->dC->iu->Prop} {G:Prop} (h:∃x0 x1 x2,P0 x0 x1 x2/\P1 x0 x1 x2/\P2 x0 x1 x2) (k:∀x0 x1 x2,P0 x0 x1 x2->P1 x0 x1 x2->P2 x0 x1 x2->G):G:=by obtain ⟨x0,x1,x2,p0,p1,p2⟩:=h;exact k x0 x1 x2 p0 p1 p2
theorem Gq {cE dC iu:Type} {P0 P1 P2 P3:cE->dC->iu->Prop} {G:Prop} (h:∃x0 x1 x2,P0 x0 x1 x2/\P1 x0 x1 x2/\P2 x0 x1 x2/\P3 x0 x1 x2) (k:∀x0 x1 x2,P0 x0 x1 x2->P1 x0 x1 x2->P2 x0 x1 x2->P3 x0 x1 x2->G):G:=by obtain ⟨x0,x1,x2,p0,p1,p2,p3⟩:=h;exact k x0 x1 x2 p0 p1 p2 p3
theorem La {cE dC iu:Type} {P0 P1 P2 P3 P4:cE->dC->iu->Prop} {G:Prop} (h:∃x0 x1 x2,P0 x0 x1 x2/\P1 x0 x1 x2/\P2 x0 x1 x2/\P3 x0 x1 x2/\P4 x0 x1 x2) (k:∀x0 x1 x2,P0 x0 x1 x2->P1 x0 x1 x2->P2 x0 x1 x2->P3 x0 x1 x2->P4 x0 x1 x2->G):G:=by obtain ⟨x0,x1,x2,p0,p1,p2,p3,p4⟩:=h;exact k x0 x1 x2 p0 p1 p2 p3 p4
theorem TR {cE dC iu xZ:Type} {P0:cE->dC->iu->xZ->Prop} {G:Prop} (h:∃x0 x1 x2 x3,P0 x0 x1 x2 x3) (k:∀x0 x1 x2 x3,P0 x0 x1 x2 x3->G):G:=by obtain ⟨x0,x1,x2,x3,p0⟩:=h;exact k x0 x1 x2 x3 p0
theorem El {cE dC iu xZ:Type} {P0 P1:cE->dC->iu->xZ->Prop} {G:Prop} (h:∃x0 x1 x2 x3,P0 x0 x1 x2 x3/\P1 x0 x1 x2 x3) (k:∀x0 x1 x2 x3,P0 x0 x1 x2 x3->P1 x0 x1 x2 x3->G):G:=by obtain ⟨x0,x1,x2,x3,p0,p1⟩:=h;exact k x0 x1 x2 x3 p0 p1
theorem al {α:Type} {C:Prop} {a:α} (h:none=some a):C:=nomatch h
theorem ff {C:Prop} (h:false=true):C:=nomatch h
namespace Z
inductive L where
 |v (i:Nat)|n (k:Nat)|p (a b:L)|m (k:Nat) (a:L)|q (a:L) (k:Nat)
inductive I where
 |w (i:Nat)|c (a:L)|k (n:Nat)|p (a b:I)|s (a b:I)|g (a:I)|m (k:Nat) (a:I)|q (a:I) (k:Nat)
inductive F where
 |le (a b:L)|lt (a b:L)|e (a b:L)|f (a b:L)
 |aJ (a b:I)|aY (a b:I)|ie (a b:I)|jf (a b:I)
 |x (k:Nat) (f:F)
noncomputable def nt {α:Type} (z:α) (l:List α):Nat->α:=List.rec (fun _=>z) (fun a _ ih i=>Nat.rec a (fun j _=>ih j) i) l
noncomputable def L.d (c:List Nat) (e:L):Nat:=L.rec (fun i=>nt 0 c i) (fun k=>k) (fun _ _ x y=>x+y) (fun k _ x=>k*x) (fun _ k x=>x*k) e
noncomputable def I.d (c:List Nat) (d:List Int) (e:I):Int:=I.rec (fun i=>nt 0 d i) (fun a=>((a.d c:Nat):Int)) (fun n=>(n:Int)) (fun _ _ x y=>x+y) (fun _ _ x y=>x-y) (fun _ x=>-x) (fun k _ x=>(k:Int)*x) (fun _ k x=>x*(k:Int)) e
noncomputable def F.d (c:List Nat) (d:List Int) (f:F):Prop:=F.rec (fun a b=>a.d c<=b.d c) (fun a b=>a.d c<b.d c) (fun a b=>a.d c=b.d c) (fun a b=>a.d c=b.d c)
 (fun a b=>a.d c d<=b.d c d) (fun a b=>a.d c d<b.d c d) (fun a b=>a.d c d=b.d c d) (fun a b=>a.d c d=b.d c d) (fun _ _ x=>x) f
noncomputable def imp (c:List Nat) (d:List Int) (G:Prop) (l:List F):Prop:=List.rec G (fun f _ ih=>f.d c d->ih) l
noncomputable def sc (k:Int) (l:List Int):List Int:=l.map fun x=>k*x
noncomputable def ad (a:List Int):List Int->List Int:=List.rec (fun b=>b) (fun x _ ih b=>List.rec (x::ih []) (fun y r _=>(x+y)::ih r) b) a
noncomputable def un (i:Nat):List Int:=Nat.rec [1] (fun _ r=>0::r) i
noncomputable def dot (a:List Int):List Int->Int:=List.rec (fun _=>0) (fun x _ ih v=>List.rec 0 (fun y r _=>x*y+ih r) v) a
theorem yP (a:List Int):dot a []=0:=by cases a<;>rfl
theorem oi (a:List Int):∀b v,dot (ad a b) v=dot a v+dot b v:=by
 induction a with
 |nil=>intro b v;exact (Int.zero_add _).symm
 |cons x r ih=>
  intro b v;cases v with
  |nil=>rw [yP,yP,yP];rfl
  |cons y w=>
   cases b with
   |nil=>show x*y+dot (ad r []) w=x*y+dot r w+0;rw [ih];show x*y+(dot r w+0)=_;rw [Int.add_zero,Int.add_zero]
   |cons z s=>show (x+z)*y+dot (ad r s) w=x*y+dot r w+(z*y+dot s w);rw [ih,Int.add_mul,Int.add_assoc,Int.add_assoc,Int.add_left_comm (z*y)]
theorem jh (k:Int) (a:List Int):∀v,dot (sc k a) v=k*dot a v:=by
 induction a with
 |nil=>intro v;exact (Int.mul_zero _).symm
 |cons x r ih=>
  intro v;cases v with
  |nil=>exact (Int.mul_zero _).symm
  |cons y w=>show k*x*y+dot (sc k r) w=k*(x*y+dot r w);rw [ih,Int.mul_add,Int.mul_assoc]
theorem E7 (i:Nat):∀v,dot (un i) v=nt 0 v i:=by
 induction i with
 |zero=>intro v;cases v with
  |nil=>rfl
  |cons y w=>show 1*y+0=y;rw [Int.add_zero,Int.one_mul]
 |succ n ih=>intro v;cases v with
  |nil=>rfl
  |cons y w=>show 0*y+dot (un n) w=nt 0 w n;rw [ih,Int.zero_mul,Int.zero_add]
noncomputable def sub (a b:List Int):List Int:=ad b (sc (-1) a)
theorem pO (a b v:List Int):dot (sub a b) v=dot b v-dot a v:=by
 unfold sub;rw [oi,jh,Int.neg_mul,Int.one_mul,Int.sub_eq_add_neg]
noncomputable def vs (c:List Nat):List Int:=1::c.map Int.ofNat
theorem O2 (c:List Nat):∀i,nt 0 (c.map Int.ofNat) i=((nt 0 c i:Nat):Int):=by
 induction c with
 |nil=>intro i;rfl
 |cons a r ih=>intro i;cases i with
  |zero=>rfl
  |succ j=>exact ih j
noncomputable def L.nf (e:L):List Int:=L.rec (fun i=>un (i+1)) (fun k=>[(k:Int)]) (fun _ _ x y=>ad x y) (fun k _ x=>sc k x) (fun _ k x=>sc k x) e
theorem yo (k:Int) (v:List Int):dot [k] (1::v)=k:=by show k*1+0=k;rw [Int.add_zero,Int.mul_one]
theorem L.ok (c:List Nat) (e:L):((e.d c:Nat):Int)=dot e.nf (vs c):=by
 induction e with
 |v i=>exact ((E7 (i+1) (vs c)).trans (O2 c i)).symm
 |n k=>exact (yo k _).symm
 |p a b sF rY=>exact by show ((a.d c+b.d c:Nat):Int)=dot (ad a.nf b.nf) _;rw [Int.natCast_add,sF,rY,oi]
 |m k a ih=>exact by show ((k*a.d c:Nat):Int)=dot (sc k a.nf) _;rw [Int.natCast_mul,ih,jh]
 |q a k ih=>exact by show ((a.d c*k:Nat):Int)=dot (sc k a.nf) _;rw [Int.natCast_mul,ih,jh,Int.mul_comm]
noncomputable def I.na (e:I):List Int:=I.rec (fun _=>[]) (fun a=>a.nf) (fun n=>[(n:Int)]) (fun _ _ x y=>ad x y) (fun _ _ x y=>sub y x) (fun _ x=>sc (-1) x) (fun k _ x=>sc k x) (fun _ k x=>sc k x) e
noncomputable def I.nb (e:I):List Int:=I.rec (fun i=>un i) (fun _=>[]) (fun _=>[]) (fun _ _ x y=>ad x y) (fun _ _ x y=>sub y x) (fun _ x=>sc (-1) x) (fun k _ x=>sc k x) (fun _ k x=>sc k x) e
theorem wR (a b c d:Int):a+b+(c+d)=a+c+(b+d):=by rw [Int.add_assoc,Int.add_assoc,Int.add_left_comm b]
theorem A4 (a b c d:Int):a+b-(c+d)=(a-c)+(b-d):=by rw [Int.sub_eq_add_neg,Int.neg_add,wR];rfl
theorem I.ok (c:List Nat) (d:List Int) (e:I):e.d c d=dot e.na (vs c)+dot e.nb d:=by
 induction e with
 |w i=>exact ((Int.zero_add _).trans (E7 i d)).symm
 |c a=>exact (a.ok c).trans (Int.add_zero _).symm
 |k n=>exact ((Int.add_zero _).trans (yo n _)).symm
 |p a b sF rY=>show a.d c d+b.d c d=dot (ad a.na b.na) _+dot (ad a.nb b.nb) _;rw [sF,rY,oi,oi,wR]
 |s a b sF rY=>show a.d c d-b.d c d=dot (sub b.na a.na) _+dot (sub b.nb a.nb) _;rw [sF,rY,pO,pO,A4]
 |g a ih=>show -a.d c d=dot (sc (-1) a.na) _+dot (sc (-1) a.nb) _;rw [ih,jh,jh,<- Int.mul_add,Int.neg_mul,Int.one_mul]
 |m k a ih=>show (k:Int)*a.d c d=dot (sc k a.na) _+dot (sc k a.nb) _;rw [ih,jh,jh,Int.mul_add]
 |q a k ih=>show a.d c d*(k:Int)=dot (sc k a.na) _+dot (sc k a.nb) _;rw [ih,jh,jh,<- Int.mul_add,Int.mul_comm]
noncomputable def F.na (f:F):List Int:=F.rec (fun a b=>sub a.nf b.nf) (fun a b=>ad [-1] (sub a.nf b.nf)) (fun a b=>sub a.nf b.nf) (fun a b=>sub b.nf a.nf)
 (fun a b=>sub a.na b.na) (fun a b=>ad [-1] (sub a.na b.na)) (fun a b=>sub a.na b.na) (fun a b=>sub b.na a.na) (fun k _ x=>sc k x) f
noncomputable def F.nb (f:F):List Int:=F.rec (fun _ _=>[]) (fun _ _=>[]) (fun _ _=>[]) (fun _ _=>[])
 (fun a b=>sub a.nb b.nb) (fun a b=>sub a.nb b.nb) (fun a b=>sub a.nb b.nb) (fun a b=>sub b.nb a.nb) (fun k _ x=>sc k x) f
noncomputable def F.va (c:List Nat) (d:List Int) (f:F):Int:=dot f.na (vs c)+dot f.nb d
noncomputable def EH (f:F):Bool:=F.rec (fun _ _=>true) (fun _ _=>true) (fun _ _=>false) (fun _ _=>false) (fun _ _=>true) (fun _ _=>true) (fun _ _=>false) (fun _ _=>false) (fun _ _ _=>false) f
theorem FL (c:List Nat) (a b:L):dot (sub a.nf b.nf) (vs c)=(b.d c:Int)-(a.d c:Int):=by rw [pO,<- L.ok,<- L.ok]
theorem FR (c:List Nat) (d:List Int) (a b:I):dot (sub a.na b.na) (vs c)+dot (sub a.nb b.nb) d=b.d c d-a.d c d:=by rw [pO,pO,I.ok c d a,I.ok c d b,A4]
theorem FI (c:List Nat) (a:List Int):dot (ad [-1] a) (vs c)= -1+dot a (vs c):=by rw [oi,vs,yo]
theorem m1 {x:Int}:0 <= -1+x↔0<x:=by rw [Int.add_comm];exact Int.le_sub_one_iff
theorem F.iff (c:List Nat) (d:List Int) (f:F) (g:EH f=true):0<=f.va c d↔f.d c d:=by
 cases f with
 |le a b=>show 0<=dot (sub a.nf b.nf) (vs c)+0↔_;rw [Int.add_zero,FL];exact Int.sub_nonneg.trans Int.ofNat_le
 |lt a b=>show 0<=dot (ad [-1] (sub a.nf b.nf)) (vs c)+0↔_;rw [Int.add_zero,FI,FL,m1];exact Int.sub_pos.trans Int.ofNat_lt
 |aJ a b=>show 0<=dot (sub a.na b.na) (vs c)+dot (sub a.nb b.nb) d↔_;rw [FR];exact Int.sub_nonneg
 |aY a b=>show 0<=dot (ad [-1] (sub a.na b.na)) (vs c)+dot (sub a.nb b.nb) d↔_;rw [FI,Int.add_assoc,FR,m1];exact Int.sub_pos
 |e=>exact ff g
 |f=>exact ff g
 |ie=>exact ff g
 |jf=>exact ff g
 |x=>exact ff g
theorem F.ok (c:List Nat) (d:List Int) (f:F):f.d c d->0<=f.va c d:=by
 induction f with
 |e a b=>exact fun h=>(F.iff c d (.le a b) rfl).mpr (Nat.le_of_eq h)
 |f a b=>exact fun h=>(F.iff c d (.le b a) rfl).mpr (Nat.le_of_eq (Eq.symm h))
 |ie a b=>exact fun h=>(F.iff c d (.aJ a b) rfl).mpr (Int.le_of_eq h)
 |jf a b=>exact fun h=>(F.iff c d (.aJ b a) rfl).mpr (Int.le_of_eq (Eq.symm h))
 |x k f ih=>exact fun h=>by show 0<=dot (sc k f.na) (vs c)+dot (sc k f.nb) d;rw [jh,jh,<- Int.mul_add];exact Int.mul_nonneg (Int.natCast_nonneg k) (ih h)
 |_=>exact (F.iff c d _ rfl).mpr
noncomputable def pos (x:Int):Bool:=Int.rec (fun _=>true) (fun _=>false) x
noncomputable def uT (l:List Int):Bool:=List.rec true (fun x _ ih=>pos x&&ih) l
noncomputable def nil (l:List Int):Bool:=List.rec true (fun x _ ih=>(x==0)&&ih) l
theorem R3 (a:List Int):uT a=true->∀v,uT v=true->0<=dot a v:=by
 induction a with
 |nil=>intro _ v _;exact Int.le_refl 0
 |cons x r ih=>
  intro h v hv;have h:=Bool.and_eq_true_iff.mp h;cases v with
  |nil=>exact Int.le_refl 0
  |cons y w=>
   have hv:=Bool.and_eq_true_iff.mp hv;have p:∀z,pos z=true->0<=z:=fun z=>by cases z with
    |ofNat n=>intro _;exact Int.natCast_nonneg n
    |negSucc n=>intro h;cases h
   exact Int.add_nonneg (Int.mul_nonneg (p x h.1) (p y hv.1)) (ih h.2 w hv.2)
theorem Tj (a:List Int):nil a=true->∀v,dot a v=0:=by
 induction a with
 |nil=>intro _ v;rfl
 |cons x r ih=>
  intro h v;have h:=Bool.and_eq_true_iff.mp h;cases v with
  |nil=>rfl
  |cons y w=>show x*y+dot r w=0;rw [ih h.2,eq_of_beq h.1,Int.zero_mul];rfl
theorem Sv (c:List Nat):uT (vs c)=true:=by
 show (true&&_)=true;rw [Bool.true_and];induction c with
 |nil=>rfl
 |cons a r ih=>exact ih
noncomputable def sa (l:List F):List Int:=List.rec [] (fun f _ ih=>ad f.na ih) l
noncomputable def sb (l:List F):List Int:=List.rec [] (fun f _ ih=>ad f.nb ih) l
noncomputable def Sg (l:List F) (g:F):Bool:=EH g&&(uT (sub (sa l) g.na)&&nil (sub (sb l) g.nb))
theorem Hp {c:List Nat} {d:List Int} {G:Prop} (l:List F):∀z:Int,0<=z->(0<=z+(dot (sa l) (vs c)+dot (sb l) d)->G)->imp c d G l:=by
 induction l with
 |nil=>exact fun z hz h=>h ((Int.add_zero z).symm▸hz)
 |cons f r ih=>
  intro z hz h hf;refine ih (z+f.va c d) (Int.add_nonneg hz (f.ok c d hf)) fun k=>h ?_;show 0<=z+(dot (ad f.na (sa r)) _+dot (ad f.nb (sb r)) _);rw [oi,oi,wR,<- Int.add_assoc];exact k
end Z
open Z
theorem ae (c:List Nat) (d:List Int) (l:List F) (g:F) (h:Sg l g=true):imp c d (g.d c d) l:=by
 have h:=Bool.and_eq_true_iff.mp h;have k:=Bool.and_eq_true_iff.mp h.2;refine Hp l 0 (Int.le_refl 0) fun q=>(g.iff c d h.1).mp ?_;have p:=R3 _ k.1 (vs c) (Sv c);have n:=Tj _ k.2 d;rw [pO] at p n;show 0<=dot g.na (vs c)+dot g.nb d;rw [Int.sub_eq_zero.mp n];rw [Int.zero_add] at q;exact Int.le_trans q (Int.add_le_add_right (Int.sub_nonneg.mp p) _)
theorem aA {α:Type _} {motive:Option α->Prop} (t:Option α) (none:motive none) (some:∀val,motive (some val)):motive t:=t.casesOn none some
theorem aN {motive:Bool->Prop} (t:Bool) (false:motive false) (true:motive true):motive t:=t.casesOn false true
theorem bh {α:Type _} {motive:List α->Prop} (t:List α) (nil:motive []) (cons:∀head tail,motive (head::tail)):motive t:=t.casesOn nil cons
theorem cz {motive:Nat->Prop} (t:Nat) (zero:motive 0) (succ:∀n,motive (n+1)):motive t:=t.casesAuxOn zero succ
end
section
open Builtin Builtin.ObjectAttr
section
variable {prog:Program} {w:World} {A:Around} {E:Value->Shared->Prop} {h:Heap} {g:Array GenState} {d:Drawn} {t:Nat} {os:OsState}
variable {nm q:Str} {C N x:Addr} {bs bm:List Value} {sn:List Str} {sub:List Value} {ab:Bool} {cW:Option Bool} {dd:Option Addr} {k0 k1 k2 k3 k5:Option Value} {bR dn sa owner:String}
 {mN:Str->Option Value} {name:Str} {v:Value}
theorem LI {tk:Tok} {Q:Fin->Shared->Prop} {o:Obj} (SF:StoreFacts bR bm sa owner)
 (hC:h.get? C=some (excClassObj nm q C N bs bm true sn sub ab cW dd k0 k1 k2 k3 k5 dn)) (hn:h.Ns N mN) (gB:mN name=none)
 (hB:typeLookup (.type bR) name=pure none) (hx:h.get? x=some o) (hc:o.cls=.ref C) (mR:∀c,o.data≠ .cls c) (nH:o.dict=none)
 (hq:∀h' bO dx,h.get? dx=none->dx≠x->h'.get? x=some {o with dict:=some dx} -> h'.Ns1 dx (fun y=>if y=name then some v else none)->(∀b ob,b≠x->h.get? b=some ob->h'.get? b=some ob)->Q (.done (.ret .none)) ⟨h',g,d,bO,os⟩):
 wpAny (model prog w) A (Builtin.«object.__setattr__» ⟨[.ref x,.str name tk,v],[]⟩) Q E ⟨h,g,d,t,os⟩:=by
 have Qo:=SF.passes (.ref x);have x8:x≠h.objs.size:=Nat.ne_of_lt (Heap.lt_size hx);unfold Builtin.«object.__setattr__»
 repeat (first|rw [refuse_eq]|(rw [refuseLoop_ref,Qo])|(with_reducible refine wpAny_loadPart_at hx ?_;rw [hc])|with_reducible refine wpAny_mroOf_exc hC ?_|(with_reducible refine wpAny_typeLookup_exc hC hn SF.mro hB ?_;rw [gB])|wp_step)
 rw [nH,if_neg (by simp [typeHasDict])]
 split
 ·rename_i ji;exact al ji
 split
 ·rename_i c ji;exact absurd ji (mR c)
 have ER:(h.push {cls:=.type "dict",data:=.dict #[]}).get? x=some o:=Heap.get?_push_of_some _ hx;refine wpAny_bind (wpAny_alloc' (wpAny_bind (wpAny_update' ER (wpAny_pure ?_))));generalize hH:(h.push {cls:=.type "dict",data:=.dict #[]}).update x (fun o=>{cls:=o.cls,dict:=some h.objs.size,data:=o.data,slots:=o.slots})=H;have other:∀b,b≠x->H.get? b=(h.push {cls:=.type "dict",data:=.dict #[]}).get? b:=fun b hb=>by rw [<- hH];exact Heap.get?_update_ne _ _ _ _ hb
 have JR:H.get? h.objs.size=some {cls:=.type "dict",data:=.dict #[]}:=(other _ x8.symm).trans (Heap.get?_push_at rfl rfl);have II:H.get? x=some {o with dict:=some h.objs.size}:=by
  rw [<- hH];refine Heap.get?_update_self _ ER ?_;have eX:=(Heap.get?_some_iff.mp hx).2;obtain ⟨oc,od,S0,Jr⟩:=o;induction S0 using PySem.Data.casesOn<;>first|rfl|exact eX
 have n7:H.Ns h.objs.size (fun _=>none):=⟨_,#[],_,JR,rfl,fun e he=>absurd he (by simp),fun _=>rfl⟩
 show wpAny _ _ (storeInDict h.objs.size (.str name tk) name v) _ _ _;unfold storeInDict newKeyGuard;refine wpAny_bind (wpAny_pure (wpAny_bind (wpAny_nsSet1 (Heap.Ns1.of_empty n7) fun h' iW hs=>?_)));refine dW (iW.count (Within.cons name v Within.nil) ) fun oD UW Un Iw Hv LK=>?_;refine wpAny_bind (wpAny_lookBehind Iw (by rw [Hv];exact pastItsLine_dict (Nat.le_trans LK (by rw [List.length_cons,List.length_nil,sizeLine_eq];exact ae [] [] [] (.le (.p (.n 0) (.n 1)) (.p (.n 16777216) (.n 1))) rfl))) ?_)
 wp_walk
 refine hq h' _ h.objs.size (Heap.get?_none_of_le (Nat.le_refl _)) x8.symm ((hs.2 x x8).trans II) iW fun b ob hb e=>?_;exact (hs.2 b (Nat.ne_of_lt (Heap.lt_size e))).trans ((other b hb).trans (Heap.get?_push_of_some _ e))
theorem J7 {Q:Unit->Shared->Prop} {o:Obj} (SF:StoreFacts bR bm sa owner)
 (hC:h.get? C=some (excClassObj nm q C N bs bm true sn sub ab cW dd k0 k1 k2 k3 k5 dn)) (hn:h.Ns N mN) (af:mN "__setattr__" = none) (gB:mN name=none)
 (hB:typeLookup (.type bR) name=pure none) (hx:h.get? x=some o) (hc:o.cls=.ref C) (mR:∀c,o.data≠ .cls c) (nH:o.dict=none)
 (hq:∀h' bO dx,h.get? dx=none->dx≠x->h'.get? x=some {o with dict:=some dx} -> h'.Ns1 dx (fun y=>if y=name then some v else none)->(∀b ob,b≠x->h.get? b=some ob->h'.get? b=some ob)->Q () ⟨h',g,d,bO,os⟩):
 wpAny (model prog w) A (setAttr (.ref x) name v) Q E ⟨h,g,d,t,os⟩:=by
 have f3:=SF.slot.bind (.ref x);unfold setAttr callSpecial? specialOf
 repeat (any_goals (first|assumption|(with_reducible refine wpAny_loadPart_at hx ?_;rw [hc])|(with_reducible refine wpAny_typeLookup_exc hC hn SF.mro SF.slot.lookup ?_;rw [af])|wp_step))
 refine codeAny_call_builtin SF.slot.plain SF.entry (wpAny_check_sa SF hC hx hc (LI SF hC hn gB hB hx hc mR nH fun h' bO dx a b c d e=>?_))
 repeat (any_goals (first|assumption|wp_step))
 exact hq h' bO dx a b c d e
end
end
structure aR where
 val:Str
 ec:List Str
set_option genInjectivity true in
inductive V where
 |none
 |bool (b:Bool)
 |int (i:Int)
 |str (s:Str)
 |tup (l:List V)
 |lst (l:List V)
 |dct (l:List (V×V))
 |rng (n:Int)
 |fn (x:Str)
 |con (v:Value)
 |eV (f:aR)
 |loc (n:Nat)
inductive aZ where
 |list (l:List V)
 |ns (l:List (Str×V))
 |inst (C:Str) (d:Nat)
 |exc (f:aR)
 |dead
noncomputable abbrev B:=List aZ
noncomputable abbrev Loc:=List (Str×V)
set_option genInjectivity true in
inductive R (α:Type) where
 |ok (a:α) (O:B)
 |exc (f:aR) (O:B)
 |stuck
noncomputable def R.bind {α β:Type} (r:R α) (k:α->B->R β):R β:=
 match r with
 |.ok a O=>k a O
 |.exc f O=>.exc f O
 |.stuck=>.stuck
inductive Fl where
 |next
 |ret (v:V)
set_option genInjectivity true in
inductive RS where
 |fin (f:Fl) (J:Loc) (O:B)
 |exc (f:aR) (J:Loc) (O:B)
 |stuck
noncomputable def RS.bind (r:RS) (k:Loc->B->RS):RS:=
 match r with
 |.fin .next J O=>k J O
 |.fin (.ret v) J O=>.fin (.ret v) J O
 |.exc f J O=>.exc f J O
 |.stuck=>.stuck
noncomputable def R.toS {α:Type} (J:Loc) (r:R α) (k:α->B->RS):RS:=
 match r with
 |.ok a O=>k a O
 |.exc f O=>.exc f J O
 |.stuck=>.stuck
noncomputable def nR:List Nat->List Nat->Bool
 | [],[]=>true
 |a::as,b::bs=>bif Nat.beq a b then nR as bs else false
 |_,_=>false
noncomputable def seq (a b:Str):Bool:=nR a.cps.toList b.cps.toList
noncomputable def dk:Str->Loc->Option V
 |_,[]=>.none
 |x,p::r=>bif seq p.1 x then .some p.2 else dk x r
noncomputable def putL:Str->V->Loc->Loc
 |x,v,[]=>[(x,v)]
 |x,v,p::r=>bif seq p.1 x then (p.1,v)::r else p::putL x v r
noncomputable def hZ:Str->Loc->Loc
 |_,[]=>[]
 |x,p::r=>bif seq p.1 x then hZ x r else p::hZ x r
noncomputable def fu:Str->List (Str×NameKind)->Option NameKind
 |_,[]=>.none
 |x,p::r=>bif seq p.1 x then .some p.2 else fu x r
noncomputable def az {α:Type}:List α->Nat->Option α
 | [],_=>.none
 |a::_,0=>.some a
 |_::r,n+1=>az r n
noncomputable def bu {α:Type}:List α->Nat->α->List α
 | [],_,_=>[]
 |_::r,0,b=>b::r
 |a::r,n+1,b=>a::bu r n b
noncomputable def idx (i:Int) (n:Nat):Option Nat:=bif (decide (0<=i)&&decide (i<n)&&decide (n<=1048576)) then .some i.toNat else .none
noncomputable def CB:Nat:=1048576
noncomputable def bd (n:Nat):Bool:=decide (n<=CB)
noncomputable def cJ {α β:Type} (o:Option α) (k:α->Option β):Option β:=match o with
 |some a=>k a
 |none=>none
noncomputable def d0 {α β:Type} (o:Option α) (k:α->β) (d:β):β:=match o with
 |some a=>k a
 |none=>d
noncomputable def xA:V->Option PyData
 |.none=>some .none
 |.bool b=>some (.bool b)
 |.int i=>some (.int i)
 |.str x=>bif PyData.strOk x then some (.str x) else none
 |_=>none
noncomputable def g4 (f:V->Option PyData):List V->Option (List PyData)
 | []=>some []
 |v::r=>cJ (f v) fun d=>cJ (g4 f r) fun ds=>some (d::ds)
noncomputable def fe:Nat->V->Option PyData
 | 0=>xA
 |n+1=>fun v=>match v with
  |.tup l=>(g4 (fe n) l).map .tuple
  |.lst l=>(g4 (fe n) l).map .list
  |v=>xA v
noncomputable def BQ (n:Nat) (l:List V):Option (List PyData):=g4 (fe n) l
noncomputable def rq (a b:V):Option Bool:=cJ (fe 8 a) fun x=>cJ (fe 8 b) fun y=>some (PyData.eqv x y)
noncomputable def cG:V->Option Int
 |.int i=>some i
 |_=>none
noncomputable def cX:V->Option Str
 |.str x=>some x
 |_=>none
noncomputable def nq:V->Option Bool
 |.bool b=>some b
 |_=>none
noncomputable def mG:V->Option (List V)
 |.tup l=>some l
 |_=>none
noncomputable def uB:V->Option (List (V×V))
 |.dct l=>some l
 |_=>none
noncomputable def ww:V->Option aR
 |.eV f=>some f
 |_=>none
noncomputable def j6:V->Option Nat
 |.loc n=>some n
 |_=>none
noncomputable def both {α β:Type} (o:Option α) (p:Option β):Option (α×β):=cJ o fun a=>cJ p fun b=>some (a,b)
noncomputable def ft:List V->Option (List Str)
 | []=>some []
 |v::r=>cJ (cX v) fun x=>cJ (ft r) fun l=>some (x::l)
noncomputable def K2:aZ->Option (List V)
 |.list l=>some l
 |_=>none
noncomputable def eB (O:B) (n:Nat):Option (List V):=cJ (az O n) K2
noncomputable def listAt (O:B):V->Option (List V)
 |.loc n=>eB O n
 |.lst l=>some l
 |_=>none
noncomputable def Dr (op:CmpOp) (a b:Int):Option Bool:=
 match op with
 |.Eq=>some (a==b)
 |.NotEq=>some (a !=b)
 |.Lt=>some (decide (a<b))
 |.LtE=>some (decide (a<=b))
 |.Gt=>some (decide (a>b))
 |.GtE=>some (decide (a >= b))
 |_=>none
noncomputable def isNone:V->Option Bool
 |.none=>some true
 |.bool _| .int _| .str _| .tup _| .lst _| .loc _=>some false
 |_=>none
noncomputable def nS (x:Str) (l:List V):Option Bool:=cJ (ft l) fun ts=>some (ts.any fun y=>y.cps.toList==x.cps.toList)
noncomputable def tM (x:Int):List V->Option Bool
 | []=>some false
 |v::r=>cJ (cG v) fun y=>cJ (tM x r) fun b=>some ((y==x)||b)
noncomputable def mem (x:V) (l:List V):Option Bool:=d0 (cX x) (fun s=>nS s l) (d0 (cG x) (fun i=>tM i l) (bif isNone x==some true&&(ft l).isSome then some false else none))
noncomputable def BG:CmpOp->Bool
 |.Eq=>true
 |_=>false
noncomputable def BX:CmpOp->Bool
 |.NotEq=>true
 |_=>false
noncomputable def Gl (op:CmpOp) (x y:Str):Option Bool:=
 match op with
 |.Eq=>some (x.cps.toList==y.cps.toList)
 |.NotEq=>some (x.cps.toList !=y.cps.toList)
 |.Lt=>some (x.cps.toList<y.cps.toList)
 |_=>none
noncomputable def FO (O:B) (a b:V):Option Bool:=d0 (mG b) (mem a) (cJ (listAt O b) (mem a))
noncomputable def kc (O:B) (v:V):V:=d0 (listAt O v) .lst v
noncomputable def EJ (O:B) (op:CmpOp) (a b:V):Option Bool:=d0 (both (cG a) (cG b)) (fun p=>Dr op p.1 p.2)
 (d0 (both (cX a) (cX b)) (fun p=>Gl op p.1 p.2)
 (d0 (both (nq a) (nq b)) (fun p=>bif BG op then some (p.1==p.2) else none)
 (bif BX op then cJ (rq (kc O a) (kc O b)) (fun e=>some (!e)) else none)))
noncomputable def zS (a b:V) (f:Bool->Bool):Option Bool:=bif isNone b==some true then cJ (isNone a) (fun e=>some (f e)) else none
noncomputable def dI (O:B) (op:CmpOp) (a b:V):Option Bool:=
 match op with
 |.Is=>zS a b fun e=>e
 |.IsNot=>zS a b fun e=>!e
 |.In=>FO O a b
 |.NotIn=>none
 |op=>EJ O op a b
noncomputable def oB (r:Option Bool) (O:B):R V:=
 match r with
 |some b=>.ok (.bool b) O
 |none=>.stuck
noncomputable def binI (op:Operator) (a b:Int):Option Int:=
 match op with
 |.Add=>some (a+b)
 |.Sub=>some (a-b)
 |.Mult=>bif (decide (Builtin.Int.intBits a+Builtin.Int.intBits b<=100000)) then some (a*b) else none
 |.FloorDiv=>bif (b !=0&& !Builtin.divisionGoesByPylong a b) then some (a.fdiv b) else none
 |.Mod=>bif (b !=0) then some (a.fmod b) else none
 |.Pow=>bif (decide (0<=b)&&decide ((Builtin.Int.intBits a:Int)*b<=100000)) then some (a ^ b.toNat) else none
 |.LShift=>bif (decide (0<=b)&&decide ((Builtin.Int.intBits a:Int)+b<=100000)) then some (a*2 ^ b.toNat) else none
 |.RShift=>bif (decide (0<=b)) then some (a.fdiv (2 ^ b.toNat)) else none
 |.BitAnd=>some (Builtin.bitAnd a b)
 |.BitOr=>some (Builtin.bitOr a b)
 |.BitXor=>some (Builtin.bitXor a b)
 |_=>none
noncomputable def mv {α:Type} (l:List α):Nat->List α
 | 0=>[]
 |n+1=>l++mv l n
noncomputable def newObj (O:B) (o:aZ):R V:=.ok (.loc O.length) (O++[o])
noncomputable def tV:Operator->Bool
 |.Add=>true
 |_=>false
noncomputable def xB:Operator->Bool
 |.Mult=>true
 |_=>false
noncomputable def aX {α β:Type} (o:Option β) (k:β->R α):R α:=match o with
 |some b=>k b
 |none=>.stuck
noncomputable def gx {α β:Type} (o:Option β) (k:β->R α) (d:R α):R α:=match o with
 |some b=>k b
 |none=>d
noncomputable def ja (O:B) (z:Int):R V:=.ok (.int z) O
noncomputable def KC (O:B) (z:Bool):R V:=.ok (.bool z) O
noncomputable def A0 (O:B) (z:V):R V:=.ok z O
noncomputable def LQ (op:Operator) (n:Int) (O:B) (x:Int):R V:=aX (binI op x n) (ja O)
noncomputable def K8 (op:Operator) (n:Int) (O:B) (x:Str):R V:=bif xB op&&decide (0<=n)&&decide (n<=1000000)&&decide (x.length<=16)&&bd (x.length*n.toNat) then .ok (.str (Txt.mul x n)) O else .stuck
noncomputable def Rd (op:Operator) (n:Int) (O:B) (l:List V):R V:=bif xB op&&decide (0<=n)&&decide (n<=1000000)&&bd (l.length*n.toNat) then newObj O (.list (mv l n.toNat)) else .stuck
noncomputable def zf (op:Operator) (a:V) (O:B) (n:Int):R V:=gx (cG a) (LQ op n O) (gx (cX a) (K8 op n O) (aX (listAt O a) (Rd op n O)))
noncomputable def Jk (op:Operator) (O:B) (p:Str×Str):R V:=bif tV op&&bd (p.1.length+p.2.length) then .ok (.str (p.1++p.2)) O else .stuck
noncomputable def FZ (op:Operator) (O:B) (p:List V×List V):R V:=bif tV op&&bd (p.1.length+p.2.length) then newObj O (.list (p.1++p.2)) else .stuck
noncomputable def wm (op:Operator) (a b:V) (O:B):R V:=gx (both (cX a) (cX b)) (Jk op O) (aX (both (listAt O a) (listAt O b)) (FZ op O))
noncomputable def ct (op:Operator) (a b:V) (O:B):R V:=gx (cG b) (zf op a O) (wm op a b O)
noncomputable def nw (op:UnaryOp) (a:V) (O:B):R V:=match op with
 |.USub=>aX (cG a) fun i=>ja O (-i)
 |.Invert=>aX (cG a) fun i=>ja O (Builtin.bitNot i)
 |.Not=>aX (nq a) fun b=>KC O (!b)
 |_=>.stuck
noncomputable def ow (x:Str):List (V×V)->Option V
 | []=>none
 |p::r=>match cX p.1 with
  |some y=>bif seq y x then some p.2 else ow x r
  |none=>none
noncomputable def ni (x:Int):List (V×V)->Option V
 | []=>none
 |p::r=>match cG p.1 with
  |some y=>bif y==x then some p.2 else ni x r
  |none=>none
noncomputable def BU {α:Type} (f:α->V) (O:B) (c:α):R V:=.ok (f c) O
noncomputable def qs {α:Type} (l:List α) (f:α->V) (O:B) (k:Nat):R V:=aX (az l k) (BU f O)
noncomputable def gn {α:Type} (i:Int) (f:α->V) (O:B) (l:List α):R V:=aX (idx i l.length) (qs l f O)
noncomputable def vP (c:Nat):V:=.str ⟨#[c]⟩
noncomputable def yK (i:Int) (O:B) (x:Str):R V:=gn i vP O x.cps.toList
noncomputable def yg (i:Int) (O:B) (l:List (V×V)):R V:=aX (ni i l) (A0 O)
noncomputable def wA (O:B) (p:List (V×V)×Str):R V:=aX (ow p.2 p.1) (A0 O)
noncomputable def sT (a:V) (O:B) (i:Int):R V:=gx (cX a) (yK i O) (gx (mG a) (gn i id O) (gx (uB a) (yg i O) (aX (listAt O a) (gn i id O))))
noncomputable def fK (a i:V) (O:B):R V:=gx (cG i) (sT a O) (aX (both (uB a) (cX i)) (wA O))
noncomputable def qt:V->Option (Option Int)
 |.none=>some none
 |.int i=>some (some i)
 |_=>none
noncomputable def qB (d:Nat) (v:V):Option Nat:=match qt v with
 |some o=>match o with
  |none=>some d
  |some i=>bif decide (0<=i) then some i.toNat else none
 |none=>none
noncomputable def S8 (x:Str) (O:B) (p:Option Int×Option Int):R V:=bif bd x.length then .ok (.str (Txt.slice x p.1 p.2)) O else .stuck
noncomputable def wF (lo hi:V) (O:B) (x:Str):R V:=aX (both (qt lo) (qt hi)) (S8 x O)
noncomputable def sg (l:List V) (O:B) (p:Nat×Nat):R V:=bif bd l.length then newObj O (.list ((l.take p.2).drop p.1)) else .stuck
noncomputable def mV (lo hi:V) (O:B) (l:List V):R V:=aX (both (qB 0 lo) (qB l.length hi)) (sg l O)
noncomputable def d9 (a lo hi:V) (O:B):R V:=gx (cX a) (wF lo hi O) (aX (listAt O a) (mV lo hi O))
noncomputable def Cq (x:Str) (O:B) (ts:List Str):R V:=bif Nat.beq x.cps.toList.length 0&&bd ((ts.map (·.length)).sum) then .ok (.str (Str.join x ts)) O else .stuck
noncomputable def ue (x:Str) (O:B) (l:List V):R V:=aX (ft l) (Cq x O)
noncomputable def Cw (x:Str) (O:B):R V:=bif bd x.length&&bd (Txt.lower x).length then .ok (.str (Txt.lower x)) O else .stuck
noncomputable def AG (x:Str) (O:B) (y:Str):R V:=.ok (.bool (Txt.startswith x y)) O
noncomputable def v0 (m:Str) (args:List V) (O:B) (x:Str):R V:=match args with
 | []=>bif seq m "lower" then Cw x O else .stuck
 | [a]=>bif seq m "startswith" then aX (cX a) (AG x O) else bif seq m "join" then aX (listAt O a) (ue x O) else .stuck
 |_=>.stuck
noncomputable def OI (n:Nat) (a:V):Bool:=match j6 a with
 |some j=>!Nat.beq j n
 |none=>true
noncomputable def l6 (n:Nat) (l:List V) (O:B) (v:V):R V:=bif bd l.length then .ok v (bu O n (.list l.dropLast)) else .stuck
noncomputable def oV (n:Nat) (l:List V) (a:V) (O:B):R V:=bif bd l.length then .ok .none (bu O n (.list (l++[a]))) else .stuck
noncomputable def vT (n:Nat) (l:List V) (a:V) (O:B) (k:List V):R V:=bif bd (l.length+k.length)&&OI n a then .ok .none (bu O n (.list (l++k))) else .stuck
noncomputable def dN (m:Str) (n:Nat) (args:List V) (O:B) (l:List V):R V:=match args with
 | []=>bif seq m "pop" then aX l.getLast? (l6 n l O) else .stuck
 | [a]=>bif seq m "append" then oV n l a O else bif seq m "extend" then aX (listAt O a) (vT n l a O) else .stuck
 |_=>.stuck
noncomputable def D4 (m:Str) (args:List V) (O:B) (n:Nat):R V:=aX (eB O n) (dN m n args O)
noncomputable def bk (m:Str) (o:V) (args:List V) (O:B):R V:=gx (cX o) (v0 m args O) (aX (j6 o) (D4 m args O))
noncomputable def jk (m:Str) (o:V) (O:B):Bool:=match cX o with
 |some _=>seq m "startswith" || seq m "join"
 |none=>match j6 o with
  |some n=>(eB O n).isSome&&(seq m "append" || seq m "extend")
  |none=>false
noncomputable def Aa (x:Str):Bool:=(["Act","Code","Nest"]:List Str).any (seq x)
noncomputable def Jb:List Str:=["stack","pc","code","nest","slots","each","caught","rows","ranges","names","sources","epoch","script","back","is_proc","label"]
noncomputable def jU (x:Str):Bool:=Jb.any (seq x)
noncomputable def zy:V->Bool
 |.con _=>false
 |.fn _=>false
 |_=>true
noncomputable def SG:aZ->Option (Str×Nat)
 |.inst C d=>some (C,d)
 |_=>none
noncomputable def Og:aZ->Option (List (Str×V))
 |.ns l=>some l
 |_=>none
noncomputable def sj (O:B) (o:V):Option (Str×Nat×List (Str×V)):=cJ (j6 o) fun n=>cJ (az O n) fun x=>cJ (SG x) fun p=>cJ (az O p.2) fun y=>cJ (Og y) fun l=>some (p.1,p.2,l)
noncomputable def vU (a:Str) (O:B) (f:aR):R V:=bif seq a "code" then .ok (.int 1) O else bif seq a "value" then .ok (.str f.val) O
 else bif seq a "errorcode" then .ok (.tup (f.ec.map .str)) O else .stuck
noncomputable def N_ (a C:Str) (O:B) (v:V):R V:=bif Aa C&&jU a&&zy v then .ok v O else .stuck
noncomputable def zx (a:Str) (O:B) (p:Str×Nat×List (Str×V)):R V:=aX (dk a p.2.2) (N_ a p.1 O)
noncomputable def lX (a:Str) (o:V) (O:B):R V:=gx (ww o) (vU a O) (aX (sj O o) (zx a O))
noncomputable def Nt (a:Str) (v:V) (O:B) (p:Str×Nat×List (Str×V)):R Unit:=bif Aa p.1&&jU a&&bd p.2.2.length then .ok () (bu O p.2.1 (.ns (putL a v p.2.2))) else .stuck
noncomputable def lV (a:Str) (o v:V) (O:B):R Unit:=aX (sj O o) (Nt a v O)
noncomputable def textOk (i:Int):Bool:=decide (i.natAbs<10 ^ 4300)
noncomputable def KV (O:B) (x:Str):R V:=bif bd x.length then .ok (.int x.length) O else .stuck
noncomputable def zW (O:B) (l:List V):R V:=bif bd l.length then .ok (.int l.length) O else .stuck
noncomputable def ug (O:B) (a:V):R V:=gx (cX a) (KV O) (aX (listAt O a) (zW O))
noncomputable def one (args:List V):Option V:=match args with
 | [a]=>some a
 |_=>none
noncomputable def two (args:List V):Option (V×V):=match args with
 | [a,b]=>some (a,b)
 |_=>none
noncomputable def Fw (O:B) (x:Str):R V:=match x.cps.toList with
 | [c]=>.ok (.int c) O
 |_=>.stuck
noncomputable def Ad (O:B) (a:V):R V:=aX (cX a) (Fw O)
noncomputable def EI (O:B) (q:Int×Int):R V:=.ok (.int (bif decide (q.2<q.1) then q.2 else q.1)) O
noncomputable def yx (O:B) (p:V×V):R V:=aX (both (cG p.1) (cG p.2)) (EI O)
noncomputable def M1 (O:B) (i:Int):R V:=bif textOk i then .ok (.str (Str.ofString (toString i))) O else .stuck
noncomputable def zY (O:B) (a:V):R V:=aX (cG a) (M1 O)
noncomputable def Ao (O:B) (l:List V):R V:=bif bd l.length then newObj O (.list l) else .stuck
noncomputable def Ag (O:B) (a:V):R V:=aX (listAt O a) (Ao O)
noncomputable def S9 (O:B) (n:Int):R V:=bif decide (0<=n)&&decide (n<=1000000) then .ok (.rng n) O else .stuck
noncomputable def xg (O:B) (a:V):R V:=aX (cG a) (S9 O)
noncomputable def ur (id:String) (args:List V) (O:B):R V:=
 bif id== "len" then aX (one args) (ug O)
 else bif id== "ord" then aX (one args) (Ad O)
 else bif id== "min" then aX (two args) (yx O)
 else .stuck
noncomputable def ui (id:String) (args:List V) (O:B):R V:=
 bif id== "str" then aX (one args) (zY O)
 else bif id== "list" then aX (one args) (Ag O)
 else bif id== "range" then aX (one args) (xg O)
 else .stuck
noncomputable def cM (f:Value) (args:List V) (O:B):R V:=
 match f with
 |.builtin id=>ur id args O
 |.type id=>ui id args O
 |_=>.stuck
noncomputable def jv {α:Type} (x:Str):List (Str×α)->Option α
 | []=>none
 |p::r=>bif seq p.1 x then some p.2 else jv x r
noncomputable def vm:List (Str×Value):=[("len",.builtin "len"),("ord",.builtin "ord"),("min",.builtin "min"),("str",.type "str"),("list",.type "list"),("range",.type "range")]
noncomputable def tK (x:Str):Option Value:=jv x vm
noncomputable abbrev eK:=Str->List V->B->R V
structure Ctx where
 C:eK
 W:Nat
 fns:Str->Bool
noncomputable def eH (Γ:Ctx) (sc:Scope) (x:Str) (J:Loc) (O:B):R V:=
 bif seq x "__debug__" then .stuck else
 match fu x sc.names with
 |some .local=>match dk x J with
  |some v=>.ok v O
  |none=>.stuck
 |some .globalImplicit=>bif Γ.fns x then .ok (.fn x) O else match tK x with
  |some v=>.ok (.con v) O
  |none=>.stuck
 |_=>.stuck
structure bQ where
 e:Bool->Scope->Expr->Loc->B->R V
 t:Bool->Scope->Expr->Loc->B->R Bool
 x:Bool->Scope->Stmt->Loc->B->RS
noncomputable def dX (ev:Expr->B->R V):List Expr->B->R (List V)
 | [],O=>.ok [] O
 |e::r,O=>(ev e O).bind fun v O=>(dX ev r O).bind fun vs O=>.ok (v::vs) O
noncomputable def dL (ev:Expr->B->R V):V->List CmpOp->List Expr->B->R V
 |l,[op],[r],O=>(ev r O).bind fun b O=>oB (dI O op l b) O
 |l,op::eD::ops,r::r'::rs,O=>(ev r O).bind fun b O=>match dI O op l b with
  |some true=>dL ev b (eD::ops) (r'::rs) O
  |some false=>.ok (.bool false) O
  |none=>.stuck
 |_,_,_,_=>.stuck
noncomputable def jn (ev:Expr->B->R V) (op:BoolOp):List Expr->B->R V
 | [],_=>.stuck
 | [x],O=>ev x O
 |x::r,O=>(ev x O).bind fun v O=>match v with
  |.bool b=>match op with
   |.And=>bif b then jn ev op r O else .ok (.bool false) O
   |.Or=>bif b then .ok (.bool true) O else jn ev op r O
  |_=>.stuck
noncomputable def eR (tv:Expr->B->R Bool) (op:BoolOp):List Expr->B->R Bool
 | [],O=>.ok (match op with| .And=>true| .Or=>false) O
 |x::r,O=>(tv x O).bind fun b O=>match op with
  |.And=>bif b then eR tv op r O else .ok false O
  |.Or=>bif b then .ok true O else eR tv op r O
noncomputable def jL (ev:Expr->B->R V):Str->List Expr->B->R V
 |acc,[],O=>.ok (.str acc) O
 |acc,e::r,O=>(ev e O).bind fun v O=>match v with
  |.str x=>bif bd (acc.length+x.length) then jL ev (acc++x) r O else .stuck
  |_=>.stuck
noncomputable def ib (ev:Expr->B->R V) (e:Expr) (O:B):R V:=
 match e with
 |.Constant (.str s) _ _=>.ok (.str s) O
 |.FormattedValue v c none _=>bif c== -1 then (ev v O).bind fun a O=>match a with
  |.str x=>bif bd x.length then .ok (.str x) O else .stuck
  |_=>.stuck
  else .stuck
 |_=>.stuck
noncomputable def m8 (ev:Expr->B->R V) (ps:List Expr) (O:B):R V:=
 match ps with
 | [_]=>.stuck
 |ps=>jL (fun e O=>ib ev e O) Str.empty ps O
noncomputable def quiet {α:Type} (r:R α):R α:=
 match r with
 |.ok a O=>.ok a O
 |_=>.stuck
noncomputable def MI:NameKind->Bool
 |.free=>true
 |.cell=>true
 |_=>false
noncomputable def zH:ScopeKind->Bool
 |.function=>true
 |_=>false
noncomputable def qS:Option NameKind->Bool
 |some .local=>true
 |_=>false
noncomputable def oy (sc:Scope) (x:Str):Bool:=
 zH sc.kind&&sc.names.all (fun p=>!MI p.2&&qS (fu p.1 sc.names))&&qS (fu x sc.names)
noncomputable def cV (ev:V->B->R V) (tv:V->B->R Bool):List V->List V->B->R (List V)
 | [],acc,O=>.ok acc O
 |a::r,acc,O=>(quiet (tv a O)).bind fun b O=>bif b then (quiet (ev a O)).bind fun v O=>bif bd acc.length then cV ev tv r (acc++[v]) O else .stuck
  else cV ev tv r acc O
noncomputable def gT (ev:Expr->B->R V):Option Expr->B->R V
 |none,O=>.ok .none O
 |some e,O=>ev e O
noncomputable def hU (ev:Expr->B->R V):List (Option Expr)->List Expr->B->R (List (V×V))
 | [],[],O=>.ok [] O
 |some k::ks,v::vs,O=>(ev k O).bind fun a O=>(ev v O).bind fun b O=>(hU ev ks vs O).bind fun r O=>.ok ((a,b)::r) O
 |_,_,_=>.stuck
noncomputable def kP:List (Option Expr)->List Expr->Bool
 | [],[]=>true
 |some _::ks,_::vs=>kP ks vs
 |_,_=>false
noncomputable def x5 (x:Str) (p:V×V):Bool:=match cX p.1 with
 |some y=>!seq y x
 |none=>false
noncomputable def zR (x:Int) (p:V×V):Bool:=match cG p.1 with
 |some y=>!(y==x)
 |none=>false
noncomputable def Kn (k:V) (r:List (V×V)):Bool:=match cX k with
 |some x=>r.all (x5 x)
 |none=>match cG k with
  |some i=>r.all (zR i)
  |none=>false
noncomputable def j9:List (V×V)->Bool
 | []=>true
 |p::r=>Kn p.1 r&&j9 r
noncomputable def fP (q:Bool) (Γ:Ctx) (f:V) (args:List V) (O:B):R V:=
 match f with
 |.fn x=>bif q then .stuck else Γ.C x args O
 |.con v=>bif q then .stuck else cM v args O
 |_=>.stuck
noncomputable def fX:Expr->Bool
 |.Starred .. => false
 |_=>true
noncomputable def fk (v:V) (O:B):Option (List V×B):=
 match v with
 |.str x=>some (x.cps.toList.map fun c=>.str ⟨#[c]⟩,O)
 |.tup l=>some (l,O)
 |.lst l=>some (l,O)
 |.rng n=>bif decide (0<=n)&&decide (n<=1000000) then some ((List.range n.toNat).map fun k=>.int (Int.ofNat k),O) else none
 |.loc k=>match eB O k with
  |some l=>some (l,bu O k .dead)
  |none=>none
 |_=>none
noncomputable def kq:Expr->Bool
 |.Call .. => true
 |_=>false
noncomputable def je:Expr->Bool
 |.Slice .. => true
 |_=>false
noncomputable def di:Expr->Bool
 |.ListComp .. => true
 |_=>false
inductive Ex where
 |cst (v:V)
 |name (x:Str)
 |tup (es:List Expr)
 |lst (es:List Expr)
 |bin (l:Expr) (op:Operator) (r:Expr)
 |un (op:UnaryOp) (x:Expr)
 |boo (op:BoolOp) (vs:List Expr)
 |lf (t b o:Expr)
 |cmp (l:Expr) (ops:List CmpOp) (cs:List Expr)
 |kh (ps:List Expr)
 |att (o:Expr) (a:Str)
 |kJ (o:Expr) (lo hi:Option Expr)
 |sub (o i:Expr)
 |k9 (o:Expr) (m:Str)
 |kD (o:Expr) (m:Str) (x:Expr)
 |cal (f:Expr) (as:List Expr)
 |kL (ks:List (Option Expr)) (vs:List Expr)
 |com (bC:Expr) (x:Str) (it:Expr) (bL:List Expr) (aQ:Scope)
noncomputable def gb:Expr->Option Str
 |.Name x _=>some x
 |_=>none
noncomputable def lI (b:Bool) (k:Option Ex):Option Ex:=bif b then k else none
noncomputable def wH:Const->Option Ex
 |.none=>some (.cst .none)
 |.bool b=>some (.cst (.bool b))
 |.int i=>some (.cst (.int i))
 |.str s=>some (.cst (.str s))
 |_=>none
noncomputable def tI:Expr->Option (Option Expr×Option Expr×Option Expr)
 |.Slice lo hi st _=>some (lo,hi,st)
 |_=>none
noncomputable def oU:Expr->Option (Expr×Str×Pos)
 |.Attribute o m p=>some (o,m,p)
 |_=>none
noncomputable def zX (o i:Expr):Option Ex:=match tI i with
 |some (lo,hi,st)=>match st with
  |none=>some (.kJ o lo hi)
  |some _=>none
 |none=>some (.sub o i)
noncomputable def O6 (o:Expr) (m:Str):List Expr->Option Ex
 | []=>some (.k9 o m)
 | [x]=>some (.kD o m x)
 |_=>none
noncomputable def zb (as:List Expr) (p:Pos) (f:Expr):Option Ex:=match oU f with
 |some (o,m,ap)=>lI (!kq o&&(ap.endLine==p.line)) (O6 o m as)
 |none=>some (.cal f as)
noncomputable def nn (bC:Expr) (aQ:Scope):List Comprehension->Option Ex
 | [⟨t,it,bL,a⟩]=>match gb t with
  |none=>none
  |some x=>lI (a==0) (some (.com bC x it bL aQ))
 |_=>none
noncomputable def pS:Expr->Option Ex
 |.Constant c _ _=>wH c
 |.Name x _=>some (.name x)
 |.Tuple es _ _=>lI (es.all fX) (some (.tup es))
 |.List es _=>lI (es.all fX) (some (.lst es))
 |.BinOp l op r _=>some (.bin l op r)
 |.UnaryOp op x _=>some (.un op x)
 |.BoolOp op vs _=>some (.boo op vs)
 |.IfExp t b o _=>some (.lf t b o)
 |.Compare l ops cs _=>some (.cmp l ops cs)
 |.JoinedStr ps _=>some (.kh ps)
 |.Attribute o a _=>lI (!kq o) (some (.att o a))
 |.Subscript o i _=>zX o i
 |.Call f as ks p=>match ks with
  | []=>lI (as.all fX) (zb as p f)
  |_=>none
 |.Dict ks vs _=>lI (Nat.ble ks.length 15&&kP ks vs) (some (.kL ks vs))
 |.ListComp bC g_ aQ _=>nn bC aQ g_
 |_=>none
noncomputable def eU (Γ:Ctx) (I:bQ) (q:Bool) (sc:Scope) (J:Loc) (O:B):Ex->R V
 |.cst v=>.ok v O
 |.name x=>eH Γ sc x J O
 |.tup es=>(dX (fun e O=>I.e q sc e J O) es O).bind fun vs O=>bif bd vs.length then .ok (.tup vs) O else .stuck
 |.lst es=>(dX (fun e O=>I.e q sc e J O) es O).bind fun vs O=>bif bd vs.length then newObj O (.list vs) else .stuck
 |.bin l op r=>(I.e q sc l J O).bind fun a O=>(I.e q sc r J O).bind fun b O=>ct op a b O
 |.un op x=>(I.e q sc x J O).bind fun a O=>nw op a O
 |.boo op vs=>jn (fun e O=>I.e q sc e J O) op vs O
 |.lf t b o=>(I.t q sc t J O).bind fun c O=>bif c then I.e q sc b J O else I.e q sc o J O
 |.cmp l ops cs=>(I.e q sc l J O).bind fun a O=>dL (fun e O=>I.e q sc e J O) a ops cs O
 |.kh ps=>m8 (fun e O=>I.e q sc e J O) ps O
 |.att o a=>(I.e q sc o J O).bind fun v O=>lX a v O
 |.kJ o lo hi=>(I.e q sc o J O).bind fun v O=>(gT (fun e O=>I.e q sc e J O) lo O).bind fun a O=>(gT (fun e O=>I.e q sc e J O) hi O).bind fun b O=>d9 v a b O
 |.sub o i=>(I.e q sc o J O).bind fun v O=>(I.e q sc i J O).bind fun a O=>fK v a O
 |.k9 o m=>bif q then .stuck else (I.e q sc o J O).bind fun v O=>bk m v [] O
 |.kD o m x=>bif q then .stuck else (I.e q sc o J O).bind fun v O=>bif jk m v O then (I.e q sc x J O).bind fun b O=>bk m v [b] O else .stuck
 |.cal f as=>(I.e q sc f J O).bind fun v O=>(dX (fun e O=>I.e q sc e J O) as O).bind fun vs O=>fP q Γ v vs O
 |.kL ks vs=>(hU (fun e O=>I.e q sc e J O) ks vs O).bind fun l O=>bif j9 l then .ok (.dct l) O else .stuck
 |.com bC x it bL aQ=>bif oy aQ x&& !q then (I.e q sc it J O).bind fun v O=>(match fk v O with
  |some (l,O)=>(cV (fun a O=>I.e true aQ bC [(x,a)] O) (fun a O=>eR (fun e O=>I.t true aQ e [(x,a)] O) .And bL O) l [] O).bind fun r O=>newObj O (.list r)
  |none=>.stuck) else .stuck
noncomputable def th (f:Ex->R V):Option Ex->R V
 |some k=>f k
 |none=>.stuck
noncomputable def iM (Γ:Ctx) (I:bQ) (q:Bool) (sc:Scope) (e:Expr) (J:Loc) (O:B):R V:=th (eU Γ I q sc J O) (pS e)
noncomputable def boolOf (v:V) (O:B):R Bool:=
 match v with
 |.bool b=>.ok b O
 |_=>.stuck
noncomputable def stepT (_Γ:Ctx) (I:bQ) (q:Bool) (sc:Scope) (e:Expr) (J:Loc) (O:B):R Bool:=
 match e with
 |.UnaryOp .Not x _=>(I.t q sc x J O).bind fun b O=>.ok (!b) O
 |.BoolOp op vs _=>eR (fun e O=>I.t q sc e J O) op vs O
 |.IfExp .. =>.stuck
 |.Compare l ops cs _=>(I.e q sc l J O).bind fun a O=>(dL (fun e O=>I.e q sc e J O) a ops cs O).bind fun v O=>boolOf v O
 |e=>(I.e q sc e J O).bind fun v O=>boolOf v O
noncomputable def bB (xv:Stmt->Loc->B->RS):List Stmt->Loc->B->RS
 | [],J,O=>.fin .next J O
 |s::r,J,O=>(xv s J O).bind fun J O=>bB xv r J O
noncomputable def fO (tv:Loc->B->R Bool) (bv:Loc->B->RS):Nat->Loc->B->RS
 | 0,_,_=>.stuck
 |n+1,J,O=>(tv J O).toS J fun b O=>bif b then (bv J O).bind fun J O=>fO tv bv n J O else .fin .next J O
noncomputable def dH (bv:Loc->B->RS) (x:Str):List V->Loc->B->RS
 | [],J,O=>.fin .next J O
 |a::r,J,O=>(bv (putL x a J) O).bind fun J O=>dH bv x r J O
noncomputable def targetsOf:List Expr->Option (List Str)
 | []=>some []
 |.Name x _::r=>match targetsOf r with
  |some l=>some (x::l)
  |none=>none
 |_=>none
noncomputable def putAll:List Str->List V->Loc->Option Loc
 | [],[],J=>some J
 |x::xs,v::vs,J=>putAll xs vs (putL x v J)
 |_,_,_=>none
noncomputable def rB (v:V) (O:B):Option (List V):=match mG v with
 |some l=>some l
 |none=>listAt O v
noncomputable def bU (sc:Scope) (x:Str):Bool:=match fu x sc.names with
 |some .local=>true
 |_=>false
noncomputable def kT:Expr->Bool
 |.Tuple vs _ _=>vs.all (constantsAlone 8)&& !vs.all (foldedForSure 8)
 |_=>false
noncomputable def im:List Str->Bool
 | []=>true
 |x::r=>!(r.any fun y=>seq y x)&&im r
noncomputable def Sz (op:Operator) (i j:Int):Option Int:=match op with
 |.Add=>some (i+j)
 |.Sub=>some (i-j)
 |_=>none
noncomputable def jQ (x:Str) (op:Operator) (a b:V) (J:Loc) (O:B):RS:=match both (cG a) (cG b) with
 |some p=>match Sz op p.1 p.2 with
  |some z=>.fin .next (putL x (.int z) J) O
  |none=>.stuck
 |none=>.stuck
noncomputable def nL (xs:List Str) (a:V) (J:Loc) (O:B):RS:=
 match rB a O with
 |some l=>match putAll xs l J with
  |some J=>.fin .next J O
  |none=>.stuck
 |none=>.stuck
noncomputable def gQ (bv:Loc->B->RS) (x:Str) (v:V) (J:Loc) (O:B):RS:=
 match fk v O with
 |some (l,O)=>dH bv x l J O
 |none=>.stuck
noncomputable def pH (m9:Nat) (v:V) (J:Loc) (O:B):RS:=
 match v with
 |.loc n=>match az O n with
  |some (.exc f)=>bif Nat.ble m9 n then .exc f J (bu O n .dead) else .stuck
  |_=>.stuck
 |_=>.stuck
noncomputable def mI (sc:Scope) (c:Str):Bool:=match fu c sc.names with
 |some .globalImplicit=>true
 |_=>false
noncomputable def oF (hv:Loc->B->RS) (n:Str) (f:aR) (J:Loc) (O:B):RS:=
 match hv (putL n (.eV f) J) O with
 |.fin f J O=>.fin f (hZ n J) O
 |_=>.stuck
noncomputable def vO (r:RS):RS:=
 match r with
 |.fin f J O=>.fin f J O
 |_=>.stuck
noncomputable def o0 (hv:Loc->B->RS) (loc:Str->Bool) (nm:Option Str) (r:RS):RS:=
 match r with
 |.fin f J O=>.fin f J O
 |.exc f J O=>(match nm with
  |none=>vO (hv J O)
  |some n=>bif loc n then oF hv n f J O else .stuck)
 |.stuck=>.stuck
inductive Sx where
 |pass|kG
 |expr (e:Expr)
 |ret (e:Expr)
 |ls (x:Str) (v:Expr)
 |kB (ts:List Expr) (v:Expr)
 |lh (o:Expr) (x:Str) (v:Expr)
 |aug (x:Str) (op:Operator) (v:Expr)
 |iff (t:Expr) (b o:List Stmt)
 |kj (t:Expr) (b:List Stmt)
 |jW (x:Str) (it:Expr) (b:List Stmt)
 |ku (e:Expr)
 |j1 (b:List Stmt) (c:Str) (nm:Option Str) (h0:Stmt) (hs:List Stmt)
noncomputable def Jj (t v:Expr):Option Sx:=match t with
 |.Name x _=>some (.ls x v)
 |.Tuple ts _ _=>some (.kB ts v)
 |.Attribute o x _=>some (.lh o x v)
 |_=>none
noncomputable def Nv (b:List Stmt) (ty:Option Expr) (nm:Option Str):List Stmt->Option Sx
 | []=>none
 |h0::hs=>match ty with
  |none=>none
  |some e=>match gb e with
   |none=>none
   |some c=>some (.j1 b c nm h0 hs)
noncomputable def pW:Stmt->Option Sx
 |.Pass _=>some .pass
 |.Expr e _=>some (.expr e)
 |.Return v _=>match v with
  |none=>some .kG
  |some e=>some (.ret e)
 |.Assign ts v _=>match ts with
  | [t]=>Jj t v
  |_=>none
 |.AugAssign t op v _=>match gb t with
  |none=>none
  |some x=>some (.aug x op v)
 |.If t b o _=>some (.iff t b o)
 |.While t b o _=>match o with
  | []=>some (.kj t b)
  |_=>none
 |.For t it b o _=>match o with
  | []=>match gb t with
   |none=>none
   |some x=>some (.jW x it b)
  |_=>none
 |.Raise e c _=>match c with
  |none=>match e with
   |none=>none
   |some e=>some (.ku e)
  |some _=>none
 |.Try b hs o f _=>match o with
  | []=>match f with
   | []=>match hs with
    | [.ExceptHandler ty nm h _]=>Nv b ty nm h
    |_=>none
   |_=>none
  |_=>none
 |_=>none
noncomputable def Qf (Γ:Ctx) (I:bQ) (q:Bool) (sc:Scope) (J:Loc) (O:B):Sx->RS
 |.pass=>.fin .next J O
 |.kG=>.fin (.ret .none) J O
 |.expr e=>bif di e||q then .stuck else (I.e q sc e J O).toS J fun _ O=>.fin .next J O
 |.ret e=>(I.e q sc e J O).toS J fun v O=>.fin (.ret v) J O
 |.ls x v=>bif q then .stuck else bif bU sc x then (I.e q sc v J O).toS J fun a O=>.fin .next (putL x a J) O else .stuck
 |.kB ts v=>bif q then .stuck else bif di v||kT v then .stuck else (match targetsOf ts with
  |some xs=>bif xs.all (bU sc)&&im xs then (I.e q sc v J O).toS J fun a O=>nL xs a J O else .stuck
  |none=>.stuck)
 |.lh o x v=>bif q then .stuck else bif di v then .stuck else (I.e q sc v J O).toS J fun a O=>(I.e q sc o J O).toS J fun b O=>(lV x b a O).toS J fun _ O=>.fin .next J O
 |.aug x op v=>bif bU sc x&& !q then (eH Γ sc x J O).toS J fun a O=>(I.e q sc v J O).toS J fun b O=>jQ x op a b J O else .stuck
 |.iff t b o=>(I.t q sc t J O).toS J fun c O=>bif c then bB (I.x q sc) b J O else bB (I.x q sc) o J O
 |.kj t b=>bif q then .stuck else fO (fun J O=>I.t q sc t J O) (fun J O=>bB (I.x q sc) b J O) Γ.W J O
 |.jW x it b=>bif bU sc x&& !q then (I.e q sc it J O).toS J fun v O=>gQ (fun J O=>bB (I.x q sc) b J O) x v J O else .stuck
 |.ku e=>bif q then .stuck else (I.e q sc e J O).toS J fun v σ'=>pH O.length v J σ'
 |.j1 b c nm h0 hs=>bif !q&&seq c "Raised" && mI sc c then o0 (fun J O=>bB (I.x true sc) (h0::hs) J O) (bU sc) nm (bB (I.x false sc) b J O) else .stuck
noncomputable def xQ (f:Sx->RS):Option Sx->RS
 |some k=>f k
 |none=>.stuck
noncomputable def jD (Γ:Ctx) (I:bQ) (q:Bool) (sc:Scope) (s:Stmt) (J:Loc) (O:B):RS:=xQ (Qf Γ I q sc J O) (pW s)
noncomputable def Lv:bQ:=⟨fun _ _ _ _ _=>.stuck,fun _ _ _ _ _=>.stuck,fun _ _ _ _ _=>.stuck⟩
noncomputable def ev (Γ:Ctx):Nat->bQ
 | 0=>Lv
 |n+1=>⟨iM Γ (ev Γ n),stepT Γ (ev Γ n),jD Γ (ev Γ n)⟩
theorem lR {bv:Loc->B->RS} {x:Str} {a:V} {r:List V} {J:Loc} {O:B}:dH bv x (a::r) J O=(bv (putL x a J) O).bind fun J O=>dH bv x r J O:=rfl
theorem sV {ev:V->B->R V} {tv:V->B->R Bool} {a:V} {r acc:List V} {O:B}:cV ev tv (a::r) acc O=(quiet (tv a O)).bind fun b O=>bif b then (quiet (ev a O)).bind fun v O=>bif bd acc.length then cV ev tv r (acc++[v]) O else .stuck else cV ev tv r acc O:=rfl
theorem wD {tv:Loc->B->R Bool} {bv:Loc->B->RS} {n:Nat} {J:Loc} {O:B}:fO tv bv (n+1) J O=(tv J O).toS J fun b O=>bif b then (bv J O).bind fun J O=>fO tv bv n J O else .fin .next J O:=rfl
theorem EV {xv:Stmt->Loc->B->RS} {s:Stmt} {r:List Stmt} {J:Loc} {O:B}:bB xv (s::r) J O=(xv s J O).bind fun J O=>bB xv r J O:=rfl
theorem lE {x:Str} {p:Str×V} {r:Loc}:dk x (p::r)=bif seq p.1 x then some p.2 else dk x r:=rfl
structure Fn where
 params:List Str
 h9:List V
 body:List Stmt
 scope:Scope
 pure:Bool
noncomputable def eF:List Str->List V->List V->Option Loc
 |ps,as,ds=>
  bif Nat.ble as.length ps.length&&Nat.ble ps.length (as.length+ds.length) then some (ps.zip (as++ds.drop (as.length+ds.length-ps.length))) else none
mutual
noncomputable def dw (n:Nat):V->Bool
 |.loc k=>Nat.blt k n
 |.tup l=>bP n l
 |.lst l=>bP n l
 |.dct l=>yF n l
 |_=>true
noncomputable def bP (n:Nat):List V->Bool
 | []=>true
 |v::r=>dw n v&&bP n r
noncomputable def yF (n:Nat):List (V×V)->Bool
 | []=>true
 |p::r=>dw n p.1&&dw n p.2&&yF n r
end
theorem zi {n:Nat} {v:V} {r:List V}:bP n (v::r)=(dw n v&&bP n r):=rfl
noncomputable def gj (n:Nat) (O:B):V->V
 |.loc k=>bif Nat.blt k n then .loc k else match az O k with
  |some (.list l)=>.lst l
  |_=>.loc k
 |v=>v
noncomputable def fz (n:Nat) (O:B):V->V
 |.tup l=>.tup (l.map (gj n O))
 |v=>gj n O v
noncomputable def dj (Γ:Ctx) (f:Fn) (args:List V) (O:B):R V:=
 match eF f.params args f.h9 with
 |none=>.stuck
 |some J=>match bB ((ev Γ 40).x false f.scope) f.body J O with
  |.fin (.ret v) _ O=>.ok v O
  |.fin .next _ O=>.ok .none O
  |.exc f _ O=>.exc f O
  |.stuck=>.stuck
noncomputable def lK:List V->Option Nat
 | []=>none
 |.loc k::_=>some k
 |_::r=>lK r
noncomputable def iU (k:Nat):V->Bool
 |.loc j=>Nat.beq j k
 |v=>dw 0 v
noncomputable def jN:V->V
 |.loc _=>.loc 0
 |v=>v
noncomputable def givenBack (m:Nat) (v:V) (σ':B) (O:B):R V:=bif dw 0 (fz m σ' v) then .ok (fz m σ' v) O else .stuck
noncomputable def og (k:Nat) (σ' O:B) (c:B->R V):R V:=
 match az σ' 0 with
 |some (.list l)=>bif bP 0 l then c (bu O k (.list l)) else .stuck
 |some .dead=>c (bu O k .dead)
 |_=>.stuck
noncomputable def fN (run:List V->B->R V) (args:List V) (O:B):R V:=
 bif bP 0 args then (match run args [] with
  |.ok v σ'=>givenBack 0 v σ' O
  |.exc f _=>.exc f O
  |.stuck=>.stuck)
 else match lK args with
  |some k=>(match az O k with
   |some (.list l)=>bif bP 0 l&&args.all (iU k) then (match run (args.map jN) [.list l] with
    |.ok v σ'=>og k σ' O fun O=>givenBack 1 v σ' O
    |.exc f σ'=>og k σ' O fun O=>.exc f O
    |.stuck=>.stuck) else .stuck
   |_=>.stuck)
  |none=>.stuck
structure lq where
 fn:Str->Option Fn
 cls:Str->Option Str
 inits:Str->Bool
noncomputable def kO (args:List V) (O:B):R V:=
 match args with
 | [.int i,.str t,.tup l]=>bif i==1 then (match ft l with
  |some ec=>newObj O (.exc ⟨t,ec⟩)
  |none=>.stuck) else .stuck
 |_=>.stuck
noncomputable def three (args:List V):Option (V×V×V):=match args with
 | [a,b,c]=>some (a,b,c)
 |_=>none
theorem nE {v:V} {i:Int} (h:cG v=some i):v=.int i:=by
 induction v using V.casesOn with
 |int j=>rw [Option.some.inj h]
 |_=>exact al h
noncomputable def lq.names (P:lq) (x:Str):Bool:=seq x "Raised" || ((P.fn x).isSome&& !P.inits x)||(P.cls x).isSome
noncomputable def defName:Stmt->Option Str
 |.FunctionDef n .. => some n
 |_=>none
noncomputable def theDefIn (x:Str):List Stmt->Option Stmt
 | []=>none
 |s::r=>d0 (defName s) (fun n=>bif seq n x then some s else theDefIn x r) (theDefIn x r)
noncomputable def QS:Stmt->Option (Str×List Stmt)
 |.ClassDef n _ _ b .. => some (n,b)
 |_=>none
noncomputable def qL (x:Str):List Stmt->Option (List Stmt)
 | []=>none
 |s::r=>d0 (QS s) (fun p=>bif seq p.1 x then some p.2 else qL x r) (qL x r)
noncomputable def TG:Expr->V
 |.Constant (.int i) _ _=>.int i
 |.Constant (.str s) _ _=>.str s
 |.Constant (.bool b) _ _=>.bool b
 |.Tuple [.Constant (.str s) _ _] _ _=>.tup [.str s]
 |_=>.none
noncomputable def sR (pure:Bool):Option Stmt->Option Fn
 |some (.FunctionDef _ a b _ _ _ sc _ _ _)=>some ⟨a.args.map (·.arg),a.defaults.map TG,b,sc,pure⟩
 |_=>none
noncomputable def iR:List Stmt:=PySem.Challenge.pw_oj0067_01.main.body
noncomputable def Ch:List Str:=["error","operand_fault","taken","go","folded","op_push","op_pop","op_join","op_jump","op_jump_false","op_jump_true","op_unary","op_binary","op_truth","op_number"]
noncomputable def Ie (c:Str):Option Fn:=cJ (qL c iR) fun b=>sR false (theDefIn "__init__" b)
noncomputable def yl:List (Str×Str):=[("Act","Act.__init__"),("Code","Code.__init__"),("Nest","Nest.__init__")]
noncomputable def oq:List (Str×Str):=[("Act.__init__","Act"),("Code.__init__","Code"),("Nest.__init__","Nest")]
noncomputable def fnOf (x:Str):Option Str->Option Fn
 |some c=>Ie c
 |none=>sR (!(Ch.any fun y=>seq y x)) (theDefIn x iR)
noncomputable def prog:lq where
 fn:=fun x=>fnOf x (jv x oq)
 cls:=fun x=>jv x yl
 inits:=fun x=>(jv x oq).isSome
noncomputable abbrev Zm:=Addr->Option Obj
noncomputable abbrev Gv:=Str->Option Value
structure Gd where
 prog:Program
 w:World
 mg:Gv
noncomputable def m_ (items:Array Value) (n:Nat):Obj:={cls:=.type "tuple",data:=.seq items n}
noncomputable def gV (items:Array Value) (n:Nat):Obj:={cls:=.type "list",data:=.seq items n}
noncomputable def OF (o:Obj) (m:Gv):Prop:=∃es ep,o.data=.dict es ep/\StrKeys es/\∀x,nsFind es x=m x
inductive iZ (g:Gd) (Z:Zm) (f:aR) (oe:Obj):Prop
 |mk (C dx:Addr) (od:Obj) (m:Gv) (a:Addr) (items:Array Value) (k:Nat) (zG yS:Tok) (p:List (Str×Tok)):g.mg "Raised" = some (.ref C)->oe.cls=.ref C->oe.dict=some dx->Z dx=some od->OF od m->
  m "code" = some (.int 1 zG)->m "value" = some (.str f.val yS)->m "errorcode" = some (.ref a)->
  Z a=some (m_ items k)->items.toList=strValues p->p.map (·.1)=f.ec->iZ g Z f oe
mutual
inductive RV (g:Gd) (Z:Zm) (as:List Addr):V->Value->Prop
 |none:RV g Z as .none .none
 |bool (b:Bool):RV g Z as (.bool b) (.bool b)
 |int (i:Int) (t:Tok):RV g Z as (.int i) (.int i t)
 |str (x:Str) (t:Tok):RV g Z as (.str x) (.str x t)
 |tup {l a items n}:Z a=some (m_ items n)->aO g Z as l items.toList->RV g Z as (.tup l) (.ref a)
 |lst {l a items n}:Z a=some (gV items n)->aO g Z as l items.toList->RV g Z as (.lst l) (.ref a)
 |qn {l a o bT}:Z a=some o->o.IsDictOf (strKind g.prog g.w) bT->l.map (·.1)=bT.map (fun p=>V.str p.1)->aO g Z as (l.map (·.2)) (bT.map (·.2))->RV g Z as (.dct l) (.ref a)
 |uC {l a o bT}:Z a=some o->o.IsDictOf (intKind g.prog g.w) bT->l.map (·.1)=bT.map (fun p=>V.int p.1)->aO g Z as (l.map (·.2)) (bT.map (·.2))->RV g Z as (.dct l) (.ref a)
 |rng {n a u t w}:Z a=some {cls:=.type "range",data:=.fields #[.int 0 u,.int n t,.int 1 w]} -> RV g Z as (.rng n) (.ref a)
 |fn {x v}:g.mg x=some v->RV g Z as (.fn x) v
 |con (v:Value):RV g Z as (.con v) v
 |eV {f a oe vs}:Z a=some oe->oe.data=.fields vs->iZ g Z f oe->RV g Z as (.eV f) (.ref a)
 |loc {n a}:az as n=some a->RV g Z as (.loc n) (.ref a)
inductive aO (g:Gd) (Z:Zm) (as:List Addr):List V->List Value->Prop
 |nil:aO g Z as [] []
 |cons {v val vs ai}:RV g Z as v val->aO g Z as vs ai->aO g Z as (v::vs) (val::ai)
end
inductive fM (g:Gd) (Z:Zm) (as:List Addr) {κ:Type} (mk:κ->V) (l:List (V×V)) (k:List (κ×Value)):Prop
 |mk:l.map (·.1)=k.map (fun p=>mk p.1)->aO g Z as (l.map (·.2)) (k.map (·.2))->fM g Z as mk l k
noncomputable abbrev tx (g:Gd) (Z:Zm) (as:List Addr) (l:List (V×V)) (k:List (Str×Value)):Prop:=fM g Z as V.str l k
noncomputable abbrev uK (g:Gd) (Z:Zm) (as:List Addr) (l:List (V×V)) (k:List (Int×Value)):Prop:=fM g Z as V.int l k
inductive yw (g:Gd) (Z:Zm) (as:List Addr) (l:List V) (v:Value):Prop
 |mk (a:Addr) (items:Array Value) (n:Nat):v=.ref a->Z a=some (m_ items n)->aO g Z as l items.toList->yw g Z as l v
inductive AJ (g:Gd) (Z:Zm) (as:List Addr) (l:List V) (v:Value):Prop
 |mk (a:Addr) (items:Array Value) (n:Nat):v=.ref a->Z a=some (gV items n)->aO g Z as l items.toList->AJ g Z as l v
inductive lm (g:Gd) (Z:Zm) (as:List Addr) (l:List (V×V)) (v:Value):Prop
 |S (a:Addr) (o:Obj) (bT:List (Str×Value)):v=.ref a->Z a=some o->o.IsDictOf (strKind g.prog g.w) bT->tx g Z as l bT->lm g Z as l v
 |I (a:Addr) (o:Obj) (bT:List (Int×Value)):v=.ref a->Z a=some o->o.IsDictOf (intKind g.prog g.w) bT->uK g Z as l bT->lm g Z as l v
inductive Di (Z:Zm) (n:Int) (v:Value):Prop
 |mk (a:Addr) (u t w:Tok):v=.ref a->Z a=some {cls:=.type "range",data:=.fields #[.int 0 u,.int n t,.int 1 w]} -> Di Z n v
inductive vX (g:Gd) (Z:Zm) (f:aR) (v:Value):Prop
 |mk (a:Addr) (oe:Obj) (vs:Array Value):v=.ref a->Z a=some oe->oe.data=.fields vs->iZ g Z f oe->vX g Z f v
noncomputable def M2 (g:Gd) (Z:Zm) (as:List Addr) (a:V) (v:Value):Prop:=match a with
 |.none=>v=.none
 |.bool b=>v=.bool b
 |.int i=>∃t,v=.int i t
 |.str x=>∃t,v=.str x t
 |.tup l=>yw g Z as l v
 |.lst l=>AJ g Z as l v
 |.dct l=>lm g Z as l v
 |.rng n=>Di Z n v
 |.fn x=>g.mg x=some v
 |.con w=>v=w
 |.eV f=>vX g Z f v
 |.loc n=>∃a,v=.ref a/\az as n=some a
theorem RV.out {g:Gd} {Z:Zm} {as:List Addr} {a:V} {v:Value} (h:RV g Z as a v):M2 g Z as a v:=by
 cases h with
 |none=>exact rfl
 |bool b=>exact rfl
 |int i t=>exact ⟨t,rfl⟩
 |str x t=>exact ⟨t,rfl⟩
 |tup e r=>exact ⟨_,_,_,rfl,e,r⟩
 |lst e r=>exact ⟨_,_,_,rfl,e,r⟩
 |qn e d k r=>exact .S _ _ _ rfl e d ⟨k,r⟩
 |uC e d k r=>exact .I _ _ _ rfl e d ⟨k,r⟩
 |rng e=>exact ⟨_,_,_,_,rfl,e⟩
 |fn e=>exact e
 |con v=>exact rfl
 |eV e d r=>exact ⟨_,_,_,rfl,e,d,r⟩
 |loc e=>exact ⟨_,rfl,e⟩
inductive CQ (g:Gd) (Z:Zm) (as:List Addr) (a:V) (l:List V) (vs:List Value):Prop
 |mk (v:Value) (r:List Value):vs=v::r->RV g Z as a v->aO g Z as l r->CQ g Z as a l vs
noncomputable def Ho (g:Gd) (Z:Zm) (as:List Addr) (l:List V) (vs:List Value):Prop:=match l with
 | []=>vs=[]
 |a::l=>CQ g Z as a l vs
theorem aO.out {g:Gd} {Z:Zm} {as:List Addr} {l:List V} {vs:List Value} (h:aO g Z as l vs):Ho g Z as l vs:=by
 cases h with
 |nil=>exact rfl
 |cons a r=>exact ⟨_,_,rfl,a,r⟩
noncomputable def bW (Z Z':Zm):Prop:=∀b o,Z b=some o->Z' b=some o
theorem bW.refl (Z:Zm):bW Z Z:=fun _ _ h=>h
theorem bW.trans {Z Z' qE:Zm} (a:bW Z Z') (b:bW Z' qE):bW Z qE:=fun x o h=>b x o (a x o h)
theorem iZ.mono {g:Gd} {Z Z':Zm} (z:bW Z Z') {f:aR} {oe:Obj} (h:iZ g Z f oe):iZ g Z' f oe:=
 let ⟨C,dx,od,m,a,items,k,t0,t1,p,c1,c2,c3,c4,c5,c6,c7,c8,c9,qr,xm⟩:=h
 ⟨C,dx,od,m,a,items,k,t0,t1,p,c1,c2,c3,z _ _ c4,c5,c6,c7,c8,z _ _ c9,qr,xm⟩
noncomputable def bI {α:Type} (l l':List α):Prop:=∃t,l'=l++t
theorem bI.refl {α:Type} (l:List α):bI l l:=⟨[],by simp⟩
theorem bI.trans {α:Type} {l l' Bo:List α}:bI l l'->bI l' Bo->bI l Bo:=fun ⟨t,h⟩ ⟨u,k⟩=>⟨t++u,by rw [k,h,List.append_assoc]⟩
theorem bI.append {α:Type} (l t:List α):bI l (l++t):=⟨t,rfl⟩
theorem fJ {α:Type} (l:List α):∀(n:Nat),az l n=l[n]?:=by
 induction l with
 |nil=>exact fun n=>by induction n using cz<;>rfl
 |cons a r ih=>
  intro n;induction n using cz with
  |zero=>rfl
  |succ n=>exact (ih n).trans List.getElem?_cons_succ.symm
theorem w_ {α:Type} (l:List α):∀(n:Nat) (b:α),bu l n b=l.set n b:=by
 induction l with
 |nil=>exact fun n b=>by induction n using cz<;>rfl
 |cons a r ih=>
  intro n b;induction n using cz with
  |zero=>rfl
  |succ n=>exact congrArg (a:: ·) (ih n b)
theorem o_ {α:Type} {l l':List α} (p:bI l l') {n:Nat} {a:α} (h:az l n=some a):az l' n=some a:=by
 refine aB p ?_;clear p;rintro t rfl;rw [fJ] at h ⊢;rw [List.getElem?_append_left (List.getElem?_eq_some_iff.mp h).1];exact h
theorem gI {α:Type} {l:List α} {n:Nat} {a:α} (h:az l n=some a):n<l.length:=by
 rw [fJ] at h;exact (List.getElem?_eq_some_iff.mp h).1
theorem da {α:Type} {l:List α} {n:Nat} {a:α} (h:az l n=some a):a∈l:=by
 rw [fJ] at h;exact List.mem_of_getElem? h
section
variable {g:Gd} {Z Z':Zm} {as aL:List Addr}
theorem RV.mono (z:bW Z Z') (p:bI as aL) {v:V} {val:Value} (h:RV g Z as v val):RV g Z' aL v val:=
 RV.rec (motive_1:=fun v val _=>RV g Z' aL v val) (motive_2:=fun l k _=>aO g Z' aL l k)
  .none .bool .int .str (fun h _ r=>.tup (z _ _ h) r) (fun h _ r=>.lst (z _ _ h) r) (fun h d k _ r=>.qn (z _ _ h) d k r) (fun h d k _ r=>.uC (z _ _ h) d k r) (fun h=>.rng (z _ _ h)) (fun h=>.fn h) .con (fun a b c=>.eV (z _ _ a) b (c.mono z)) (fun h=>.loc (o_ p h))
  .nil (fun _ _ a b=>.cons a b) h
theorem aO.ind {motive:List V->List Value->Prop} (nil:motive [] []) (cons:∀v val vs ai,RV g Z as v val->aO g Z as vs ai->motive vs ai->motive (v::vs) (val::ai)) {vs:List V} {ai:List Value} (h:aO g Z as vs ai):motive vs ai:=
 aO.rec (motive_1:=fun _ _ _=>True) (motive_2:=fun l k _=>motive l k) trivial (fun _=>trivial) (fun _ _=>trivial) (fun _ _=>trivial) (fun {_ _ _ _} _ _ _=>trivial) (fun {_ _ _ _} _ _ _=>trivial) (fun {_ _ _ _} _ _ _ _ _=>trivial) (fun {_ _ _ _} _ _ _ _ _=>trivial) (fun {_ _ _ _ _} _=>trivial) (fun {_ _} _=>trivial) (fun _=>trivial) (fun {_ _ _ _} _ _ _=>trivial) (fun {_ _} _=>trivial)
  nil (fun a b _ d=>cons _ _ _ _ a b d) h
theorem fM.ind {κ:Type} {mk:κ->V} {motive:List (V×V)->List (κ×Value)->Prop} (nil:motive [] []) (cons:∀x v val r rs,RV g Z as v val->fM g Z as mk r rs->motive r rs->motive ((mk x,v)::r) ((x,val)::rs)) (l:List (V×V)):∀ {k:List (κ×Value)},fM g Z as mk l k->motive l k:=by
 induction l with
 |nil=>
  intro k h;induction k using bh with
  |nil=>exact nil
  |cons q r=>exact (nomatch h.1)
 |cons p l ih=>
  intro k h;obtain ⟨e,rs⟩:=h;obtain ⟨x,v⟩:=p;induction k using bh with
  |nil=>exact (nomatch e)
  |cons q k=>
   have e:=List.cons.inj e;obtain ⟨_,_,q1,ra,CD⟩:=rs.out;have q1:=List.cons.inj q1;obtain rfl:q.2=_:=q1.1;obtain rfl:k.map (·.2)=_:=q1.2;obtain rfl:x=mk q.1:=e.1;exact cons q.1 v q.2 l k ra ⟨e.2,CD⟩ (ih ⟨e.2,CD⟩)
theorem aO.mono (z:bW Z Z') (p:bI as aL) {vs:List V} {ai:List Value} (h:aO g Z as vs ai):aO g Z' aL vs ai:=h.ind (motive:=fun l k=>aO g Z' aL l k) .nil fun _ _ _ _ a _ b=>.cons (a.mono z p) b
theorem fM.mono {κ:Type} {mk:κ->V} (z:bW Z Z') (p:bI as aL) {l:List (V×V)} {k:List (κ×Value)} (h:fM g Z as mk l k):fM g Z' aL mk l k:=by
 obtain ⟨a,b⟩:=h;exact ⟨a,b.mono z p⟩
theorem fM.cons {κ:Type} {mk:κ->V} {x:κ} {v:V} {val:Value} {r:List (V×V)} {rs:List (κ×Value)} (a:RV g Z as v val) (h:fM g Z as mk r rs):fM g Z as mk ((mk x,v)::r) ((x,val)::rs):=by
 obtain ⟨b,c⟩:=h;exact ⟨congrArg (mk x:: ·) b,.cons a c⟩
theorem aO.length {vs ai} (h:aO g Z as vs ai):vs.length=ai.length:=h.ind (motive:=fun l k=>l.length=k.length) rfl fun _ _ _ _ _ _ e=>congrArg Nat.succ e
theorem aO.append {jw v6} (h':aO g Z as jw v6) {vs ai} (h:aO g Z as vs ai):aO g Z as (vs++jw) (ai++v6):=h.ind (motive:=fun l k=>aO g Z as (l++jw) (k++v6)) h' fun _ _ _ _ a _ b=>.cons a b
theorem aO.nth {vs ai} {n:Nat} {v:V} (h:aO g Z as vs ai):az vs n=some v->∃val,ai[n]?=some val/\RV g Z as v val:=by
 refine h.ind (motive:=fun l k=>∀ {n},az l n=some v->∃val,k[n]?=some val/\RV g Z as v val) (fun {n} e=>by induction n using cz<;>exact al e) fun w val vs ai a _ ih {n} e=>?_;induction n using cz with
 |zero=>obtain rfl:=Option.some.inj e;exact ⟨val,rfl,a⟩
 |succ n=>exact ih e
theorem aO.take {vs ai} (n:Nat) (h:aO g Z as vs ai):aO g Z as (vs.take n) (ai.take n):=by
 refine h.ind (motive:=fun l k=>∀n,aO g Z as (l.take n) (k.take n)) (fun n=>by induction n using cz<;>exact .nil) (fun w val vs ai a _ ih n=>?_) n;induction n using cz with
 |zero=>exact .nil
 |succ n=>exact .cons a (ih n)
theorem aO.drop {vs ai} (n:Nat) (h:aO g Z as vs ai):aO g Z as (vs.drop n) (ai.drop n):=by
 refine h.ind (motive:=fun l k=>∀n,aO g Z as (l.drop n) (k.drop n)) (fun n=>by induction n using cz<;>exact .nil) (fun w val vs ai a b ih n=>?_) n;induction n using cz with
 |zero=>exact .cons a b
 |succ n=>exact ih n
theorem aO.rep {vs ai} (h:aO g Z as vs ai) (n:Nat):aO g Z as (mv vs n) (mv ai n):=by
 induction n with
 |zero=>exact .nil
 |succ n ih=>exact aO.append ih h
end
noncomputable def hV (g:Gd) (Z:Zm) (as:List Addr) (J:Loc) (m:Gv):Prop:=∀x v,dk x J=some v->∃val,m x=some val/\RV g Z as v val
theorem hV.mono {g:Gd} {Z Z':Zm} {as aL:List Addr} (z:bW Z Z') (p:bI as aL) {J m} (h:hV g Z as J m):hV g Z' aL J m:=
 fun x v e=>let ⟨val,a,b⟩:=h x v e;⟨val,a,b.mono z p⟩
noncomputable def iC (g:Gd) (Z:Zm) (as:List Addr) (h:Heap) (a:Addr):aZ->Prop
 |.list l=>∃items n,h.get? a=some (gV items n)/\aO g Z as l items.toList
 |.ns l=>∃m,h.Ns1 a m/\hV g Z as l m/\Within m (l.map (·.1))
 |.inst C d=>∃Ca dx,g.mg C=some (.ref Ca)/\az as d=some dx/\h.get? a=some {cls:=.ref Ca,dict:=some dx,data:=.plain}
 |.exc f=>∃oe vs,h.get? a=some oe/\oe.data=.fields vs/\vs[1]?=some .none/\(∃t,vs[0]?=some t)/\iZ g Z f oe
 |.dead=>True
structure St (g:Gd) (h0:Heap) (F:List Addr) (Z:Zm) (as:List Addr) (O:B) (h:Heap):Prop where
 base:∀b o,h0.get? b=some o->Z b=some o
 bN:∀b o,Z b=some o->h.get? b=some o/\b∉F
 len:as.length=O.length
 obj:∀n a o,az as n=some a->az O n=some o->iC g Z as h a o
 sep:∀n a o,az as n=some a->az O n=some o->o≠ .dead->Z a=none
 off:∀a∈as,a∉F/\∃o,h.get? a=some o
 inj:∀n m a,az as n=some a->az as m=some a->n=m
 frm:∀b∈F,∃o es n,h.get? b=some o/\o.data=.dict es n
structure Go (g:Gd) (h0:Heap) (F:List Addr) (Z:Zm) (as:List Addr) (h:Heap) (Z':Zm) (aL:List Addr) (σ':B) (h':Heap):Prop where
 bz:bW Z Z'
 pre:bI as aL
 st:St g h0 F Z' aL σ' h'
 keep:∀b o,h.get? b=some o->b∉as->(b∉F->h'.get? b=some o)/\∃sl,h'.get? b=some {o with slots:=sl}
 new:∀a∈aL,a∈as\/h.get? a=none
 fz:∀b o,Z' b=some o->Z b=some o\/b∈aL\/h.get? b=none
section
variable {g:Gd} {h0:Heap} {F:List Addr} {Z ak bj:Zm} {as aj bM:List Addr} {O σ₁ bn:B} {h ag aM:Heap}
theorem Go.refl (s:St g h0 F Z as O h):Go g h0 F Z as h Z as O h:=
 ⟨bW.refl _,bI.refl _,s,fun b o e _=>⟨fun _=>e,o.slots,e⟩,fun _ h=>.inl h,fun _ _ h=>.inl h⟩
theorem Go.trans (a:Go g h0 F Z as h ak aj σ₁ ag) (b:Go g h0 F ak aj ag bj bM bn aM):Go g h0 F Z as h bj bM bn aM where
 bz:=a.bz.trans b.bz
 pre:=a.pre.trans b.pre
 st:=b.st
 keep:=fun x o e n=>by
  obtain ⟨k1,sl,k2⟩:=a.keep x o e n;have n1:x∉aj:=fun q=>(a.new x q).elim n fun z=>by rw [e] at z;exact al z.symm
  refine ⟨fun nf=>(b.keep x o (k1 nf) n1).1 nf,?_⟩;obtain ⟨_,oa,k3⟩:=b.keep x _ k2 n1;exact ⟨oa,k3⟩
 new:=fun x hx=>by
  rcases b.new x hx with q|q
  ·exact a.new x q
  ·by_cases cL:x∈as
   ·exact .inl cL
   ·refine .inr ?_;generalize e:h.get? x=zc;induction zc using aA with
    |none=>rfl
    |some o=>
     obtain ⟨_,sl,k2⟩:=a.keep x o e cL;rw [q] at k2;exact al k2
 fz:=fun x o hx=>by
  rcases b.fz x o hx with q|q|q
  ·rcases a.fz x o q with r|r|r
   ·exact .inl r
   ·exact .inr (.inl (by refine aB b.pre fun t e=>?_;rw [e];exact List.mem_append_left _ r))
   ·exact .inr (.inr r)
  ·exact .inr (.inl q)
  ·by_cases cL:x∈as
   ·exact .inr (.inl (by refine aB (a.pre.trans b.pre) fun t e=>?_;rw [e];exact List.mem_append_left _ cL))
   ·refine .inr (.inr ?_);generalize e:h.get? x=zc;induction zc using aA with
    |none=>rfl
    |some o=>
     obtain ⟨_,sl,k2⟩:=a.keep x o e cL;rw [q] at k2;exact al k2
theorem St.fresh (s:St g h0 F Z as O h) {b:Addr} (e:h.get? b=none):Z b=none:=by
 generalize z:Z b=zc;induction zc using aA with
 |none=>rfl
 |some o=>rw [(s.bN b o z).1] at e;exact al e.symm
theorem St.fD (s:St g h0 F Z as O h) {b:Addr} (e:h.get? b=none):b∉as:=fun q=>by
 obtain ⟨_,o,ho⟩:=s.off b q;rw [e] at ho;exact al ho
theorem St.gu (s:St g h0 F Z as O h) {b:Addr} (e:h.get? b=none):b∉F:=fun q=>by
 refine gN (s.frm b q ) fun o _ _ ho _=>?_;rw [e] at ho;exact al ho
theorem iC.mono {a:Addr} {o:aZ} (z:bW Z ak) (p:bI as aj) (k:∀x,h.get? a=some x->ag.get? a=some x) (r:iC g Z as h a o):iC g ak aj ag a o:=by
 induction o using aZ.casesOn with
 |list l=>refine b_ r ?_;clear r;intro items n e r;exact ⟨items,n,k _ e,r.mono z p⟩
 |ns l=>
  refine gR r ?_;clear r;rintro m ⟨o,es,ep,e,q⟩ r wi;exact ⟨m,⟨o,es,ep,k _ e,q⟩,r.mono z p,wi⟩
 |inst C d=>refine i_ r ?_;clear r;intro Ca dx e1 e2 e3;exact ⟨Ca,dx,e1,o_ p e2,k _ e3⟩
 |exc f=>
  refine xX r ?_;clear r;intro oe vs e1 e2 e3 e4 d;exact ⟨oe,vs,k _ e1,e2,e3,e4,d.mono z⟩
 |dead=>trivial
theorem Go.keeps (s:St g h0 F Z as O h) (k:∀b o,h.get? b=some o->ag.get? b=some o):Go g h0 F Z as h Z as O ag where
 bz:=bW.refl _
 pre:=bI.refl _
 st:=⟨s.base,fun b o e=>⟨k b o (s.bN b o e).1,(s.bN b o e).2⟩,s.len,fun n a o e1 e2=>(s.obj n a o e1 e2).mono (bW.refl _) (bI.refl _) (k a),s.sep,
  fun a ha=>⟨(s.off a ha).1,let ⟨o,ho⟩:=(s.off a ha).2;⟨o,k _ _ ho⟩⟩,s.inj,fun b hb=>let ⟨o,es,n,e,d⟩:=s.frm b hb;⟨o,es,n,k _ _ e,d⟩⟩
 keep:=fun b o e _=>⟨fun _=>k b o e,o.slots,k b o e⟩
 new:=fun _ h=>.inl h
 fz:=fun _ _ h=>.inl h
noncomputable def bp (Z:Zm) (a:Addr) (o:Obj):Zm:=fun b=>if b=a then some o else Z b
theorem bp.le {a:Addr} {o:Obj} (e:Z a=none):bW Z (bp Z a o):=fun b o' h=>by
 unfold bp;by_cases q:b=a
 ·subst q;rw [e] at h;exact al h
 ·rw [if_neg q];exact h
theorem bp.at {a:Addr} {o:Obj}:bp Z a o a=some o:=by unfold bp;rw [if_pos rfl]
theorem Go.frozen (s:St g h0 F Z as O h) {a:Addr} {o:Obj} (hn:h.get? a=none) (k:∀b o,h.get? b=some o->ag.get? b=some o) (ha:ag.get? a=some o):
 Go g h0 F Z as h (bp Z a o) as O ag where
 bz:=bp.le (s.fresh hn)
 pre:=bI.refl _
 st:=by
  have G:=(Go.keeps s k).st;have zl:=bp.le (o:=o) (s.fresh hn);refine ⟨fun b o' e=>zl _ _ (s.base b o' e),fun b o' e=>?_,s.len,fun n b o' e1 e2=>(G.obj n b o' e1 e2).mono zl (bI.refl _) (fun _ e=>e),fun n b o' e1 e2 e3=>?_,G.off,s.inj,G.frm⟩
  ·unfold bp at e;by_cases q:b=a
   ·subst q;rw [if_pos rfl] at e;obtain rfl:=Option.some.inj e;exact ⟨ha,s.gu hn⟩
   ·rw [if_neg q] at e;exact G.bN b o' e
  ·unfold bp;by_cases q:b=a
   ·subst q;exact absurd (da e1) (s.fD hn)
   ·rw [if_neg q];exact s.sep n b o' e1 e2 e3
 keep:=fun b o' e _=>⟨fun _=>k b o' e,o'.slots,k b o' e⟩
 new:=fun _ h=>.inl h
 fz:=fun b o' e=>by
  unfold bp at e;by_cases q:b=a
  ·subst q;exact .inr (.inr hn)
  ·rw [if_neg q] at e;exact .inl e
theorem mw {α:Type} (l:List α) (a:α):az (l++[a]) l.length=some a:=by rw [fJ];simp
theorem gY {α:Type} {l:List α} {b x:α} {n:Nat} (h:az (l++[b]) n=some x):az l n=some x\/(n=l.length/\x=b):=by
 rw [fJ] at h;rw [List.getElem?_append] at h
 split at h
 ·left;rw [fJ];exact h
 ·right
  have h2:=(List.getElem?_eq_some_iff.mp h)
  obtain ⟨h3,h4⟩:=h2;simp only [List.length_cons,List.length_nil] at h3;refine ⟨by lia,?_⟩;simp at h4;exact h4.symm
theorem Go.alloc (s:St g h0 F Z as O h) {a:Addr} {o:Obj} {ao:aZ} (hn:h.get? a=none) (k:∀b o,h.get? b=some o->ag.get? b=some o) (ha:ag.get? a=some o)
 (hr:iC g Z (as++[a]) ag a ao):Go g h0 F Z as h Z (as++[a]) (O++[ao]) ag where
 bz:=bW.refl _
 pre:=bI.append _ _
 st:=by
  have G:=(Go.keeps s k).st;refine ⟨s.base,G.bN,by simp [s.len],fun n b o' e1 e2=>?_,fun n b o' e1 e2 e3=>?_,fun b hb=>?_,fun n m b e1 e2=>?_,G.frm⟩
  ·rcases gY e1 with q|⟨q1,q2⟩
   ·rcases gY e2 with r|⟨r1,r2⟩
    ·exact (G.obj n b o' q r).mono (bW.refl _) (bI.append _ _) (fun _ e=>e)
    ·have:=gI q;rw [s.len] at this;omega
   ·subst q1 q2;rw [s.len,mw] at e2;obtain rfl:=Option.some.inj e2;exact hr
  ·rcases gY e1 with q|⟨q1,q2⟩
   ·rcases gY e2 with r|⟨r1,r2⟩
    ·exact s.sep n b o' q r e3
    ·have:=gI q;rw [s.len] at this;omega
   ·subst q2;exact s.fresh hn
  ·rcases List.mem_append.mp hb with q|q
   ·exact G.off b q
   ·rw [List.mem_singleton] at q;subst q;exact ⟨s.gu hn,o,ha⟩
  ·rcases gY e1 with q|⟨q1,q2⟩
   ·rcases gY e2 with r|⟨r1,r2⟩
    ·exact s.inj n m b q r
    ·subst r2;exact absurd (da q) (s.fD hn)
   ·rcases gY e2 with r|⟨r1,r2⟩
    ·subst q2;exact absurd (da r) (s.fD hn)
    ·rw [q1,r1]
 keep:=fun b o' e _=>⟨fun _=>k b o' e,o'.slots,k b o' e⟩
 new:=fun b hb=>by
  rcases List.mem_append.mp hb with q|q
  ·exact .inl q
  ·rw [List.mem_singleton] at q;subst q;exact .inr hn
 fz:=fun _ _ h=>.inl h
theorem oO {α:Type} {l:List α} {n:Nat} {b:α} (h:n<l.length):az (bu l n b) n=some b:=by
 rw [fJ,w_];simp [h]
theorem rW {α:Type} {l:List α} {n m:Nat} {b:α} (h:n≠m):az (bu l n b) m=az l m:=by
 rw [fJ,w_,fJ,List.getElem?_set_ne h]
theorem rH {α:Type} (l:List α) (n:Nat) (b:α):(bu l n b).length=l.length:=by rw [w_];simp
theorem Go.update (s:St g h0 F Z as O h) {n:Nat} {a:Addr} {o:Obj} {ao qu:aZ} (e1:az as n=some a) (e2:az O n=some ao) (hd:ao≠ .dead) (k:∀b o,b≠a->h.get? b=some o->ag.get? b=some o)
 (ha:ag.get? a=some o) (hr:iC g Z as ag a qu):Go g h0 F Z as h Z as (bu O n qu) ag where
 bz:=bW.refl _
 pre:=bI.refl _
 st:=by
  have za:=s.sep n a ao e1 e2 hd;refine ⟨s.base,fun b o' e=>?_,by rw [rH];exact s.len,fun m b o' f1 f2=>?_,fun m b o' f1 f2 f3=>?_,fun b hb=>?_,
   s.inj,fun b hb=>?_⟩
  ·have cj:b≠a:=fun q=>by rw [q,za] at e;exact al e
   exact ⟨k b o' cj (s.bN b o' e).1,(s.bN b o' e).2⟩
  ·by_cases q:n=m
   ·subst q;rw [e1] at f1;obtain rfl:=Option.some.inj f1;rw [oO (gI e2)] at f2;obtain rfl:=Option.some.inj f2;exact hr
   ·rw [rW q] at f2;by_cases dd:o'=.dead
    ·subst dd;trivial
    have cj:b≠a:=fun z=>q (s.inj n m a e1 (z▸f1));exact (s.obj m b o' f1 f2).mono (bW.refl _) (bI.refl _) (fun x e=>k b x cj e)
  ·by_cases q:n=m
   ·subst q;rw [e1] at f1;obtain rfl:=Option.some.inj f1;exact za
   ·rw [rW q] at f2;exact s.sep m b o' f1 f2 f3
  ·obtain ⟨z1,o',z2⟩:=s.off b hb;by_cases q:b=a
   ·subst q;exact ⟨z1,o,ha⟩
   ·exact ⟨z1,o',k b o' q z2⟩
  ·refine gN (s.frm b hb ) fun o' es m z1 z2=>?_;have cj:b≠a:=fun q=>(s.off a (da e1)).1 (q▸hb);exact ⟨o',es,m,k b o' cj z1,z2⟩
 keep:=fun b o' e nb=>by
  have cj:b≠a:=fun q=>nb (q▸da e1);have:=k b o' cj e;exact ⟨fun _=>this,o'.slots,this⟩
 new:=fun _ h=>.inl h
 fz:=fun _ _ h=>.inl h
theorem St.dead (s:St g h0 F Z as O h) (n:Nat):St g h0 F Z as (bu O n .dead) h:=by
 refine ⟨s.base,s.bN,by rw [rH];exact s.len,fun m b o e1 e2=>?_,fun m b o e1 e2 e3=>?_,s.off,
  s.inj,s.frm⟩
 ·by_cases q:n=m
  ·subst q;have:=gI e2;rw [rH] at this;rw [oO this] at e2;obtain rfl:=Option.some.inj e2;trivial
  ·rw [rW q] at e2;exact s.obj m b o e1 e2
 ·by_cases q:n=m
  ·subst q;have:=gI e2;rw [rH] at this;rw [oO this] at e2;obtain rfl:=Option.some.inj e2;exact absurd rfl e3
  ·rw [rW q] at e2;exact s.sep m b o e1 e2 e3
theorem St.freeze (s:St g h0 F Z as O h) {n:Nat} {a:Addr} {o:Obj} {ao:aZ} (e1:az as n=some a) (e2:az O n=some ao) (hd:ao≠ .dead) (ho:h.get? a=some o):
 bW Z (bp Z a o)/\St g h0 F (bp Z a o) as (bu O n .dead) h:=by
 have za:=s.sep n a ao e1 e2 hd;have zl:=bp.le (o:=o) za;have D:=s.dead n;refine ⟨zl,fun b o' e=>zl _ _ (s.base b o' e),fun b o' e=>?_,D.len,fun m b o' f1 f2=>(D.obj m b o' f1 f2).mono zl (bI.refl _) (fun _ e=>e),fun m b o' f1 f2 f3=>?_,s.off,D.inj,s.frm⟩
 ·unfold bp at e;by_cases q:b=a
  ·subst q;rw [if_pos rfl] at e;obtain rfl:=Option.some.inj e;exact ⟨ho,(s.off b (da e1)).1⟩
  ·rw [if_neg q] at e;exact s.bN b o' e
 ·unfold bp;by_cases q:b=a
  ·subst q;have pA:n=m:=s.inj n m b e1 f1;subst pA;rw [oO (gI e2)] at f2;obtain rfl:=Option.some.inj f2;exact absurd rfl f3
  ·rw [if_neg q];exact D.sep m b o' f1 f2 f3
end
theorem Hz (a:List Nat):nR a a=true:=by
 induction a with
 |nil=>rfl
 |cons a as ih=>show (bif Nat.beq a a then nR as as else false)=true;rw [Nat.beq_refl];exact ih
theorem P9 (a:List Nat):∀b,nR a b=true->a=b:=by
 induction a with
 |nil=>intro b h;induction b using bh with
  |nil=>rfl
  |cons b bs=>exact Bool.noConfusion h
 |cons a as ih=>intro b h;induction b using bh with
  |nil=>exact Bool.noConfusion h
  |cons b bs=>
   replace h:(bif Nat.beq a b then nR as bs else false)=true:=h;generalize q:Nat.beq a b=zc;induction zc using aN with
   |false=>rw [q] at h;exact Bool.noConfusion h
   |true=>rw [q] at h;rw [Nat.eq_of_beq_eq_true q,ih bs h]
theorem S1 (a b:List Nat):nR a b=true↔a=b:=⟨P9 a b,fun h=>h▸Hz a⟩
theorem y0 {a b:Str} (h:a.cps.toList=b.cps.toList):a=b:=by
 obtain ⟨a⟩:=a;obtain ⟨b⟩:=b;exact congrArg Str.mk (Array.ext' h)
theorem bY {a b:Str}:seq a b=true↔a=b:=by
 unfold seq;rw [S1];exact ⟨y0,fun h=>by rw [h]⟩
theorem gq {a b:Str}:seq a b=false↔a≠b:=by
 generalize q:seq a b=zc;induction zc using aN with
 |true=>simp [bY.mp q]
 |false=>simp;intro h;rw [bY.mpr h] at q;cases q
inductive PG {α β:Type} (P:α->Zm->List Addr->β->Prop) (g:Gd) (h0:Heap) (Fs:List Addr) (Z:Zm) (as:List Addr) (s:Shared) (r:R α) (val:β) (s':Shared):Prop
 |mk (v:α) (σ':B) (h':Heap) (tk:Nat) (Z':Zm) (aL:List Addr):r=.ok v σ'->s'={s with heap:=h',toks:=tk} -> Go g h0 Fs Z as s.heap Z' aL σ' h'->P v Z' aL val->PG P g h0 Fs Z as s r val s'
noncomputable abbrev RE (g:Gd):V->Zm->List Addr->Value->Prop:=fun v Z as val=>RV g Z as v val
noncomputable abbrev PV (g:Gd) (h0:Heap) (Fs:List Addr) (Z:Zm) (as:List Addr) (s:Shared) (r:R V) (val:Value) (s':Shared):Prop:=PG (RE g) g h0 Fs Z as s r val s'
section
variable {g:Gd} {h0:Heap} {Fs:List Addr} {Z:Zm} {as:List Addr} {O:B} {A:Around} {E:Value->Shared->Prop} {s:Shared}
theorem cg (S:St g h0 Fs Z as O s.heap) {v:V} {val:Value} {tk:Nat} (r:RV g Z as v val):PV g h0 Fs Z as s (.ok v O) val {s with toks:=tk}:=
 ⟨v,O,s.heap,tk,Z,as,rfl,rfl,Go.refl S,r⟩
theorem jA {h:Heap} {o:Obj}:∀b x,h.get? b=some x->(h.push o).get? b=some x:=fun _ _ e=>Heap.get?_push_of_some o e
theorem dg (h:Heap):h.get? h.objs.size=none:=Heap.get?_none_of_le (Nat.le_refl _)
theorem yh (S:St g h0 Fs Z as O s.heap) {v:V} {o:Obj} {tk:Nat} (hf:o.isFreed=false) (r:RV g (bp Z s.heap.objs.size o) as v (.ref s.heap.objs.size)):
 PV g h0 Fs Z as s (.ok v O) (.ref s.heap.objs.size) {s with heap:=s.heap.push o,toks:=tk}:=
 ⟨v,O,_,tk,_,as,rfl,rfl,Go.frozen S (dg _) jA (Heap.get?_push_size _ hf),r⟩
theorem vI (S:St g h0 Fs Z as O s.heap) {ao:aZ} {o:Obj} {tk:Nat} (hf:o.isFreed=false) (r:iC g Z (as++[s.heap.objs.size]) (s.heap.push o) s.heap.objs.size ao):
 PV g h0 Fs Z as s (newObj O ao) (.ref s.heap.objs.size) {s with heap:=s.heap.push o,toks:=tk}:=
 ⟨.loc O.length,O++[ao],_,tk,_,as++[s.heap.objs.size],rfl,rfl,Go.alloc S (dg _) jA (Heap.get?_push_size _ hf) r,.loc (by rw [<- S.len];exact mw _ _)⟩
theorem ud {v:V} {i:Str} (h:cX v=some i):v=.str i:=by
 induction v using V.casesOn with
 |str i=>obtain rfl:=Option.some.inj h;rfl
 |_=>exact al h
theorem E3 {v:V} {i:Bool} (h:nq v=some i):v=.bool i:=by
 induction v using V.casesOn with
 |bool i=>obtain rfl:=Option.some.inj h;rfl
 |_=>exact al h
theorem GH {v:V} {i:List V} (h:mG v=some i):v=.tup i:=by
 induction v using V.casesOn with
 |tup i=>obtain rfl:=Option.some.inj h;rfl
 |_=>exact al h
theorem Oi {v:V} {i:List (V×V)} (h:uB v=some i):v=.dct i:=by
 induction v using V.casesOn with
 |dct i=>obtain rfl:=Option.some.inj h;rfl
 |_=>exact al h
theorem ME {v:V} {i:aR} (h:ww v=some i):v=.eV i:=by
 induction v using V.casesOn with
 |eV i=>obtain rfl:=Option.some.inj h;rfl
 |_=>exact al h
theorem A1 {v:V} {i:Nat} (h:j6 v=some i):v=.loc i:=by
 induction v using V.casesOn with
 |loc i=>obtain rfl:=Option.some.inj h;rfl
 |_=>exact al h
theorem RV.gf {v:V} {i:Int} {val:Value} (r:RV g Z as v val) (h:cG v=some i):∃t,val=.int i t:=by obtain rfl:=nE h;exact r.out
theorem RV.fL {v:V} {i:Str} {val:Value} (r:RV g Z as v val) (h:cX v=some i):∃t,val=.str i t:=by obtain rfl:=ud h;exact r.out
theorem RV.yO {v:V} {i:Bool} {val:Value} (r:RV g Z as v val) (h:nq v=some i):val=.bool i:=by obtain rfl:=E3 h;exact r.out
theorem RV.wW {v:V} {i:List V} {val:Value} (r:RV g Z as v val) (h:mG v=some i):yw g Z as i val:=by obtain rfl:=GH h;exact r.out
theorem RV.Du {v:V} {i:List (V×V)} {val:Value} (r:RV g Z as v val) (h:uB v=some i):lm g Z as i val:=by obtain rfl:=Oi h;exact r.out
theorem RV.M9 {v:V} {i:aR} {val:Value} (r:RV g Z as v val) (h:ww v=some i):vX g Z i val:=by obtain rfl:=ME h;exact r.out
theorem RV.D2 {v:V} {n:Nat} {val:Value} (r:RV g Z as v val) (h:j6 v=some n):∃a,val=.ref a/\az as n=some a:=by obtain rfl:=A1 h;exact r.out
inductive AK {α β:Type} (o:Option α) (k:α->Option β) (b:β):Prop
 |mk (a:α):o=some a->k a=some b->AK o k b
theorem dp {α β:Type} {o:Option α} {k:α->Option β} {b:β} (e:cJ o k=some b):AK o k b:=by
 induction o using aA with
 |none=>exact al e
 |some a=>exact ⟨a,rfl,e⟩
inductive il {α β:Type} (o:Option α) (k:α->β) (d r:β):Prop
 |some (a:α):o=some a->k a=r->il o k d r
 |none:d=r->il o k d r
theorem jZ {α β:Type} {o:Option α} {k:α->β} {d r:β} (e:d0 o k d=r):il o k d r:=by
 induction o using aA with
 |none=>exact .none e
 |some a=>exact .some a rfl e
theorem Iz {args:List V} {p:V×V×V} (h:three args=some p):args=[p.1,p.2.1,p.2.2]:=by
 match args,h with
 | [a,b,c],h=>obtain rfl:=Option.some.inj h;rfl
theorem jY {α β:Type} {o:Option α} {p:Option β} {x:α×β} (h:both o p=some x):o=some x.1/\p=some x.2:=by
 obtain ⟨a,e1,h⟩:=dp h;obtain ⟨b,e2,h⟩:=dp h;obtain rfl:=Option.some.inj h;exact ⟨e1,e2⟩
theorem qi {n:Nat} {l:List V} (h:eB O n=some l):az O n=some (.list l):=by
 obtain ⟨o,e,h⟩:=dp h;induction o using aZ.casesOn with
 |list m=>obtain rfl:=Option.some.inj h;exact e
 |_=>exact al h
inductive gA {α β:Type} (o:Option β) (k:β->R α) (d:R α):Prop
 |some (b:β):o=some b->k b≠ .stuck->gx o k d=k b->gA o k d
 |none:o=none->d≠ .stuck->gx o k d=d->gA o k d
theorem iE {α β:Type} {o:Option β} {k:β->R α} {d:R α} (h:gx o k d≠ .stuck):gA o k d:=by
 induction o using aA with
 |none=>exact .none rfl h rfl
 |some b=>exact .some b rfl h rfl
inductive Fu {α β:Type} (o:Option β) (k:β->R α):Prop
 |mk (b:β):o=some b->k b≠ .stuck->aX o k=k b->Fu o k
theorem ci {α β:Type} {o:Option β} {k:β->R α} (h:aX o k≠ .stuck):Fu o k:=by
 induction o using aA with
 |none=>exact absurd rfl h
 |some b=>exact ⟨b,rfl,h,rfl⟩
inductive B8 {α:Type} (b:Bool) (r:R α):Prop
 |mk:b=true->(bif b then r else .stuck)=r->B8 b r
theorem eP {α:Type} {b:Bool} {r:R α} (h:(bif b then r else .stuck)≠ .stuck):B8 b r:=by
 induction b using aN with
 |false=>exact absurd rfl h
 |true=>exact ⟨rfl,rfl⟩
theorem PG.eq {α β:Type} {P:α->Zm->List Addr->β->Prop} {r r':R α} {val:β} {s':Shared} (e:r=r') (x:PG P g h0 Fs Z as s r' val s'):PG P g h0 Fs Z as s r val s':=e▸x
theorem iF (S:St g h0 Fs Z as O s.heap) {v:V} {val:Value} {l:List V} (r:RV g Z as v val) (e:listAt O v=some l):
 ∃a items n,val=.ref a/\s.heap.get? a=some (gV items n)/\aO g Z as l items.toList:=by
 induction v using V.casesOn with
 |lst m=>
  obtain rfl:=Option.some.inj e;obtain ⟨a,items,n,h1,z,rs⟩:=r.out;exact ⟨a,items,n,h1,(S.bN _ _ z).1,rs⟩
 |loc n=>
  refine aw r.out fun a h1 ha=>?_;refine b_ (S.obj n a _ ha (qi e) ) fun items k e1 e2=>?_;exact ⟨a,items,k,h1,e1,e2⟩
 |_=>exact al e
theorem dJ {α:Type} {b:Bool} {x y:α} (h:(bif b then x else y)≠y):b=true:=by
 induction b using aN with
 |true=>rfl
 |false=>exact absurd rfl h
theorem cH {α:Type} {b:Bool} {x y:α} (h:b=true):(bif b then x else y)=x:=by rw [h];rfl
theorem gy {α:Type} {b:Bool} {x y:α} (h:b=false):(bif b then x else y)=y:=by rw [h];rfl
theorem mulOk_of {a b:Int} (h:Builtin.Int.intBits a+Builtin.Int.intBits b<=100000):IntMulOk a b:=by
 unfold IntMulOk;have:Builtin.Int.intTooBig (Builtin.Int.intBits a+Builtin.Int.intBits b)=false:=by
  unfold Builtin.Int.intTooBig bitsLine;apply decide_eq_false;lia
 rw [this];simp
theorem lu {α:Type} {b:Bool} {x z:α} (e:(bif b then some x else none)=some z):b=true/\x=z:=by
 induction b using aN with
 |true=>exact ⟨rfl,Option.some.inj e⟩
 |false=>exact al e
theorem C1 {α:Type} {p q:Prop} [Decidable p] [Decidable q] {x z:α} (e:(bif decide p&&decide q then some x else none)=some z):p/\q/\x=z:=by
 refine aK (lu e ) ?_;rintro c rfl;have c:=Bool.and_eq_true_iff.mp c;exact ⟨of_decide_eq_true c.1,of_decide_eq_true c.2,rfl⟩
theorem IG {op:Operator} {x y z:Int} {t u:Tok} {Q:Value->Shared->Prop} (e:binI op x y=some z) (h:∀tk bO,Q (.int z bO) {s with toks:=tk}):
 wpAny (model g.prog g.w) A (binaryOp op (.int x t) (.int y u)) Q E s:=by
 induction op using Operator.casesOn with
 |Add=>obtain rfl:=Option.some.inj e;exact P.add_int (h _ _)
 |Sub=>obtain rfl:=Option.some.inj e;exact P.sub_int (h _ _)
 |Mult=>refine aK (lu e) ?_;rintro c rfl;exact P.mul_int (h _ _) (mulOk_of (of_decide_eq_true c))
 |Mod=>refine aK (lu e) ?_;rintro c rfl;exact mod_int' (fun z=>by rw [z] at c;exact Bool.noConfusion c) (h _ _)
 |Pow=>refine fw (C1 e) ?_;rintro c1 c2 rfl;exact pow_int c1 (by omega) (h _ _)
 |LShift=>refine fw (C1 e) ?_;rintro c1 c2 rfl;exact lshift_int c1 (by omega) (h _ _)
 |RShift=>refine aK (lu e) ?_;rintro c rfl;exact rshift_int (of_decide_eq_true c) (h _ _)
 |BitOr=>obtain rfl:=Option.some.inj e;exact or_int (h _ _)
 |BitXor=>obtain rfl:=Option.some.inj e;exact xor_int (h _ _)
 |BitAnd=>obtain rfl:=Option.some.inj e;exact and_int (h _ _)
 |FloorDiv=>
  refine aK (lu e ) ?_;rintro c rfl;have c:=Bool.and_eq_true_iff.mp c;exact floordiv_int (fun z=>by have c:=c.1;rw [z] at c;exact Bool.noConfusion c) (h _ _) (.inl (by simpa using c.2))
 |_=>exact al e
theorem ej {n:Nat} (h:bd n=true):n<=sizeLine:=by
 have:=of_decide_eq_true h;unfold CB at this;rw [sizeLine_eq];exact ae [_] [] [.le (.v 0) (.n 1048576)] (.le (.v 0) (.n 16777216)) rfl this
theorem foldl_rep (items:Array Value) (n:Nat):∀(acc:Array Value),((List.replicate n items).foldl (fun x1 x2=>x1++x2) acc).toList=acc.toList++mv items.toList n:=by
 induction n with
 |zero=>exact fun acc=>(List.append_nil _).symm
 |succ n ih=>
  intro acc;rw [List.replicate_succ,List.foldl_cons,ih,Array.toList_append,List.append_assoc];rfl
theorem GN {l:Addr} {items:Array Value} {k:Nat} {x:Int} {u:Tok} {Q:Value->Shared->Prop}
 (hl:s.heap.get? l=some (gV items k)) (Ea:0<=x) (UF:x<=1000000) (cZ:items.size*x.toNat<=2 ^ 20)
 (h:Q (.ref s.heap.objs.size) {s with heap:=s.heap.push (gV (mv items.toList x.toNat).toArray 0)}):
 wpAny (model g.prog g.w) A (binaryOp .Mult (.ref l) (.int x u)) Q E s:=by
 have key:∀n,(List.foldl (fun x1 x2=>x1++x2) #[] (List.replicate (if items.isEmpty=true then 0 else n) items))=(mv items.toList n).toArray:=fun n=>by
  apply Array.ext';rw [foldl_rep];by_cases he:items.isEmpty=true
  ·rw [if_pos he];have h0:items.toList=[]:=by simpa using he
   rw [h0];have:∀n,mv ([]:List Value) n=[]:=fun n=>by induction n with
    |zero=>rfl
    |succ n ih=>exact (List.nil_append _).trans ih
   simp [this]
  ·rw [if_neg he];simp
 refine wpAny_binaryOp_repeat_ref (T:= "list") (U:= "int") (by decide) ⟨_,hl,rfl⟩ (fun s'=>typeIs_int s' x u) noFill_list_mul F.fills_int_mul F.slot_int_rmul repeat_list F.slot_int_index.lookup
  (call_meets F.slot_int_rmul (typeIs_int s x u) F.entry_int_rmul (F.args_int_rmul_2 _ _) (int___rmul___int_list x u l items k)
   ⟨hl,rfl,⟨_,hl,rfl⟩,call_meets F.slot_list_mul ⟨_,hl,rfl⟩ F.entry_list_mul (F.args_list_mul_2 _ _)
    (AutoListH.list___mul___list_int_3 l items k x u (by simp [Builtin.List.listFitsIndex];lia) (by lia) (by simp [Builtin.List.listTooLong,sizeLine];lia))
    ⟨hl,?_⟩⟩)
 rw [key];exact h
end
section
variable {g:Gd} {h0:Heap} {Fs:List Addr} {Z:Zm} {as:List Addr} {O:B} {A:Around} {E:Value->Shared->Prop} {s:Shared}
theorem aO.toArray {l:List V} {ai:List Value} (h:aO g Z as l ai):aO g Z as l ai.toArray.toList:=h
theorem Ly {x:Str} {n:Int} (h0:0<=n) (h1:n<=1000000) (h2:x.length<=16):MulOk x n:=by
 refine ⟨?_,fun hn _=>?_,fun hn _=>?_⟩
 ·rw [Bool.or_eq_false_iff];exact ⟨decide_eq_false (by lia),decide_eq_false (by lia)⟩
 ·intro hq;have h3:(16:Int)<=(2 ^ 63-1) / n:=by
   rw [Int.le_ediv_iff_mul_le (by exact ae [] [_] [.aJ (.k 1) (.w 0)] (.aY (.k 0) (.w 0)) rfl (Int.not_lt.mp hn))];lia
  exact Nat.lt_irrefl 0 (ae [_] [_] [.le (.v 0) (.n 16),.aY (.w 0) (.c (.v 0)),.aJ (.k 16) (.w 0)] (.lt (.n 0) (.n 0)) rfl h2 hq h3)
 ·unfold Builtin.Str.tooLong;apply decide_eq_false;rw [sizeLine_eq];have:x.length*n.toNat<=16*1000000:=Nat.mul_le_mul h2 (by exact ae [_] [_] [.aJ (.w 0) (.k 1000000),.ie (.c (.v 0)) (.w 0)] (.le (.v 0) (.n 1000000)) rfl h1 (Int.toNat_of_nonneg (ae [] [_] [.aJ (.k 0) (.w 0)] (.aJ (.k 0) (.w 0)) rfl h0)));exact fun zz=>Nat.lt_irrefl 0 (ae [_] [] [.le (.v 0) (.m 16 (.n 1000000)),.lt (.n 16777216) (.v 0)] (.lt (.n 0) (.n 0)) rfl this zz)
theorem Dc {op:Operator} (h:tV op=true):op=.Add:=by induction op using Operator.casesOn<;>first|rfl|exact ff h
theorem EY {op:Operator} (h:xB op=true):op=.Mult:=by induction op using Operator.casesOn<;>first|rfl|exact ff h
theorem I2 {op:Operator} {a:V} {va:Value} {n:Int} {u:Tok} (S:St g h0 Fs Z as O s.heap) (ra:RV g Z as a va) (af:zf op a O n≠ .stuck):
 wpAny (model g.prog g.w) A (binaryOp op va (.int n u)) (PV g h0 Fs Z as s (zf op a O n)) E s:=by
 generalize iE af=zc;induction zc using gA.casesOn with
 |some x ea h q=>
  refine aB (ra.gf ea ) ?_;rintro t rfl;obtain ⟨z,e,h,q2⟩:=ci h;exact IG e fun tk bO=>.eq (q.trans q2) (cg S (.int _ _))
 |none ea h q=>
  generalize iE h=zc;induction zc using gA.casesOn with
  |some x ea h q2=>
   refine aB (ra.fL ea ) ?_;rintro t rfl;obtain ⟨c,q3⟩:=eP h;simp only [Bool.and_eq_true,decide_eq_true_eq] at c;obtain rfl:=EY c.1.1.1.1;exact SB.mul (Ly c.1.1.1.2 c.1.1.2 c.1.2) fun t' k=>.eq (q.trans (q2.trans q3)) (cg S (.str _ _))
  |none ea h q2=>
   obtain ⟨l,e,h,q3⟩:=ci h;obtain ⟨c,q4⟩:=eP h;simp only [Bool.and_eq_true,decide_eq_true_eq] at c;obtain rfl:=EY c.1.1.1;refine dW (iF S ra e ) ?_;rintro x items k rfl hx rs;refine GN hx c.1.1.2 c.1.2 ?_ (.eq (q.trans (q2.trans (q3.trans q4))) (vI (tk:=s.toks) S rfl ⟨_,0,Heap.get?_push_size _ rfl,((rs.rep _).mono (bW.refl _) (bI.append _ _)).toArray⟩));rw [<- Array.length_toList,<- rs.length];exact of_decide_eq_true c.2
theorem Hf {op:Operator} {a b:V} {va vb:Value} (S:St g h0 Fs Z as O s.heap) (ra:RV g Z as a va) (rb:RV g Z as b vb) (af:wm op a b O≠ .stuck):
 wpAny (model g.prog g.w) A (binaryOp op va vb) (PV g h0 Fs Z as s (wm op a b O)) E s:=by
 generalize iE af=zc;induction zc using gA.casesOn with
 |some p e h q=>
  refine aK (jY e ) fun e1 e2=>?_;refine aB (ra.fL e1 ) ?_;rintro t rfl;refine aB (rb.fL e2 ) ?_;rintro u rfl;obtain ⟨c,q2⟩:=eP h;rw [Bool.and_eq_true] at c;obtain rfl:=Dc c.1;exact SB.add (fun t' k=>.eq (q.trans q2) (cg S (.str _ _))) (ej c.2)
 |none e h q=>
  obtain ⟨p,e,h,q2⟩:=ci h;obtain ⟨c,q3⟩:=eP h;rw [Bool.and_eq_true] at c;obtain rfl:=Dc c.1;refine aK (jY e ) fun e1 e2=>?_;refine dW (iF S ra e1 ) ?_;rintro x items k rfl hx rs;refine dW (iF S rb e2 ) ?_;rintro y u6 k2 rfl hy mK;refine P.add_list hx hy (.eq (q.trans (q2.trans q3)) (vI (tk:=s.toks) S rfl ⟨_,0,Heap.get?_push_size _ rfl,by rw [Array.toList_append];exact (mK.mono (bW.refl _) (bI.append _ _)).append (rs.mono (bW.refl _) (bI.append _ _))⟩)) ?_;rw [<- Array.length_toList,<- Array.length_toList,<- rs.length,<- mK.length];exact ej c.2
theorem Bz {op:Operator} {a b:V} {va vb:Value} (S:St g h0 Fs Z as O s.heap) (ra:RV g Z as a va) (rb:RV g Z as b vb) (af:ct op a b O≠ .stuck):
 wpAny (model g.prog g.w) A (binaryOp op va vb) (PV g h0 Fs Z as s (ct op a b O)) E s:=by
 generalize iE af=zc;induction zc using gA.casesOn with
 |some n eb h q=>
  refine aB (rb.gf eb ) ?_;rintro u rfl;rw [show ct op a b O=_ from q];exact I2 S ra h
 |none eb h q=>rw [show ct op a b O=_ from q];exact Hf S ra rb h
theorem Km {op:UnaryOp} {a:V} {va:Value} (S:St g h0 Fs Z as O s.heap) (ra:RV g Z as a va) (af:nw op a O≠ .stuck):
 wpAny (model g.prog g.w) A (unaryOp op va) (PV g h0 Fs Z as s (nw op a O)) E s:=by
 induction op using UnaryOp.casesOn with
 |USub=>obtain ⟨i,e,h,q⟩:=ci af;refine aB (ra.gf e) ?_;rintro t rfl;exact P.neg_int (.eq q (cg S (.int _ _)))
 |Invert=>obtain ⟨i,e,h,q⟩:=ci af;refine aB (ra.gf e) ?_;rintro t rfl;exact invert_int (.eq q (cg S (.int _ _)))
 |Not=>obtain ⟨i,e,h,q⟩:=ci af;obtain rfl:=ra.yO e;exact not_of (wpAny_truthy_bool (.eq q (cg (tk:=s.toks) S (.bool _))))
 |_=>exact absurd rfl af
end
section
variable {g:Gd} {h0:Heap} {Fs:List Addr} {Z:Zm} {as:List Addr} {O:B} {A:Around} {E:Value->Shared->Prop} {s:Shared}
theorem oW {h:Heap} {a:Addr} {items:Array Value} {n:Nat} (e:h.get? a=some (m_ items n)):h.IsTuple a items:=⟨_,e,rfl,n,rfl⟩
theorem lN {h:Heap} {a:Addr} {items:Array Value} {n:Nat} (e:h.get? a=some (gV items n)):h.IsList a items:=⟨_,e,rfl,n,rfl⟩
theorem vd {l:List V} {ai:List Value} (rs:aO g Z as l ai):∀ {ts},ft l=some ts->∃p:List (Str×Tok),ai=strValues p/\p.map (·.1)=ts:=by
 refine aO.ind (motive:=fun l ai=>∀ {ts},ft l=some ts->∃p:List (Str×Tok),ai=strValues p/\p.map (·.1)=ts) (fun q=>⟨[],rfl,Option.some.inj q⟩) ?_ rs;intro v val vs ai r rs ih ts q;obtain ⟨x,e,q⟩:=dp q;obtain ⟨m,k,q⟩:=dp q;obtain rfl:=Option.some.inj q;refine aB (r.fL e ) ?_;rintro t rfl;refine aw (ih k ) ?_;rintro p rfl rfl;exact ⟨(x,t)::p,rfl,rfl⟩
noncomputable def RZ (x:Str) (y:Value):Bool:=match y with
 |.str z _=>z==x
 |_=>false
theorem Tp (z x:Str):(z==x)=(z.cps.toList==x.cps.toList):=by
 rw [Bool.eq_iff_iff,beq_iff_eq,beq_iff_eq];exact ⟨fun h=>by rw [h],y0⟩
inductive yn (A:Around) (s:Shared) (va:Value) (ai:List Value) (b:Bool):Prop
 |mk (e:Value->Bool):(∀y,y∈ai->SeqAt.EqAt A s y va (e y))->ai.any e=b->yn A s va ai b
theorem I3 {x:Str} {t:Tok} {l:List V} {ai:List Value} (rs:aO g Z as l ai) {b} (q:nS x l=some b):yn A s (.str x t) ai b:=by
 obtain ⟨ts,k,q⟩:=dp q;obtain rfl:=Option.some.inj q;refine aw (vd rs k ) ?_;rintro p rfl rfl;refine ⟨RZ x,fun y hy=>?_,?_⟩
 ·refine aw (List.mem_map.mp hy ) ?_;rintro c _ rfl;exact SeqAt.EqAt.str_str c.1 c.2 x t
 ·rw [strValues,List.any_map,List.any_map];exact congrArg (p.any ·) (funext fun c=>Tp c.1 x)
noncomputable def ve (x:Int) (y:Value):Bool:=match y with
 |.int z _=>z==x
 |_=>false
theorem Nx {x:Int} {t:Tok} {l:List V} {ai:List Value} (rs:aO g Z as l ai):∀ {b},tM x l=some b->
 (∀y,y∈ai->SeqAt.EqAt A s y (.int x t) (ve x y))/\ai.any (ve x)=b:=by
 refine aO.ind (motive:=fun l ai=>∀ {b},tM x l=some b->(∀y,y∈ai->SeqAt.EqAt A s y (.int x t) (ve x y))/\ai.any (ve x)=b) (fun q=>⟨fun _ h=>(nomatch h),Option.some.inj q⟩) ?_ rs;intro v val vs ai r rs ih b q;obtain ⟨z,e,q⟩:=dp q;obtain ⟨c,k,q⟩:=dp q;obtain rfl:=Option.some.inj q;refine aB (r.gf e ) ?_;rintro u rfl;refine ⟨fun y hy=>?_,congrArg ((z==x)|| ·) (ih k).2⟩;rcases List.mem_cons.mp hy with rfl|hy
 ·exact SeqAt.EqAt.int_int z u x t
 ·exact (ih k).1 y hy
theorem J0 {l:List V} {ai:List Value} (rs:aO g Z as l ai) (h:(ft l).isSome=true):∀y,y∈ai->SeqAt.EqAt A s y .none false:=fun y hy=>by
 refine aB (Option.isSome_iff_exists.mp h ) fun ts k=>?_;refine aw (vd rs k ) ?_;rintro p rfl _;refine aw (List.mem_map.mp hy ) ?_;rintro c _ rfl;exact SeqAt.EqAt.str_none c.1 c.2
theorem isNone_none {a:V} (h:isNone a=some true):a=.none:=by
 induction a using V.casesOn<;>first|rfl|cases h
theorem FP {a:V} {va:Value} {l:List V} {ai:List Value} (ra:RV g Z as a va) (rs:aO g Z as l ai) {b:Bool} (q:mem a l=some b):yn A s va ai b:=by
 generalize jZ q=zc;induction zc using il.casesOn with
 |some x e q=>refine aB (ra.fL e) ?_;rintro t rfl;exact I3 rs q
 |none q=>
  generalize jZ q=zc;induction zc using il.casesOn with
  |some x e q=>refine aB (ra.gf e) ?_;rintro t rfl;have m:=Nx (A:=A) (s:=s) (t:=t) rs q;exact ⟨_,m.1,m.2⟩
  |none q=>
   refine aK (lu q ) ?_;rintro c rfl;have c:=Bool.and_eq_true_iff.mp c;obtain rfl:=isNone_none (eq_of_beq c.1);obtain rfl:=ra.out;exact ⟨fun _=>false,J0 rs c.2,List.any_eq_false.mpr fun _ _ z=>Bool.noConfusion z⟩
inductive o5 (h:Heap) (n:Nat) (val:Value) (d:PyData):Prop
 |mk {bs}:Reads h val d bs->d.canLay0=true->d.depth<=n->o5 h n val d
inductive lC (h:Heap) (n:Nat) (ai:List Value) (ds:List PyData):Prop
 |mk {bs}:ReadsAll h ai ds bs->PyData.canLayAll0 ds=true->PyData.depthAll ds<=n->lC h n ai ds
theorem Ge {h:Heap} {n:Nat} {v:V} {val:Value} {d:PyData} (r:RV g Z as v val) (e:xA v=some d):o5 h n val d:=by
 induction v using V.casesOn with
 |none=>obtain rfl:=r.out;obtain rfl:=Option.some.inj e;exact ⟨.none,rfl,Nat.zero_le _⟩
 |bool b=>obtain rfl:=r.out;obtain rfl:=Option.some.inj e;exact ⟨.bool b,rfl,Nat.zero_le _⟩
 |int i=>refine aB r.out ?_;rintro t rfl;obtain rfl:=Option.some.inj e;exact ⟨.int i t,rfl,Nat.zero_le _⟩
 |str x=>refine aB r.out ?_;rintro t rfl;refine aK (lu e) ?_;rintro c rfl;exact ⟨.str x t,c,Nat.zero_le _⟩
 |_=>exact al e
theorem x6 {h:Heap} {n:Nat} (H:∀ {v:V} {val:Value} {d:PyData},RV g Z as v val->fe n v=some d->o5 h n val d) {vs:List V} {ai:List Value} (rs:aO g Z as vs ai):
 ∀ {ds:List PyData},g4 (fe n) vs=some ds->lC h n ai ds:=by
 refine aO.ind (motive:=fun vs ai=>∀ {ds:List PyData},g4 (fe n) vs=some ds->lC h n ai ds) (fun e=>by obtain rfl:=Option.some.inj e;exact ⟨.nil,rfl,Nat.zero_le _⟩) ?_ rs;intro v val vs ai r _ ih ds e;obtain ⟨d,h1,e⟩:=dp e;obtain ⟨Ux,h2,e⟩:=dp e;obtain rfl:=Option.some.inj e;obtain ⟨k1,k2,k3⟩:=H r h1;obtain ⟨m1,m2,m3⟩:=ih h2;exact ⟨.cons k1 m1,Bool.and_eq_true_iff.mpr ⟨k2,m2⟩,Nat.max_le.mpr ⟨k3,m3⟩⟩
theorem lC.lst {h:Heap} {n:Nat} {ai:List Value} {a:Addr} {o:Option (List PyData)} {d:PyData} (f:List PyData->PyData) (e:o.map f=some d) (H:∀ {ds},o=some ds->lC h n ai ds)
 (c:∀ {ds bs},ReadsAll h ai ds bs->∃KG,Reads h (.ref a) (f ds) KG) (l:∀ds,(f ds).canLay0=PyData.canLayAll0 ds) (p:∀ds,(f ds).depth=PyData.depthAll ds+1):o5 h (n+1) (.ref a) d:=by
 induction o using aA with
 |none=>exact al e
 |some ds=>
  obtain rfl:=Option.some.inj e;obtain ⟨k1,k2,k3⟩:=H rfl;refine aB (c k1 ) fun _ k1=>?_;exact ⟨k1,(l ds).trans k2,by rw [p];exact Nat.succ_le_succ k3⟩
theorem Ei {h:Heap} (fz:∀b o,Z b=some o->h.get? b=some o) {n:Nat}:∀ {v:V} {val:Value} {d:PyData},RV g Z as v val->fe n v=some d->o5 h n val d:=by
 induction n with
 |zero=>exact fun r e=>Ge r e
 |succ n ih=>
  intro v val d r e;induction v using V.casesOn with
  |tup l=>obtain ⟨a,items,k,rfl,z,rs⟩:=r.out;exact lC.lst .tuple (o:=g4 (fe n) l) e (x6 ih rs) (fun k=>⟨_,.tuple (fz _ _ z) rfl rfl k⟩) (fun _=>rfl) fun _=>rfl
  |lst l=>obtain ⟨a,items,k,rfl,z,rs⟩:=r.out;exact lC.lst .list (o:=g4 (fe n) l) e (x6 ih rs) (fun k=>⟨_,.list (fz _ _ z) rfl rfl k⟩) (fun _=>rfl) fun _=>rfl
  |_=>exact Ge r e
inductive Fv (h:Heap) (val:Value) (d:PyData):Prop
 |mk {bs}:Reads h val d bs->SeqAt.shaped d=true->Fv h val d
theorem F1 (S:St g h0 Fs Z as O s.heap) {v:V} {val:Value} (r:RV g Z as v val) {d:PyData} (e:fe 8 (kc O v)=some d):Fv s.heap val d:=by
 have fz:∀b o,Z b=some o->s.heap.get? b=some o:=fun b o z=>(S.bN b o z).1;have key:o5 s.heap 8 val d:=by
  generalize q:kc O v=w at e;generalize jZ q=zc;induction zc using il.casesOn with
  |none q=>subst q;exact Ei fz r e
  |some l q' q=>
   subst q;refine dW (iF S r q' ) ?_;rintro a items n rfl ha rs;exact lC.lst .list (o:=g4 (fe 7) l) e (x6 (Ei fz) rs) (fun k=>⟨_,.list ha rfl rfl k⟩) (fun _=>rfl) fun _=>rfl
 obtain ⟨k1,k2,k3⟩:=key;exact ⟨k1,Bool.and_eq_true_iff.mpr ⟨k2,decide_eq_true (Nat.le_trans k3 (by decide))⟩⟩
theorem AW {a:V} {va:Value} (ra:RV g Z as a va) {c:Bool} (e:isNone a=some c):(va==.none)=c:=by
 induction a using V.casesOn with
 |none=>obtain rfl:=ra.out;exact Option.some.inj e
 |bool b=>obtain rfl:=ra.out;exact Option.some.inj e
 |int i=>refine aB ra.out ?_;rintro t rfl;exact Option.some.inj e
 |str x=>refine aB ra.out ?_;rintro t rfl;exact Option.some.inj e
 |tup _=>obtain ⟨a,items,k,rfl,z,rs⟩:=ra.out;exact Option.some.inj e
 |lst _=>obtain ⟨a,items,k,rfl,z,rs⟩:=ra.out;exact Option.some.inj e
 |loc _=>refine aw ra.out ?_;rintro a rfl _;exact Option.some.inj e
 |_=>exact al e
theorem SO {op:CmpOp} {x y:Int} {t u:Tok} {c:Bool} {Q:Value->Shared->Prop} (e:Dr op x y=some c) (h:Q (.bool c) s):
 wpAny (model g.prog g.w) A (compareOp op (.int x t) (.int y u)) Q E s:=by
 induction op using CmpOp.casesOn with
 |Eq=>obtain rfl:=Option.some.inj e;exact P.eq_int h
 |NotEq=>obtain rfl:=Option.some.inj e;exact P.ne_int h
 |Lt=>obtain rfl:=Option.some.inj e;exact P.lt_int h
 |LtE=>obtain rfl:=Option.some.inj e;exact P.le_int h
 |Gt=>obtain rfl:=Option.some.inj e;exact P.gt_int h
 |GtE=>obtain rfl:=Option.some.inj e;exact P.ge_int h
 |_=>exact al e
theorem TB {op:CmpOp} {x y:Str} {t u:Tok} {c:Bool} {Q:Value->Shared->Prop} (e:Gl op x y=some c) (h:Q (.bool c) s):
 wpAny (model g.prog g.w) A (compareOp op (.str x t) (.str y u)) Q E s:=by
 induction op using CmpOp.casesOn with
 |Eq=>obtain rfl:=Option.some.inj e;exact P.eq_str h
 |NotEq=>obtain rfl:=Option.some.inj e;exact P.ne_str h
 |Lt=>obtain rfl:=Option.some.inj e;exact P.lt_str h
 |_=>exact al e
theorem R8 {op:CmpOp} (h:BG op=true):op=.Eq:=by induction op using CmpOp.casesOn<;>first|rfl|exact ff h
theorem Tf {op:CmpOp} (h:BX op=true):op=.NotEq:=by induction op using CmpOp.casesOn<;>first|rfl|exact ff h
theorem MY {op:CmpOp} {a b:V} {va vb:Value} {c:Bool} {Q:Value->Shared->Prop} (hu:A.units+64<cLine) (S:St g h0 Fs Z as O s.heap) (ra:RV g Z as a va) (rb:RV g Z as b vb)
 (e:EJ O op a b=some c) (h:Q (.bool c) s):wpAny (model g.prog g.w) A (compareOp op va vb) Q E s:=by
 generalize jZ e=zc;induction zc using il.casesOn with
 |some p q e=>
  refine aK (jY q ) fun e1 e2=>?_;refine aB (ra.gf e1 ) ?_;rintro t rfl;refine aB (rb.gf e2 ) ?_;rintro u rfl;exact SO e h
 |none e=>
 generalize jZ e=zc;induction zc using il.casesOn with
 |some p q e=>
  refine aK (jY q ) fun e1 e2=>?_;refine aB (ra.fL e1 ) ?_;rintro t rfl;refine aB (rb.fL e2 ) ?_;rintro u rfl;exact TB e h
 |none e=>
 generalize jZ e=zc;induction zc using il.casesOn with
 |some p q e=>
  refine aK (jY q ) fun e1 e2=>?_;obtain rfl:=ra.yO e1;obtain rfl:=rb.yO e2;refine aK (lu e ) ?_;rintro k rfl;obtain rfl:=R8 k;exact eq_bool h
 |none e=>
 have k:=dJ (fun z=>al (z.symm.trans e));obtain rfl:=Tf k;obtain ⟨x,q,e⟩:=dp e;obtain rfl:=Option.some.inj e;obtain ⟨d1,h1,q⟩:=dp q;obtain ⟨d2,h2,q⟩:=dp q;obtain rfl:=Option.some.inj q;obtain ⟨k1,k2⟩:=F1 S ra h1;obtain ⟨m1,m2⟩:=F1 S rb h2;exact ne_dataH k1 m1 k2 m2 hu h
inductive BJ (a b:V) (f:Bool->Bool) (c:Bool):Prop
 |mk (x:Bool):b=.none->isNone a=some x->f x=c->BJ a b f c
theorem Ep {a b:V} {f:Bool->Bool} {c:Bool} (e:zS a b f=some c):BJ a b f c:=by
 have k:=dJ (fun z=>al (z.symm.trans e));obtain ⟨x,q,e⟩:=dp ((cH k).symm.trans e);exact ⟨x,isNone_none (eq_of_beq k),q,Option.some.inj e⟩
theorem Rb {a b:V} {va vb:Value} {c:Bool} {Q:Value->Shared->Prop} (S:St g h0 Fs Z as O s.heap) (ra:RV g Z as a va) (rb:RV g Z as b vb)
 (e:FO O a b=some c) (h:Q (.bool c) s):wpAny (model g.prog g.w) A (compareOp .In va vb) Q E s:=by
 generalize jZ e=zc;induction zc using il.casesOn with
 |some l q e=>
  obtain ⟨x,items,n,rfl,z,rs⟩:=rb.wW q;obtain ⟨f,h1,h2⟩:=FP (A:=A.in1) (s:=s) ra rs e;refine SeqAt.in_tupleAt f (oW (S.bN _ _ z).1) (fun y hy=>h1 y (Array.mem_toList_iff.mpr hy)) ?_;rw [<- Array.any_toList,h2];exact h
 |none e=>
  obtain ⟨l,q,e⟩:=dp e;refine dW (iF S rb q ) ?_;rintro x items n rfl hx rs;obtain ⟨f,h1,h2⟩:=FP (A:=A.in1) (s:=s) ra rs e;refine SeqAt.in_listAt f (lN hx) (fun y hy=>h1 y (Array.mem_toList_iff.mpr hy)) ?_;rw [<- Array.any_toList,h2];exact h
theorem vh {op:CmpOp} {a b:V} {va vb:Value} {c:Bool} {Q:Value->Shared->Prop} (hu:A.units+64<cLine) (S:St g h0 Fs Z as O s.heap) (ra:RV g Z as a va) (rb:RV g Z as b vb)
 (e:dI O op a b=some c) (h:Q (.bool c) s):wpAny (model g.prog g.w) A (compareOp op va vb) Q E s:=by
 induction op using CmpOp.casesOn with
 |Is=>
  obtain ⟨x,rfl,k,rfl⟩:=Ep e;obtain rfl:=rb.out;exact is_none_gen (by rw [AW ra k];exact h)
 |IsNot=>
  obtain ⟨x,rfl,k,rfl⟩:=Ep e;obtain rfl:=rb.out;exact isnot_none_gen (by rw [AW ra k];exact h)
 |In=>exact Rb S ra rb e h
 |NotIn=>exact al e
 |_=>exact MY hu S ra rb e h
end
section
variable {g:Gd} {h0:Heap} {Fs:List Addr} {Z:Zm} {as:List Addr} {O:B} {A:Around} {E:Value->Shared->Prop} {s:Shared}
theorem KO {i:Int} {n k:Nat} (h:idx i n=some k):0<=i/\i<n/\k=i.toNat/\n<=1048576:=by
 unfold idx at h;have c:=dJ (fun z=>by rw [z] at h;exact al h);rw [cH c] at h;obtain rfl:=Option.some.inj h;rw [Bool.and_eq_true,Bool.and_eq_true] at c;exact ⟨of_decide_eq_true c.1.1,of_decide_eq_true c.1.2,rfl,of_decide_eq_true c.2⟩
theorem seqIndex_at {i:Int} {n:Nat} (h0:0<=i) (h1:i<n):seqIndex? i n=some i.toNat:=by
 have c1:¬i<0:=by exact fun zz=>Nat.lt_irrefl 0 (ae [] [_] [.aJ (.k 0) (.w 0),.aY (.w 0) (.k 0)] (.lt (.n 0) (.n 0)) rfl h0 zz)
 have c2:(decide (0<=i)&&decide (i<(n:Int)))=true:=by rw [Bool.and_eq_true];exact ⟨decide_eq_true h0,decide_eq_true h1⟩
 simp only [seqIndex?,c1,if_false,c2,if_true]
theorem qK {value slice:Expr} {o i:Value} {T id:String} {Q:Value->Shared->Prop} (af:je slice=false) (hT:s.TypeIs o T)
 (hl:typeLookup (.type T) "__getitem__" = pure (some (.builtin id))) (hg:wpAny (model g.prog g.w) A (getItem o i) Q E s):
 wpAny (model g.prog g.w) A (subscriptTail value slice o i) Q E s:=
 tail_any (ops:=[o,i]) hT hl hg (by induction slice using Expr.casesOn<;>first|rfl|cases af)
theorem QP {x:Str} {l:List (V×V)} {bT:List (Str×Value)} (r:tx g Z as l bT) {v}:ow x l=some v->∃val,valueAt bT x=some val/\RV g Z as v val:=by
 refine fM.ind (motive:=fun l bT=>ow x l=some v->∃val,valueAt bT x=some val/\RV g Z as v val) (fun h=>al h) ?_ _ r;intro y w val l bT rv _ ih h;have h:(bif seq y x then some w else ow x l)=some v:=h;by_cases q:y=x
 ·subst q;rw [cH (bY.mpr rfl)] at h;obtain rfl:=Option.some.inj h;exact ⟨val,by simp [valueAt],rv⟩
 ·rw [gy (gq.mpr q)] at h;refine aw (ih h ) fun val a b=>?_;exact ⟨val,by simp only [valueAt] at a ⊢;rw [List.find?_cons_of_neg (by simp [q])];exact a,b⟩
theorem IP {x:Int} {l:List (V×V)} {bT:List (Int×Value)} (r:uK g Z as l bT) {v}:ni x l=some v->∃val,valueAt bT x=some val/\RV g Z as v val:=by
 refine fM.ind (motive:=fun l bT=>ni x l=some v->∃val,valueAt bT x=some val/\RV g Z as v val) (fun h=>al h) ?_ _ r;intro y w val l bT rv _ ih h;have h:(bif y==x then some w else ni x l)=some v:=h;by_cases q:y=x
 ·subst q;rw [cH (beq_self_eq_true y)] at h;obtain rfl:=Option.some.inj h;exact ⟨val,by simp [valueAt],rv⟩
 ·rw [gy (beq_eq_false_iff_ne.mpr q)] at h;refine aw (ih h ) fun val a b=>?_;exact ⟨val,by simp only [valueAt] at a ⊢;rw [List.find?_cons_of_neg (by simp [q])];exact a,b⟩
theorem NM {x:Str} {l:List (V×V)} {bT:List (Int×Value)} {v:V} (r:uK g Z as l bT):ow x l=some v->False:=
 fM.ind (mk:=V.int) (motive:=fun l _=>ow x l=some v->False) (fun h=>al h) (fun _ _ _ _ _ _ _ _ h=>al h) _ r
theorem Iq {x:Int} {l:List (V×V)} {bT:List (Str×Value)} {v:V} (r:tx g Z as l bT):ni x l=some v->False:=
 fM.ind (mk:=V.str) (motive:=fun l _=>ni x l=some v->False) (fun h=>al h) (fun _ _ _ _ _ _ _ _ h=>al h) _ r
inductive BV {α:Type} (i:Int) (f:α->V) (O:B) (l:List α):Prop
 |mk (c:α):0<=i->i<l.length->az l i.toNat=some c->l.length<=1048576->gn i f O l=.ok (f c) O->BV i f O l
theorem y8 {α:Type} {i:Int} {f:α->V} {O:B} {l:List α} (h:gn i f O l≠ .stuck):BV i f O l:=by
 obtain ⟨k,e,h,q⟩:=ci h;obtain ⟨c,e1,_,q1⟩:=ci h;refine mx (KO e ) ?_;rintro h1 h2 rfl h3;exact ⟨c,h1,h2,e1,h3,q.trans q1⟩
section
variable {value slice:Expr} {a i:V} {va vi:Value}
theorem TF {x:Str} {t u:Tok} {i:Int} (hs:je slice=false) (S:St g h0 Fs Z as O s.heap) (af:yK i O x≠ .stuck):
 wpAny (model g.prog g.w) A (subscriptTail value slice (.str x t) (.int i u)) (PV g h0 Fs Z as s (yK i O x)) E s:=by
 obtain ⟨c,h1,h2,e,h3,q⟩:=y8 af;refine qK hs (typeIs_str _ _ _) F.slot_str_getitem.lookup (P.getItem_str ?_ (c:=c) ?_ (.eq q (cg S (.str _ _))))
 ·rw [Bool.or_eq_false_iff];exact ⟨decide_eq_false (by lia),decide_eq_false (by lia)⟩
 ·rw [seqIndex_at h1 (by simpa [Str.length] using h2)];rw [fJ] at e
  simpa using e
theorem OL {b:Addr} {items:Array Value} {n:Nat} {u:Tok} {l:List V} {i:Int} (hs:je slice=false) (S:St g h0 Fs Z as O s.heap) (z:Z b=some (m_ items n)) (rs:aO g Z as l items.toList) (af:gn i id O l≠ .stuck):
 wpAny (model g.prog g.w) A (subscriptTail value slice (.ref b) (.int i u)) (PV g h0 Fs Z as s (gn i id O l)) E s:=by
 obtain ⟨c,h1,h2,e,h3,q⟩:=y8 af;refine aw (rs.nth e ) fun val v1 v2=>?_;have hl:l.length=items.size:=rs.length.trans Array.length_toList;have ht:=oW (S.bN _ _ z).1;refine qK hs ht.typeIs F.slot_tuple_getitem.lookup (getItem_tuple (j:=i.toNat) ht (by lia) (by lia) (seqIndex_at h1 (hl▸h2)) (x:=val) ?_ (.eq q (cg (tk:=s.toks) S v2)));rw [<- Array.getElem?_toList];exact v1
theorem L1 {u:Tok} {l:List V} {i:Int} (hs:je slice=false) (S:St g h0 Fs Z as O s.heap) (ra:RV g Z as a va) (e0:listAt O a=some l) (af:gn i id O l≠ .stuck):
 wpAny (model g.prog g.w) A (subscriptTail value slice va (.int i u)) (PV g h0 Fs Z as s (gn i id O l)) E s:=by
 obtain ⟨c,h1,h2,e,h3,q⟩:=y8 af;refine dW (iF S ra e0 ) ?_;rintro x items n rfl hx rs;refine aw (rs.nth e ) fun val v1 v2=>?_;have hl:=lN hx;refine qK hs hl.typeIs slot_list_getitem.lookup (wpAny_getItem_list hl h1 (by lia) (x:=val) ?_ (.eq q (cg (tk:=s.toks) S v2)));rw [<- Array.getElem?_toList];exact v1
theorem GK {u:Tok} {l:List (V×V)} {i:Int} (hs:je slice=false) (S:St g h0 Fs Z as O s.heap) (ra:lm g Z as l va) (af:yg i O l≠ .stuck):
 wpAny (model g.prog g.w) A (subscriptTail value slice va (.int i u)) (PV g h0 Fs Z as s (yg i O l)) E s:=by
 obtain ⟨v,e,_,q⟩:=ci af;induction ra using lm.casesOn with
 |S b o bT _ z d rk=>exact (Iq rk e).elim
 |I b o bT q0 z d rk=>
  subst q0;refine aw (IP rk e ) fun val v1 v2=>?_;have hm:s.heap.DictOf (intKind g.prog g.w) _ bT:=Heap.dictOf_iff.mpr ⟨o,(S.bN _ _ z).1,d⟩;exact qK hs hm.mapOf.typeIs slot_dict_getitem.lookup (wpAny_getItem_of (intKind_is g.prog g.w i u) hm.mapOf v1 (.eq q (cg S v2)))
theorem Sy {u:Tok} {p:List (V×V)×Str} (hs:je slice=false) (S:St g h0 Fs Z as O s.heap) (ra:lm g Z as p.1 va) (af:wA O p≠ .stuck):
 wpAny (model g.prog g.w) A (subscriptTail value slice va (.str p.2 u)) (PV g h0 Fs Z as s (wA O p)) E s:=by
 obtain ⟨v,e,_,q⟩:=ci af;induction ra using lm.casesOn with
 |I b o bT _ z d rk=>exact (NM rk e).elim
 |S b o bT q0 z d rk=>
  subst q0;refine aw (QP rk e ) fun val v1 v2=>?_;have hm:s.heap.DictOf (strKind g.prog g.w) _ bT:=Heap.dictOf_iff.mpr ⟨o,(S.bN _ _ z).1,d⟩;exact qK hs hm.mapOf.typeIs slot_dict_getitem.lookup (wpAny_getItem_of (strKind_is g.prog g.w p.2 u) hm.mapOf v1 (.eq q (cg S v2)))
theorem Hg {i:Int} {u:Tok} (hs:je slice=false) (S:St g h0 Fs Z as O s.heap) (ra:RV g Z as a va) (af:sT a O i≠ .stuck):
 wpAny (model g.prog g.w) A (subscriptTail value slice va (.int i u)) (PV g h0 Fs Z as s (sT a O i)) E s:=by
 unfold sT at af ⊢;generalize iE af=zc;induction zc using gA.casesOn with
 |some x e h q=>refine aB (ra.fL e) ?_;rintro t rfl;rw [q];exact TF hs S h
 |none _ h q=>
 rw [q];generalize iE h=zc;induction zc using gA.casesOn with
 |some l e h q=>obtain ⟨b,items,n,rfl,z,rs⟩:=ra.wW e;rw [q];exact OL hs S z rs h
 |none _ h q=>
 rw [q];generalize iE h=zc;induction zc using gA.casesOn with
 |some l e h q=>rw [q];exact GK hs S (ra.Du e) h
 |none _ h q=>
 rw [q];obtain ⟨l,e,h,q⟩:=ci h;rw [q];exact L1 hs S ra e h
theorem JV (hs:je slice=false) (S:St g h0 Fs Z as O s.heap) (ra:RV g Z as a va) (ri:RV g Z as i vi) (af:fK a i O≠ .stuck):
 wpAny (model g.prog g.w) A (subscriptTail value slice va vi) (PV g h0 Fs Z as s (fK a i O)) E s:=by
 unfold fK at af ⊢;generalize iE af=zc;induction zc using gA.casesOn with
 |some i e h q=>refine aB (ri.gf e) ?_;rintro u rfl;rw [q];exact Hg hs S ra h
 |none _ h q=>
 rw [q];obtain ⟨p,e,h,q⟩:=ci h;refine aK (jY e ) fun e1 e2=>?_;refine aB (ri.fL e2 ) ?_;rintro u rfl;rw [q];exact Sy hs S (ra.Du e1) h
end
theorem zp {a:V} {va:Value} {p:Option Int} (ra:RV g Z as a va) (e:qt a=some p):(va=.none/\p=none)\/∃i t,va=.int i t/\p=some i:=by
 cases ra with
 |none=>exact .inl ⟨rfl,(Option.some.inj e).symm⟩
 |int i t=>exact .inr ⟨i,t,rfl,(Option.some.inj e).symm⟩
 |_=>exact al e
theorem Gs {a:V} {va:Value} {n k:Nat} (ra:RV g Z as a va) (e:qB n a=some k):∃p,IsPart va p/\((p=none/\k=n)\/∃i:Int,p=some i/\0<=i/\k=i.toNat):=by
 unfold qB at e;generalize q:qt a=zc;induction zc using aA with
 |none=>rw [q] at e;exact al e
 |some p=>
  rw [q] at e;rcases zp ra q with ⟨rfl,rfl⟩|⟨i,t,rfl,rfl⟩
  ·exact ⟨_,.none,.inl ⟨rfl,(Option.some.inj e).symm⟩⟩
  ·have e:(bif decide (0<=i) then some i.toNat else none)=some k:=e;have c:=dJ (fun z=>al (z.symm.trans e));rw [cH c] at e;exact ⟨_,.int i t,.inr ⟨i,rfl,of_decide_eq_true c,(Option.some.inj e).symm⟩⟩
theorem Jh {y:Int} {n:Nat} (hy:0<=y):max 0 (min y n)=((min y.toNat n:Nat):Int):=by
 refine aB (Int.eq_ofNat_of_zero_le hy ) ?_;rintro k rfl;rw [Int.toNat_natCast,<- Lean.Omega.Int.ofNat_min];exact Int.max_eq_right (Int.natCast_nonneg _)
theorem OD {items:Array Value} {lo hi:Option Int} {i j:Nat} (hl:(lo=none/\i=0)\/∃x:Int,lo=some x/\0<=x/\i=x.toNat)
 (hh:(hi=none/\j=items.size)\/∃x:Int,hi=some x/\0<=x/\j=x.toNat):(slicePick items lo hi none).toList=(items.toList.take j).drop i:=by
 have e:sliceBounds lo hi none items.size=(((min i items.size:Nat):Int),((min j items.size:Nat):Int),1):=by
  rcases hl with ⟨rfl,rfl⟩|⟨x,rfl,hx,rfl⟩<;>rcases hh with ⟨rfl,rfl⟩|⟨y,rfl,hy,rfl⟩<;>
   simp only [sliceBounds,Option.getD_none,show (1:Int)>0 by decide,if_true]<;>(try rw [if_neg (by lia)])<;>(try rw [if_neg (by exact fun zz=>Nat.lt_irrefl 0 (ae [] [_] [.aJ (.k 0) (.w 0),.aY (.w 0) (.k 0)] (.lt (.n 0) (.n 0)) rfl hy zz))])<;>(congr 1<;>(try congr 1)<;>first|exact Jh (by assumption)|lia)
 rw [kmk_pick_nat _ e];show (items.toList.drop (min i items.size)).take (min j items.size-min i items.size)=_;rw [List.drop_take];have hs:items.size=items.toList.length:=(Array.length_toList).symm;rw [hs,kmk_drop_min];by_cases c:j<=items.toList.length
 ·rw [Nat.min_eq_left c];by_cases d:i<=items.toList.length
  ·rw [Nat.min_eq_left d]
  ·rw [List.drop_of_length_le (by exact ae [_,_] [] [.lt (.v 0) (.v 1)] (.le (.v 0) (.v 1)) rfl (Nat.lt_of_not_le d))];simp
 ·rw [Nat.min_eq_right (by exact ae [_,_] [] [.lt (.v 0) (.v 1)] (.le (.v 0) (.v 1)) rfl (Nat.lt_of_not_le c))];by_cases d:i<=items.toList.length
  ·rw [Nat.min_eq_left d,List.take_of_length_le (by rw [List.length_drop];exact ae [_] [] [] (.le (.v 0) (.v 0)) rfl),List.take_of_length_le (by rw [List.length_drop];exact ae [_,_,_,_,_] [] [.lt (.v 2) (.v 3),.e (.p (.v 0) (.v 4)) (.v 2),.f (.p (.v 1) (.v 4)) (.v 3)] (.le (.v 0) (.v 1)) rfl (Nat.lt_of_not_le c) (Nat.sub_add_cancel (ae [_,_] [] [.le (.v 0) (.v 1)] (.le (.v 0) (.v 1)) rfl d)) (Nat.sub_add_cancel (ae [_,_,_] [] [.lt (.v 2) (.v 1),.le (.v 0) (.v 2)] (.le (.v 0) (.v 1)) rfl (Nat.lt_of_not_le c) d)))]
  ·rw [List.drop_of_length_le (by exact ae [_,_] [] [.lt (.v 0) (.v 1)] (.le (.v 0) (.v 1)) rfl (Nat.lt_of_not_le d))];simp
end
section
variable {g:Gd} {h0:Heap} {Fs:List Addr} {Z ak:Zm} {as aj:List Addr} {O σ₁:B} {A:Around} {E:Value->Shared->Prop} {s:Shared}
theorem PV.trans {ag:Heap} {tk:Nat} {r:R V} {v:Value} {s':Shared} (G:Go g h0 Fs Z as s.heap ak aj σ₁ ag) (h:PV g h0 Fs ak aj {s with heap:=ag,toks:=tk} r v s'):PV g h0 Fs Z as s r v s':=by
 obtain ⟨a,σ',h',bO,Z',aL,e1,e2,G',r'⟩:=h;exact ⟨a,σ',h',bO,Z',aL,e1,e2,G.trans G',r'⟩
theorem Go.push (S:St g h0 Fs Z as O s.heap) (o:Obj):Go g h0 Fs Z as s.heap Z as O (s.heap.push o):=Go.keeps S jA
section
variable {value:Expr} {mq lQ:Option Expr} {p:Pos} {a lo hi:V} {va j7 jT:Value}
theorem IL {x:Str} {t:Tok} (S:St g h0 Fs Z as O s.heap) (rl:RV g Z as lo j7) (rh:RV g Z as hi jT) (af:wF lo hi O x≠ .stuck):
 wpAny (model g.prog g.w) A (subscriptTail value (.Slice mq lQ none p) (.str x t) (.ref s.heap.objs.size)) (PV g h0 Fs Z as s (wF lo hi O x)) E
  {s with heap:=s.heap.push {cls:=.type "slice",data:=.fields #[j7,jT,.none]}}:=by
 have G:=Go.push S {cls:=.type "slice",data:=.fields #[j7,jT,.none]};obtain ⟨q,e,h,q1⟩:=ci af;refine aK (jY e ) fun e1 e2=>?_;obtain ⟨c,q2⟩:=eP h;obtain ⟨i,j⟩:=q;refine tail_any (ops:=[.ref s.heap.objs.size,.str x t]) (typeIs_str _ _ _) F.slot_str_getitem.lookup ?_ (by with_unfolding_all rfl);rcases zp rl e1 with ⟨rfl,rfl⟩|⟨i,u,rfl,rfl⟩<;>rcases zp rh e2 with ⟨rfl,rfl⟩|⟨j,w,rfl,rfl⟩
 ·exact wpAny_getItem_str_slice (l:=none) (u:=none) (st:=none) ⟨_,Heap.get?_push_size _ rfl,rfl,rfl⟩ rfl
   (post_val_or_str ⟨Nat.le_trans (Txt.slice_le x _ _) (ej c),fun t' k=>PV.trans (tk:=s.toks) G (.eq (q1.trans q2) (cg G.st (.str _ _)))⟩)
 ·exact wpAny_getItem_str_slice (l:=none) (u:=some (j,w)) (st:=none) ⟨_,Heap.get?_push_size _ rfl,rfl,rfl⟩ rfl
   (post_val_or_str ⟨Nat.le_trans (Txt.slice_le x _ _) (ej c),fun t' k=>PV.trans (tk:=s.toks) G (.eq (q1.trans q2) (cg G.st (.str _ _)))⟩)
 ·exact wpAny_getItem_str_slice (l:=some (i,u)) (u:=none) (st:=none) ⟨_,Heap.get?_push_size _ rfl,rfl,rfl⟩ rfl
   (post_val_or_str ⟨Nat.le_trans (Txt.slice_le x _ _) (ej c),fun t' k=>PV.trans (tk:=s.toks) G (.eq (q1.trans q2) (cg G.st (.str _ _)))⟩)
 ·exact wpAny_getItem_str_slice (l:=some (i,u)) (u:=some (j,w)) (st:=none) ⟨_,Heap.get?_push_size _ rfl,rfl,rfl⟩ rfl
   (post_val_or_str ⟨Nat.le_trans (Txt.slice_le x _ _) (ej c),fun t' k=>PV.trans (tk:=s.toks) G (.eq (q1.trans q2) (cg G.st (.str _ _)))⟩)
theorem TH {l:List V} (S:St g h0 Fs Z as O s.heap) (ra:RV g Z as a va) (e0:listAt O a=some l) (rl:RV g Z as lo j7) (rh:RV g Z as hi jT) (af:mV lo hi O l≠ .stuck):
 wpAny (model g.prog g.w) A (subscriptTail value (.Slice mq lQ none p) va (.ref s.heap.objs.size)) (PV g h0 Fs Z as s (mV lo hi O l)) E
  {s with heap:=s.heap.push {cls:=.type "slice",data:=.fields #[j7,jT,.none]}}:=by
 have G:=Go.push S {cls:=.type "slice",data:=.fields #[j7,jT,.none]};obtain ⟨q,e,h,q1⟩:=ci af;refine aK (jY e ) fun e1 e2=>?_;obtain ⟨c,q2⟩:=eP h;refine dW (iF S ra e0 ) ?_;rintro x items n rfl hx rs;have cQ:l.length=items.size:=rs.length.trans Array.length_toList;have hl:=(lN hx).push {cls:=.type "slice",data:=.fields #[j7,jT,.none]};refine aw (Gs rl e1 ) fun pl p1 p2=>?_;refine aw (Gs rh e2 ) fun ph p3 p4=>?_;refine tail_any (ops:=[.ref s.heap.objs.size,.ref x]) (Heap.IsList.typeIs (s:={s with heap:=s.heap.push {cls:=.type "slice",data:=.fields #[j7,jT,.none]}}) hl) list_getitem_lookup
  (wpAny_getItem_list_slice hl (Heap.IsSliceOf.new ..) p1 p3 .none (by simp) ?_ (by rw [<- cQ];exact ej c)) (by with_unfolding_all rfl)
 refine PV.trans (tk:=s.toks) G (.eq (q1.trans q2) (vI (tk:=s.toks) G.st rfl ⟨_,0,Heap.get?_push_size _ rfl,?_⟩));rw [OD p2 (by rw [<- cQ];exact p4)];exact ((rs.take _).drop _).mono (bW.refl _) (bI.append _ _)
theorem S6 (S:St g h0 Fs Z as O s.heap) (ra:RV g Z as a va) (rl:RV g Z as lo j7) (rh:RV g Z as hi jT)
 (af:d9 a lo hi O≠ .stuck):
 wpAny (model g.prog g.w) A (subscriptTail value (.Slice mq lQ none p) va (.ref s.heap.objs.size)) (PV g h0 Fs Z as s (d9 a lo hi O)) E
  {s with heap:=s.heap.push {cls:=.type "slice",data:=.fields #[j7,jT,.none]}}:=by
 unfold d9 at af ⊢;generalize iE af=zc;induction zc using gA.casesOn with
 |some x e h q=>refine aB (ra.fL e) ?_;rintro t rfl;rw [q];exact IL S rl rh h
 |none _ h q=>
 obtain ⟨l,e,h,q1⟩:=ci h;rw [q,q1];exact TH S ra e rl rh h
end
end
section
variable {g:Gd} {h0:Heap} {Fs:List Addr} {Z ak:Zm} {as aj:List Addr} {O σ₁:B} {A:Around} {E:Value->Shared->Prop} {s:Shared}
theorem wj (S:St g h0 Fs Z as O s.heap) {n:Nat} {a:Addr} {o:Obj} {ao qu:aZ} {ag:Heap} {tk:Nat} {v:V} {val:Value} (e1:az as n=some a) (e2:az O n=some ao) (hd:ao≠ .dead) (k:Heap.SameBut a s.heap ag)
 (ha:ag.get? a=some o) (hr:iC g Z as ag a qu) (rv:RV g Z as v val):PV g h0 Fs Z as s (.ok v (bu O n qu)) val {s with heap:=ag,toks:=tk}:=
 ⟨v,_,ag,tk,Z,as,rfl,rfl,Go.update S e1 e2 hd (fun b _ hb e=>(k.2 b hb).trans e) ha hr,rv⟩
theorem B6 {n:Nat} (h:bd n=true):Builtin.Str.tooLong n=false:=decide_eq_false (by have:=ej h;lia)
theorem SY {n:Nat} (h:bd n=true):Builtin.List.listTooLong n=false:=decide_eq_false (by have:=ej h;lia)
theorem m_lower {m:Str} {x:Str} {O:B} (h:bk m (.str x) [] O≠ .stuck):m= "lower" /\ bd (Txt.lower x).length=true/\bk m (.str x) [] O=.ok (.str (Txt.lower x)) O:=by
 have c:=dJ h;have e:bk m (.str x) [] O=Cw x O:=cH c;rw [e] at h ⊢;obtain ⟨d,q⟩:=eP h;exact ⟨bY.mp c,(Bool.and_eq_true_iff.mp d).2,q⟩
theorem M4 {m:Str} {n:Nat} {l:List V} {O:B} (h:dN m n [] O l≠ .stuck):m= "pop" /\ ∃v,l.getLast?=some v/\bd l.length=true/\dN m n [] O l=.ok v (bu O n (.list l.dropLast)):=by
 have c:=dJ h;have e:dN m n [] O l=aX l.getLast? (l6 n l O):=cH c;rw [e] at h ⊢;obtain ⟨v,e1,h,q⟩:=ci h;obtain ⟨d,q2⟩:=eP h;exact ⟨bY.mp c,v,e1,d,q.trans q2⟩
theorem Tq {n:Nat} {b:V} {l:List V} {O:B} (h:dN "append" n [b] O l≠ .stuck):bd l.length=true/\dN "append" n [b] O l=.ok .none (bu O n (.list (l++[b]))):=by
 have e:dN "append" n [b] O l=oV n l b O:=by kernel_rfl
 rw [e] at h ⊢;obtain ⟨d,q⟩:=eP h;exact ⟨d,q⟩
theorem Md {n:Nat} {b:V} {l:List V} {O:B} (h:dN "extend" n [b] O l≠ .stuck):
 ∃k,listAt O b=some k/\bd (l.length+k.length)=true/\dN "extend" n [b] O l=.ok .none (bu O n (.list (l++k))):=by
 have e:dN "extend" n [b] O l=aX (listAt O b) (vT n l b O):=by kernel_rfl
 rw [e] at h ⊢;obtain ⟨k,e1,h,q⟩:=ci h;obtain ⟨d,q2⟩:=eP h;exact ⟨k,e1,(Bool.and_eq_true_iff.mp d).1,q.trans q2⟩
theorem Hn {x:Str} {b:V} {O:B} (h:bk "startswith" (.str x) [b] O≠ .stuck):∃y,cX b=some y/\bk "startswith" (.str x) [b] O=.ok (.bool (Txt.startswith x y)) O:=by
 have e:bk "startswith" (.str x) [b] O=aX (cX b) (AG x O):=by kernel_rfl
 rw [e] at h ⊢;obtain ⟨y,e1,h,q⟩:=ci h;exact ⟨y,e1,q⟩
theorem SK {y:Str} {b:V} {O:B} (h:bk "join" (.str y) [b] O≠ .stuck):
 ∃l ts,listAt O b=some l/\ft l=some ts/\y.length=0/\bd ((ts.map (·.length)).sum)=true/\bk "join" (.str y) [b] O=.ok (.str (Str.join y ts)) O:=by
 have e:bk "join" (.str y) [b] O=aX (listAt O b) (ue y O):=by kernel_rfl
 rw [e] at h ⊢;obtain ⟨l,e1,h,q⟩:=ci h;obtain ⟨ts,e2,h,q2⟩:=ci h;obtain ⟨d,q3⟩:=eP h;have d:=Bool.and_eq_true_iff.mp d;exact ⟨l,ts,e1,e2,Nat.eq_of_beq_eq_true d.1,d.2,q.trans (q2.trans q3)⟩
inductive uU (m:Str) (a:V) (args:List V) (O:B):Prop
 |str (x:Str):cX a=some x->v0 m args O x≠ .stuck->bk m a args O=v0 m args O x->uU m a args O
 |lst (n:Nat) (l:List V):j6 a=some n->az O n=some (.list l)->dN m n args O l≠ .stuck->bk m a args O=dN m n args O l->uU m a args O
theorem HR {m:Str} {a:V} {args:List V} {O:B} (h:bk m a args O≠ .stuck):uU m a args O:=by
 generalize iE h=zc;induction zc using gA.casesOn with
 |some x e h q=>exact .str x e h q
 |none e h q=>
  obtain ⟨n,e1,h,q1⟩:=ci h;obtain ⟨l,e2,h,q2⟩:=ci h;exact .lst n l e1 (qi e2) h (q.trans (q1.trans q2))
theorem CJ {m:Str} {n:Nat} {args:List V} {O:B} (h:bk m (.loc n) args O≠ .stuck):∃l,az O n=some (.list l)/\dN m n args O l≠ .stuck/\bk m (.loc n) args O=dN m n args O l:=by
 obtain ⟨l,e2,h,q2⟩:=ci (show D4 m args O n≠ .stuck from h);exact ⟨l,qi e2,h,q2⟩
theorem Ij {m:Str} {a:V} {O:B} (h:jk m a O=true):(∃x,cX a=some x/\(m= "startswith" \/ m= "join"))\/∃n l,j6 a=some n/\az O n=some (.list l)/\(m= "append" \/ m= "extend"):=by
 unfold jk at h;generalize e:cX a=zc;induction zc using aA with
 |some x=>
  rw [e] at h;simp only [Bool.or_eq_true,bY] at h;exact .inl ⟨x,rfl,h⟩
 |none=>
  rw [e] at h;dsimp only at h;generalize e1:j6 a=zc;induction zc using aA with
  |none=>rw [e1] at h;exact ff h
  |some n=>
   rw [e1] at h;simp only [Bool.and_eq_true,Bool.or_eq_true,bY] at h;refine aB (Option.isSome_iff_exists.mp h.1 ) fun l hl=>?_;exact .inr ⟨n,l,rfl,qi hl,h.2⟩
theorem LP {m:Str} {a:V} {va:Value} {pos:Pos} (S:St g h0 Fs Z as O s.heap) (ra:RV g Z as a va) (af:bk m a [] O≠ .stuck):
 MethodOn g.prog g.w A m pos va [] (PV g h0 Fs Z as s (bk m a [] O)) E s:=by
 generalize HR af=zc;induction zc using uU.casesOn with
 |str x ea h q0=>
  refine aB (ra.fL ea ) ?_;rintro t rfl;refine fw (m_lower (x:=x) h ) ?_;rintro rfl c e;exact SB.lower (B6 c) (.eq (q0.trans e) (cg S (.str _ _)))
 |lst n l ea e h q0=>
  refine aw (ra.D2 ea ) ?_;rintro b rfl hb;obtain ⟨rfl,v,e1,d,q⟩:=M4 h;refine b_ (S.obj n b _ hb e ) fun items k hk rs=>?_;have cQ:=rs.length;have cj:0<l.length:=by
   induction l using bh with
   |nil=>exact al e1
   |cons=>exact Nat.succ_pos _
  have e2:az l (l.length-1)=some v:=by rw [fJ,<- List.getLast?_eq_getElem?];exact e1
  refine aw (rs.nth e2 ) fun val v1 v2=>?_;refine ⟨"list",_,F.plainAttrs_list,F.slot_list_pop,F.type_list_pop,⟨_,hk,rfl⟩,fun a e=>by obtain rfl:=Value.ref.inj e;exact ⟨_,hk,rfl⟩,?_⟩;refine P.pop_list (y:=val) hk ?_ ?_ (by rw [<- Array.length_toList,<- cQ];exact ej d)
  ·rw [<- Array.getElem?_toList,<- Array.length_toList,<- cQ];exact v1
  ·have hu:=IsL.update hk (fun xs=>xs.eraseIdxIfInBounds (items.size-1));refine .eq (q0.trans q) (wj (tk:=s.toks) S hb e (fun z=>by exact aZ.noConfusion z) (Heap.SameBut.update _ _ _) hu ⟨_,_,hu,?_⟩ v2);have:(items.eraseIdxIfInBounds (items.size-1)).toList=items.toList.take (l.length-1):=by
    rw [Array.toList_eraseIdxIfInBounds,<- Array.length_toList,<- cQ,List.eraseIdx_eq_take_drop_succ,List.drop_of_length_le (by exact ae [_,_,_] [] [.f (.v 2) (.v 0),.f (.p (.v 1) (.n 1)) (.v 2)] (.le (.v 0) (.p (.v 1) (.n 1))) rfl cQ (Nat.sub_add_cancel (ae [_] [] [.lt (.n 0) (.v 0)] (.le (.n 1) (.v 0)) rfl cj))),List.append_nil]
   rw [this,List.dropLast_eq_take];exact rs.take _
theorem AI {m:Str} {n:Nat} {va:Value} {id:String} {pos:Pos} {x:Sem Value} {Q:Value->Shared->Prop} (S:St g h0 Fs Z as O s.heap) (ra:RV g Z as (.loc n) va) {l:List V} (e:az O n=some (.list l))
 (sl:Slot "list" m id) (ht:typeOf (.builtin id)=pure (.type "method_descriptor"))
 (h:∀b,va=.ref b->wpAny (model g.prog g.w) A (callWith pos (.builtin id) [va] [(false,x)] []) Q E s):MethodOn g.prog g.w A m pos va [(false,x)] Q E s:=by
 refine aw ra.out ?_;rintro b rfl hb;refine b_ (S.obj n b _ hb e ) fun items k hk rs=>?_;exact ⟨"list",_,F.plainAttrs_list,sl,ht,⟨_,hk,rfl⟩,fun a e=>by obtain rfl:=Value.ref.inj e;exact ⟨_,hk,rfl⟩,h b rfl⟩
theorem PG.bind1 {f:V->B->R V} {r:R V} {b:V} {σ1:B} {val:Value} {s':Shared} (e:r=.ok b σ1) (x:PV g h0 Fs Z as s (f b σ1) val s'):PV g h0 Fs Z as s (r.bind f) val s':=by subst e;exact x
theorem sU {α β:Type} {f:α->B->R β} {r:R α} {b:α} {σ1:B} (h:r.bind f≠ .stuck) (e:r=.ok b σ1):f b σ1≠ .stuck:=by subst e;exact h
theorem HP {x:Str} {t:Tok} {pos:Pos} {xb:Sem Value} {r:R V} (hx:wpAny (model g.prog g.w) A xb (PV g h0 Fs Z as s r) E s)
 (af:r.bind (fun b O=>bk "startswith" (.str x) [b] O)≠ .stuck):MethodOn g.prog g.w A "startswith" pos (.str x t) [(false,xb)] (PV g h0 Fs Z as s (r.bind fun b O=>bk "startswith" (.str x) [b] O)) E s:=by
 refine SB.startswith (wpAny_mono hx (fun v s1 h1=>?_) fun _ _ e=>e);obtain ⟨b,σ1,h1,tk,Z1,wq,e,rfl,G,rb⟩:=h1;have h:=sU af e;refine aw (Hn h ) fun z e1 q=>?_;refine aB (rb.fL e1 ) ?_;rintro u rfl;exact ⟨z,u,rfl,.bind1 e (.eq q (PV.trans (tk:=tk) G (cg (tk:=tk) G.st (.bool _))))⟩
theorem JU {y:Str} {t:Tok} {pos:Pos} {xb:Sem Value} {r:R V} (hx:wpAny (model g.prog g.w) A xb (PV g h0 Fs Z as s r) E s)
 (af:r.bind (fun b O=>bk "join" (.str y) [b] O)≠ .stuck):MethodOn g.prog g.w A "join" pos (.str y t) [(false,xb)] (PV g h0 Fs Z as s (r.bind fun b O=>bk "join" (.str y) [b] O)) E s:=by
 refine SB.join (wpAny_mono hx (fun v s1 h1=>?_) fun _ _ e=>e);obtain ⟨b,σ1,h1,tk,Z1,wq,e,rfl,G,rb⟩:=h1;have h:=sU af e;refine xX (SK h ) fun l ts e1 e2 hy c q=>?_;refine dW (iF (s:={s with heap:=h1,toks:=tk}) G.st rb e1 ) ?_;rintro D items n rfl hx rs;refine aw (vd rs e2 ) fun p q1 q2=>?_;refine ⟨D,p,rfl,q1▸lN hx,ts,q2,?_,fun t' k=>?_⟩
 ·unfold JoinOk;rw [StrLaws.joinTotal,hy,Nat.mul_zero,Nat.add_zero,B6 c];rfl
 ·rw [show Txt.join y ts=Str.join y ts from StrLaws.glued_eq_join y ts];exact .bind1 e (.eq q (PV.trans (tk:=tk) G (cg (tk:=k) G.st (.str _ _))))
theorem NF {n:Nat} {a:Addr} {pos:Pos} {xb:Sem Value} {r:R V} (S:St g h0 Fs Z as O s.heap) (ra:RV g Z as (.loc n) (.ref a)) (hx:wpAny (model g.prog g.w) A xb (PV g h0 Fs Z as s r) E s)
 (af:r.bind (fun b O=>bk "append" (.loc n) [b] O)≠ .stuck):wpAny (model g.prog g.w) A (callWith pos (.builtin "list.append") [.ref a] [(false,xb)] []) (PV g h0 Fs Z as s (r.bind fun b O=>bk "append" (.loc n) [b] O)) E s:=by
 refine P.append_list (wpAny_mono hx (fun v s1 h1=>?_) fun _ _ e=>e);obtain ⟨b,σ1,h1,tk,Z1,wq,e,rfl,G,rb⟩:=h1;refine aw ((ra.mono G.bz G.pre).out ) fun _ hq hb=>?_;obtain rfl:=Value.ref.inj hq;have h:=sU af e;refine gR (CJ h ) fun l e1 h q0=>?_;refine aK (Tq h ) fun d q=>?_;refine b_ (G.st.obj n _ _ hb e1 ) fun items k hk rs=>?_;have hu:=IsL.update hk (fun xs=>xs.push v);exact ⟨items,k,by rw [<- Array.length_toList,<- rs.length];exact ej d,hk,.bind1 e (.eq (q0.trans q) (PV.trans (tk:=tk) G (wj (tk:=tk) G.st hb e1 (fun z=>by exact aZ.noConfusion z) (Heap.SameBut.update _ _ _) hu ⟨_,_,hu,by rw [Array.toList_push];exact aO.append (.cons rb .nil) rs⟩ .none)))⟩
theorem H7 {n:Nat} {a:Addr} {pos:Pos} {xb:Sem Value} {r:R V} (S:St g h0 Fs Z as O s.heap) (ra:RV g Z as (.loc n) (.ref a)) (hx:wpAny (model g.prog g.w) A xb (PV g h0 Fs Z as s r) E s)
 (af:r.bind (fun b O=>bk "extend" (.loc n) [b] O)≠ .stuck):wpAny (model g.prog g.w) A (callWith pos (.builtin "list.extend") [.ref a] [(false,xb)] []) (PV g h0 Fs Z as s (r.bind fun b O=>bk "extend" (.loc n) [b] O)) E s:=by
 refine P.extend_list (wpAny_mono hx (fun v s1 h1=>?_) fun _ _ e=>e);obtain ⟨b,σ1,h1,tk,Z1,wq,e,rfl,G,rb⟩:=h1;refine aw ((ra.mono G.bz G.pre).out ) fun _ hq hb=>?_;obtain rfl:=Value.ref.inj hq;have h:=sU af e;refine gR (CJ h ) fun l e1 h q0=>?_;refine gR (Md h ) fun m e2 d q=>?_;refine b_ (G.st.obj n _ _ hb e1 ) fun items k hk rs=>?_;refine dW (iF (s:={s with heap:=h1,toks:=tk}) G.st rb e2 ) ?_;rintro y u6 k2 rfl hy mK;have hs:=ej d;have q1:items.size=l.length:=by rw [<- Array.length_toList,<- rs.length]
 have q2:u6.size=m.length:=by rw [<- Array.length_toList,<- mK.length]
 have hu:=IsL.update hk (fun xs=>xs++u6);refine ⟨y,items,u6,k,k2,by lia,by lia,?_,rfl,hk,hy,.bind1 e (.eq (q0.trans q) (PV.trans (tk:=tk) G (wj (tk:=tk) G.st hb e1 (fun z=>by exact aZ.noConfusion z) (Heap.SameBut.update _ _ _) hu ⟨_,_,hu,by rw [Array.toList_append];exact aO.append mK rs⟩ .none)))⟩;rw [q1,q2,SY d];simp
theorem Sl {m:Str} {a:V} {va:Value} {pos:Pos} {x:Sem Value} {r:R V} (hm:jk m a O=true) (S:St g h0 Fs Z as O s.heap) (ra:RV g Z as a va) (hx:wpAny (model g.prog g.w) A x (PV g h0 Fs Z as s r) E s)
 (af:r.bind (fun b O=>bk m a [b] O)≠ .stuck):
 MethodOn g.prog g.w A m pos va [(false,x)] (PV g h0 Fs Z as s (r.bind fun b O=>bk m a [b] O)) E s:=by
 rcases Ij hm with ⟨y,e,hk⟩|⟨n,l,ea,e,hk⟩
 ·obtain rfl:=ud e;refine aB ra.out ?_;rintro t rfl;rcases hk with rfl|rfl
  ·exact HP hx af
  ·exact JU hx af
 obtain rfl:=A1 ea;rcases hk with rfl|rfl
 ·refine AI S ra e F.slot_list_append F.type_list_append fun bb iw=>?_;subst iw;exact NF S ra hx af
 ·refine AI S ra e F.slot_list_extend F.type_list_extend fun bb iw=>?_;subst iw;exact H7 S ra hx af
end
section
variable {g:Gd} {h0:Heap} {Fs:List Addr} {Z ak:Zm} {as aj:List Addr} {O σ₁:B} {A:Around} {E:Value->Shared->Prop} {s:Shared}
theorem Ln (S:St g h0 Fs Z as O s.heap) {ao:aZ} {o:Obj} {tk:Nat} {ag:Heap} (k:∀b o,s.heap.get? b=some o->ag.get? b=some o) (ha:ag.get? s.heap.objs.size=some o)
 (r:iC g Z (as++[s.heap.objs.size]) ag s.heap.objs.size ao):
 PV g h0 Fs Z as s (newObj O ao) (.ref s.heap.objs.size) {s with heap:=ag,toks:=tk}:=
 ⟨.loc O.length,O++[ao],_,tk,_,as++[s.heap.objs.size],rfl,rfl,Go.alloc S (dg _) k ha r,.loc (by rw [<- S.len];exact mw _ _)⟩
theorem Fd (S:St g h0 Fs Z as O s.heap) {v:V} {val:Value} {tk:Nat} {ag:Heap} (k:∀b o,s.heap.get? b=some o->ag.get? b=some o) (r:RV g Z as v val):
 PV g h0 Fs Z as s (.ok v O) val {s with heap:=ag,toks:=tk}:=⟨v,O,ag,tk,Z,as,rfl,rfl,Go.keeps S k,r⟩
theorem Qj {args:List V} {a:V} (h:one args=some a):args=[a]:=by
 match args with
 | []=>exact al h
 | [b]=>exact congrArg (fun a=>[a]) (Option.some.inj h)
 |_::_::_=>exact al h
theorem LH {args:List V} {p:V×V} (h:two args=some p):args=[p.1,p.2]:=by
 match args with
 | []=>exact al h
 | [_]=>exact al h
 | [a,b]=>exact congrArg (fun p:V×V=>[p.1,p.2]) (Option.some.inj h)
 |_::_::_::_=>exact al h
theorem aO.one {args:List V} {ai:List Value} {a:V} (r:aO g Z as args ai) (h:one args=some a):∃va,ai=[va]/\RV g Z as a va:=by
 obtain rfl:=Qj h;obtain ⟨va,_,rfl,r1,r2⟩:=r.out;obtain rfl:=r2.out;exact ⟨va,rfl,r1⟩
theorem aO.two {args:List V} {ai:List Value} {p:V×V} (r:aO g Z as args ai) (h:two args=some p):∃va vb,ai=[va,vb]/\RV g Z as p.1 va/\RV g Z as p.2 vb:=by
 obtain rfl:=LH h;obtain ⟨va,_,rfl,r1,r2⟩:=r.out;obtain ⟨vb,_,rfl,r2,r3⟩:=r2.out;obtain rfl:=r3.out;exact ⟨va,vb,rfl,r1,by assumption⟩
section
variable {args:List V} {ai:List Value}
theorem HU {a:V} {va:Value} (S:St g h0 Fs Z as O s.heap) (r:RV g Z as a va) (af:ug O a≠ .stuck):
 wpAny (model g.prog g.w) A (call (.builtin "len") [va]) (PV g h0 Fs Z as s (ug O a)) E s:=by
 unfold ug at af ⊢;generalize iE af=zc;induction zc using gA.casesOn with
 |some x e h q=>
  refine aB (r.fL e ) ?_;rintro t rfl;obtain ⟨c,q1⟩:=eP h;have:=ej c;rw [sizeLine_eq] at this;exact P.len_str (by lia) (.eq (q.trans q1) (cg S (.int _ _)))
 |none _ h q=>
  obtain ⟨l,e,h,q1⟩:=ci h;obtain ⟨c,q2⟩:=eP h;refine dW (iF S r e ) ?_;rintro b items n rfl hx rs;have cQ:l.length=items.size:=rs.length.trans Array.length_toList;have:=ej c;rw [sizeLine_eq] at this;exact Calls.call_len_list (lN hx) (by lia) (.eq (q.trans (q1.trans q2)) (by rw [cQ];exact cg S (.int _ _)))
theorem L6 {a:V} {va:Value} (S:St g h0 Fs Z as O s.heap) (r:RV g Z as a va) (af:Ad O a≠ .stuck):
 wpAny (model g.prog g.w) A (call (.builtin "ord") [va]) (PV g h0 Fs Z as s (Ad O a)) E s:=by
 obtain ⟨x,e,h,q⟩:=ci af;refine aB (r.fL e ) ?_;rintro t rfl;have:∃c,x.cps.toList=[c]:=by
  unfold Fw at h
  match hx:x.cps.toList with
  | []=>rw [hx] at h;exact absurd rfl h
  | [c]=>exact ⟨c,rfl⟩
  |_::_::_=>rw [hx] at h;exact absurd rfl h
 refine aB this ?_;clear this;intro c hc;obtain rfl:x=⟨#[c]⟩:=y0 hc;exact P.ord_of_char (.eq q (cg S (.int _ _)))
theorem Iy {p:V×V} {va vb:Value} (hA:A.handled=none) (S:St g h0 Fs Z as O s.heap) (r:RV g Z as p.1 va) (r':RV g Z as p.2 vb) (af:yx O p≠ .stuck):
 wpAny (model g.prog g.w) A (call (.builtin "min") [va,vb]) (PV g h0 Fs Z as s (yx O p)) E s:=by
 obtain ⟨⟨a,b⟩,e,h,q⟩:=ci af;refine aK (jY e ) fun e1 e2=>?_;refine aB (r.gf e1 ) ?_;rintro t rfl;refine aB (r'.gf e2 ) ?_;rintro u rfl;refine min_two_ints hA fun h' tk k=>.eq q ?_;unfold EI;by_cases q:b<a
 ·rw [if_pos q,cH (decide_eq_true q)];exact Fd S k (.int _ _)
 ·rw [if_neg q,gy (decide_eq_false q)];exact Fd S k (.int _ _)
theorem Tw {a:V} {va:Value} (hA:A.handled=none) (ND:s.heap.NoDigits) (S:St g h0 Fs Z as O s.heap) (r:RV g Z as a va) (af:zY O a≠ .stuck):
 wpAny (model g.prog g.w) A (call (.type "str") [va]) (PV g h0 Fs Z as s (zY O a)) E s:=by
 obtain ⟨i,e,h,q⟩:=ci af;refine aB (r.gf e ) ?_;rintro t rfl;obtain ⟨c,q1⟩:=eP h;exact str_of_int_or hA ND (fun _=>.eq (q.trans q1) (cg S (.str _ _))) fun q=>absurd (of_decide_eq_true c) (Nat.not_lt.mpr q)
theorem Tn {a:V} {va:Value} (S:St g h0 Fs Z as O s.heap) (r:RV g Z as a va) (af:Ag O a≠ .stuck):
 wpAny (model g.prog g.w) A (call (.type "list") [va]) (PV g h0 Fs Z as s (Ag O a)) E s:=by
 obtain ⟨l,e,h,q⟩:=ci af;obtain ⟨c,q1⟩:=eP h;refine dW (iF S r e ) ?_;rintro b items n rfl hx rs;have cQ:l.length=items.size:=rs.length.trans Array.length_toList;exact call_list_seq b (.inl rfl) hx rfl rfl (fun h' c' k hn=>.eq (q.trans q1) (Ln (tk:=s.toks) S k hn ⟨_,c',hn,rs.mono (bW.refl _) (bI.append _ _)⟩)) (by rw [<- cQ];exact ej c)
theorem ML {a:V} {va:Value} (S:St g h0 Fs Z as O s.heap) (r:RV g Z as a va) (af:xg O a≠ .stuck):
 wpAny (model g.prog g.w) A (call (.type "range") [va]) (PV g h0 Fs Z as s (xg O a)) E s:=by
 obtain ⟨i,e,h,q⟩:=ci af;refine aB (r.gf e ) ?_;rintro t rfl;obtain ⟨c,q1⟩:=eP h;exact call_range_1 (.eq (q.trans q1) (yh S rfl (.rng bp.at)))
theorem mC {α:Type} {b:Bool} {r d:R α} (h:(bif b then r else d)≠ .stuck):(b=true/\r≠ .stuck/\(bif b then r else d)=r)\/(b=false/\d≠ .stuck/\(bif b then r else d)=d):=by
 induction b using aN with
 |true=>exact .inl ⟨rfl,h,rfl⟩
 |false=>exact .inr ⟨rfl,h,rfl⟩
theorem RJ {id:String} (hA:A.handled=none) (S:St g h0 Fs Z as O s.heap) (ra:aO g Z as args ai) (af:ur id args O≠ .stuck):
 wpAny (model g.prog g.w) A (call (.builtin id) ai) (PV g h0 Fs Z as s (ur id args O)) E s:=by
 unfold ur at af ⊢;rcases mC af with ⟨c,h,q⟩|⟨_,h,q⟩<;>rw [q]
 ·obtain rfl:=eq_of_beq c;obtain ⟨a,e,h,q⟩:=ci h;refine aw (ra.one e ) ?_;rintro va rfl r;rw [q];exact HU S r h
 rcases mC h with ⟨c,h,q⟩|⟨_,h,q⟩<;>rw [q]
 ·obtain rfl:=eq_of_beq c;obtain ⟨a,e,h,q⟩:=ci h;refine aw (ra.one e ) ?_;rintro va rfl r;rw [q];exact L6 S r h
 rcases mC h with ⟨c,h,q⟩|⟨_,h,q⟩
 ·rw [q];obtain rfl:=eq_of_beq c;obtain ⟨a,e,h,q⟩:=ci h;refine i_ (ra.two e ) ?_;rintro va vb rfl r r';rw [q];exact Iy hA S r r' h
 ·exact absurd rfl h
theorem R9 {id:String} (hA:A.handled=none) (ND:s.heap.NoDigits) (S:St g h0 Fs Z as O s.heap) (ra:aO g Z as args ai) (af:ui id args O≠ .stuck):
 wpAny (model g.prog g.w) A (call (.type id) ai) (PV g h0 Fs Z as s (ui id args O)) E s:=by
 unfold ui at af ⊢;rcases mC af with ⟨c,h,q⟩|⟨_,h,q⟩<;>rw [q]
 ·obtain rfl:=eq_of_beq c;obtain ⟨a,e,h,q⟩:=ci h;refine aw (ra.one e ) ?_;rintro va rfl r;rw [q];exact Tw hA ND S r h
 rcases mC h with ⟨c,h,q⟩|⟨_,h,q⟩<;>rw [q]
 ·obtain rfl:=eq_of_beq c;obtain ⟨a,e,h,q⟩:=ci h;refine aw (ra.one e ) ?_;rintro va rfl r;rw [q];exact Tn S r h
 rcases mC h with ⟨c,h,q⟩|⟨_,h,q⟩
 ·rw [q];obtain rfl:=eq_of_beq c;obtain ⟨a,e,h,q⟩:=ci h;refine aw (ra.one e ) ?_;rintro va rfl r;rw [q];exact ML S r h
 ·exact absurd rfl h
theorem MF {f:Value} (hA:A.handled=none) (ND:s.heap.NoDigits) (S:St g h0 Fs Z as O s.heap) (ra:aO g Z as args ai) (af:cM f args O≠ .stuck):
 wpAny (model g.prog g.w) A (call f ai) (PV g h0 Fs Z as s (cM f args O)) E s:=by
 induction f using Value.casesOn with
 |builtin id=>exact RJ hA S ra af
 |type id=>exact R9 hA ND S ra af
 |_=>exact absurd rfl af
end
end
noncomputable def gm (Fs:List Addr) (Z:Zm) (as:List Addr) (O:B) (x:Addr):Prop:=Z x=none/\x∉Fs/\∀n o,az as n=some x->az O n=some o->o=.dead
noncomputable def Trace (h:Heap) (e:Addr) (vs:Array Value):Option Addr->Prop
 |none=>vs[1]?=some .none
 |some T=>vs[1]?=some (.ref T)/\T≠e/\∃oT ts,h.get? T=some oT/\oT.data=.fields ts/\ts[3]?=some .none
inductive jb (g:Gd) (Fs:List Addr) (Z:Zm) (as:List Addr) (O:B) (hs h:Heap) (e:Addr) (f:aR):Prop
 |mk (oe:Obj) (vs:Array Value) (T:Option Addr):h.get? e=some oe->oe.data=.fields vs->(∃t,vs[0]?=some t)->iZ g Z f oe->Trace h e vs T->gm Fs Z as O e->hs.get? e=none->(∀x,T=some x->gm Fs Z as O x/\hs.get? x=none)->jb g Fs Z as O hs h e f
structure kg (Fs:List Addr) (e:Addr) (T:Option Addr) (h h':Heap):Prop where
 other:∀b o,h.get? b=some o->b≠e->T≠some b->b∉Fs->h'.get? b=some o
 slots:∀b o,h.get? b=some o->b≠e->T≠some b->∃sl,h'.get? b=some {o with slots:=sl}
 there:∀b o,h.get? b=some o->∃o',h'.get? b=some o'
section
variable {g:Gd} {h0:Heap} {Fs:List Addr} {Z ak bj:Zm} {as aj bM:List Addr} {O σ₁ bn:B} {h ag aM:Heap}
theorem St.touch (s:St g h0 Fs Z as O h) {e:Addr} {T:Option Addr} (le:gm Fs Z as O e) (lT:∀x,T=some x->gm Fs Z as O x) (k:kg Fs e T h ag):St g h0 Fs Z as O ag:=by
 have SP:∀ {n a o},az as n=some a->az O n=some o->o≠ .dead->∀x,h.get? a=some x->ag.get? a=some x:=fun {n a o} e1 e2 d x hx=>
  k.other a x hx (fun q=>d (le.2.2 n o (q▸e1) e2)) (fun q=>d ((lT a q).2.2 n o e1 e2)) (s.off a (da e1)).1
 refine ⟨s.base,fun b o z=>?_,s.len,fun n a o e1 e2=>?_,s.sep,fun a ha=>⟨(s.off a ha).1,?_⟩,s.inj,fun b hb=>?_⟩
 ·refine aK (s.bN b o z ) fun z1 z2=>?_;exact ⟨k.other b o z1 (fun q=>by subst q;rw [le.1] at z;exact al z) (fun q=>by rw [(lT b q).1] at z;exact al z) z2,z2⟩
 ·by_cases d:o=.dead
  ·subst d;trivial
  ·exact (s.obj n a o e1 e2).mono (bW.refl _) (bI.refl _) (SP e1 e2 d)
 ·obtain ⟨_,o,ho⟩:=s.off a ha;exact k.there a o ho
 ·refine gN (s.frm b hb ) fun o es m ho hd=>?_;refine aB (k.slots b o ho (fun q=>le.2.1 (q▸hb)) (fun q=>(lT b q).2.1 hb) ) fun sl hs=>?_;exact ⟨_,es,m,hs,hd⟩
theorem jb.later {hs jB:Heap} {e:Addr} {f:aR} (x:jb g Fs Z as O hs h e f) (k:∀b,hs.get? b=none->jB.get? b=none):jb g Fs Z as O jB h e f:=by
 obtain ⟨oe,vs,T,a1,a2,a3,a4,a5,a6,a7,a8⟩:=x;exact ⟨oe,vs,T,a1,a2,a3,a4,a5,a6,k _ a7,fun y hy=>⟨(a8 y hy).1,k _ (a8 y hy).2⟩⟩
theorem Go.gw (S:St g h0 Fs Z as O h) (G:Go g h0 Fs Z as h ak aj σ₁ ag) (b:Addr) (e:ag.get? b=none):h.get? b=none:=by
 generalize q:h.get? b=zc;induction zc using aA with
 |none=>rfl
 |some o=>
  by_cases m:b∈as
  ·refine aB G.pre fun t p=>?_;obtain ⟨_,o',iP⟩:=G.st.off b (by rw [p];exact List.mem_append_left _ m);rw [e] at iP;exact al iP
  ·obtain ⟨_,sl,k⟩:=G.keep b o q m;rw [e] at k;exact al k
end
inductive PE {α:Type} (g:Gd) (h0:Heap) (Fs:List Addr) (Z:Zm) (as:List Addr) (s:Shared) (r:R α) (val:Value) (s':Shared):Prop
 |mk (f:aR) (σ':B) (h':Heap) (tk:Nat) (Z':Zm) (aL:List Addr) (e:Addr):r=.exc f σ'->val=.ref e->s'={s with heap:=h',toks:=tk} -> Go g h0 Fs Z as s.heap Z' aL σ' h'->jb g Fs Z' aL σ' s.heap h' e f->PE g h0 Fs Z as s r val s'
section
variable {α β:Type} {g:Gd} {h0:Heap} {Fs:List Addr} {Z ak bj:Zm} {as aj bM:List Addr} {O σ₁ bn:B} {A:Around} {s:Shared}
theorem PE.bind {r:R α} {k:α->B->R β} {e:Value} {s':Shared} (h:PE g h0 Fs Z as s r e s'):PE g h0 Fs Z as s (r.bind k) e s':=by
 obtain ⟨f,σ',h',tk,Z',aL,e,rfl,a,b,c,d⟩:=h;exact ⟨f,σ',h',tk,Z',aL,e,rfl,a,b,c,d⟩
theorem PE.trans {ag:Heap} {tk:Nat} {r:R α} {v:Value} {s':Shared} (S:St g h0 Fs Z as O s.heap) (G:Go g h0 Fs Z as s.heap ak aj σ₁ ag) (h:PE g h0 Fs ak aj {s with heap:=ag,toks:=tk} r v s'):PE g h0 Fs Z as s r v s':=by
 obtain ⟨f,σ',h',bO,Z',aL,e,e1,e2,e3,G',x⟩:=h;exact ⟨f,σ',h',bO,Z',aL,e,e1,e2,e3,G.trans G',x.later (G.gw S)⟩
theorem PG.trans {P:α->Zm->List Addr->β->Prop} {ag:Heap} {tk:Nat} {r:R α} {v:β} {s':Shared} (G:Go g h0 Fs Z as s.heap ak aj σ₁ ag) (h:PG P g h0 Fs ak aj {s with heap:=ag,toks:=tk} r v s'):PG P g h0 Fs Z as s r v s':=by
 obtain ⟨a,σ',h',bO,Z',aL,e1,e2,G',r'⟩:=h;exact ⟨a,σ',h',bO,Z',aL,e1,e2,G.trans G',r'⟩
end
noncomputable def iL (Fs:List Addr) (l:List Env):Prop:=∀env∈l,env.scope.kind≠ .module/\∃L,env.frame=some L/\L∈Fs
noncomputable def Fg:Heap:={ (default:Heap) with objs:= #[]}
section
variable {g:Gd} {h0:Heap} {Fs:List Addr} {Z ak bj:Zm} {as aj bM:List Addr} {O σ₁ bn:B} {A:Around} {E:Value->Shared->Prop} {s:Shared} {h:Heap}
theorem HH (b:Addr):Fg.get? b=none:=Heap.get?_none_of_le (Nat.zero_le _)
theorem DH (S:St g h0 Fs Z as O h):∀ {l:List Env},iL Fs l->h.FunFrames Fg l
 | [],_=>trivial
 |env::r,fo=>by
  obtain ⟨k,L,e,m⟩:=fo env (List.mem_cons_self ..);refine gN (S.frm L m ) fun o es n ho hd=>?_;exact ⟨k,⟨L,o,e,HH L,ho,fun vs q=>by rw [hd] at q;exact Data.noConfusion q⟩,DH S fun x hx=>fo x (List.mem_cons_of_mem _ hx)⟩
theorem B3 {l:List Env} (fo:iL Fs l) {b:Addr} (hb:b∉Fs):b∉l.filterMap (·.frame):=fun q=>by
 refine aw (List.mem_filterMap.mp q ) fun env m e=>?_;obtain ⟨_,L,e2,m2⟩:=fo env m;rw [e2] at e;obtain rfl:=Option.some.inj e;exact hb m2
theorem iZ.Ew {f:aR} {oe iD:Obj} (x:iZ g Z f oe) (c:iD.cls=oe.cls) (d:iD.dict=oe.dict):iZ g Z f iD:=by
 obtain ⟨C,dx,od,m,a,items,k,t0,t1,p,c1,c2,c3,c4,c5,c6,c7,c8,c9,qr,xm⟩:=x;exact ⟨C,dx,od,m,a,items,k,t0,t1,p,c1,c.trans c2,d.trans c3,c4,c5,c6,c7,c8,c9,qr,xm⟩
end
structure Rm (A:Around) (n:Nat):Prop where
 d:A.depth+4*n+8<recursionLimit
 u:A.units+20*n+100<cLine
theorem Rm.units {A:Around} {n:Nat} (r:Rm A n):A.units+64<cLine:=by have:=r.u;exact ae [_,_,_] [] [.lt (.p (.p (.v 0) (.m 20 (.v 2))) (.n 100)) (.v 1)] (.lt (.p (.v 0) (.n 64)) (.v 1)) rfl this
structure Tx (g:Gd) (h0:Heap) (mb:Gv) (fns:Str->Bool):Prop where
 gl:h0.Ns mainGlobals g.mg
 bl:h0.Ns builtinsNs mb
 R4:∀x,fns x=true->∃v,g.mg x=some v
 bis:∀x v,tK x=some v->g.mg x=none/\mb x=some v
 Gz:h0.NoDigits
structure Fm (A:Around) (Fs:List Addr) (env:Env) (sc:Scope) (q:Bool):Prop where
 scope:env.scope=sc
 kind:sc.kind=.function
 glob:env.globals=mainGlobals
 blt:env.builtins=builtinsNs
 mem:env.locals∈Fs
 full:q=false->A.handled=none/\env.frame=some env.locals/\∃dP,A.frames=some (env::dP)/\iL Fs (env::dP)
noncomputable def aW (g:Gd) (Z:Zm) (as:List Addr) (J:Loc) (env:Env) (h:Heap):Prop:=∃m,h.Ns env.locals m/\hV g Z as J m
section
variable {g:Gd} {h0:Heap} {mb:Gv} {fns:Str->Bool} {Fs:List Addr} {Z ak:Zm} {as aj:List Addr} {O σ₁:B} {A:Around} {E:Value->Shared->Prop} {s:Shared} {J:Loc} {env:Env} {sc:Scope} {q:Bool} {h ag:Heap}
theorem aW.go (S:St g h0 Fs Z as O h) (hm:env.locals∈Fs) (G:Go g h0 Fs Z as h ak aj σ₁ ag) (l:aW g Z as J env h):aW g ak aj J env ag:=by
 refine aw l ?_;clear l;rintro m ⟨o,es,ep,ho,hd,hk,hf⟩ r;obtain ⟨_,sl,k⟩:=G.keep _ o ho fun q=>(S.off _ q).1 hm;exact ⟨m,⟨_,es,ep,k,hd,hk,hf⟩,r.mono G.bz G.pre⟩
theorem pD (x:Str):∀l:List (Str×NameKind),fu x l=l.lookup x:=by
 intro l;induction l with
 |nil=>rfl
 |cons p r ih=>
  obtain ⟨y,k⟩:=p;rw [List.lookup_cons,show fu x ((y,k)::r)=bif seq y x then some k else fu x r from rfl];by_cases e:x=y
  ·subst e;rw [cH (bY.mpr rfl)];simp
  ·rw [gy (gq.mpr (Ne.symm e)),ih];have:(x==y)=false:=beq_eq_false_iff_ne.mpr e;rw [this]
theorem ou (F:Fm A Fs env sc q) (x:Str):env.kindOf x=fu x sc.names:=by
 rw [pD,<- F.scope];rfl
theorem St.keeps (S:St g h0 Fs Z as O h):∀b o,h0.get? b=some o->h.get? b=some o:=fun b o e=>(S.bN b o (S.base b o e)).1
theorem JA {Γ:Ctx} {x:Str} {pos:Pos} (T:Tx g h0 mb Γ.fns) (F:Fm A Fs env sc q) (S:St g h0 Fs Z as O s.heap) (l:aW g Z as J env s.heap) (af:eH Γ sc x J O≠ .stuck):
 wpAny (model g.prog g.w) A (eval (.Name x pos) env) (PV g h0 Fs Z as s (eH Γ sc x J O)) E s:=by
 unfold eH at af ⊢;generalize hd:seq x "__debug__" = zc;induction zc using aN with
 |true=>rw [hd] at af;exact absurd rfl af
 |false=>
  rw [hd] at af;dsimp only [cond_false] at af ⊢;have i7:(x==("__debug__" : Str))=false:=beq_eq_false_iff_ne.mpr (gq.mp hd);have hk:=ou F x;have qp:env.scope.kind=.function:=by rw [F.scope];exact F.kind
  generalize e:fu x sc.names=zc;induction zc using aA with
  |none=>rw [e] at af;exact absurd rfl af
  |some k=>
   rw [e] at af hk;induction k using NameKind.casesOn with
   | «local» =>
    dsimp only at af ⊢;generalize el:dk x J=zc;induction zc using aA with
    |none=>rw [el] at af;exact absurd rfl af
    |some v=>
     refine aw l ?_;clear l;intro m hn r;refine aw (r x v el ) fun val v1 v2=>?_;exact wpAny_Name (wpAny_loadName_local qp hk hn v1 (cg (tk:=s.toks) S v2)) i7
   |globalImplicit=>
    dsimp only at af ⊢;have hg:s.heap.Ns env.globals g.mg:=by rw [F.glob];exact T.gl.keeps S.keeps
    generalize ef:Γ.fns x=zc;induction zc using aN with
    |true=>
     refine aB (T.R4 x ef ) fun v hv=>?_;exact Name_function_global qp hk (loadGlobal_global hg hv (cg (tk:=s.toks) S (.fn hv))) i7
    |false=>
     rw [ef] at af;dsimp only [cond_false] at af ⊢;generalize eb:tK x=zc;induction zc using aA with
     |none=>rw [eb] at af;exact absurd rfl af
     |some v=>
      refine aK (T.bis x v eb ) fun h1 h2=>?_;have hb:s.heap.Ns env.builtins mb:=by rw [F.blt];exact T.bl.keeps S.keeps
      exact Name_function_global qp hk (loadGlobal_builtin hg h1 hb h2 (cg (tk:=s.toks) S (.con _))) i7
   |_=>exact absurd rfl af
end
noncomputable def gF (g:Gd) (h0:Heap) (n:Nat) (C:eK):Prop:=∀ {x:Str} {args:List V} {O:B} {v:Value},g.mg x=some v->C x args O≠ .stuck->
 (∀(h:Heap),(∀b o,h0.get? b=some o->h.get? b=some o)->∃k,(k=Keeper.frame\/k=Keeper.machine\/k=Keeper.boundFrame)/\Looks (model g.prog g.w) h (keeperOf v) k)/\
 ∀ {A:Around} {Fs:List Addr} {env:Env} {sc:Scope} {Z:Zm} {as:List Addr} {s:Shared} {ai:List Value},Fm A Fs env sc false->Rm A n->St g h0 Fs Z as O s.heap->aO g Z as args ai->
  wpAny (model g.prog g.w) A (call v ai) (PV g h0 Fs Z as s (C x args O)) (PE g h0 Fs Z as s (C x args O)) s
noncomputable def bX (g:Gd) (h0:Heap) (n:Nat) (I:bQ):Prop:=∀ {q:Bool} {sc:Scope} {e:Expr} {J:Loc} {O:B} {A:Around} {Fs:List Addr} {env:Env} {Z:Zm} {as:List Addr} {s:Shared},
 Fm A Fs env sc q->Rm A n->St g h0 Fs Z as O s.heap->aW g Z as J env s.heap->I.e q sc e J O≠ .stuck->
  wpAny (model g.prog g.w) A (eval e env) (PV g h0 Fs Z as s (I.e q sc e J O)) (PE g h0 Fs Z as s (I.e q sc e J O)) s
noncomputable def PB:Bool->Zm->List Addr->Bool->Prop:=fun b _ _ c=>b=c
noncomputable def g0 (g:Gd) (h0:Heap) (n:Nat) (I:bQ):Prop:=∀ {q:Bool} {sc:Scope} {e:Expr} {J:Loc} {O:B} {A:Around} {Fs:List Addr} {env:Env} {Z:Zm} {as:List Addr} {s:Shared},
 Fm A Fs env sc q->Rm A n->St g h0 Fs Z as O s.heap->aW g Z as J env s.heap->I.t q sc e J O≠ .stuck->
  wpAny (model g.prog g.w) A (isTrue e env (eval e env)) (PG PB g h0 Fs Z as s (I.t q sc e J O)) (PE g h0 Fs Z as s (I.t q sc e J O)) s
noncomputable def Mz (g:Gd):List V->Zm->List Addr->List Value->Prop:=fun vs Z as ai=>aO g Z as vs ai
theorem iq {α β:Type} {r:R α} {k:α->B->R β} (h:r.bind k≠ .stuck):r≠ .stuck:=fun e=>by subst e;exact h rfl
noncomputable def gL (I:bQ):Prop:=∀q sc es k p J O,I.e q sc (.Set es k p) J O=.stuck
theorem Gw {I:bQ} (hs:gL I) {q:Bool} {sc:Scope} {e:Expr} {J:Loc} {O:B} {op:CmpOp} (h:I.e q sc e J O≠ .stuck):behindInMarks op e=false:=by
 induction e using Expr.casesOn<;>first|rfl|exact absurd (hs _ _ _ _ _ _ _) h
theorem vu {e:Expr} {rest:List Expr} {env:Env} (h:fX e=true):starEach (e::rest) env=(false,eval e env)::starEach rest env:=by
 induction e using Expr.casesOn<;>first|rfl|exact ff h
theorem DW:∀ {es:List Expr} {env:Env},es.all fX=true->∀pos,(backTo pos (starEach es env)).any (·.1)=false
 | [],_,_,_=>rfl
 |e::r,env,h,pos=>by
  rw [List.all_cons,Bool.and_eq_true] at h;rw [vu h.1];show (false||(backTo pos (starEach r env)).any (·.1))=false;rw [DW h.2];rfl
section
variable {α β:Type} {g:Gd} {h0:Heap} {mb:Gv} {fns:Str->Bool} {Fs:List Addr} {Z ak:Zm} {as aj:List Addr} {O σ₁:B} {A:Around} {s:Shared} {J:Loc} {env:Env} {sc:Scope} {q:Bool} {h ag:Heap} {tk:Nat}
theorem lift {P:α->Zm->List Addr->β->Prop} {t:Sem β} {r:R α} (S:St g h0 Fs Z as O s.heap) (G:Go g h0 Fs Z as s.heap ak aj σ₁ ag)
 (w:wpAny (model g.prog g.w) A t (PG P g h0 Fs ak aj {s with heap:=ag,toks:=tk} r) (PE g h0 Fs ak aj {s with heap:=ag,toks:=tk} r) {s with heap:=ag,toks:=tk}):
 wpAny (model g.prog g.w) A t (PG P g h0 Fs Z as s r) (PE g h0 Fs Z as s r) {s with heap:=ag,toks:=tk}:=
 wpAny_mono w (fun _ _ x=>PG.trans G x) fun _ _ x=>PE.trans S G x
theorem ip {P:α->Zm->List Addr->β->Prop} (S:St g h0 Fs Z as O s.heap) {v:α} {val:β} {tk:Nat} (r:P v Z as val):PG P g h0 Fs Z as s (.ok v O) val {s with toks:=tk}:=
 ⟨v,O,s.heap,tk,Z,as,rfl,rfl,Go.refl S,r⟩
@[elab_as_elim] theorem dy {α:Type} {r:R α} {motive:R α->Prop} (af:r≠ .stuck) (k:∀R,r=R->R≠ .stuck->motive R):motive r:=k r rfl af
theorem sq {α:Type} {b:Bool} {r R:R α} (e:(bif b then r else .stuck)=R) (hR:R≠ .stuck):b=true/\r=R:=by
 induction b using aN with
 |true=>exact ⟨rfl,e⟩
 |false=>exact absurd e.symm hR
theorem pT {α β:Type} {o:Option β} {k:β->R α} {R:R α} (e:aX o k=R) (hR:R≠ .stuck):∃b,o=some b/\k b=R:=by
 induction o using aA with
 |none=>exact absurd e.symm hR
 |some b=>exact ⟨b,rfl,e⟩
theorem lZ {γ:Type} {P:α->Zm->List Addr->γ->Prop} {m:Sem γ} {r:R α} {f:α->B->R β} {R:R β} {Q:γ->Shared->Prop} (S:St g h0 Fs Z as O s.heap) (G:Go g h0 Fs Z as s.heap ak aj σ₁ ag)
 (H:r≠ .stuck->wpAny (model g.prog g.w) A m (PG P g h0 Fs ak aj {s with heap:=ag,toks:=tk} r) (PE g h0 Fs ak aj {s with heap:=ag,toks:=tk} r) {s with heap:=ag,toks:=tk}) (e:r.bind f=R) (hR:R≠ .stuck)
 (k:∀v bn aM bE bj bM val,f v bn=R->Go g h0 Fs ak aj ag bj bM bn aM->P v bj bM val->Q val {s with heap:=aM,toks:=bE}):wpAny (model g.prog g.w) A m Q (PE g h0 Fs Z as s R) {s with heap:=ag,toks:=tk}:=by
 subst e;refine wpAny_mono (H (iq hR)) (fun val hW x=>?_) fun _ _ x=>PE.trans S G x.bind;obtain ⟨v,bn,aM,bE,bj,bM,e,rfl,aS,p⟩:=x;exact k v bn aM bE bj bM val (by rw [e];rfl) aS p
theorem dv {γ:Type} {P:α->Zm->List Addr->γ->Prop} {m:Sem γ} {r:R α} {f:α->B->R β} {R:R β} {Q:γ->Shared->Prop}
 (H:r≠ .stuck->wpAny (model g.prog g.w) A m (PG P g h0 Fs Z as s r) (PE g h0 Fs Z as s r) s) (e:r.bind f=R) (hR:R≠ .stuck)
 (k:∀v bn aM bE bj bM val,f v bn=R->Go g h0 Fs Z as s.heap bj bM bn aM->P v bj bM val->Q val {s with heap:=aM,toks:=bE}):wpAny (model g.prog g.w) A m Q (PE g h0 Fs Z as s R) s:=by
 subst e;refine wpAny_mono (H (iq hR)) (fun val hW x=>?_) fun _ _ x=>x.bind;obtain ⟨v,bn,aM,bE,bj,bM,e,rfl,aS,p⟩:=x;exact k v bn aM bE bj bM val (by rw [e];rfl) aS p
variable {I:bQ} {n:Nat}
theorem Ah (IE:bX g h0 n I) (F:Fm A Fs env sc q) (rm:Rm A n) {pos:Pos}:∀ {es:List Expr} {O:B} {Z:Zm} {as:List Addr} {s:Shared},es.all fX=true->St g h0 Fs Z as O s.heap->aW g Z as J env s.heap->
 dX (fun e O=>I.e q sc e J O) es O≠ .stuck->
 wpAny (model g.prog g.w) A (spliced (backTo pos (starEach es env))) (PG (Mz g) g h0 Fs Z as s (dX (fun e O=>I.e q sc e J O) es O)) (PE g h0 Fs Z as s (dX (fun e O=>I.e q sc e J O) es O)) s:=by
 intro es;induction es with
 |nil=>intro O Z as s _ S l _;exact wpAny_items_nil (ip (tk:=s.toks) S .nil)
 |cons e r ih=>
  intro O Z as s hp S l af;rw [List.all_cons,Bool.and_eq_true] at hp;refine dy af fun R e hR=>wpAny_items_cons (dv (IE F rm S l) e hR fun v σ₁ ag tk ak aj val e G rv=>lZ S G (ih hp.2 G.st (l.go S F.mem G)) e hR fun vs bn aM bE bj bM ai e aS jV=>?_) (vu hp.1);subst e;exact ⟨v::vs,bn,aM,bE,bj,bM,rfl,rfl,G.trans aS,.cons (rv.mono aS.bz aS.pre) jV⟩
theorem OS (IE:bX g h0 n I) (F:Fm A Fs env sc q) (rm:Rm A n) {pos:Pos} {k:Nat} {es:List Expr} (hp:es.all fX=true) (S:St g h0 Fs Z as O s.heap) (l:aW g Z as J env s.heap)
 (af:(dX (fun e O=>I.e q sc e J O) es O).bind (fun vs O=>bif bd vs.length then R.ok (V.tup vs) O else .stuck)≠ .stuck):
 wpAny (model g.prog g.w) A (eval (.Tuple es k pos) env) (PV g h0 Fs Z as s ((dX (fun e O=>I.e q sc e J O) es O).bind fun vs O=>bif bd vs.length then .ok (.tup vs) O else .stuck))
  (PE g h0 Fs Z as s ((dX (fun e O=>I.e q sc e J O) es O).bind fun vs O=>bif bd vs.length then R.ok (V.tup vs) O else .stuck)) s:=by
 refine dy af fun R e hR=>wpAny_Tuple (dv (Ah IE F rm hp S l) e hR fun vs σ₁ ag tk ak aj ai e G jV=>?_);refine aK (sq e hR ) ?_;rintro c rfl;exact ⟨by rw [<- jV.length];exact ej c,PV.trans (tk:=tk) G (yh (tk:=tk) G.st rfl (.tup bp.at (jV.mono (bp.le (G.st.fresh (dg _))) (bI.refl _)).toArray))⟩
theorem Pb (IE:bX g h0 n I) (F:Fm A Fs env sc q) (rm:Rm A n) {pos:Pos} {es:List Expr} (hp:es.all fX=true) (S:St g h0 Fs Z as O s.heap) (l:aW g Z as J env s.heap)
 (af:(dX (fun e O=>I.e q sc e J O) es O).bind (fun vs O=>bif bd vs.length then newObj O (.list vs) else .stuck)≠ .stuck):
 wpAny (model g.prog g.w) A (eval (.List es pos) env) (PV g h0 Fs Z as s ((dX (fun e O=>I.e q sc e J O) es O).bind fun vs O=>bif bd vs.length then newObj O (.list vs) else .stuck))
  (PE g h0 Fs Z as s ((dX (fun e O=>I.e q sc e J O) es O).bind fun vs O=>bif bd vs.length then newObj O (.list vs) else .stuck)) s:=by
 refine dy af fun R e hR=>wpAny_List (dv (Ah IE F rm hp S l) e hR fun vs σ₁ ag tk ak aj ai e G jV=>?_);refine aK (sq e hR ) ?_;rintro c rfl;exact ⟨by rw [<- jV.length];exact ej c,PV.trans (tk:=tk) G (vI (tk:=tk) G.st rfl ⟨_,0,Heap.get?_push_size _ rfl,(aO.mono (bW.refl _) (bI.append _ _) jV).toArray⟩)⟩
theorem K_ (IE:bX g h0 n I) (F:Fm A Fs env sc q) (rm:Rm A n) {pos:Pos} {l r:Expr} {op:Operator} (S:St g h0 Fs Z as O s.heap) (lo:aW g Z as J env s.heap)
 (af:((I.e q sc l J O).bind fun a O=>(I.e q sc r J O).bind fun b O=>ct op a b O)≠ .stuck):
 wpAny (model g.prog g.w) A (eval (.BinOp l op r pos) env) (PV g h0 Fs Z as s ((I.e q sc l J O).bind fun a O=>(I.e q sc r J O).bind fun b O=>ct op a b O))
  (PE g h0 Fs Z as s ((I.e q sc l J O).bind fun a O=>(I.e q sc r J O).bind fun b O=>ct op a b O)) s:=by
 refine dy af fun R e hR=>wpAny_BinOp (dv (IE F rm S lo) e hR fun a σ₁ ag tk ak aj va e G ra=>lZ S G (IE F rm G.st (lo.go S F.mem G)) e hR fun b bn aM bE bj bM vb e aS rb=>?_);subst e;exact wpAny_mono (Bz (s:={s with heap:=aM,toks:=bE}) aS.st (ra.mono aS.bz aS.pre) rb hR) (fun _ _ x=>PV.trans (G.trans aS) x) fun _ _ x=>x
theorem I0 (IE:bX g h0 n I) (F:Fm A Fs env sc q) (rm:Rm A n) {pos:Pos} {x:Expr} {op:UnaryOp} (S:St g h0 Fs Z as O s.heap) (lo:aW g Z as J env s.heap)
 (af:((I.e q sc x J O).bind fun a O=>nw op a O)≠ .stuck):
 wpAny (model g.prog g.w) A (eval (.UnaryOp op x pos) env) (PV g h0 Fs Z as s ((I.e q sc x J O).bind fun a O=>nw op a O)) (PE g h0 Fs Z as s ((I.e q sc x J O).bind fun a O=>nw op a O)) s:=by
 refine dy af fun R e hR=>wpAny_UnaryOp (dv (IE F rm S lo) e hR fun a σ₁ ag tk ak aj va e G ra=>?_);subst e;exact wpAny_mono (Km (s:={s with heap:=ag,toks:=tk}) G.st ra hR) (fun _ _ x=>PV.trans G x) fun _ _ x=>x
noncomputable def TC (op:BoolOp) (b:Bool) (r:R V) (O:B):R V:=match op with
 |.And=>bif b then r else .ok (.bool false) O
 |.Or=>bif b then .ok (.bool true) O else r
theorem Rs {ev:Expr->B->R V} {op:BoolOp} {e f:Expr} {r:List Expr} {O:B}:jn ev op (e::f::r) O=(ev e O).bind fun v O=>aX (nq v) fun b=>TC op b (jn ev op (f::r) O) O:=by
 show R.bind _ _=_
 congr 1;funext v O
 induction v using V.casesOn<;>rfl
theorem S_ {v:V} {f:Bool->R V} {R:R V} (e:aX (nq v) f=R) (hR:R≠ .stuck):∃b,v=.bool b/\f b=R:=by
 refine aw (pT e hR ) fun b e1 e2=>?_;exact ⟨b,E3 e1,e2⟩
theorem OH (IE:bX g h0 n I) (F:Fm A Fs env sc q) (rm:Rm A n) {pos:Pos} {op:BoolOp}:∀ {es:List Expr} {O:B} {Z:Zm} {as:List Addr} {s:Shared},St g h0 Fs Z as O s.heap->aW g Z as J env s.heap->
 jn (fun e O=>I.e q sc e J O) op es O≠ .stuck->
 wpAny (model g.prog g.w) A (boolOp pos op (evalEach es env)) (PV g h0 Fs Z as s (jn (fun e O=>I.e q sc e J O) op es O)) (PE g h0 Fs Z as s (jn (fun e O=>I.e q sc e J O) op es O)) s:=by
 intro es;induction es with
 |nil=>intro O Z as s _ _ af;exact absurd rfl af
 |cons e r ih=>
  induction r using bh with
  |nil=>intro O Z as s S l af;exact IE F rm S l af
  |cons f r=>
   intro O Z as s S l af;rw [Rs] at af ⊢;show wpAny _ A (do
    let v <- eval e env
    standAt pos
    let t <- holding [v] (truthy v)
    match op,t with
    |.And,false| .Or,true=>pure v
    |_,_=>boolOp pos op (evalEach (f::r) env)) _ _ s
   refine dy af fun R e hR=>wpAny_bind (dv (IE F rm S l) e hR fun a σ₁ ag tk ak aj va e G ra=>?_);refine aw (S_ e hR ) ?_;rintro b rfl e;obtain rfl:=ra.out;refine wpAny_bind (wpAny_standAt (wpAny_bind (wpAny_holding (wpAny_truthy_bool ?_))));have ih:=fun h=>lift (tk:=tk) S G (ih (s:={s with heap:=ag,toks:=tk}) G.st (l.go S F.mem G) h);have here:∀b,PV g h0 Fs Z as s (.ok (.bool b) σ₁) (.bool b) {s with heap:=ag,toks:=tk}:=fun b=>PV.trans (tk:=tk) G (cg (tk:=tk) G.st (.bool _));induction op using BoolOp.casesOn<;>induction b using aN<;>subst e
   ·exact wpAny_pure (here _)
   ·exact ih hR
   ·exact ih hR
   ·exact wpAny_pure (here _)
theorem K1 (IE:bX g h0 n I) (IT:g0 g h0 n I) (F:Fm A Fs env sc q) (rm:Rm A n) {pos:Pos} {t b o:Expr} (S:St g h0 Fs Z as O s.heap) (lo:aW g Z as J env s.heap)
 (af:((I.t q sc t J O).bind fun c O=>bif c then I.e q sc b J O else I.e q sc o J O)≠ .stuck):
 wpAny (model g.prog g.w) A (eval (.IfExp t b o pos) env) (PV g h0 Fs Z as s ((I.t q sc t J O).bind fun c O=>bif c then I.e q sc b J O else I.e q sc o J O))
  (PE g h0 Fs Z as s ((I.t q sc t J O).bind fun c O=>bif c then I.e q sc b J O else I.e q sc o J O)) s:=by
 rw [arm_eval_IfExp];refine dy af fun R e hR=>wpAny_bind (dv (IT F rm S lo) e hR fun a σ₁ ag tk ak aj c e G p=>?_);subst e;obtain rfl:a=c:=p;induction a using aN with
 |true=>exact lift S G (IE F rm G.st (lo.go S F.mem G) hR)
 |false=>exact lift S G (IE F rm G.st (lo.go S F.mem G) hR)
theorem F_ {ev:Expr->B->R V} {l:V} {op:CmpOp} {ops:List CmpOp} {cs:List Expr} {O:B} (h:dL ev l (op::ops) cs O≠ .stuck):
 (∃r,ops=[]/\cs=[r])\/∃eD nO r r' rs,ops=eD::nO/\cs=r::r'::rs:=by
 induction ops using bh with
 |nil=>
  match cs with
  | []=>exact absurd rfl h
  | [r]=>exact .inl ⟨r,rfl,rfl⟩
  |_::_::_=>exact absurd rfl h
 |cons eD ops=>
  match cs with
  | []=>exact absurd rfl h
  | [r]=>exact absurd rfl h
  |r::r'::rs=>exact .inr ⟨eD,ops,r,r',rs,rfl,rfl⟩
theorem Fa {ev:Expr->B->R V} {l:V} {op eD:CmpOp} {ops:List CmpOp} {r r':Expr} {rs:List Expr} {O:B}:
 dL ev l (op::eD::ops) (r::r'::rs) O=(ev r O).bind fun b O=>aX (dI O op l b) fun c=>bif c then dL ev b (eD::ops) (r'::rs) O else .ok (.bool false) O:=by
 show R.bind _ _=_
 congr 1;funext b O
 generalize dI O op l b=zc;induction zc using aA with
 |none=>rfl
 |some c=>induction c using aN<;>rfl
theorem Bn {α β γ:Type} {r:R α} {f:α->B->R β} {k:β->B->R γ}:(r.bind f).bind k=r.bind fun a O=>(f a O).bind k:=by induction r using R.casesOn<;>rfl
theorem OC {ev:Expr->B->R V} {l:V} {op:CmpOp} {r:Expr} {O:B}:(dL ev l [op] [r] O).bind (fun v O=>boolOf v O)=(ev r O).bind fun b O=>aX (dI O op l b) fun c=>.ok c O:=by
 show ((ev r O).bind fun b O=>oB (dI O op l b) O).bind _=_;rw [Bn]
 congr 1;funext b O
 (generalize dI O op l b=zc;induction zc using aA)<;>rfl
theorem NY {ev:Expr->B->R V} {l:V} {op eD:CmpOp} {ops:List CmpOp} {r r':Expr} {rs:List Expr} {O:B}:
 (dL ev l (op::eD::ops) (r::r'::rs) O).bind (fun v O=>boolOf v O)=(ev r O).bind fun b O=>aX (dI O op l b) fun c=>bif c then (dL ev b (eD::ops) (r'::rs) O).bind (fun v O=>boolOf v O) else .ok false O:=by
 rw [Fa,Bn]
 congr 1;funext b O
 generalize dI O op l b=zc;induction zc using aA with
 |none=>rfl
 |some c=>induction c using aN<;>rfl
theorem H4 {o:Option Bool} {O:B} {R:R V} (e:oB o O=R) (hR:R≠ .stuck):∃c,o=some c/\Mine.R.ok (.bool c) O=R:=by
 induction o using aA with
 |none=>exact absurd e.symm hR
 |some c=>exact ⟨c,rfl,e⟩
theorem Nw (HS:gL I) (IE:bX g h0 n I) (F:Fm A Fs env sc q) (rm:Rm A n) {pos:Pos}:∀ {ops:List CmpOp} {cs:List Expr} {a:V} {va:Value} {O:B} {Z:Zm} {as:List Addr} {s:Shared},RV g Z as a va->St g h0 Fs Z as O s.heap->aW g Z as J env s.heap->
 dL (fun e O=>I.e q sc e J O) a ops cs O≠ .stuck->
 wpAny (model g.prog g.w) A (compareChain pos va ops (markedEach ops cs (evalEach cs env))) (PV g h0 Fs Z as s (dL (fun e O=>I.e q sc e J O) a ops cs O)) (PE g h0 Fs Z as s (dL (fun e O=>I.e q sc e J O) a ops cs O)) s:=by
 intro ops;induction ops with
 |nil=>intro cs a va O Z as s _ _ _ af;exact absurd rfl af
 |cons op ops ih=>
  intro cs a va O Z as s ra S l af;rcases F_ af with ⟨r,rfl,rfl⟩|⟨eD,nO,r,r',rs,rfl,rfl⟩
  ·have af:((I.e q sc r J O).bind fun b O=>oB (dI O op a b) O)≠ .stuck:=af;have hb:=Gw HS (op:=op) (iq af);show wpAny _ A (do
    let rv <- holding [va] (markedBehindIn op r (eval r env))
    standAt pos
    operate [va,rv] (compareOp op va rv)) (PV g h0 Fs Z as s ((I.e q sc r J O).bind fun b O=>oB (dI O op a b) O)) (PE g h0 Fs Z as s ((I.e q sc r J O).bind fun b O=>oB (dI O op a b) O)) s
   rw [markedBehindIn_of_false hb];refine dy af fun R e hR=>wpAny_bind (wpAny_holding (dv (IE F rm S l) e hR fun b σ₁ ag tk ak aj vb e G rb=>?_));refine aw (H4 e hR ) ?_;rintro c ec rfl;exact wpAny_bind (wpAny_standAt (wpAny_operating (vh (s:={s with heap:=ag,toks:=tk}) rm.units G.st (ra.mono G.bz G.pre) rb ec (PV.trans (tk:=tk) G (cg (tk:=tk) G.st (.bool _))))))
  ·rw [Fa] at af ⊢;show wpAny _ A (do
    let rv <- holding [va] (eval r env)
    standAt pos
    let c <- holding [va,rv] (compareOp op va rv)
    release [va,rv] [c]
    if <- holding [c,rv] (truthy c) then compareChain pos rv (eD::nO) (markedEach (eD::nO) (r'::rs) (evalEach (r'::rs) env)) else pure c) _ _ s
   refine dy af fun R e hR=>wpAny_bind (wpAny_holding (dv (IE F rm S l) e hR fun b σ₁ ag tk ak aj vb e G rb=>?_));refine aw (pT e hR ) fun c ec e=>?_;refine wpAny_bind (wpAny_standAt (wpAny_bind (wpAny_holding (vh (s:={s with heap:=ag,toks:=tk}) rm.units G.st (ra.mono G.bz G.pre) rb ec ?_))));refine wpAny_bind (wpAny_release (wpAny_bind (wpAny_holding (wpAny_truthy_bool ?_))));subst e;induction c using aN with
   |true=>exact lift S G (ih rb G.st (l.go S F.mem G) hR)
   |false=>exact wpAny_pure (PV.trans (tk:=tk) G (cg (tk:=tk) G.st (.bool _)))
theorem O7 (HS:gL I) (IE:bX g h0 n I) (F:Fm A Fs env sc q) (rm:Rm A n) {pos:Pos}:∀ {ops:List CmpOp} {cs:List Expr} {a:V} {va:Value} {O:B} {Z:Zm} {as:List Addr} {s:Shared},RV g Z as a va->St g h0 Fs Z as O s.heap->aW g Z as J env s.heap->
 (dL (fun e O=>I.e q sc e J O) a ops cs O).bind (fun v O=>boolOf v O)≠ .stuck->
 wpAny (model g.prog g.w) A (testChain pos va ops (markedEach ops cs (evalEach cs env))) (PG PB g h0 Fs Z as s ((dL (fun e O=>I.e q sc e J O) a ops cs O).bind fun v O=>boolOf v O)) (PE g h0 Fs Z as s ((dL (fun e O=>I.e q sc e J O) a ops cs O).bind fun v O=>boolOf v O)) s:=by
 intro ops;induction ops with
 |nil=>intro cs a va O Z as s _ _ _ af;exact absurd rfl af
 |cons op ops ih=>
  intro cs a va O Z as s ra S l af;rcases F_ (iq af) with ⟨r,rfl,rfl⟩|⟨eD,nO,r,r',rs,rfl,rfl⟩
  ·rw [OC] at af ⊢;have hb:=Gw HS (op:=op) (iq af);show wpAny _ A (do
    let rv <- holding [va] (markedBehindIn op r (eval r env))
    standAt pos
    let c <- operate [va,rv] (compareOp op va rv)
    holding [c] (truthy c)) _ _ s
   rw [markedBehindIn_of_false hb];refine dy af fun R e hR=>wpAny_bind (wpAny_holding (dv (IE F rm S l) e hR fun b σ₁ ag tk ak aj vb e G rb=>?_));refine aw (pT e hR ) ?_;rintro c ec rfl;exact wpAny_bind (wpAny_standAt (wpAny_bind (wpAny_operating (vh (s:={s with heap:=ag,toks:=tk}) rm.units G.st (ra.mono G.bz G.pre) rb ec (wpAny_holding (wpAny_truthy_bool (PG.trans (tk:=tk) G (ip (tk:=tk) G.st rfl))))))))
  ·rw [NY] at af ⊢;show wpAny _ A (do
    let rv <- holding [va] (eval r env)
    standAt pos
    let c <- holding [va,rv] (compareOp op va rv)
    release [va,rv] [c]
    if <- holding [c,rv] (truthy c) then testChain pos rv (eD::nO) (markedEach (eD::nO) (r'::rs) (evalEach (r'::rs) env)) else pure false) _ _ s
   refine dy af fun R e hR=>wpAny_bind (wpAny_holding (dv (IE F rm S l) e hR fun b σ₁ ag tk ak aj vb e G rb=>?_));refine aw (pT e hR ) fun c ec e=>?_;refine wpAny_bind (wpAny_standAt (wpAny_bind (wpAny_holding (vh (s:={s with heap:=ag,toks:=tk}) rm.units G.st (ra.mono G.bz G.pre) rb ec ?_))));refine wpAny_bind (wpAny_release (wpAny_bind (wpAny_holding (wpAny_truthy_bool ?_))));subst e;induction c using aN with
   |true=>exact lift S G (ih rb G.st (l.go S F.mem G) hR)
   |false=>exact wpAny_pure (PG.trans (tk:=tk) G (ip (tk:=tk) G.st rfl))
theorem JL (HS:gL I) (IE:bX g h0 n I) (F:Fm A Fs env sc q) (rm:Rm A n) {pos:Pos} {x:Expr} {ops:List CmpOp} {cs:List Expr} (S:St g h0 Fs Z as O s.heap) (lo:aW g Z as J env s.heap)
 (af:((I.e q sc x J O).bind fun a O=>dL (fun e O=>I.e q sc e J O) a ops cs O)≠ .stuck):
 wpAny (model g.prog g.w) A (eval (.Compare x ops cs pos) env) (PV g h0 Fs Z as s ((I.e q sc x J O).bind fun a O=>dL (fun e O=>I.e q sc e J O) a ops cs O))
  (PE g h0 Fs Z as s ((I.e q sc x J O).bind fun a O=>dL (fun e O=>I.e q sc e J O) a ops cs O)) s:=by
 rw [arm_eval_Compare];refine dy af fun R e hR=>wpAny_bind (dv (IE F rm S lo) e hR fun a σ₁ ag tk ak aj va e G ra=>?_);subst e;exact lift S G (Nw HS IE F rm ra G.st (lo.go S F.mem G) hR)
theorem RL (HS:gL I) (IE:bX g h0 n I) (F:Fm A Fs env sc q) (rm:Rm A n) {pos:Pos} {x:Expr} {ops:List CmpOp} {cs:List Expr} {vZ:Sem Value} (S:St g h0 Fs Z as O s.heap) (lo:aW g Z as J env s.heap)
 (af:((I.e q sc x J O).bind fun a O=>(dL (fun e O=>I.e q sc e J O) a ops cs O).bind fun v O=>boolOf v O)≠ .stuck):
 wpAny (model g.prog g.w) A (isTrue (.Compare x ops cs pos) env vZ) (PG PB g h0 Fs Z as s ((I.e q sc x J O).bind fun a O=>(dL (fun e O=>I.e q sc e J O) a ops cs O).bind fun v O=>boolOf v O))
  (PE g h0 Fs Z as s ((I.e q sc x J O).bind fun a O=>(dL (fun e O=>I.e q sc e J O) a ops cs O).bind fun v O=>boolOf v O)) s:=by
 rw [arm_isTrue_Compare];refine dy af fun R e hR=>wpAny_bind (dv (IE F rm S lo) e hR fun a σ₁ ag tk ak aj va e G ra=>?_);subst e;exact lift S G (O7 HS IE F rm ra G.st (lo.go S F.mem G) hR)
end
section
variable {α β:Type} {g:Gd} {h0:Heap} {mb:Gv} {Fs:List Addr} {Z ak:Zm} {as aj:List Addr} {O σ₁:B} {A:Around} {s:Shared} {J:Loc} {env:Env} {sc:Scope} {q:Bool} {h ag:Heap} {tk:Nat} {I:bQ} {n:Nat}
theorem MS (IT:g0 g h0 n I) (F:Fm A Fs env sc q) (rm:Rm A n) {op:BoolOp}:∀ {es:List Expr} {O:B} {Z:Zm} {as:List Addr} {s:Shared},St g h0 Fs Z as O s.heap->aW g Z as J env s.heap->
 eR (fun e O=>I.t q sc e J O) op es O≠ .stuck->
 wpAny (model g.prog g.w) A (allTrue op es env) (PG PB g h0 Fs Z as s (eR (fun e O=>I.t q sc e J O) op es O)) (PE g h0 Fs Z as s (eR (fun e O=>I.t q sc e J O) op es O)) s:=by
 intro es;induction es with
 |nil=>
  intro O Z as s S l _;induction op using BoolOp.casesOn with
  |And=>exact wpAny_pure (ip (tk:=s.toks) S rfl)
  |Or=>exact wpAny_pure (ip (tk:=s.toks) S rfl)
 |cons e r ih=>
  intro O Z as s S l af;rw [arm_allTrue_cons];refine dy af fun R e hR=>wpAny_bind (dv (IT F rm S l) e hR fun a σ₁ ag tk ak aj c e G p=>?_);obtain rfl:a=c:=p;have ih:=fun h=>lift (tk:=tk) S G (ih (s:={s with heap:=ag,toks:=tk}) G.st (l.go S F.mem G) h);induction op using BoolOp.casesOn<;>induction a using aN<;>subst e
  ·exact wpAny_pure (PG.trans (tk:=tk) G (ip (tk:=tk) G.st rfl))
  ·exact ih hR
  ·exact ih hR
  ·exact wpAny_pure (PG.trans (tk:=tk) G (ip (tk:=tk) G.st rfl))
theorem L7 (IT:g0 g h0 n I) (F:Fm A Fs env sc q) (rm:Rm A n) {pos:Pos} {x:Expr} {vZ:Sem Value} (S:St g h0 Fs Z as O s.heap) (lo:aW g Z as J env s.heap)
 (af:((I.t q sc x J O).bind fun b O=>R.ok (!b) O)≠ .stuck):
 wpAny (model g.prog g.w) A (isTrue (.UnaryOp .Not x pos) env vZ) (PG PB g h0 Fs Z as s ((I.t q sc x J O).bind fun b O=>R.ok (!b) O)) (PE g h0 Fs Z as s ((I.t q sc x J O).bind fun b O=>R.ok (!b) O)) s:=by
 rw [arm_isTrue_UnaryOp];refine dy af fun R e hR=>wpAny_bind (dv (IT F rm S lo) e hR fun a σ₁ ag tk ak aj c e G p=>?_);obtain rfl:a=c:=p;subst e;exact wpAny_pure (PG.trans (tk:=tk) G (ip (tk:=tk) G.st rfl))
theorem LS {v:V} {O:B} {R:R Bool} (e:boolOf v O=R) (hR:R≠ .stuck):∃b,v=.bool b/\Mine.R.ok b O=R:=by
 induction v using V.casesOn with
 |bool b=>exact ⟨b,rfl,e⟩
 |_=>exact absurd e.symm hR
theorem Gi (IE:bX g h0 n I) (F:Fm A Fs env sc q) (rm:Rm A n) {e:Expr} (S:St g h0 Fs Z as O s.heap) (lo:aW g Z as J env s.heap)
 (he:isTrue e env (eval e env)=(do let v <- eval e env;standAt e.pos;holding [v] (truthy v)))
 (af:((I.e q sc e J O).bind fun v O=>boolOf v O)≠ .stuck):
 wpAny (model g.prog g.w) A (isTrue e env (eval e env)) (PG PB g h0 Fs Z as s ((I.e q sc e J O).bind fun v O=>boolOf v O)) (PE g h0 Fs Z as s ((I.e q sc e J O).bind fun v O=>boolOf v O)) s:=by
 refine dy af fun R e hR=>wpAny_isTrue_value (dv (IE F rm S lo) e hR fun a σ₁ ag tk ak aj va e G ra=>?_) he;refine aw (LS e hR ) ?_;rintro b rfl rfl;obtain rfl:=ra.out;exact wpAny_truthy_bool (PG.trans (tk:=tk) G (ip (tk:=tk) G.st rfl))
theorem QI {Γ:Ctx} (HS:gL I) (IE:bX g h0 n I) (IT:g0 g h0 n I) (F:Fm A Fs env sc q) (rm:Rm A n) {e:Expr} (S:St g h0 Fs Z as O s.heap) (lo:aW g Z as J env s.heap)
 (af:stepT Γ I q sc e J O≠ .stuck):
 wpAny (model g.prog g.w) A (isTrue e env (eval e env)) (PG PB g h0 Fs Z as s (stepT Γ I q sc e J O)) (PE g h0 Fs Z as s (stepT Γ I q sc e J O)) s:=by
 induction e using Expr.casesOn with
 |UnaryOp op x p=>
  induction op using UnaryOp.casesOn with
  |Not=>exact L7 IT F rm S lo af
  |_=>exact Gi IE F rm S lo rfl af
 |BoolOp op vs p=>exact wpAny_isTrue_BoolOp (MS IT F rm S lo af)
 |IfExp t b o p=>exact absurd rfl af
 |Compare x ops cs p=>exact RL HS IE F rm S lo af
 |_=>exact Gi IE F rm S lo rfl af
inductive tF (ev:Expr->B->R V) (e:Expr) (O:B):Prop
 |txt (s:Str) (k:Nat) (p:Pos):e=.Constant (.str s) k p->ib ev e O=.ok (.str s) O->tF ev e O
 |val (v:Expr) (p:Pos):e=.FormattedValue v (-1) none p->ib ev e O=((ev v O).bind fun a O=>aX (cX a) fun x=>bif bd x.length then .ok (.str x) O else .stuck)->tF ev e O
theorem S3 {ev:Expr->B->R V} {e:Expr} {O:B} (h:ib ev e O≠ .stuck):tF ev e O:=by
 induction e using Expr.casesOn with
 |Constant c k p=>
  induction c using Const.casesOn with
  |str s=>exact .txt s k p rfl rfl
  |_=>exact absurd rfl h
 |FormattedValue v c f p=>
  induction f using aA with
  |some _=>exact absurd rfl h
  |none=>
   have c1:=dJ h;obtain rfl:=eq_of_beq c1;refine .val v p rfl ?_;show (ev v O).bind _=_
   congr 1;funext a O
   induction a using V.casesOn<;>rfl
 |_=>exact absurd rfl h
theorem JX {ev:Expr->B->R V} {acc:Str} {e:Expr} {r:List Expr} {O:B}:jL ev acc (e::r) O=(ev e O).bind fun v O=>aX (cX v) fun x=>bif bd (acc.length+x.length) then jL ev (acc++x) r O else .stuck:=by
 show R.bind _ _=R.bind _ _
 congr 1;funext v O
 induction v using V.casesOn<;>rfl
theorem Tr (IE:bX g h0 n I) (F:Fm A Fs env sc q) (rm:Rm A n) {e:Expr} (S:St g h0 Fs Z as O s.heap) (l:aW g Z as J env s.heap) (af:ib (fun e O=>I.e q sc e J O) e O≠ .stuck):
 wpAny (model g.prog g.w) A (eval e env) (PV g h0 Fs Z as s (ib (fun e O=>I.e q sc e J O) e O)) (PE g h0 Fs Z as s (ib (fun e O=>I.e q sc e J O) e O)) s:=by
 generalize S3 af=zc;induction zc using tF.casesOn with
 |txt x k p e1 e2=>subst e1;rw [e2];exact wpAny_Constant_str (cg S (.str _ _))
 |val v p e1 e2=>
  subst e1;rw [e2] at af ⊢;refine dy af fun R e hR=>wpAny_FormattedValue_plain (dv (IE F rm S l) e hR fun a σ₁ ag tk ak aj va e G ra=>?_);refine aw (pT e hR ) fun y e1 e=>?_;refine aB (ra.fL e1 ) ?_;rintro t rfl;refine aK (sq e hR ) ?_;rintro c rfl;exact wpAny_formatField_str (PV.trans (tk:=tk) G (cg (tk:=tk) G.st (.str _ _))) (PV.trans (tk:=tk) G (cg G.st (.str _ _))) (ej c)
theorem Fz (IE:bX g h0 n I) (F:Fm A Fs env sc q) (rm:Rm A n):∀ {es:List Expr} {acc:Str} {O:B} {Z:Zm} {as:List Addr} {s:Shared},acc.length<=sizeLine->St g h0 Fs Z as O s.heap->aW g Z as J env s.heap->
 jL (fun e O=>ib (fun e O=>I.e q sc e J O) e O) acc es O≠ .stuck->
 wpAny (model g.prog g.w) A (joinParts acc (evalEach es env)) (PV g h0 Fs Z as s (jL (fun e O=>ib (fun e O=>I.e q sc e J O) e O) acc es O)) (PE g h0 Fs Z as s (jL (fun e O=>ib (fun e O=>I.e q sc e J O) e O) acc es O)) s:=by
 intro es;induction es with
 |nil=>intro acc O Z as s ha S l _;exact wpAny_mkStr (cg S (.str _ _)) ha
 |cons e r ih=>
  intro acc O Z as s ha S l af;rw [JX] at af ⊢;show wpAny _ A (joinParts acc (eval e env::evalEach r env)) _ _ s;rw [joinParts];refine dy af fun R e hR=>wpAny_bind (dv (Tr IE F rm S l) e hR fun a σ₁ ag tk ak aj va e G ra=>?_);refine aw (pT e hR ) fun y e1 e=>?_;refine aB (ra.fL e1 ) ?_;rintro t rfl;refine aK (sq e hR ) ?_;rintro c rfl;have hz:acc.length+y.length<=sizeLine:=ej c;refine wpAny_bind (wpAny_pure ?_);show wpAny _ A (if acc.length+y.length>sizeLine then _ else _) _ _ _;rw [if_neg (Nat.not_lt.mpr hz)];exact lift S G (ih (by rw [strLen_append];exact hz) G.st (l.go S F.mem G) hR)
theorem Qy (IE:bX g h0 n I) (F:Fm A Fs env sc q) (rm:Rm A n) {ps:List Expr} {pos:Pos} (S:St g h0 Fs Z as O s.heap) (lo:aW g Z as J env s.heap)
 (af:m8 (fun e O=>I.e q sc e J O) ps O≠ .stuck):
 wpAny (model g.prog g.w) A (eval (.JoinedStr ps pos) env) (PV g h0 Fs Z as s (m8 (fun e O=>I.e q sc e J O) ps O)) (PE g h0 Fs Z as s (m8 (fun e O=>I.e q sc e J O) ps O)) s:=by
 rw [arm_eval_JoinedStr]
 match ps,af with
 | [],af=>exact Fz IE F rm (by decide) S lo af
 | [_],af=>exact absurd rfl af
 |a::b::r,af=>exact Fz IE F rm (es:=a::b::r) (by decide) S lo af
theorem AQ (IE:bX g h0 n I) (F:Fm A Fs env sc q) (rm:Rm A n) {o:Option Expr} (S:St g h0 Fs Z as O s.heap) (lo:aW g Z as J env s.heap)
 (af:gT (fun e O=>I.e q sc e J O) o O≠ .stuck):
 wpAny (model g.prog g.w) A (valueOrNone (evalOpt o env)) (PV g h0 Fs Z as s (gT (fun e O=>I.e q sc e J O) o O)) (PE g h0 Fs Z as s (gT (fun e O=>I.e q sc e J O) o O)) s:=by
 induction o using aA with
 |none=>exact wpAny_pure (cg (tk:=s.toks) S .none)
 |some e=>exact IE F rm S lo af
theorem PN (IE:bX g h0 n I) (F:Fm A Fs env sc q) (rm:Rm A n) {o:Expr} {mq lQ:Option Expr} {pos p:Pos} (S:St g h0 Fs Z as O s.heap) (lo:aW g Z as J env s.heap)
 (af:((I.e q sc o J O).bind fun v O=>(gT (fun e O=>I.e q sc e J O) mq O).bind fun a O=>(gT (fun e O=>I.e q sc e J O) lQ O).bind fun b O=>d9 v a b O)≠ .stuck):
 wpAny (model g.prog g.w) A (eval (.Subscript o (.Slice mq lQ none p) pos) env) (PV g h0 Fs Z as s ((I.e q sc o J O).bind fun v O=>(gT (fun e O=>I.e q sc e J O) mq O).bind fun a O=>(gT (fun e O=>I.e q sc e J O) lQ O).bind fun b O=>d9 v a b O))
  (PE g h0 Fs Z as s ((I.e q sc o J O).bind fun v O=>(gT (fun e O=>I.e q sc e J O) mq O).bind fun a O=>(gT (fun e O=>I.e q sc e J O) lQ O).bind fun b O=>d9 v a b O)) s:=by
 refine dy af fun R e hR=>Subscript_ (dv (IE F rm S lo) e hR fun v σ₁ ag tk ak aj vo e G rv=>?_);rw [arm_eval_Slice];have lo1:=lo.go S F.mem G;refine wpAny_bind (lZ S G (AQ IE F rm G.st lo1) e hR fun a bn aM bE bj bM va e aS ra=>?_);have om:=G.trans aS;refine wpAny_bind (wpAny_holding (lZ S om (AQ IE F rm om.st (lo1.go G.st F.mem aS)) e hR fun b pM cu gZ lP n5 vb e cF rb=>?_));refine wpAny_bind (wpAny_holding (wpAny_pure ?_));unfold newFields;refine wpAny_newObj_type ?_ (by show 3<=sizeLine+2;rw [sizeLine_eq];decide);subst e;exact wpAny_mono (S6 (s:={s with heap:=cu,toks:=gZ}) cF.st (rv.mono (aS.bz.trans cF.bz) (aS.pre.trans cF.pre)) (ra.mono cF.bz cF.pre) rb hR) (fun _ _ x=>PV.trans (om.trans cF) x) fun _ _ x=>x
theorem QX (IE:bX g h0 n I) (F:Fm A Fs env sc q) (rm:Rm A n) {o i:Expr} {pos:Pos} (mc:je i=false) (S:St g h0 Fs Z as O s.heap) (lo:aW g Z as J env s.heap)
 (af:((I.e q sc o J O).bind fun v O=>(I.e q sc i J O).bind fun a O=>fK v a O)≠ .stuck):
 wpAny (model g.prog g.w) A (eval (.Subscript o i pos) env) (PV g h0 Fs Z as s ((I.e q sc o J O).bind fun v O=>(I.e q sc i J O).bind fun a O=>fK v a O))
  (PE g h0 Fs Z as s ((I.e q sc o J O).bind fun v O=>(I.e q sc i J O).bind fun a O=>fK v a O)) s:=by
 refine dy af fun R e hR=>Subscript_ (dv (IE F rm S lo) e hR fun v σ₁ ag tk ak aj vo e G rv=>lZ S G (IE F rm G.st (lo.go S F.mem G)) e hR fun a bn aM bE bj bM va e aS ra=>?_);subst e;exact wpAny_mono (JV (s:={s with heap:=aM,toks:=bE}) mc aS.st (rv.mono aS.bz aS.pre) ra hR) (fun _ _ x=>PV.trans (G.trans aS) x) fun _ _ x=>x
end
section
open Builtin Builtin.ObjectAttr
noncomputable def eE:List Value:=[.type "Exception",.type "BaseException",.type "object"]
theorem yp:mroOf (.type "Exception")=pure eE:=by kernel_rfl
theorem LY:typeLookup (.type "Exception") "__getattribute__" = pure (some (.builtin "BaseException.__getattribute__")):=by rw [typeLookup_type,builtinLookup_eq_fast];kernel_rfl
theorem Qu:typeLookup (.type "Exception") "__getattr__" = pure none:=by rw [typeLookup_type,builtinLookup_eq_fast];kernel_rfl
theorem E':Slot "Exception" "__getattribute__" "BaseException.__getattribute__" :=
 .of (owner:= "BaseException") (n:= "__getattribute__") (by rw [typeLookup_type,builtinLookup_eq_fast];kernel_rfl) (by decide+kernel) (by decide+kernel) (by decide+kernel)
  (by first|exact .inl (by decide+kernel)|exact .inr (by decide+kernel)) (by rw [isSubtype_type];kernel_rfl)
section
variable {prog:Program} {w:World} {A:Around} {E:Value->Shared->Prop} {h:Heap} {g:Array GenState} {d:Drawn} {t:Nat} {os:OsState}
variable {nm q:Str} {C N x:Addr} {bs:List Value} {sn:List Str} {sub:List Value} {ab:Bool} {cW:Option Bool} {dd:Option Addr} {k0 k1 k2 k3 k5:Option Value} {dn:String}
 {mN mA:Str->Option Value} {name:Str} {v:Value}
set_option tactic.hygienic true in
theorem Js {tk:Tok} {Q:Fin->Shared->Prop}
 (hC:h.get? C=some (excClassObj nm q C N bs eE true sn sub ab cW dd k0 k1 k2 k3 k5 dn)) (hn:h.Ns N mN) (gB:mN name=none)
 (hB:typeLookup (.type "Exception") name=pure none) {o:Obj} {dx:Addr} (hx:h.get? x=some o) (hc:o.cls=.ref C) (mR:∀c,o.data≠ .cls c) (yz:o.dict=some dx) (af:h.Ns dx mA) (hv:mA name=some v) (hq:Q (.done (.ret v)) ⟨h,g,d,t,os⟩):
 wpAny (model prog w) A (Builtin.«object.__getattribute__» ⟨[.ref x,.str name tk],[]⟩) Q E ⟨h,g,d,t,os⟩:=by
 unfold Builtin.«object.__getattribute__»
 repeat (first|(with_reducible refine wpAny_loadPart_at hx ?_;rw [hc])|(with_reducible refine wpAny_typeLookup_exc hC hn yp hB ?_;rw [gB])|wp_step)
 split
 ·rename_i c ji;exact absurd ji (mR c)
 unfold instanceDict
 repeat (first|(with_reducible refine wpAny_loadPart_at hx ?_;rw [hc])|with_reducible refine wpAny_loadPart_at hC ?_|wp_step)
 rw [yz]
 repeat (first|(with_reducible refine wpAny_nsGet af ?_;rw [hv])|wp_step)
 exact hq
theorem Nz {M:Model} {eH:Value} {Q:Unit->Shared->Prop} {o:Obj} (hC:h.get? C=some (excClassObj nm q C N bs eE true sn sub ab cW dd k0 k1 k2 k3 k5 dn))
 (hx:h.get? x=some o) (hc:o.cls=.ref C) (hq:Q () ⟨h,g,d,t,os⟩):wpAny M A (checkBuiltinCall "BaseException.__getattribute__" ⟨[.ref x,eH],[]⟩) Q E ⟨h,g,d,t,os⟩:=by
 have hk:builtinKind "BaseException.__getattribute__" = some .slot:=by decide+kernel
 have Jl:splitId "BaseException.__getattribute__" = some ("BaseException","__getattribute__"):=by decide+kernel
 have qZ:(Value.ref C::eE).contains (.type "BaseException")=true:=by rw [List.contains_cons];simp [eE]
 have ha:=F.args_bexc_ga (.ref x) eH;simp only [checkBuiltinCall,hk,Jl];refine wpAny_bind ?_
 ·unfold isInstance
  repeat (first|(with_reducible refine wpAny_loadPart_at hx ?_;rw [hc])|(with_reducible refine wpAny_isSubtype_exc hC ?_;rw [qZ])|wp_step)
  exact hq
theorem Im {expr:Bool} {Q:Value->Shared->Prop}
 (hC:h.get? C=some (excClassObj nm q C N bs eE true sn sub ab cW dd k0 k1 k2 k3 k5 dn)) (hn:h.Ns N mN) (H':mN "__getattribute__" = none) (OW:mN "__getattr__" = none) (gB:mN name=none)
 (hB:typeLookup (.type "Exception") name=pure none) {o:Obj} {dx:Addr} (hx:h.get? x=some o) (hc:o.cls=.ref C) (mR:∀c,o.data≠ .cls c) (yz:o.dict=some dx) (af:h.Ns dx mA) (hv:mA name=some v) (hh:handedOut v=pure v) (hq:Q v ⟨h,g,d,t+1,os⟩):
 wpAny (model prog w) A (getAttr (.ref x) name expr) Q E ⟨h,g,d,t,os⟩:=by
 have f3:=E'.bind (.ref x);have A6:(expr&&onTheHeap (Value.builtin "BaseException.__getattribute__"))=false:=by induction expr using aN<;>rfl
 have QW:(Value.builtin "BaseException.__getattribute__" == Value.builtin "object.__getattribute__")=false:=by decide+kernel
 have Ul:(onTheHeap (Value.ref C)&&Value.builtin "BaseException.__getattribute__" == Value.builtin "object.__getattribute__")=false:=by rw [QW];rfl
 unfold getAttr getAttrBy
 repeat (any_goals (first|assumption|(with_reducible refine wpAny_loadPart_at hx ?_;rw [hc])|(with_reducible refine wpAny_typeLookup_exc hC hn yp LY ?_;rw [H'])|(with_reducible refine wpAny_typeLookup_exc hC hn yp Qu ?_;rw [OW])|wp_step))
 refine codeAny_call_builtin E'.plain F.entry_bexc_ga (Nz hC hx hc (Js hC hn gB hB hx hc mR yz af hv ?_))
 repeat (any_goals (first|assumption|wp_step))
end
theorem y_ {x:Str} {l:List Str} (h:l.any (seq x)=true):x∈l:=by
 refine aw (List.any_eq_true.mp h ) fun y hy e=>?_;rw [bY.mp e];exact hy
noncomputable def yj (T:String) (y:Str):Bool:=match fastLookup T y with
 |some none=>true
 |_=>false
theorem x9 {T:String} {L:List Str} (h:L.all (yj T)=true) {a:Str} (ha:L.any (seq a)=true):typeLookup (.type T) a=pure none:=by
 have h1:yj T a=true:=List.all_eq_true.mp h a (y_ ha);unfold yj at h1;rw [typeLookup_type,builtinLookup_eq_fast];generalize e:fastLookup T a=zc;induction zc using aA with
 |none=>rw [e] at h1;exact ff h1
 |some o=>
  rw [e] at h1;induction o using aA with
  |none=>rfl
  |some v=>exact ff h1
theorem Bt {a:Str} (h:jU a=true):typeLookup (.type "object") a=pure none:=x9 (by kernel_rfl) h
noncomputable def n4 (x:Str):Bool:=(["code","value","errorcode"]:List Str).any (seq x)
theorem QO {a:Str} (h:n4 a=true):typeLookup (.type "Exception") a=pure none:=x9 (by kernel_rfl) h
inductive rX (h0:Heap) (Ca:Addr) (bm:List Value) (EC:Str->Bool):Prop
 |mk (nm q:Str) (N:Addr) (bs:List Value) (sn:List Str) (sub:List Value) (ab:Bool) (cW:Option Bool) (dd:Option Addr) (k0 k1 k2 k3 k5:Option Value) (dn:String) (mN:Gv):h0.get? Ca=some (excClassObj nm q Ca N bs bm true sn sub ab cW dd k0 k1 k2 k3 k5 dn)->h0.Ns N mN->
  mN "__getattribute__" = none->mN "__setattr__" = none->mN "__getattr__" = none->(∀a,EC a=true->mN a=none)->rX h0 Ca bm EC
structure Tc (g:Gd) (h0:Heap):Prop where
 cls:∀C Ca,Aa C=true->g.mg C=some (.ref Ca)->rX h0 Ca [.type "object"] jU
 exc:∀Ca,g.mg "Raised" = some (.ref Ca)->rX h0 Ca eE n4
section
variable {g:Gd} {h0:Heap} {Fs:List Addr} {Z ak:Zm} {as aj:List Addr} {O σ₁:B} {A:Around} {E:Value->Shared->Prop} {s:Shared}
theorem B5 {v:V} {val:Value} (r:RV g Z as v val) (h:zy v=true):handedOut val=pure val:=by
 induction v using V.casesOn with
 |none=>obtain rfl:=r.out;rfl
 |bool b=>obtain rfl:=r.out;rfl
 |int i=>refine aB r.out ?_;rintro t rfl;rfl
 |str x=>refine aB r.out ?_;rintro t rfl;rfl
 |tup _=>obtain ⟨a,items,k,rfl,z,rs⟩:=r.out;rfl
 |lst _=>obtain ⟨a,items,k,rfl,z,rs⟩:=r.out;rfl
 |dct _=>generalize r.out=zc;induction zc using lm.casesOn with
  |S _ _ _ e=>rw [e];rfl
  |I _ _ _ e=>rw [e];rfl
 |rng n=>obtain ⟨a,u,t,w,rfl,_⟩:=r.out;rfl
 |eV f=>obtain ⟨a,oe,vs,rfl,_⟩:=r.out;rfl
 |loc _=>refine aw r.out ?_;rintro a rfl _;rfl
 |_=>exact Bool.noConfusion h
inductive InstAt (O:B) (o:V) (p:Str×Nat×List (Str×V)):Prop
 |mk (n:Nat):j6 o=some n->az O n=some (.inst p.1 p.2.1)->az O p.2.1=some (.ns p.2.2)->InstAt O o p
theorem R2 {o:V} {p:Str×Nat×List (Str×V)} (e:sj O o=some p):InstAt O o p:=by
 obtain ⟨n,e0,e⟩:=dp e;obtain ⟨x,e1,e⟩:=dp e;obtain ⟨q,e2,e⟩:=dp e;obtain ⟨y,e3,e⟩:=dp e;obtain ⟨l,e4,e⟩:=dp e;obtain rfl:=Option.some.inj e;induction x using aZ.casesOn with
 |inst C d=>
  obtain rfl:=Option.some.inj e2;induction y using aZ.casesOn with
  |ns l'=>obtain rfl:=Option.some.inj e4;exact ⟨n,e0,e1,e3⟩
  |_=>exact al e4
 |_=>exact al e2
inductive Av (g:Gd) (Z:Zm) (as:List Addr) (O:B) (h:Heap) (vo:Value) (C:Str) (d:Nat) (l:List (Str×V)):Prop
 |mk (x Ca dx:Addr) (m:Gv):vo=.ref x->az O d=some (.ns l)->g.mg C=some (.ref Ca)->az as d=some dx->h.get? x=some {cls:=.ref Ca,dict:=some dx,data:=.plain} -> dx≠x->h.Ns1 dx m->
  hV g Z as l m->Within m (l.map (·.1))->Av g Z as O h vo C d l
theorem E9 (S:St g h0 Fs Z as O s.heap) {o:V} {vo:Value} {p:Str×Nat×List (Str×V)} (ro:RV g Z as o vo) (e:sj O o=some p):Av g Z as O s.heap vo p.1 p.2.1 p.2.2:=by
 obtain ⟨n,e0,e1,e2⟩:=R2 e;refine aw (ro.D2 e0 ) ?_;rintro x rfl hx;refine i_ (S.obj n x _ hx e1 ) fun Ca dx h1 h2 h3=>?_;refine gR (S.obj _ dx _ h2 e2 ) fun m hn r wi=>?_;refine ⟨x,Ca,dx,m,rfl,e2,h1,h2,h3,fun q=>?_,hn,r,wi⟩;refine dW hn ?_;clear hn;intro o es ep ho hd _;rw [q,h3] at ho;obtain rfl:=Option.some.inj ho;cases hd
theorem Ms {a:Str} {o:V} {vo:Value} {expr:Bool} {p:Str×Nat×List (Str×V)} (T:Tc g h0) (S:St g h0 Fs Z as O s.heap) (ro:RV g Z as o vo) (e:sj O o=some p) (af:zx a O p≠ .stuck):
 wpAny (model g.prog g.w) A (getAttr vo a expr) (PV g h0 Fs Z as s (zx a O p)) E s:=by
 obtain ⟨v,e3,h,q1⟩:=ci af;obtain ⟨c,q2⟩:=eP h;have c:=Bool.and_eq_true_iff.mp c;have c0:=Bool.and_eq_true_iff.mp c.1;obtain ⟨x,Ca,dx,m,rfl,_,h1,h2,h3,h4,h5,h6,h7⟩:=E9 S ro e;obtain ⟨nm,q,N,bs,sn,sub,ab,cW,dd,k0,k1,k2,k3,k5,dn,mN,c1,c2,c3,c4,c5,c6⟩:=T.cls _ Ca c0.1 h1;refine aw (h6 a v e3 ) fun val v1 v2=>?_;obtain ⟨hh,gg,dr,tk,os⟩:=s;exact load_attr (S.keeps _ _ c1) (c2.keeps S.keeps) c3 (c6 a c0.2) (Bt c0.2) ⟨_,h3,rfl,fun _ z=>(nomatch z),.inr ⟨dx,rfl,h4,h5⟩⟩ v1 (B5 v2 c.2) (.eq (q1.trans q2) (cg (s:=⟨hh,gg,dr,tk,os⟩) S v2))
theorem NE (p:List (Str×Tok)):aO g Z as ((p.map (·.1)).map .str) (strValues p):=by
 induction p with
 |nil=>exact .nil
 |cons a r ih=>exact .cons (.str _ _) ih
theorem LZ {a:Str} {f:aR} {vo:Value} {expr:Bool} (T:Tc g h0) (S:St g h0 Fs Z as O s.heap) (ro:vX g Z f vo) (af:vU a O f≠ .stuck):
 wpAny (model g.prog g.w) A (getAttr vo a expr) (PV g h0 Fs Z as s (vU a O f)) E s:=by
 obtain ⟨x,oe,vs,rfl,hz,hd,C,dx,od,m,Up,items,k,t0,t1,p,q1,q2,q3,q4,q5,q6,q7,q8,q9,Mq,He⟩:=ro;obtain ⟨nm,q,N,bs,sn,sub,ab,cW,dd,k0,k1,k2,k3,k5,dn,mN,c1,c2,c3,c4,c5,c6⟩:=T.exc C q1;have key:∀(v:V) (val:Value),n4 a=true->m a=some val->RV g Z as v val->zy v=true->wpAny (model g.prog g.w) A (getAttr (.ref x) a expr) (PV g h0 Fs Z as s (.ok v O)) E s:=by
  intro v val h1 h2 h3 h4;have fU:s.heap.Ns dx m:=by
   refine i_ q5 ?_;clear q5;intro es ep e1 e2 e3;exact ⟨od,es,ep,(S.bN _ _ q4).1,e1,e2,e3⟩
  obtain ⟨hh,gg,dr,tk,os⟩:=s;exact Im (S.keeps _ _ c1) (c2.keeps S.keeps) c3 c5 (c6 a h1) (QO h1) (S.bN _ _ hz).1 q2 (fun c z=>by rw [hd] at z;exact Data.noConfusion z) q3 fU h2 (B5 h3 h4) (cg (s:=⟨hh,gg,dr,tk,os⟩) S h3)
 clear c1 c2 c3 c4 c5 c6 hz hd q2 q3 q4 q5;unfold vU at af ⊢;rcases mC af with ⟨c,_,q⟩|⟨_,h,q⟩<;>rw [q]
 ·obtain rfl:=bY.mp c;exact key _ _ (by decide+kernel) q6 (.int _ _) rfl
 rcases mC h with ⟨c,_,q⟩|⟨_,h,q⟩<;>rw [q]
 ·obtain rfl:=bY.mp c;exact key _ _ (by decide+kernel) q7 (.str _ _) rfl
 obtain ⟨c,q⟩:=eP h;rw [q];obtain rfl:=bY.mp c;exact key _ _ (by decide+kernel) q8 (.tup q9 (by rw [Mq,<- He];exact NE p)) rfl
theorem I6 {a:Str} {o:V} {vo:Value} {expr:Bool} (T:Tc g h0) (S:St g h0 Fs Z as O s.heap) (ro:RV g Z as o vo) (af:lX a o O≠ .stuck):
 wpAny (model g.prog g.w) A (getAttr vo a expr) (PV g h0 Fs Z as s (lX a o O)) E s:=by
 unfold lX at af ⊢;generalize iE af=zc;induction zc using gA.casesOn with
 |some f e h q=>rw [q];exact LZ T S (ro.M9 e) h
 |none _ h q=>
 obtain ⟨p,e,h,q1⟩:=ci h;rw [q,q1];exact Ms T S ro e h
theorem vF {x:Str} {p:Str×V} {r:Loc} (e:p.1=x):dk x (p::r)=some p.2:=cH (bY.mpr e)
theorem rQ {x:Str} {p:Str×V} {r:Loc} (e:p.1≠x):dk x (p::r)=dk x r:=gy (gq.mpr e)
theorem BA {x:Str} {v:V} {p:Str×V} {r:Loc} (e:p.1=x):putL x v (p::r)=(p.1,v)::r:=cH (bY.mpr e)
theorem Ar {x:Str} {v:V} {p:Str×V} {r:Loc} (e:p.1≠x):putL x v (p::r)=p::putL x v r:=gy (gq.mpr e)
theorem xH (x:Str) (v:V) (l:Loc) (y:Str):dk y (putL x v l)=if y=x then some v else dk y l:=by
 induction l with
 |nil=>
  by_cases e:y=x
  ·exact (vF e.symm).trans (if_pos e).symm
  ·exact (rQ (Ne.symm e)).trans (if_neg e).symm
 |cons p r ih=>
  by_cases e:p.1=x
  ·rw [BA e];by_cases e2:y=x
   ·exact (vF (p:=(p.1,v)) (e.trans e2.symm)).trans (if_pos e2).symm
   ·have ne:p.1≠y:=fun z=>e2 (z.symm.trans e);exact ((rQ (p:=(p.1,v)) ne).trans (rQ ne).symm).trans (if_neg e2).symm
  ·rw [Ar e];by_cases e3:p.1=y
   ·exact (vF e3).trans ((if_neg fun z=>e (e3.trans z)).trans (vF e3)).symm
   ·rw [rQ e3,ih,rQ e3]
theorem hV.put {J:Loc} {m:Gv} (r:hV g Z as J m) {x:Str} {v:V} {val:Value} (rv:RV g Z as v val):hV g Z as (putL x v J) (fun y=>if y=x then some val else m y):=fun y w e=>by
 rw [xH] at e;by_cases q:y=x
 ·rw [if_pos q] at e;obtain rfl:=Option.some.inj e;exact ⟨val,by simp [q],rv⟩
 ·rw [if_neg q] at e;refine aw (r y w e ) fun u a b=>?_;exact ⟨u,by simp [q,a],b⟩
theorem Dz (x:Str) (v:V) (l:Loc) (y:Str):(y=x\/y∈l.map (·.1))->y∈(putL x v l).map (·.1):=by
 induction l with
 |nil=>exact fun h=>h.elim (fun e=>e▸ .head _) fun h=>nomatch h
 |cons p r ih=>
  intro h;by_cases e:p.1=x
  ·rw [BA e];exact h.elim (fun h=>(h.trans e.symm)▸ .head _) id
  ·rw [Ar e];refine h.elim (fun h=>.tail _ (ih (.inl h))) fun h=>?_;rcases List.mem_cons.mp h with h|h
   ·exact h▸ .head _
   ·exact .tail _ (ih (.inr h))
theorem Pp {a:Str} {o v:V} {vo val:Value} {Q:Unit->Shared->Prop} (T:Tc g h0) (S:St g h0 Fs Z as O s.heap) (ro:RV g Z as o vo) (rv:RV g Z as v val) (af:lV a o v O≠ .stuck)
 (k:∀σ' h' tk,lV a o v O=.ok () σ'->Go g h0 Fs Z as s.heap Z as σ' h'->Q () {s with heap:=h',toks:=tk}):
 wpAny (model g.prog g.w) A (setAttr vo a val) Q E s:=by
 obtain ⟨p,e,h,q0⟩:=ci af;obtain ⟨c,q1⟩:=eP h;have k':=fun h' tk=>k _ h' tk (q0.trans q1);clear k af h q0 q1;have c:=Bool.and_eq_true_iff.mp c;have c0:=Bool.and_eq_true_iff.mp c.1;obtain ⟨x,Ca,dx,m,rfl,e2,h1,h2,h3,h4,h5,h6,h7⟩:=E9 S ro e;clear e ro;obtain ⟨nm,q,N,bs,sn,sub,ab,cW,dd,k0,k1,k2,k3,k5,dn,mN,c1,c2,c3,c4,c5,c6⟩:=T.cls _ Ca c0.1 h1;have C8:x≠Ca:=fun z=>by rw [z,S.keeps _ _ c1] at h3;cases h3
 obtain ⟨hh,gg,dr,tk,os⟩:=s;refine store_attr F.store_object (S.keeps _ _ c1) (c2.keeps S.keeps) c4 (c6 a c0.2) (Bt c0.2) C8 ⟨_,h3,rfl,fun _ z=>(nomatch z),.inr ⟨dx,rfl,h4,h5⟩⟩ (fun h' bO I' hk tg=>?_) h7 (by rw [List.length_map];exact ej c.2);clear c c1 c2 c3 c4 c5 c6 C8;refine Ds (tg _ h3 ) fun vJ p1 p2 p3 p4 p5=>?_;have Sj:vJ={cls:=.ref Ca,dict:=some dx,data:=.plain}:=by
  clear p1;obtain ⟨oc,od,T9,Jr⟩:=vJ;obtain rfl:=p2;obtain rfl:=p3;obtain rfl:=p4;obtain rfl:=p5 dx rfl;rfl
 subst Sj;clear p2 p3 p4 p5 tg;have iW:h'.Ns1 dx (fun y=>if y=a then some val else m y):=by
  refine sH I' ?_;clear I';intro NH r1 _ _ r3;rw [p1] at r1;obtain rfl:=Option.some.inj r1;rcases r3 with ⟨z,_⟩|⟨d',z,_,iW⟩
  ·exact al z.symm
  ·obtain rfl:=Option.some.inj z;exact iW
 clear I';refine gN (id iW ) fun oD es ep w1 w2=>?_;refine k' h' bO (Go.update S h2 e2 (fun z=>by exact aZ.noConfusion z) (fun b ob hb e=>?_) w1 ⟨_,iW,h6.put rv,fun y hy=>?_⟩)
 ·by_cases q:b=x
  ·subst q;rw [show hh.get? b=some ob from e] at h3;rw [h3];exact p1
  ·exact hk b ob q (fun Mp UO z1 z2=>by rw [h3] at z1;obtain rfl:=Option.some.inj z1;obtain rfl:=Option.some.inj z2;exact hb) e
 ·by_cases q:y=a
  ·exact Dz a v _ y (.inl q)
  ·simp only [q,if_false] at hy;exact Dz a v _ y (.inr (h7 y hy))
end
end
section
variable {g:Gd} {h0:Heap} {Fs:List Addr} {Z ak bj:Zm} {as aj bM:List Addr} {O σ₁ bn:B} {h ag aM:Heap} {I:Addr}
theorem St.loose (s:St g h0 Fs Z as O h) (hz:Z I=none) (hF:I∉Fs) (ha:I∉as) (k:∀b o,b≠I->h.get? b=some o->ag.get? b=some o):St g h0 Fs Z as O ag:=by
 refine ⟨s.base,fun b o z=>?_,s.len,fun n a o e1 e2=>?_,s.sep,fun a hm=>⟨(s.off a hm).1,?_⟩,s.inj,fun b hb=>?_⟩
 ·refine aK (s.bN b o z ) fun z1 z2=>?_;exact ⟨k b o (fun q=>by subst q;rw [hz] at z;exact al z) z1,z2⟩
 ·exact (s.obj n a o e1 e2).mono (bW.refl _) (bI.refl _) fun x hx=>k a x (fun q=>ha (q▸da e1)) hx
 ·obtain ⟨_,o,ho⟩:=s.off a hm;exact ⟨o,k a o (fun q=>ha (q▸hm)) ho⟩
 ·refine gN (s.frm b hb ) fun o es m ho hd=>?_;exact ⟨o,es,m,k b o (fun q=>hF (q▸hb)) ho,hd⟩
theorem Go.loose (G:Go g h0 Fs Z as h ak aj σ₁ ag) (hn:h.get? I=none) (hz:ak I=none) (hF:I∉Fs) (ha:I∉aj) (k:∀b o,b≠I->ag.get? b=some o->aM.get? b=some o):
 Go g h0 Fs Z as h ak aj σ₁ aM where
 bz:=G.bz
 pre:=G.pre
 st:=G.st.loose hz hF ha k
 keep:=fun b o hb n=>by
  have q1:b≠I:=fun q=>by rw [q,hn] at hb;exact al hb
  obtain ⟨k1,sl,k2⟩:=G.keep b o hb n;exact ⟨fun nf=>k b o q1 (k1 nf),sl,k b _ q1 k2⟩
 new:=G.new
 fz:=G.fz
theorem Go.seal (G:Go g h0 Fs Z as h ak aj σ₁ ag) (hn:h.get? I=none) (hz:ak I=none) (hF:I∉Fs) (ha:I∉aj) {o:Obj} (ho:ag.get? I=some o):
 Go g h0 Fs Z as h (bp ak I o) aj σ₁ ag where
 bz:=G.bz.trans (bp.le hz)
 pre:=G.pre
 st:=by
  have s:=G.st;have zl:=bp.le (o:=o) hz;refine ⟨fun b o' e=>zl _ _ (s.base b o' e),fun b o' e=>?_,s.len,fun n b o' e1 e2=>(s.obj n b o' e1 e2).mono zl (bI.refl _) (fun _ e=>e),fun n b o' e1 e2 e3=>?_,s.off,s.inj,s.frm⟩
  ·unfold bp at e;by_cases q:b=I
   ·subst q;rw [if_pos rfl] at e;obtain rfl:=Option.some.inj e;exact ⟨ho,hF⟩
   ·rw [if_neg q] at e;exact s.bN b o' e
  ·unfold bp;by_cases q:b=I
   ·subst q;exact absurd (da e1) ha
   ·rw [if_neg q];exact s.sep n b o' e1 e2 e3
 keep:=G.keep
 new:=G.new
 fz:=fun b o' e=>by
  unfold bp at e;by_cases q:b=I
  ·subst q;exact .inr (.inr hn)
  ·rw [if_neg q] at e;exact G.fz b o' e
theorem Go.apart (G:Go g h0 Fs Z as h ak aj σ₁ ag) {o:Obj} (e:h.get? I=some o) (hz:Z I=none) (hF:I∉Fs) (ha:I∉as):ak I=none/\I∉aj/\ag.get? I=some o:=by
 have h2:I∉aj:=fun q=>(G.new I q).elim ha fun z=>by rw [e] at z;exact al z.symm
 refine ⟨?_,h2,(G.keep I o e ha).1 hF⟩;generalize q:ak I=zc;induction zc using aA with
 |none=>rfl
 |some o'=>
  rcases G.fz I o' q with r|r|r
  ·rw [hz] at r;exact al r
  ·exact absurd r h2
  ·rw [e] at r;exact al r.symm
end
theorem tj {o:Expr} {a:Str} {env:Env} {w:Sem Value} (h:kq o=false):attributeBase o a env w=w:=by
 induction o using Expr.casesOn<;>first|rfl|cases h
section
variable {α β:Type} {g:Gd} {h0:Heap} {mb:Gv} {Fs:List Addr} {Z ak:Zm} {as aj:List Addr} {O σ₁:B} {A:Around} {s:Shared} {J:Loc} {env:Env} {sc:Scope} {q:Bool} {h ag:Heap} {tk:Nat} {I:bQ} {n:Nat}
theorem LD (T:Tc g h0) (IE:bX g h0 n I) (F:Fm A Fs env sc q) (rm:Rm A n) {o:Expr} {a:Str} {pos:Pos} (ho:kq o=false) (S:St g h0 Fs Z as O s.heap) (lo:aW g Z as J env s.heap)
 (af:((I.e q sc o J O).bind fun v O=>lX a v O)≠ .stuck):
 wpAny (model g.prog g.w) A (eval (.Attribute o a pos) env) (PV g h0 Fs Z as s ((I.e q sc o J O).bind fun v O=>lX a v O)) (PE g h0 Fs Z as s ((I.e q sc o J O).bind fun v O=>lX a v O)) s:=by
 refine dy af fun R e hR=>Attribute_any_ (dv (IE F rm S lo) e hR fun v σ₁ ag tk ak aj vo e G rv=>?_) (by rw [arm_eval_Attribute,tj ho]);subst e;exact wpAny_mono (I6 (s:={s with heap:=ag,toks:=tk}) T G.st rv hR) (fun _ _ x=>PV.trans G x) fun _ _ x=>x
theorem MB (IE:bX g h0 n I) (F:Fm A Fs env sc q) (rm:Rm A n) {o:Expr} {m:Str} {ap pos:Pos} (ho:kq o=false) (hl:(ap.endLine==pos.line)=true) (S:St g h0 Fs Z as O s.heap) (lo:aW g Z as J env s.heap)
 (af:((I.e q sc o J O).bind fun v O=>bk m v [] O)≠ .stuck):
 wpAny (model g.prog g.w) A (eval (.Call (.Attribute o m ap) [] [] pos) env) (PV g h0 Fs Z as s ((I.e q sc o J O).bind fun v O=>bk m v [] O)) (PE g h0 Fs Z as s ((I.e q sc o J O).bind fun v O=>bk m v [] O)) s:=by
 refine dy af fun R e hR=>wpAny_Call_method0_late (tj ho) hl (dv (IE F rm S lo) e hR fun v σ₁ ag tk ak aj vo e G rv=>?_);subst e;refine H9 (LP (s:={s with heap:=ag,toks:=tk}) (A:=A) (E:=PE g h0 Fs Z as s (bk m v [] σ₁)) (pos:=pos) G.st rv hR ) fun T' id p1 p2 p3 p4 p5 p6=>?_;exact ⟨T',id,p1,p2,p3,p4,p5,wpAny_mono p6 (fun _ _ x=>PV.trans G x) fun _ _ x=>x⟩
theorem Qg (IE:bX g h0 n I) (F:Fm A Fs env sc q) (rm:Rm A n) {o x:Expr} {m:Str} {ap pos:Pos} (hx:fX x=true) (ho:kq o=false) (hl:(ap.endLine==pos.line)=true) (S:St g h0 Fs Z as O s.heap) (lo:aW g Z as J env s.heap)
 (af:((I.e q sc o J O).bind fun v O=>bif jk m v O then (I.e q sc x J O).bind (fun b O=>bk m v [b] O) else .stuck)≠ .stuck):
 wpAny (model g.prog g.w) A (eval (.Call (.Attribute o m ap) [x] [] pos) env) (PV g h0 Fs Z as s ((I.e q sc o J O).bind fun v O=>bif jk m v O then (I.e q sc x J O).bind (fun b O=>bk m v [b] O) else .stuck))
  (PE g h0 Fs Z as s ((I.e q sc o J O).bind fun v O=>bif jk m v O then (I.e q sc x J O).bind (fun b O=>bk m v [b] O) else .stuck)) s:=by
 refine dy af fun R e hR=>wpAny_Call_method1_late (tj ho) hl (by rw [vu hx];rfl) (dv (IE F rm S lo) e hR fun v σ₁ ag tk ak aj vo e G rv=>?_);refine aK (sq e hR ) fun c e=>?_;subst e;have cL:=IE (s:={s with heap:=ag,toks:=tk}) F rm G.st (lo.go S F.mem G) (iq hR);obtain ⟨T',id,p1,p2,p3,p4,p5,p6⟩:=Sl (s:={s with heap:=ag,toks:=tk}) (A:=A) (E:=PE g h0 Fs ak aj {s with heap:=ag,toks:=tk} ((I.e q sc x J σ₁).bind fun b O=>bk m v [b] O)) (pos:=pos) c G.st rv
  (wpAny_mono cL (fun _ _ x=>x) fun _ _ x=>x.bind) hR
 exact ⟨T',id,p1,p2,p3,p4,p5,wpAny_mono p6 (fun _ _ x=>PV.trans G x) fun _ _ x=>PE.trans S G x⟩
noncomputable def PK (g:Gd) (v:Value) (h:Heap):Prop:=∃k,(k=Keeper.frame\/k=Keeper.machine\/k=Keeper.boundFrame)/\Looks (model g.prog g.w) h (keeperOf v) k
noncomputable def Ed (g:Gd):List V->Zm->List Addr->Args->Prop:=fun vs Z as a=>∃ai,a=⟨ai,[]⟩/\aO g Z as vs ai
theorem P' (IE:bX g h0 n I) (F:Fm A Fs env sc q) (rm:Rm A n) {es:List Expr} {pos:Pos} {f:Value} (hp:es.all fX=true) (S:St g h0 Fs Z as O s.heap) (lo:aW g Z as J env s.heap)
 (af:dX (fun e O=>I.e q sc e J O) es O≠ .stuck):
 wpAny (model g.prog g.w) A (evalArgs f true (backTo pos (starEach es env)) []) (PG (Ed g) g h0 Fs Z as s (dX (fun e O=>I.e q sc e J O) es O)) (PE g h0 Fs Z as s (dX (fun e O=>I.e q sc e J O) es O)) s:=by
 have key:=Ah (pos:=pos) IE F rm hp S lo af;induction es using bh with
 |nil=>exact evalArgs_nil3 (ip (tk:=s.toks) S ⟨[],rfl,.nil⟩)
 |cons e r=>
  rw [List.all_cons,Bool.and_eq_true] at hp;rw [vu hp.1] at key ⊢;refine evalArgs_plain (wpAny_mono key (fun ai s' x=>?_) fun _ _ x=>x);obtain ⟨vs,σ',h',bO,Z',aL,e1,e2,G,r⟩:=x;exact ⟨vs,σ',h',bO,Z',aL,e1,e2,G,ai,rfl,r⟩
inductive vV (q:Bool) (Γ:Ctx) (f:V) (vs:List V) (O:B):Prop
 |fn (x:Str):q=false->f=.fn x->Γ.C x vs O≠ .stuck->fP q Γ f vs O=Γ.C x vs O->vV q Γ f vs O
 |con (w:Value):q=false->f=.con w->cM w vs O≠ .stuck->fP q Γ f vs O=cM w vs O->vV q Γ f vs O
theorem IQ {q:Bool} {Γ:Ctx} {f:V} {vs:List V} {O:B} (h:fP q Γ f vs O≠ .stuck):vV q Γ f vs O:=by
 induction q using aN with
 |true=>induction f using V.casesOn<;>exact absurd rfl h
 |false=>
  induction f using V.casesOn with
  |fn x=>exact .fn x rfl rfl h rfl
  |con w=>exact .con w rfl rfl h rfl
  |_=>exact absurd rfl h
theorem Hx {w:Value} {vs:List V} {O:B} (h:cM w vs O≠ .stuck) (hp:Heap):PK g w hp:=by
 induction w using Value.casesOn with
 |builtin id=>exact ⟨.machine,.inr (.inl rfl),Looks.of_pure rfl⟩
 |type id=>exact ⟨.machine,.inr (.inl rfl),Looks.of_pure rfl⟩
 |_=>exact absurd rfl h
theorem QK {Γ:Ctx} (ND:h0.NoDigits) (SC:gF g h0 n Γ.C) (F:Fm A Fs env sc q) (rm:Rm A n) {f:V} {vf:Value} {vs:List V} {ai:List Value} (S:St g h0 Fs Z as O s.heap) (rf:RV g Z as f vf) (jV:aO g Z as vs ai)
 (af:fP q Γ f vs O≠ .stuck):
 PK g vf s.heap/\wpAny (model g.prog g.w) A (call vf ai) (PV g h0 Fs Z as s (fP q Γ f vs O)) (PE g h0 Fs Z as s (fP q Γ f vs O)) s:=by
 generalize IQ af=zc;induction zc using vV.casesOn with
 |fn x h1 h2 h3 h4=>
  subst h1;subst h2;rw [h4];refine aK (SC rf.out h3 ) fun k1 k2=>?_;exact ⟨k1 _ S.keeps,k2 F rm S jV⟩
 |con w h1 h2 h3 h4=>
  subst h1;subst h2;obtain rfl:=rf.out;rw [h4];exact ⟨Hx h3 _,MF (F.full rfl).1 (ND.keeps S.keeps) S jV h3⟩
theorem wz {f:Expr} {as:List Expr} {pos:Pos} (h:∀o m p,f≠ .Attribute o m p):eval (.Call f as [] pos) env=(do callWith pos (<- eval f env) [] (backTo pos (starEach as env)) []):=by
 induction f using Expr.casesOn<;>first|rfl|exact absurd rfl (h _ _ _)
theorem TD {Γ:Ctx} (ND:h0.NoDigits) (SC:gF g h0 n Γ.C) (IE:bX g h0 n I) (F:Fm A Fs env sc q) (rm:Rm A n) {f:Expr} {es:List Expr} {pos:Pos} (hf:∀o m p,f≠ .Attribute o m p) (hp:es.all fX=true) (S:St g h0 Fs Z as O s.heap) (lo:aW g Z as J env s.heap)
 (af:((I.e q sc f J O).bind fun v O=>(dX (fun e O=>I.e q sc e J O) es O).bind fun vs O=>fP q Γ v vs O)≠ .stuck):
 wpAny (model g.prog g.w) A (eval (.Call f es [] pos) env) (PV g h0 Fs Z as s ((I.e q sc f J O).bind fun v O=>(dX (fun e O=>I.e q sc e J O) es O).bind fun vs O=>fP q Γ v vs O))
  (PE g h0 Fs Z as s ((I.e q sc f J O).bind fun v O=>(dX (fun e O=>I.e q sc e J O) es O).bind fun vs O=>fP q Γ v vs O)) s:=by
 rw [wz hf];refine dy af fun R e hR=>wpAny_bind (dv (IE F rm S lo) e hR fun v σ₁ ag tk ak aj vf e G rv=>?_);refine callWith_of (P:=PK g vf) (by rw [DW hp];rfl) (fun _ x=>x) (lZ (P:=Ed g) S G (P' IE F rm hp G.st (lo.go S F.mem G)) e hR fun ws bn aM bE bj bM aL e aS u_=>?_);refine aw u_ ?_;clear u_;rintro ai rfl u_;subst e;refine aK (QK (s:={s with heap:=aM,toks:=bE}) ND SC F rm aS.st (rv.mono aS.bz aS.pre) u_ hR ) fun k1 k2=>?_;exact ⟨k1,lift S (G.trans aS) k2⟩
end
noncomputable def pairsOf (pos:Pos) (env:Env):List (Option Expr)->List Expr->List (Sem Value×Sem Value)
 |some k::ks,v::vs=>(eval k env,do let x <- eval v env;standAt pos;pure x)::pairsOf pos env ks vs
 |_,_=>[]
theorem KR (pos:Pos) (env:Env) (ks:List (Option Expr)):∀ {vs:List Expr},kP ks vs=true->
 (evalEachOpt ks env).zip ((evalEach vs env).map fun v=>do let x <- v;standAt pos;pure x)=(pairsOf pos env ks vs).map fun p=>(some p.1,p.2):=by
 induction ks with
 |nil=>intro vs _;induction vs using bh<;>rfl
 |cons k ks ih=>
  intro vs h;induction k using aA with
  |none=>induction vs using bh<;>exact Bool.noConfusion h
  |some k=>
   induction vs using bh with
   |nil=>exact Bool.noConfusion h
   |cons v vs=>exact congrArg (List.cons _) (ih h)
theorem pairs_len (pos:Pos) (env:Env) (ks:List (Option Expr)):∀(vs:List Expr),(pairsOf pos env ks vs).length<=ks.length:=by
 induction ks with
 |nil=>exact fun vs=>Nat.le_refl 0
 |cons k ks ih=>
  intro vs;induction k using aA with
  |none=>exact Nat.zero_le _
  |some k=>
   induction vs using bh with
   |nil=>exact Nat.zero_le _
   |cons v vs=>exact Nat.succ_le_succ (ih vs)
noncomputable def yH (g:Gd) (Z:Zm) (as:List Addr):List (V×V)->List (Value×Value)->Prop
 | [],[]=>True
 |p::r,u::w=>RV g Z as p.1 u.1/\RV g Z as p.2 u.2/\yH g Z as r w
 |_,_=>False
noncomputable def M' (g:Gd):List (V×V)->Zm->List Addr->List (Value×Value)->Prop:=fun l Z as ai=>yH g Z as l ai
inductive nF {κ:Type} (mk:κ->V):List (V×V)->Prop
 |nil:nF mk []
 |cons {x:κ} {v:V} {l:List (V×V)}:(∀p∈l,∃y,p.1=mk y/\y≠x)->nF mk l->nF mk ((mk x,v)::l)
theorem GW (l:List (V×V)):∀(x:Str) (v:V),j9 ((.str x,v)::l)=true->nF .str ((.str x,v)::l):=by
 induction l with
 |nil=>exact fun _ _ _=>.cons (fun _ h=>nomatch h) .nil
 |cons p l ih=>
  intro x v h;have h:=Bool.and_eq_true_iff.mp h;have d:∀p'∈p::l,∃y,p'.1=V.str y/\y≠x:=fun p' hp=>by
   have h1:x5 x p'=true:=List.all_eq_true.mp h.1 p' hp;unfold x5 at h1;generalize e:cX p'.1=zc;induction zc using aA with
   |none=>rw [e] at h1;exact Bool.noConfusion h1
   |some y=>rw [e] at h1;have h1:(!seq y x)=true:=h1;exact ⟨y,ud e,fun z=>by rw [bY.mpr z] at h1;exact Bool.noConfusion h1⟩
  obtain ⟨k,v'⟩:=p;refine aw (d _ (List.mem_cons_self ..) ) fun y e _=>?_;obtain rfl:k=.str y:=e;exact .cons d (ih y v' h.2)
theorem LA (l:List (V×V)):∀(x:Int) (v:V),j9 ((.int x,v)::l)=true->nF .int ((.int x,v)::l):=by
 induction l with
 |nil=>exact fun _ _ _=>.cons (fun _ h=>nomatch h) .nil
 |cons p l ih=>
  intro x v h;have h:=Bool.and_eq_true_iff.mp h;have d:∀p'∈p::l,∃y,p'.1=V.int y/\y≠x:=fun p' hp=>by
   have h1:zR x p'=true:=List.all_eq_true.mp h.1 p' hp;unfold zR at h1;generalize e:cG p'.1=zc;induction zc using aA with
   |none=>rw [e] at h1;exact Bool.noConfusion h1
   |some y=>rw [e] at h1;have h1:(!(y==x))=true:=h1;exact ⟨y,nE e,fun z=>by rw [z,beq_self_eq_true] at h1;exact Bool.noConfusion h1⟩
  obtain ⟨k,v'⟩:=p;refine aw (d _ (List.mem_cons_self ..) ) fun y e _=>?_;obtain rfl:k=.int y:=e;exact .cons d (ih y v' h.2)
section
variable {g:Gd} {Z:Zm} {as:List Addr}
structure Kd (g:Gd) (κ:Type) [DecidableEq κ] (kd:KeyKind g.prog g.w κ) (mk:κ->V) (RK:Zm->List Addr->List (V×V)->List (κ×Value)->Prop):Prop where
 inj:∀ {x y},mk x=mk y->x=y
 is:∀ {Z as x val},RV g Z as (mk x) val->kd.is x val=true
 nil:∀ {Z as},RK Z as [] []
 cons:∀ {Z as x v val r rs},RV g Z as v val->RK Z as r rs->RK Z as ((mk x,v)::r) ((x,val)::rs)
 mono:∀ {Z as Z' aL r rs},RK Z as r rs->bW Z Z'->bI as aL->RK Z' aL r rs
 dct:∀ {Z as l a o bT},Z a=some o->o.IsDictOf kd bT->RK Z as l bT->RV g Z as (.dct l) (.ref a)
inductive C3 (g:Gd) {κ:Type} [DecidableEq κ] (kd:KeyKind g.prog g.w κ) (mk:κ->V) (RK:List (V×V)->List (κ×Value)->Prop) (l:List (V×V)) (ai:List (Value×Value)):Prop
 |mk (bT:List (κ×Value)):Carries kd ai bT->(bT.map (·.1)).Nodup->RK l bT->(∀k∈bT.map (·.1),∃p∈l,p.1=mk k)->C3 g kd mk RK l ai
theorem MN {κ:Type} [DecidableEq κ] {kd:KeyKind g.prog g.w κ} {mk:κ->V} {RK:Zm->List Addr->List (V×V)->List (κ×Value)->Prop} (D:Kd g κ kd mk RK) {l:List (V×V)} (h:nF mk l):
 ∀ {ai:List (Value×Value)},yH g Z as l ai->C3 g kd mk (RK Z as) l ai:=by
 induction h with
 |nil=>
  intro ai r;induction ai using bh with
  |nil=>exact ⟨[],trivial,.nil,D.nil,fun _ h=>nomatch h⟩
  |cons=>exact r.elim
 |@cons x v l d1 _ ih=>
  intro ai r;induction ai using bh with
  |nil=>exact r.elim
  |cons q ai=>
  obtain ⟨bT,a,b,c,d⟩:=ih r.2.2;refine ⟨(x,q.2)::bT,⟨D.is r.1,rfl,a⟩,List.nodup_cons.mpr ⟨fun q=>?_,b⟩,D.cons r.2.1 c,fun k hk=>?_⟩
  ·refine aw (d x q ) fun p hp e=>?_;refine aw (d1 p hp ) fun y e2 ne=>?_;exact ne (D.inj (e2.symm.trans e))
  ·rcases List.mem_cons.mp hk with rfl|hk
   ·exact ⟨_,List.mem_cons_self ..,rfl⟩
   ·refine aw (d k hk ) fun p hp e=>?_;exact ⟨p,List.mem_cons_of_mem _ hp,e⟩
inductive Bc (g:Gd) (l:List (V×V)):Prop
 |mk {κ:Type} [DecidableEq κ] {kd:KeyKind g.prog g.w κ} {mk:κ->V} {RK:Zm->List Addr->List (V×V)->List (κ×Value)->Prop}:Kd g κ kd mk RK->nF mk l->Bc g l
theorem Oa:Kd g Str (strKind g.prog g.w) .str fun Z as=>tx g Z as:=⟨fun e=>V.str.inj e,fun r=>by refine aB r.out ?_;rintro t rfl;exact strKind_is ..,⟨rfl,.nil⟩,.cons,fun r z p=>r.mono z p,fun e d r=>.qn e d r.1 r.2⟩
theorem QD:Kd g Int (intKind g.prog g.w) .int fun Z as=>uK g Z as:=⟨fun e=>V.int.inj e,fun r=>by refine aB r.out ?_;rintro t rfl;exact intKind_is ..,⟨rfl,.nil⟩,.cons,fun r z p=>r.mono z p,fun e d r=>.uC e d r.1 r.2⟩
theorem Ko {l:List (V×V)} (h:j9 l=true) (cj:l≠[]):Bc g l:=by
 induction l using bh with
 |nil=>exact absurd rfl cj
 |cons p r=>
  obtain ⟨k,v⟩:=p;induction k using V.casesOn with
  |str x=>exact ⟨Oa,GW _ x v h⟩
  |int x=>exact ⟨QD,LA _ x v h⟩
  |_=>exact Bool.noConfusion h
end
section
variable {α β:Type} {g:Gd} {h0:Heap} {mb:Gv} {Fs:List Addr} {Z ak:Zm} {as aj:List Addr} {O σ₁:B} {A:Around} {s:Shared} {J:Loc} {env:Env} {sc:Scope} {q:Bool} {h ag:Heap} {tk:Nat} {I:bQ} {n:Nat}
theorem Pu {k:Option Expr} {ks:List (Option Expr)} {vs:List Expr} (h:kP (k::ks) vs=true):∃e v r,k=some e/\vs=v::r/\kP ks r=true:=by
 induction k using aA with
 |none=>induction vs using bh<;>exact ff h
 |some e=>
  induction vs using bh with
  |nil=>exact ff h
  |cons v r=>exact ⟨e,v,r,rfl,rfl,h⟩
theorem MT {vs:List Expr} (h:kP [] vs=true):vs=[]:=by
 induction vs using bh with
 |nil=>rfl
 |cons=>exact ff h
theorem SX (IE:bX g h0 n I) (F:Fm A Fs env sc q) (rm:Rm A n) {pos:Pos}:∀ {ks:List (Option Expr)} {vs:List Expr} {O:B} {Z:Zm} {as:List Addr} {s:Shared},kP ks vs=true->St g h0 Fs Z as O s.heap->aW g Z as J env s.heap->
 hU (fun e O=>I.e q sc e J O) ks vs O≠ .stuck->
 wpAny (model g.prog g.w) A (evalPairs (pairsOf pos env ks vs)) (PG (M' g) g h0 Fs Z as s (hU (fun e O=>I.e q sc e J O) ks vs O)) (PE g h0 Fs Z as s (hU (fun e O=>I.e q sc e J O) ks vs O)) s:=by
 intro ks;induction ks with
 |nil=>
  intro vs O Z as s hd S l _;obtain rfl:=MT hd;exact evalPairs_nil (ip (tk:=s.toks) S trivial)
 |cons k ks ih=>
  intro vs O Z as s hd S l af;refine dW (Pu hd ) ?_;rintro k v vs rfl rfl hd;refine dy af fun R e hR=>evalPairs_cons (dv (IE F rm S l) e hR fun a σ₁ ag tk ak aj kv e G ra=>?_);have l1:=l.go S F.mem G;refine wpAny_bind (lZ S G (IE F rm G.st l1) e hR fun b bn aM bE bj bM vv e aS rb=>wpAny_bind (wpAny_standAt (wpAny_pure ?_)));have om:=G.trans aS;refine lZ S om (ih hd om.st (l1.go G.st F.mem aS)) e hR fun r pM cu gZ lP n5 ai e cF rr=>?_;subst e;exact ⟨(a,b)::r,pM,cu,gZ,lP,n5,rfl,rfl,om.trans cF,ra.mono (aS.bz.trans cF.bz) (aS.pre.trans cF.pre),rb.mono cF.bz cF.pre,rr⟩
theorem yc {α β:Type} {r:R α} {f:α->B->R β} {b:β} {σ':B} (h:r.bind f=.ok b σ'):∃a σ₁,f a σ₁=.ok b σ':=by
 induction r using R.casesOn with
 |ok a O=>exact ⟨a,O,h⟩
 |_=>cases h
theorem JN {I:bQ} {ks:List (Option Expr)} {vs:List Expr} {O σ':B} {l:List (V×V)} (e:hU (fun e O=>I.e q sc e J O) ks vs O=.ok l σ') (hl:l=[]):ks=[]:=by
 subst hl;induction ks using bh with
 |nil=>rfl
 |cons k ks=>
  induction k using aA with
  |none=>induction vs using bh<;>cases e
  |some k=>
   induction vs using bh with
   |nil=>cases e
   |cons v vs=>
    refine eO (yc e ) fun _ _ e=>?_;refine eO (yc e ) fun _ _ e=>?_;refine eO (yc e ) fun _ _ e=>?_;cases e
theorem Lr (IE:bX g h0 n I) (F:Fm A Fs env sc q) (rm:Rm A n) {ks:List (Option Expr)} {vs:List Expr} {pos:Pos} (cQ:Nat.ble ks.length 15=true) (hd:kP ks vs=true) (S:St g h0 Fs Z as O s.heap) (lo:aW g Z as J env s.heap)
 (af:((hU (fun e O=>I.e q sc e J O) ks vs O).bind fun l O=>bif j9 l then R.ok (V.dct l) O else .stuck)≠ .stuck):
 wpAny (model g.prog g.w) A (eval (.Dict ks vs pos) env) (PV g h0 Fs Z as s ((hU (fun e O=>I.e q sc e J O) ks vs O).bind fun l O=>bif j9 l then .ok (.dct l) O else .stuck))
  (PE g h0 Fs Z as s ((hU (fun e O=>I.e q sc e J O) ks vs O).bind fun l O=>bif j9 l then R.ok (V.dct l) O else .stuck)) s:=by
 induction ks using bh with
 |nil=>
  induction vs using bh with
  |cons=>exact ff hd
  |nil=>
   rw [eval_Dict_empty];refine wpAny_bind (wpAny_standAt ?_);unfold newDict;refine wpAny_newObj_type ?_ (by show 0<=_;exact Nat.zero_le _);refine aw (Heap.dictOf_iff.mp (Heap.DictOf.new (knd:=strKind g.prog g.w) s.heap) ) fun o ho rK=>?_;rw [Heap.get?_push_size _ rfl] at ho;obtain rfl:=Option.some.inj ho;exact yh (tk:=s.toks) S rfl (.qn bp.at rK rfl .nil)
 |cons k ks=>
  have cj:pairsOf pos env (k::ks) vs≠[]:=by
   induction k using aA with
   |none=>exact ff hd
   |some k=>
    induction vs using bh with
    |nil=>exact ff hd
    |cons=>intro z;cases z
  have rz:(pairsOf pos env (k::ks) vs).length<=15:=Nat.le_trans (pairs_len pos env _ _) (Nat.le_of_ble_eq_true cQ);have A9:=KR pos env _ hd;have hz:Z s.heap.objs.size=none:=S.fresh (dg _);have hF:s.heap.objs.size∉Fs:=S.gu (dg _);have ha:s.heap.objs.size∉as:=S.fD (dg _);have G0:=Go.push S {cls:=.type "dict",data:=.dict #[]};have key:=SX (s:={s with heap:=s.heap.push {cls:=.type "dict",data:=.dict #[]}}) (pos:=pos) IE F rm hd G0.st (lo.go S F.mem G0) (iq af);have xW:(s.heap.push {cls:=.type "dict",data:=.dict #[]}).get? s.heap.objs.size=some {cls:=.type "dict",data:=.dict #[]}:=Heap.get?_push_size _ rfl;generalize ed:hU (fun e O=>I.e q sc e J O) (k::ks) vs O=zc;induction zc using R.casesOn with
  |stuck=>rw [ed] at af;exact absurd rfl af
  |exc f σ'=>
   refine wpAny_Dict_pairs (knd:=strKind g.prog g.w) A9 cj rz (wpAny_mono key (fun ai bG x=>?_) fun _ _ x=>?_)
   ·obtain ⟨l,σ₁,ag,tk,ak,aj,e1,_⟩:=x;rw [ed] at e1;cases e1
   ·rw [ed] at x;exact PE.trans (tk:=s.toks) S G0 x.bind
  |ok l σ'=>
   rw [ed] at af;dsimp only [R.bind] at af ⊢;have c:=dJ af;rw [cH c];have hl:l≠[]:=fun z=>by cases JN ed z
   have fin:∀ {ag:Heap} {tk bO:Nat} {ak aj} {h':Heap} {o:Obj} {v:V},Go g h0 Fs Z as (s.heap.push {cls:=.type "dict",data:=.dict #[]}) ak aj σ' ag->Heap.SameBut s.heap.objs.size ag h'->h'.get? s.heap.objs.size=some o->
    (bW ak (bp ak s.heap.objs.size o)->RV g (bp ak s.heap.objs.size o) aj v (.ref s.heap.objs.size))->PV g h0 Fs Z as s (.ok v σ') (.ref s.heap.objs.size) {s with heap:=h',toks:=bO}:=by
    intro ag tk bO ak aj h' o v G sb ho hv;refine fw (G.apart xW hz hF ha ) fun z1 z2 z3=>?_;have G1:=(G0.trans G).loose (dg _) z1 hF z2 fun b ob hb e=>(sb.2 b hb).trans e;have G2:=G1.seal (dg _) z1 hF z2 ho;exact ⟨v,σ',h',bO,_,aj,rfl,rfl,G2,hv (bp.le z1)⟩
   obtain ⟨D,hk⟩:=Ko (g:=g) c hl;refine wpAny_Dict_pairs (knd:=kd) A9 cj rz (wpAny_mono key (fun ai bG x=>?_) fun _ _ x=>?_)
   ·obtain ⟨l',σ₁,ag,tk,ak,aj,e1,rfl,G,rr⟩:=x;rw [ed] at e1;refine aK (R.ok.inj e1 ) ?_;rintro rfl rfl;obtain ⟨bT,a,b,c',_⟩:=MN D hk rr;refine ⟨bT,a,Heap.dictOf_iff.mpr ⟨_,(G.apart xW hz hF ha).2.2,?_⟩,fun h' hm sb=>?_⟩
    ·refine aw (Heap.dictOf_iff.mp (Heap.DictOf.new (knd:=kd) s.heap) ) fun o ho rK=>?_;rw [xW] at ho;obtain rfl:=Option.some.inj ho;exact rK
    ·rw [merged_nil_of_nodup _ b] at hm;refine aw (Heap.dictOf_iff.mp hm ) fun o ho rK=>?_;exact fin (tk:=tk) G sb ho fun zl=>D.dct bp.at rK (D.mono c' zl (bI.refl _))
   ·obtain ⟨f,yX,_,_,_,_,_,e1,_⟩:=x;rw [ed] at e1;cases e1
end
structure Ba (g:Gd) (A:Around) (Fs:List Addr) (Z:Zm) (as:List Addr) (l:List V) (h:Heap) (I:Addr) (fp:List Addr) (P:Nat->Value->Prop) (bF:Nat->Heap->Prop):Prop where
 walk:Walks g.prog g.w A I fp [I] l.length P bF
 st:bF 0 h
 fp:∀b∈fp,b≠I->∃o,Z b=some o
 val:∀i v',P i v'->∃x,az l i=some x/\RV g Z as x v'
 z:Z I=none
 f:I∉Fs
 a:I∉as
 ex:∀i h,bF i h->∃o,h.get? I=some o
section
variable {g:Gd} {h0:Heap} {Fs:List Addr} {Z ak:Zm} {as aj:List Addr} {O σ₁:B} {A:Around} {E:Value->Shared->Prop} {s:Shared} {ag:Heap}
theorem vL {α β:Type} (f:α->β):∀(l:List α) (i:Nat),az (l.map f) i=(az l i).map f
 | [],i=>by induction i using cz<;>rfl
 |_::_,0=>rfl
 |_::r,i+1=>vL f r i
theorem Gu {l:List V} {ai:List Value} (rs:aO g Z as l ai) {i:Nat} {v':Value} (e:ai[i]?=some v'):∃x,az l i=some x/\RV g Z as x v':=by
 have:∀ {l ai},aO g Z as l ai->∀ {i:Nat} {v':Value},ai[i]?=some v'->∃x,az l i=some x/\RV g Z as x v':=by
  intro l ai rs;refine aO.ind (motive:=fun l ai=>∀ {i:Nat} {v':Value},ai[i]?=some v'->∃x,az l i=some x/\RV g Z as x v') ?_ ?_ rs
  ·intro i v' e;exact al e
  ·intro v val vs ai r rs ih i v' e;induction i using cz with
   |zero=>obtain rfl:=Option.some.inj e;exact ⟨v,rfl,r⟩
   |succ i=>exact ih (by simpa using e)
 exact this rs e
theorem Iu {n:Int} (h0:0<=n) (h1:n<=1000000):Builtin.Range.small 0 n 1=true/\Builtin.Range.rangeSize 0 n 1=n:=by
 have e:Builtin.Range.rangeSize 0 n 1=n:=by
  unfold Builtin.Range.rangeSize;rw [if_pos (by decide)];by_cases c:0<n
  ·rw [if_pos c];simp
  ·rw [if_neg c];exact Int.le_antisymm (ae [] [_] [.aJ (.k 0) (.w 0)] (.aJ (.k 0) (.w 0)) rfl h0) (ae [] [_] [.aJ (.w 0) (.k 0)] (.aJ (.w 0) (.k 0)) rfl (Int.not_lt.mp c))
 refine ⟨?_,e⟩;unfold Builtin.Range.small;rw [e];unfold Builtin.Range.rangeFitsLong;simp only [Bool.and_eq_true,decide_eq_true_eq,Bool.or_eq_true];refine ⟨⟨⟨⟨?_,?_⟩,?_⟩,?_⟩,.inr ?_⟩
 ·decide
 ·constructor<;>lia
 ·decide
 ·constructor<;>lia
 ·rw [if_pos (by decide)];simp only [Bool.and_eq_true,decide_eq_true_eq];constructor<;>lia
set_option tactic.hygienic true in
theorem xi (hh:A.handled=none) {v:V} {val:Value} {l:List V} {σ':B} (S:St g h0 Fs Z as O s.heap) (rv:RV g Z as v val) (e:fk v O=some (l,σ')) {Q:Value->Shared->Prop}
 (k:∀aM bj I fp P bF,Go g h0 Fs Z as s.heap bj as σ' aM->s.heap.get? I=none->Ba g A Fs bj as l aM I fp P bF->Q (.ref I) {s with heap:=aM}):
 wpAny (model g.prog g.w) A (pyIter val) Q E s:=by
 have hz:Z s.heap.objs.size=none:=S.fresh (dg _);have hF:s.heap.objs.size∉Fs:=S.gu (dg _);have ha:s.heap.objs.size∉as:=S.fD (dg _);have F6:∀ {l:List V} {a:Addr} {items:Array Value} {n:Nat} {bj:Zm} {σ':B},bj a=some (gV items n)->bj s.heap.objs.size=none->s.heap.get? a=some (gV items n)->aO g bj as l items.toList->
  Go g h0 Fs Z as s.heap bj as σ' s.heap->val=.ref a->
  (∀aM bj I fp P bF,Go g h0 Fs Z as s.heap bj as σ' aM->s.heap.get? I=none->Ba g A Fs bj as l aM I fp P bF->Q (.ref I) {s with heap:=aM})->
  wpAny (model g.prog g.w) A (pyIter val) Q E s:=by
  intro l a items n bj σ' z wO hx rs G hv k;subst hv;have cj:a≠s.heap.objs.size:=Nat.ne_of_lt (Heap.lt_size hx);refine wpAny_pyIter_list (lN hx) (k _ bj _ [s.heap.objs.size,a] (fun i v'=>items[i]?=some v') (fun i h=>h.IsListIter s.heap.objs.size a i/\h.IsList a items) (G.trans (Go.push G.st _)) (dg _) ⟨?_,?_,fun b hb hn=>?_,fun i v' p=>?_,wO,hF,ha,?_⟩)
  ·have:=Walks.list (prog:=g.prog) (w:=g.w) hh s.heap.objs.size a cj items;have hl:l.length=items.size:=by rw [rs.length,Array.length_toList]
   rw [hl];exact this
  ·exact ⟨⟨_,Heap.get?_push_size _ rfl,rfl,rfl⟩,(lN hx).push _⟩
  ·simp only [List.mem_cons,List.not_mem_nil,or_false] at hb;rcases hb with rfl|rfl
   ·exact absurd rfl hn
   ·exact ⟨_,z⟩
  ·exact Gu rs (by rw [Array.getElem?_toList];exact p)
  ·intro i h st;refine aK st ?_;clear st;rintro ⟨o,ho,_⟩ _;exact ⟨o,ho⟩
 unfold fk at e
 split at e
 ·-- a text
  rename_i x;cases e;refine aB rv.out ?_;rintro t rfl;have hP:∀i v',SignAt x i v'->∃y,az (x.cps.toList.map fun c=>V.str ⟨#[c]⟩) i=some y/\RV g Z as y v':=by
   rintro i v' ⟨c,u,hc,rfl⟩;refine ⟨.str ⟨#[c]⟩,?_,.str _ _⟩;rw [vL,fJ,Array.getElem?_toList,hc];rfl
  (generalize qg:x.cps.all (· < 128)=zc;induction zc using aN)
  ·refine wpAny_pyIter_wide qg (k _ Z _ [s.heap.objs.size] (SignAt x) (fun i h=>h.IsStrIter s.heap.objs.size "str_iterator" x t i) (Go.push S _) (dg _) ⟨?_,?_,fun b hb hn=>?_,hP,hz,hF,ha,?_⟩)
   ·have:=Walks.strWide (prog:=g.prog) (w:=g.w) hh s.heap.objs.size x t;rw [List.length_map,Array.length_toList];exact this
   ·exact ⟨_,Heap.get?_push_size _ rfl,rfl,rfl⟩
   ·exact absurd (List.mem_singleton.mp hb) hn
   ·rintro i h ⟨o,ho,_⟩;exact ⟨o,ho⟩
  ·refine wpAny_pyIter_ascii qg (k _ Z _ [s.heap.objs.size] (SignAt x) (fun i h=>h.IsStrIter s.heap.objs.size "str_ascii_iterator" x t i) (Go.push S _) (dg _) ⟨?_,?_,fun b hb hn=>?_,hP,hz,hF,ha,?_⟩)
   ·have:=Walks.strAscii (prog:=g.prog) (w:=g.w) hh s.heap.objs.size x t;rw [List.length_map,Array.length_toList];exact this
   ·exact ⟨_,Heap.get?_push_size _ rfl,rfl,rfl⟩
   ·exact absurd (List.mem_singleton.mp hb) hn
   ·rintro i h ⟨o,ho,_⟩;exact ⟨o,ho⟩
 ·-- a tuple
  cases e;obtain ⟨a,items,n,rfl,z,rs⟩:=rv.out;have hx:=(S.bN _ _ z).1;have cj:a≠s.heap.objs.size:=Nat.ne_of_lt (Heap.lt_size hx);refine wpAny_pyIter_tuple (oW hx) (k _ Z _ [s.heap.objs.size,a] (fun i v'=>items[i]?=some v') (fun i h=>h.IsTupleIter s.heap.objs.size a i/\h.IsTuple a items) (Go.push S _) (dg _) ⟨?_,?_,fun b hb hn=>?_,fun i v' p=>?_,hz,hF,ha,?_⟩)
  ·have:=Walks.tuple (prog:=g.prog) (w:=g.w) hh s.heap.objs.size a cj items;have hl:l.length=items.size:=by rw [rs.length,Array.length_toList]
   rw [hl];exact this
  ·exact ⟨⟨_,Heap.get?_push_size _ rfl,rfl,rfl⟩,oW (Heap.get?_push_of_some _ hx)⟩
  ·simp only [List.mem_cons,List.not_mem_nil,or_false] at hb;rcases hb with rfl|rfl
   ·exact absurd rfl hn
   ·exact ⟨_,z⟩
  ·exact Gu rs (by rw [Array.getElem?_toList];exact p)
  ·intro i h st;refine aK st ?_;clear st;rintro ⟨o,ho,_⟩ _;exact ⟨o,ho⟩
 ·-- a list,frozen
  cases e;obtain ⟨a,items,n,hv,z,rs⟩:=rv.out;exact F6 z hz (S.bN _ _ z).1 rs (Go.refl S) hv k
 ·-- a range
  have c:=dJ (fun z=>by rw [z] at e;exact al e);rw [cH c] at e;cases e;rw [Bool.and_eq_true] at c;rename_i n;obtain ⟨a,u,t,w,rfl,z⟩:=rv.out;have hx:=(S.bN _ _ z).1;refine aK (Iu (of_decide_eq_true c.1) (of_decide_eq_true c.2) ) fun sm sz=>?_;have hn:=of_decide_eq_true c.1;refine wpAny_pyIter_range hx sm (k _ Z _ [s.heap.objs.size] (fun i v=>∃t,i<n.toNat/\v=.int (i:Int) t) (fun i h=>IsRangeIter h s.heap.objs.size (0+(i:Nat)*1) ((n.toNat:Int)-(i:Nat)) 1) (Go.push S _) (dg _) ⟨?_,?_,fun b hb hn=>?_,?_,hz,hF,ha,?_⟩)
  ·have W:=Walks.range (prog:=g.prog) (w:=g.w) hh s.heap.objs.size 0 1 n.toNat;rw [List.length_map,List.length_range];exact ⟨W.sub,W.frame,fun i s Q E hi st hQ=>W.item i s Q E hi st fun v h' tk p KS kk=>hQ v h' tk (by refine aB p ?_;clear p;rintro t rfl;exact ⟨t,hi,by rw [Int.mul_one,Int.zero_add]⟩) KS kk,W.done,W.self⟩
  ·show Heap.get? _ _=_;rw [Heap.get?_push_size _ rfl,sz];simp only [Int.natCast_zero,Int.zero_mul,Int.add_zero,Int.sub_zero];rw [Int.toNat_of_nonneg hn]
  ·exact absurd (List.mem_singleton.mp hb) hn
  ·rintro i v' ⟨t,hi,rfl⟩;refine ⟨.int (Int.ofNat i),?_,.int _ _⟩;rw [vL,fJ,List.getElem?_range hi];rfl
  ·intro i h st;exact ⟨_,st⟩
 ·-- a list of UT store
  rename_i n;generalize en:eB O n=zc;induction zc using aA with
  |none=>rw [en] at e;exact al e
  |some m=>
   rw [en] at e;cases e;refine aw rv.out fun a hv vG=>?_;have en:=qi en;refine b_ (S.obj n a _ vG en ) fun items j hx rs=>?_;refine aK (S.freeze vG en (fun z=>by exact aZ.noConfusion z) hx ) fun zl S2=>?_;have G:Go g h0 Fs Z as s.heap (bp Z a (gV items j)) as (bu O n .dead) s.heap:=
    ⟨zl,bI.refl _,S2,fun b o e _=>⟨fun _=>e,o.slots,e⟩,fun _ h=>.inl h,fun b o' e=>by
     unfold bp at e;by_cases q:b=a
     ·subst q;exact .inr (.inl (da vG))
     ·rw [if_neg q] at e;exact .inl e⟩
   refine F6 (bj:=bp Z a (gV items j)) bp.at ?_ hx (rs.mono zl (bI.refl _)) G hv k;unfold bp;rw [if_neg (fun q=>ha (by rw [q];exact da vG))];exact hz
 ·exact al e
end
section
variable {g:Gd} {h0:Heap} {Fs:List Addr} {Z ak bj:Zm} {as aj bM:List Addr} {O σ₁ bn:B} {h ag aM:Heap} {C:Addr}
theorem St.into (s:St g h0 Fs Z as O h) (hz:Z C=none) (ha:C∉as) {o:Obj} {es:Array DictEntry} {n:Nat} (ho:h.get? C=some o) (hd:o.data=.dict es n):St g h0 (C::Fs) Z as O h:=
 ⟨s.base,fun b o z=>⟨(s.bN b o z).1,fun q=>(List.mem_cons.mp q).elim (fun e=>by rw [e,hz] at z;exact al z) (s.bN b o z).2⟩,s.len,s.obj,s.sep,
  fun a hm=>⟨fun q=>(List.mem_cons.mp q).elim (fun e=>ha (e▸hm)) (s.off a hm).1,(s.off a hm).2⟩,s.inj,fun b hb=>(List.mem_cons.mp hb).elim (fun e=>by subst e;exact ⟨o,es,n,ho,hd⟩) (s.frm b)⟩
theorem St.jE (s:St g h0 (C::Fs) Z as O h):St g h0 Fs Z as O h:=
 ⟨s.base,fun b o z=>⟨(s.bN b o z).1,fun q=>(s.bN b o z).2 (List.mem_cons_of_mem _ q)⟩,s.len,s.obj,s.sep,fun a hm=>⟨fun q=>(s.off a hm).1 (List.mem_cons_of_mem _ q),(s.off a hm).2⟩,s.inj,fun b hb=>s.frm b (List.mem_cons_of_mem _ hb)⟩
theorem St.vx (s:St g h0 Fs Z as O h) (hC:C∈Fs) {o:Obj} {es:Array DictEntry} {n:Nat} (ho:ag.get? C=some o) (hd:o.data=.dict es n) (k:∀b o,b≠C->h.get? b=some o->ag.get? b=some o):St g h0 Fs Z as O ag:=by
 refine ⟨s.base,fun b o z=>?_,s.len,fun n a o e1 e2=>?_,s.sep,fun a hm=>⟨(s.off a hm).1,?_⟩,s.inj,fun b hb=>?_⟩
 ·refine aK (s.bN b o z ) fun z1 z2=>?_;exact ⟨k b o (fun q=>z2 (q▸hC)) z1,z2⟩
 ·exact (s.obj n a o e1 e2).mono (bW.refl _) (bI.refl _) fun x hx=>k a x (fun q=>(s.off a (da e1)).1 (q▸hC)) hx
 ·obtain ⟨z,o,ho⟩:=s.off a hm;exact ⟨o,k a o (fun q=>z (q▸hC)) ho⟩
 ·by_cases q:b=C
  ·subst q;exact ⟨o,es,n,ho,hd⟩
  ·refine gN (s.frm b hb ) fun o es n e1 e2=>?_;exact ⟨o,es,n,k b o q e1,e2⟩
theorem Go.into (G:Go g h0 Fs Z as h ak aj σ₁ ag) (hn:h.get? C=none) (hz:ak C=none) (ha:C∉aj) {o:Obj} {es:Array DictEntry} {n:Nat} (ho:ag.get? C=some o) (hd:o.data=.dict es n):Go g h0 (C::Fs) Z as h ak aj σ₁ ag:=
 ⟨G.bz,G.pre,G.st.into hz ha ho hd,fun b o e m=>⟨fun q=>(G.keep b o e m).1 fun z=>q (List.mem_cons_of_mem _ z),(G.keep b o e m).2⟩,G.new,G.fz⟩
theorem Go.jE (G:Go g h0 (C::Fs) Z as h ak aj σ₁ ag) (hn:h.get? C=none):Go g h0 Fs Z as h ak aj σ₁ ag:=
 ⟨G.bz,G.pre,G.st.jE,fun b o e m=>⟨fun q=>(G.keep b o e m).1 fun z=>(List.mem_cons.mp z).elim (fun e'=>by rw [e',hn] at e;exact al e) q,(G.keep b o e m).2⟩,G.new,G.fz⟩
theorem Go.vx (G:Go g h0 Fs Z as h ak aj σ₁ ag) (hn:h.get? C=none) (hC:C∈Fs) {o:Obj} {es:Array DictEntry} {n:Nat} (ho:aM.get? C=some o) (hd:o.data=.dict es n) (k:∀b o,b≠C->ag.get? b=some o->aM.get? b=some o):
 Go g h0 Fs Z as h ak aj σ₁ aM:=
 ⟨G.bz,G.pre,G.st.vx hC ho hd k,fun b o e m=>by
  have q1:b≠C:=fun q=>by rw [q,hn] at e;exact al e
  obtain ⟨k1,sl,k2⟩:=G.keep b o e m;exact ⟨fun nf=>k b o q1 (k1 nf),sl,k b _ q1 k2⟩,G.new,G.fz⟩
theorem Go.adopt (G:Go g h0 Fs Z as h ak aj σ₁ ag) {D:Addr} {ao:aZ} (hn:h.get? D=none) (hz:ak D=none) (hF:D∉Fs) (ha:D∉aj) {o:Obj} (ho:ag.get? D=some o) (hr:iC g ak (aj++[D]) ag D ao):
 Go g h0 Fs Z as h ak (aj++[D]) (σ₁++[ao]) ag where
 bz:=G.bz
 pre:=G.pre.trans (bI.append _ _)
 st:=by
  have s:=G.st;refine ⟨s.base,s.bN,by simp [s.len],fun n b o' e1 e2=>?_,fun n b o' e1 e2 e3=>?_,fun b hb=>?_,fun n m b e1 e2=>?_,s.frm⟩
  ·rcases gY e1 with q|⟨q1,q2⟩
   ·rcases gY e2 with r|⟨r1,r2⟩
    ·exact (s.obj n b o' q r).mono (bW.refl _) (bI.append _ _) (fun _ e=>e)
    ·have:=gI q;rw [s.len] at this;omega
   ·subst q1 q2;rw [s.len,mw] at e2;obtain rfl:=Option.some.inj e2;exact hr
  ·rcases gY e1 with q|⟨q1,q2⟩
   ·rcases gY e2 with r|⟨r1,r2⟩
    ·exact s.sep n b o' q r e3
    ·have:=gI q;rw [s.len] at this;omega
   ·subst q2;exact hz
  ·rcases List.mem_append.mp hb with q|q
   ·exact s.off b q
   ·rw [List.mem_singleton] at q;subst q;exact ⟨hF,o,ho⟩
  ·rcases gY e1 with q|⟨q1,q2⟩
   ·rcases gY e2 with r|⟨r1,r2⟩
    ·exact s.inj n m b q r
    ·subst r2;exact absurd (da q) ha
   ·rcases gY e2 with r|⟨r1,r2⟩
    ·subst q2;exact absurd (da r) ha
    ·rw [q1,r1]
 keep:=G.keep
 new:=fun b hb=>by
  rcases List.mem_append.mp hb with q|q
  ·exact G.new b q
  ·rw [List.mem_singleton] at q;subst q;exact .inr hn
 fz:=fun b o e=>by
  rcases G.fz b o e with q|q|q
  ·exact .inl q
  ·exact .inr (.inl (List.mem_append_left _ q))
  ·exact .inr (.inr q)
end
theorem us {α:Type} {r:R α} (h:quiet r≠ .stuck):∃a O,r=.ok a O:=by
 induction r using R.casesOn with
 |ok a O=>exact ⟨a,O,rfl⟩
 |_=>exact absurd rfl h
section
variable {α β:Type} {g:Gd} {h0:Heap} {mb:Gv} {Fs:List Addr} {Z ak:Zm} {as aj:List Addr} {O σ₁:B} {A:Around} {s:Shared} {J:Loc} {env:Env} {sc:Scope} {q:Bool} {h ag:Heap} {tk:Nat} {I:bQ} {n:Nat}
theorem CH (f:Expr->Bool->Sem (ForInStep Bool)) (hf:∀c,f c false=pure (.yield false)):∀l:List Expr,forIn l false f=pure false
 | []=>rfl
 |c::r=>by rw [List.forIn_cons,hf c,pure_bind];exact CH f hf r
theorem Sp (IT:g0 g h0 n I) (F:Fm A Fs env sc q) (rm:Rm A n) {es:List Expr}:∀ {O:B} {Z:Zm} {as:List Addr} {s:Shared},St g h0 Fs Z as O s.heap->aW g Z as J env s.heap->
 eR (fun e O=>I.t q sc e J O) .And es O≠ .stuck->
 wpAny (model g.prog g.w) A (forIn es true fun c r=>if r=true then do let ok <- isTrue c env (eval c env);pure (ForInStep.yield ok) else pure (ForInStep.yield r))
  (PG PB g h0 Fs Z as s (eR (fun e O=>I.t q sc e J O) .And es O)) (PE g h0 Fs Z as s (eR (fun e O=>I.t q sc e J O) .And es O)) s:=by
 induction es with
 |nil=>intro O Z as s S _ _;exact wpAny_pure (ip (tk:=s.toks) S rfl)
 |cons e r ih=>
  intro O Z as s S l af;rw [List.forIn_cons];refine dy af fun R e hR=>wpAny_bind ?_;rw [if_pos rfl];refine wpAny_bind (dv (IT F rm S l) e hR fun a σ₁ ag tk ak aj c e G p=>wpAny_pure ?_);obtain rfl:a=c:=p;subst e;induction a using aN with
  |true=>exact lift S G (ih (s:={s with heap:=ag,toks:=tk}) G.st (l.go S F.mem G) hR)
  |false=>
   dsimp only;rw [CH _ (fun c=>by rw [if_neg (by decide)])];exact wpAny_pure (PG.trans (tk:=tk) G (ip (tk:=tk) G.st rfl))
theorem Kt {aQ:Scope} {x:Str} (h:oy aQ x=true):
 aQ.kind=.function/\(∀y∈aQ.names,y.2≠ .free)/\(∀y∈aQ.names,y.2≠ .cell)/\(∀y∈aQ.names,y.2=.local->aQ.names.lookup y.1=some .local)/\aQ.names.lookup x=some .local:=by
 unfold oy at h;simp only [Bool.and_eq_true,List.all_eq_true,Bool.not_eq_true'] at h;refine aK h ?_;clear h;rintro ⟨h1,h2⟩ h3;have loc:∀ {o:Option NameKind},qS o=true->o=some .local:=by
  intro o h;induction o using aA with
  |none=>exact ff h
  |some k=>induction k using NameKind.casesOn<;>first|rfl|exact ff h
 refine ⟨?_,fun y hy q=>?_,fun y hy q=>?_,fun y hy _=>?_,?_⟩
 ·(generalize hk:aQ.kind=zc;induction zc using ScopeKind.casesOn)<;>rw [hk] at h1<;>first|rfl|exact ff h1
 ·have:=(h2 y hy).1;rw [q] at this;cases this
 ·have:=(h2 y hy).1;rw [q] at this;cases this
 ·rw [<- pD];exact loc (h2 y hy).2
 ·rw [<- pD];exact loc h3
theorem Hl {aQ:Scope} {env:Env} (h:∀y∈aQ.names,y.2≠ .free):relabel aQ env=aQ:=by
 unfold relabel;rw [map_eq_self (l:=aQ.names) (fun x hx=>by
  obtain ⟨n,k⟩:=x;have:(k==NameKind.free)=false:=by simpa using h _ hx
  simp [this])]
end
theorem u7 {α:Type}:∀ {l:List α} {i:Nat} {x:α},az l i=some x->l.drop i=x::l.drop (i+1)
 | [],i,_,h=>by induction i using cz<;>exact al h
 |a::r,0,x,h=>by obtain rfl:=Option.some.inj h;rfl
 |a::r,i+1,x,h=>by rw [List.drop_succ_cons,List.drop_succ_cons];exact u7 h
theorem DS {prog:Program} {w:World} {A:Around} {E:Value->Shared->Prop} {s:Shared} {l:Addr} {items:Array Value} {n:Nat} {x:Value} {Q:Value->Shared->Prop} (hl:IsL s.heap l items n) (cZ:items.size<=sizeLine)
 (h:Q .none {s with heap:=s.heap.update l (Obj.mapSeq fun y=>y.push x)}):wpAny (model prog w) A (call (.builtin "list.append") [.ref l,x]) Q E s:=
 call_meets slot_list_append ⟨_,hl,rfl⟩ entry_list_append (args_list_append _ _) (list_append l items n x cZ) ⟨hl,h⟩
structure Lk (g:Gd) (F':List Addr) (A:Around) (hs:Heap) (C D It:Addr) (fp:List Addr) (P:Nat->Value->Prop) (bF:Nat->Heap->Prop) (l:List V):Prop where
 nC:hs.get? C=none
 nD:hs.get? D=none
 nI:hs.get? It=none
 DC:D≠C
 IC:It≠C
 ID:It≠D
 CF:C∈F'
 DF:D∉F'
 IF:It∉F'
 W:Walks g.prog g.w A It fp [It] l.length P bF
 ex:∀i h,bF i h->∃o,h.get? It=some o
structure Lp (g:Gd) (h0:Heap) (F':List Addr) (Z:Zm) (as:List Addr) (hs:Heap) (C D It:Addr) (fp:List Addr) (P:Nat->Value->Prop) (bF:Nat->Heap->Prop) (l:List V) (i:Nat) (items:Array Value) (acc:List V) (O:B) (Zc:Zm) (asc:List Addr) (h:Heap):Prop where
 G:Go g h0 F' Z as hs Zc asc O h
 st:bF i h
 zD:Zc D=none
 aD:D∉asc
 zI:Zc It=none
 aI:It∉asc
 hn:∃m,h.Ns C m
 hL:∃kk,IsL h D items kk
 rA:aO g Zc asc acc items.toList
 fz:∀b∈fp,b≠It->∃o,Zc b=some o
 val:∀i v',P i v'->∃x,az l i=some x/\RV g Zc asc x v'
section
variable {g:Gd} {h0:Heap} {F':List Addr} {Z Zc ak:Zm} {as asc aj:List Addr} {A:Around} {hs h ag:Heap} {C D It:Addr} {fp:List Addr} {P:Nat->Value->Prop} {bF:Nat->Heap->Prop} {l acc:List V} {i:Nat} {items:Array Value} {O σ₁:B}
theorem Lp.kept (S:Lp g h0 F' Z as hs C D It fp P bF l i items acc O Zc asc h) (K:Lk g F' A hs C D It fp P bF l) (kp:∀b o,b≠It->h.get? b=some o->ag.get? b=some o):
 Go g h0 F' Z as hs Zc asc O ag/\(∃m,ag.Ns C m)/\∃kk,IsL ag D items kk:=
 ⟨S.G.loose K.nI S.zI K.IF S.aI kp,let ⟨m,o,es,ep,ho,r⟩:=S.hn;⟨m,o,es,ep,kp _ o (Ne.symm K.IC) ho,r⟩,let ⟨kk,e⟩:=S.hL;⟨kk,kp _ _ (Ne.symm K.ID) e⟩⟩
theorem Lp.item (S:Lp g h0 F' Z as hs C D It fp P bF l i items acc O Zc asc h) (K:Lk g F' A hs C D It fp P bF l) (st:bF (i+1) ag) (kp:∀b o,b≠It->h.get? b=some o->ag.get? b=some o):
 Lp g h0 F' Z as hs C D It fp P bF l (i+1) items acc O Zc asc ag:=
 let ⟨a,b,c⟩:=S.kept K kp
 ⟨a,st,S.zD,S.aD,S.zI,S.aI,b,c,S.rA,S.fz,S.val⟩
theorem Lp.frame (S:Lp g h0 F' Z as hs C D It fp P bF l i items acc O Zc asc h) (K:Lk g F' A hs C D It fp P bF l) (kI:∀o,h.get? It=some o->ag.get? It=some o) (kz:∀b o,b≠It->Zc b=some o->ag.get? b=some o):bF i ag:=
 K.W.frame _ _ _ S.st fun b hb o e=>by
  by_cases q:b=It
  ·subst q;exact kI o e
  ·refine aB (S.fz b hb q ) fun o' z=>?_;rw [(S.G.st.bN b o' z).1] at e;obtain rfl:=Option.some.inj e;exact kz b _ q z
theorem Lp.store (S:Lp g h0 F' Z as hs C D It fp P bF l i items acc O Zc asc h) (K:Lk g F' A hs C D It fp P bF l) {m:Gv} (hn:ag.Ns C m) (kp:∀b o,b≠C->h.get? b=some o->ag.get? b=some o):
 Lp g h0 F' Z as hs C D It fp P bF l i items acc O Zc asc ag:=by
 refine dW (id hn ) fun oC es ep ho hd _=>?_;have G:=S.G.vx K.nC K.CF ho hd kp;exact ⟨G,S.frame K (fun o e=>kp _ o K.IC e) fun b o _ z=>(G.st.bN b o z).1,S.zD,S.aD,S.zI,S.aI,⟨m,hn⟩,let ⟨kk,e⟩:=S.hL;⟨kk,kp _ _ K.DC e⟩,S.rA,S.fz,S.val⟩
theorem Lp.run (S:Lp g h0 F' Z as hs C D It fp P bF l i items acc O Zc asc h) (K:Lk g F' A hs C D It fp P bF l) (G:Go g h0 F' Zc asc h ak aj σ₁ ag) (hn:∃m,ag.Ns C m):
 Lp g h0 F' Z as hs C D It fp P bF l i items acc σ₁ ak aj ag:=by
 refine aB S.hL fun kk hL=>?_;refine aB (K.ex _ _ S.st ) fun oI iV=>?_;have d:=G.apart hL S.zD K.DF S.aD;have j:=G.apart iV S.zI K.IF S.aI;exact ⟨S.G.trans G,S.frame K (fun o e=>(G.keep _ o e S.aI).1 K.IF) fun b o _ z=>(G.st.bN b o (G.bz _ _ z)).1,d.1,d.2.1,j.1,j.2.1,hn,⟨kk,d.2.2⟩,S.rA.mono G.bz G.pre,
  fun b hb q=>let ⟨o,z⟩:=S.fz b hb q;⟨o,G.bz _ _ z⟩,fun i v' p=>let ⟨y,a,b⟩:=S.val i v' p;⟨y,a,b.mono G.bz G.pre⟩⟩
theorem Lp.push (S:Lp g h0 F' Z as hs C D It fp P bF l i items acc O Zc asc h) (K:Lk g F' A hs C D It fp P bF l) {v:V} {val:Value} (rv:RV g Zc asc v val):
 Lp g h0 F' Z as hs C D It fp P bF l i (items.push val) (acc++[v]) O Zc asc (h.update D (Obj.mapSeq fun y=>y.push val)):=by
 refine aB S.hL fun kk hL=>?_;have kp:∀b o,b≠D->h.get? b=some o->(h.update D (Obj.mapSeq fun y=>y.push val)).get? b=some o:=fun b o hb e=>(Heap.get?_update_other _ _ (Ne.symm hb)).trans e;exact ⟨S.G.loose K.nD S.zD K.DF S.aD kp,S.frame K (fun o e=>kp _ o K.ID e) fun b o _ z=>kp b o (fun q=>by rw [q,S.zD] at z;exact al z) (S.G.st.bN b o z).1,S.zD,S.aD,S.zI,S.aI,
  let ⟨m,o,es,ep,ho,r⟩:=S.hn;⟨m,o,es,ep,kp _ o (Ne.symm K.DC) ho,r⟩,⟨_,IsL.update hL (fun y=>y.push val)⟩,by rw [Array.toList_push];exact aO.append (.cons rv .nil) S.rA,S.fz,S.val⟩
end
inductive yR (g:Gd) (h0:Heap) (F':List Addr) (Z:Zm) (as:List Addr) (s:Shared) (C D It:Addr) (fp:List Addr) (P:Nat->Value->Prop) (bF:Nat->Heap->Prop) (l:List V) (cv:Nat->List V->B->Zm->List Addr->Prop) (k:Nat) (s':Shared):Prop
 |mk (i:Nat) (items:Array Value) (acc:List V) (O:B) (Zc:Zm) (asc:List Addr) (h':Heap) (tk:Nat):s'={s with heap:=h',toks:=tk} -> Lp g h0 F' Z as s.heap C D It fp P bF l i items acc O Zc asc h'->
  cv i acc O Zc asc->i<=l.length->k=l.length+1-i->yR g h0 F' Z as s C D It fp P bF l cv k s'
theorem uj {α:Type} {g:Gd} {h0:Heap} {Fs:List Addr} {Z:Zm} {as:List Addr} {s:Shared} {r:R α} {a:α} {O:B} (e:r=.ok a O) {v:Value} {s':Shared} {P:Prop} (x:PE g h0 Fs Z as s r v s'):P:=by
 obtain ⟨f,_,_,_,_,_,_,e1,_⟩:=x;rw [e] at e1;cases e1
theorem t8 {α:Type} {a:α} {O:B}:quiet (.ok a O)=.ok a O:=rfl
theorem mU {α β:Type} {a:α} {O:B} {k:α->B->R β}:(R.ok a O).bind k=k a O:=rfl
theorem uw {n i:Nat} (h:i<n):n+1-(i+1)<n+1-i:=Nat.sub_lt_sub_left (Nat.lt_succ_of_lt h) (Nat.lt_succ_self i)
theorem Cv {α:Type} {r:R α} {a:α} {O:B} (e:r=.ok a O):r≠ .stuck:=by rw [e];intro z;cases z
theorem J4 {ev:V->B->R V} {tv:V->B->R Bool} {a:V} {l acc rV:List V} {O c_:B} (h:cV ev tv (a::l) acc O=.ok rV c_):
 ∃b σ₁,tv a O=.ok b σ₁/\(bif b then (quiet (ev a σ₁)).bind (fun v O=>bif bd acc.length then cV ev tv l (acc++[v]) O else .stuck) else cV ev tv l acc σ₁)=.ok rV c_:=by
 rw [sV] at h;refine eO (us (r:=tv a O) fun z=>by rw [z] at h;cases h ) fun b σ₁ e=>?_;rw [e,t8,mU] at h;exact ⟨b,σ₁,e,h⟩
theorem Jq {ev:V->B->R V} {tv:V->B->R Bool} {a:V} {l acc rV:List V} {O c_:B} (h:(bif true then (quiet (ev a O)).bind (fun v O=>bif bd acc.length then cV ev tv l (acc++[v]) O else .stuck) else cV ev tv l acc O)=.ok rV c_):
 ∃v σ₁,ev a O=.ok v σ₁/\bd acc.length=true/\cV ev tv l (acc++[v]) σ₁=.ok rV c_:=by
 dsimp only [cond_true] at h;refine eO (us (r:=ev a O) fun z=>by rw [z] at h;cases h ) fun v σ₁ e=>?_;rw [e,t8,mU] at h;have c:=dJ (fun z=>by rw [z] at h;cases h);exact ⟨v,σ₁,e,c,(cH c).symm.trans h⟩
theorem FH {g:Gd} {Z:Zm} {as:List Addr} {env:Env} {h:Heap} {m:Gv} {x:Str} {a:V} {val:Value} (hn:h.Ns env.locals fun y=>if y=x then some val else m y) (ra:RV g Z as a val):aW g Z as [(x,a)] env h:=⟨_,hn,fun y w e=>by
 rw [lE] at e;by_cases q:x=y
 ·subst q;rw [cH (bY.mpr rfl)] at e;obtain rfl:=Option.some.inj e;exact ⟨val,by simp,ra⟩
 ·rw [gy (gq.mpr q)] at e;exact al e⟩
section
variable {g:Gd} {h0:Heap} {Fs:List Addr} {Z:Zm} {as:List Addr} {A:Around} {s:Shared} {I:bQ} {n:Nat}
theorem TK (IE:bX g h0 n I) (IT:g0 g h0 n I) (rm:Rm A n) {C D It:Addr} {bD:Env} {aQ:Scope} {x:Str} {px pos:Pos} {bC iter:Expr} {bL:List Expr} {R':Result->Shared->Prop}
 (F:Fm A (C::Fs) bD aQ true) (lB:bD.locals=C) (hx:aQ.names.lookup x=some .local) (Hy:aQ.kind=.function)
 {l:List V} {fp:List Addr} {P:Nat->Value->Prop} {bF:Nat->Heap->Prop} {gD:Zm} {g7:List Addr} {g':B} {g6:Heap} {sB:Nat}
 (nC:s.heap.get? C=none) (nD:s.heap.get? D=none) (nI:s.heap.get? It=none) (gv:D≠C) (ju:It≠C) (la:It≠D) (ot:D∉Fs) (sy:It∉Fs)
 (W:Walks g.prog g.w A It fp [It] l.length P bF) (ex:∀i h,bF i h->∃o,h.get? It=some o)
 {rV:List V} {c_:B} (dZ:cV (fun a O=>I.e true aQ bC [(x,a)] O) (fun a O=>eR (fun e O=>I.t true aQ e [(x,a)] O) .And bL O) l [] g'=.ok rV c_)
 (qx:Go g h0 (C::Fs) Z as s.heap gD g7 g' g6) (qO:bF 0 g6) (zD:gD D=none) (aD:D∉g7) (zI:gD It=none) (aI:It∉g7) (m₀:Gv) (m9:g6.Ns C m₀) (sr:IsL g6 D #[] 0)
 (kC:∀b∈fp,b≠It->∃o,gD b=some o) (j0:∀i v',P i v'->∃x,az l i=some x/\RV g gD g7 x v')
 (i6:∀ag tk ak aj items kk m,Go g h0 (C::Fs) Z as s.heap ak aj c_ ag->ag.Ns C m->IsL ag D items kk->aO g ak aj rV items.toList->ak D=none->D∉aj->R' (.ok .next) {s with heap:=ag,toks:=tk}):
 codeAny (model g.prog g.w) A (.compLoop (.ListComp bC [⟨.Name x px,iter,bL,0⟩] aQ pos) 0 (.ref It) (.ref D) bD) R' {s with heap:=g6,toks:=sB}:=by
 subst lB;have K:Lk g (bD.locals::Fs) A s.heap bD.locals D It fp P bF l:=⟨nC,nD,nI,gv,ju,la,.head _,fun q=>(List.mem_cons.mp q).elim gv ot,fun q=>(List.mem_cons.mp q).elim ju sy,W,ex⟩
 have eQ:bD.kindOf x=some .local:=by rw [ou F,pD];exact hx
 refine codeAny_compLoop_tests (yR g h0 (bD.locals::Fs) Z as s bD.locals D It fp P bF l fun i lj hS _ _=>cV (fun a O=>I.e true aQ bC [(x,a)] O) (fun a O=>eR (fun e O=>I.t true aQ e [(x,a)] O) .And bL O) (l.drop i) lj hS=.ok rV c_) ?_ (l.length+1)
  ⟨0,#[],[],g',gD,g7,g6,sB,rfl,⟨qx,qO,zD,aD,zI,aI,⟨_,m9⟩,⟨_,sr⟩,.nil,kC,j0⟩,dZ,Nat.zero_le _,rfl⟩
 clear m9 sr qx qO zD aD zI aI kC j0 nC nD nI gv ju la ot sy ex dZ;rintro k s' ⟨i,items,lj,hS,Zc,asc,h',tk,rfl,L,dZ,hi,rfl⟩;by_cases eG:i<l.length
 ·refine W.item i _ _ _ eG L.st fun v' ag dR p fV d_=>?_;refine aw (L.val i v' p ) fun a ea ra=>?_;rw [u7 ea] at dZ;have L:=L.item K fV fun b o hb e=>d_ b o (fun q=>hb (List.mem_singleton.mp q)) e;refine aB L.hn fun m sJ=>?_;refine wpAny_assign_Name (wpAny_storeName_local eQ sJ (fun aM nX qR=>?_) (by rw [F.scope,F.kind];rfl));have L:=L.store K nX fun b o hb e=>(qR.2 b hb).trans e;have lo:=FH nX ra;clear d_ fV ea p sJ nX qR ra;refine b_ (J4 dZ ) fun b pM eb dZ=>?_;refine wpAny_mono (Sp (s:={s with heap:=aM,toks:=dR+1}) IT F rm L.G.st lo (Cv eb)) (fun ok Uq pg=>?_) fun _ _ x=>uj eb x;obtain ⟨b',Uv,cu,gZ,lP,n5,e3,rfl,G3,e4⟩:=pg;refine aK (R.ok.inj (eb.symm.trans e3) ) ?_;rintro rfl rfl;obtain rfl:b=ok:=e4;have lo:=lo.go L.G.st F.mem G3;have L:=L.run K G3 (let ⟨m,a,_⟩:=lo;⟨m,a⟩);clear G3 eb e3;induction b using aN with
  |false=>exact ⟨l.length+1-(i+1),uw eG,i+1,items,lj,_,lP,n5,cu,gZ,rfl,L,dZ,eG,rfl⟩
  |true=>
   refine i_ (Jq (ev:=fun a O=>I.e true aQ bC [(x,a)] O) (tv:=fun a O=>eR (fun e O=>I.t true aQ e [(x,a)] O) .And bL O) (a:=a) dZ ) fun v HG ev c dZ=>?_;refine wpAny_mono (IE (s:={s with heap:=cu,toks:=gZ}) F rm L.G.st lo (Cv ev)) (fun val Ir pg=>?_) fun _ _ x=>uj ev x;obtain ⟨v1,Pr,gO,n9,z9,xY,e4,rfl,G4,rv⟩:=pg;refine aK (R.ok.inj (ev.symm.trans e4) ) ?_;rintro rfl rfl;have lo:=lo.go L.G.st F.mem G4;have L:=L.run K G4 (let ⟨m,a,_⟩:=lo;⟨m,a⟩);refine aB L.hL fun kk hL=>?_;refine DS (s:={s with heap:=gO,toks:=n9}) hL (by rw [<- Array.length_toList,<- L.rA.length];exact ej c) ?_;exact ⟨l.length+1-(i+1),uw eG,i+1,items.push val,lj++[v],_,z9,xY,_,n9,rfl,L.push K rv,dZ,eG,rfl⟩
 ·obtain rfl:i=l.length:=Nat.le_antisymm hi (Nat.le_of_not_lt eG);rw [List.drop_length] at dZ;refine aK (R.ok.inj dZ ) ?_;rintro rfl rfl;refine W.done _ _ _ L.st fun ag dR d_=>?_;obtain ⟨G,⟨m,hn⟩,kk,hL⟩:=L.kept K fun b o hb e=>d_ b o (fun q=>hb (List.mem_singleton.mp q)) e;exact i6 ag dR Zc asc items kk m G hn hL L.rA L.zD L.aD
end
theorem EL {I:bQ} (HS:gL I) {q:Bool} {sc:Scope} {e:Expr} {J:Loc} {O:B} (h:I.e q sc e J O≠ .stuck) {env:Env} (x:Value):foldedSetIterable e env x=pure x:=by
 induction e using Expr.casesOn<;>first|rfl|exact absurd (HS _ _ _ _ _ _ _) h
noncomputable def jG (I:bQ) (sc aQ:Scope) (x:Str) (it bC:Expr) (bL:List Expr) (J:Loc) (O:B):R V:=
 (I.e false sc it J O).bind fun v O=>(match fk v O with
  |some (l,O)=>(cV (fun a O=>I.e true aQ bC [(x,a)] O) (fun a O=>eR (fun e O=>I.t true aQ e [(x,a)] O) .And bL O) l [] O).bind fun r O=>newObj O (.list r)
  |none=>.stuck)
theorem KI {ev:V->B->R V} {tv:V->B->R Bool} {l:List V}:∀ {acc:List V} {O:B},cV ev tv l acc O≠ .stuck->∃r σ',cV ev tv l acc O=.ok r σ':=by
 induction l with
 |nil=>exact fun {acc O} _=>⟨acc,O,rfl⟩
 |cons a l ih=>
  intro acc O h;rw [sV] at h ⊢;refine eO (us (iq h) ) fun b σ₁ e1=>?_;rw [e1,t8,mU] at h ⊢;induction b using aN with
  |false=>exact ih h
  |true=>
   have h:(quiet (ev a σ₁)).bind _≠R.stuck:=h;show ∃r σ',(quiet (ev a σ₁)).bind _=R.ok r σ';refine eO (us (iq h) ) fun v bn e2=>?_;rw [e2,t8,mU] at h ⊢;have c:=dJ h;rw [cH c] at h ⊢;exact ih h
section
variable {g:Gd} {h0:Heap} {Fs:List Addr} {Z:Zm} {as:List Addr} {O:B} {A:Around} {s:Shared} {J:Loc} {env:Env} {sc:Scope} {I:bQ} {n:Nat}
theorem EK (HS:gL I) (IE:bX g h0 n I) (IT:g0 g h0 n I) (F:Fm A Fs env sc false) (rm:Rm A n) {x:Str} {px pos:Pos} {aQ:Scope} {bC iter:Expr} {bL:List Expr} {use:Option (Value->Sem Unit)} {Q:Value->Shared->Prop} {E:Value->Shared->Prop}
 (ok:oy aQ x=true) (S:St g h0 Fs Z as O s.heap) (lo:aW g Z as J env s.heap) (af:jG I sc aQ x iter bC bL J O≠ .stuck)
 (hE:∀e s',PE g h0 Fs Z as s (jG I sc aQ x iter bC bL J O) e s'->E e s')
 (i6:∀ag tk ak aj σ₁ C m v acc,jG I sc aQ x iter bC bL J O=.ok v σ₁->s.heap.get? C=none->Go g h0 (C::Fs) Z as s.heap ak aj σ₁ ag->ag.Ns C m->RV g ak aj v acc->ak C=none->C∉aj->C∉Fs->
  compPost (model g.prog g.w) A E use Q acc C (.ok .next) {s with heap:=ag,toks:=tk}):
 wpAny (model g.prog g.w) A (comprehension (.ListComp bC [⟨.Name x px,iter,bL,0⟩] aQ pos) aQ env (firstIterPos [⟨.Name x px,iter,bL,0⟩] pos) (newList []) false (eval iter env) use) Q E s:=by
 refine nr (Kt ok ) fun ck cf cc cl cx=>?_;unfold jG at af hE i6;refine wpAny_comprehension_free (g:=⟨.Name x px,iter,bL,0⟩) (gs:=[]) rfl (fun y=>EL HS (iq af) y) (closureFor_none cf) ck cl (wpAny_mono (IE F rm S lo (iq af)) (fun vi bG pv=>?_) fun e s' y=>hE e s' y.bind);obtain ⟨v,σ₁,ag,tk,ak,aj,e1,rfl,G,rv⟩:=pv;rw [e1] at af hE i6;simp only [mU] at af hE i6;generalize e2:fk v σ₁=zc;induction zc using aA with
 |none=>rw [e2] at af;exact absurd rfl af
 |some k6=>
  obtain ⟨l,bn⟩:=k6;rw [e2] at af i6;dsimp only at af i6;refine eO (KI (iq af) ) fun rV c_ e3=>?_;rw [e3] at i6;simp only [mU] at i6;refine xi (s:={s with heap:=ag,toks:=tk}) (F.full rfl).1 G.st rv e2 fun aM bj It fp P bF aS qY bV=>?_;have GG:=G.trans aS;refine aB (bV.ex _ _ bV.st ) fun oI iV=>?_;have fH:=GG.st;unfold newList;refine wpAny_newObj_type ?_ (by show 0<=_;exact Nat.zero_le _);refine wpAny_newFunctionEnv cc (fun y hy=>(nomatch hy)) (fun fA mY ng=>?_) ck;dsimp only at mY ng ⊢;rw [Hl cf];generalize hD:aM.objs.size=D at*;have ix:aM.get? D=none:=by rw [<- hD];exact dg _
  generalize hC:(aM.push {cls:=.type "list",data:=.seq ([]:List Value).toArray}).objs.size=C at*;have qc:C=D+1:=by rw [<- hC,<- hD];exact Heap.size_push ..
  have g9:aM.get? C=none:=Heap.get?_none_of_le (by exact ae [_,_,_] [] [.e (.v 0) (.v 2),.f (.v 1) (.p (.v 2) (.n 1))] (.le (.v 0) (.v 1)) rfl hD qc);have Mf:(aM.push {cls:=.type "list",data:=.seq ([]:List Value).toArray}).get? C=none:=by rw [<- hC];exact dg _
  have keep:∀b o,aM.get? b=some o->fA.get? b=some o:=fun b o e=>by
   have hb:b≠C:=fun q=>by rw [q,g9] at e;exact al e
   exact (ng.2 b hb).trans (jA b o (jA b o e))
  have An:fA.get? D=some (gV #[] 0):=by
   have hb:D≠C:=by exact fun zz=>Nat.lt_irrefl 0 (ae [_,_] [] [.f (.v 0) (.p (.v 1) (.n 1)),.f (.v 1) (.v 0)] (.lt (.n 0) (.n 0)) rfl qc zz)
   refine (ng.2 D hb).trans (jA D _ ?_);rw [<- hD];exact Heap.get?_push_size _ rfl
  have q_:=GG.trans (Go.keeps fH keep);refine dW (id mY ) fun oC HA Kj rS qD _=>?_;have zC:=fH.fresh g9;have aC:=fH.fD g9;have zD:=fH.fresh ix;have aD:=fH.fD ix;have nC:=Go.gw S GG C g9;have nD:=Go.gw S GG D ix;have mB:=q_.into nC zC aC rS qD;have gv:D≠C:=by exact fun zz=>Nat.lt_irrefl 0 (ae [_,_] [] [.f (.v 0) (.p (.v 1) (.n 1)),.f (.v 1) (.v 0)] (.lt (.n 0) (.n 0)) rfl qc zz)
  have ju:It≠C:=fun q=>by rw [q,g9] at iV;exact al iV
  have la:It≠D:=fun q=>by rw [q,ix] at iV;exact al iV
  have qw:bF 0 fA:=bV.walk.frame _ _ _ bV.st fun b _ o e=>keep b o e;have F':Fm A (C::Fs) {newEnv aQ C env.globals [] env.qual none .none (some env) builtinsNs with scope:=aQ} aQ true:=
   ⟨rfl,ck,F.glob,F.blt,List.mem_cons_self ..,fun z=>(nomatch z)⟩
  have key:∀bO,codeAny (model g.prog g.w) A (.compLoop (.ListComp bC [⟨.Name x px,iter,bL,0⟩] aQ pos) 0 (.ref It) (.ref D) {newEnv aQ C env.globals [] env.qual none .none (some env) builtinsNs with scope:=aQ})
   (compPost (model g.prog g.w) A E use Q (.ref D) C) {s with heap:=fA,toks:=bO}:=fun bO=>by
   refine TK (s:=s) IE IT rm F' rfl cx ck nC nD (Go.gw S G It qY) gv ju la (fH.gu ix) bV.f bV.walk bV.ex e3 mB qw zD aD bV.z bV.a _ mY An bV.fp bV.val ?_;intro uA v7 pk sN items kk m mP yN uF zU uk xa;have xD:C∉sN:=fun q=>(mP.st.off C q).1 (List.mem_cons_self ..);have Ai:pk C=none:=by
    generalize q:pk C=zc;induction zc using aA with
    |none=>rfl
    |some o=>exact absurd (List.mem_cons_self ..) (mP.st.bN C o q).2
   have ot:D∉C::Fs:=fun q=>(List.mem_cons.mp q).elim gv (fH.gu ix);refine i6 uA v7 pk (sN++[D]) _ C m (.loc c_.length) (.ref D) rfl nC (mP.adopt nD uk ot xa uF ⟨items,kk,uF,zU.mono (bW.refl _) (bI.append _ _)⟩) yN (.loc (by rw [<- mP.st.len];exact mw _ _)) Ai (fun q=>?_) (fH.gu g9);rcases List.mem_append.mp q with q|q
   ·exact xD q
   ·rw [List.mem_singleton] at q;exact gv q.symm
  exact codeAny_compStart_list (key _) (bV.walk.self 0 _ _ _ qw (key _))
theorem RB (HS:gL I) (IE:bX g h0 n I) (IT:g0 g h0 n I) (F:Fm A Fs env sc false) (rm:Rm A n) {x:Str} {px pos:Pos} {aQ:Scope} {bC iter:Expr} {bL:List Expr}
 (ok:oy aQ x=true) (S:St g h0 Fs Z as O s.heap) (lo:aW g Z as J env s.heap) (af:jG I sc aQ x iter bC bL J O≠ .stuck):
 wpAny (model g.prog g.w) A (eval (.ListComp bC [⟨.Name x px,iter,bL,0⟩] aQ pos) env) (PV g h0 Fs Z as s (jG I sc aQ x iter bC bL J O)) (PE g h0 Fs Z as s (jG I sc aQ x iter bC bL J O)) s:=by
 rw [eval_ListComp];refine EK HS IE IT F rm ok S lo af (fun _ _ y=>y) fun ag tk ak aj σ₁ C m v acc er nC G hn rv zC aC fC=>⟨m,hn,fun h' sb=>?_⟩
 rw [er];exact ⟨v,σ₁,h',tk,ak,aj,rfl,rfl,(G.jE nC).loose nC zC fC aC fun b o hb e=>(sb.2 b hb).trans e,rv⟩
end
section
variable {g:Gd} {h0:Heap} {mb:Gv} {Fs:List Addr} {Z:Zm} {as:List Addr} {O:B} {A:Around} {s:Shared} {J:Loc} {env:Env} {sc:Scope} {q:Bool} {I:bQ} {n:Nat} {Γ:Ctx}
noncomputable abbrev zv (g:Gd) (h0:Heap) (A:Around) (Fs:List Addr) (Z:Zm) (as:List Addr) (s:Shared) (e:Expr) (env:Env) (r:R V):Prop:=
 wpAny (model g.prog g.w) A (eval e env) (PV g h0 Fs Z as s r) (PE g h0 Fs Z as s r) s
inductive dQ:Expr->Ex->Prop
 |cN k p:dQ (.Constant .none k p) (.cst .none)
 |cB b k p:dQ (.Constant (.bool b) k p) (.cst (.bool b))
 |cI i k p:dQ (.Constant (.int i) k p) (.cst (.int i))
 |cS x k p:dQ (.Constant (.str x) k p) (.cst (.str x))
 |name x p:dQ (.Name x p) (.name x)
 |tup es k p:es.all fX=true->dQ (.Tuple es k p) (.tup es)
 |lst es p:es.all fX=true->dQ (.List es p) (.lst es)
 |bin l op r p:dQ (.BinOp l op r p) (.bin l op r)
 |un op x p:dQ (.UnaryOp op x p) (.un op x)
 |boo op vs p:dQ (.BoolOp op vs p) (.boo op vs)
 |lf t b o p:dQ (.IfExp t b o p) (.lf t b o)
 |cmp l ops cs p:dQ (.Compare l ops cs p) (.cmp l ops cs)
 |kh ps p:dQ (.JoinedStr ps p) (.kh ps)
 |att o a p:kq o=false->dQ (.Attribute o a p) (.att o a)
 |kJ o lo hi p' p:dQ (.Subscript o (.Slice lo hi none p') p) (.kJ o lo hi)
 |sub o i p:je i=false->dQ (.Subscript o i p) (.sub o i)
 |k9 o m ap p:kq o=false->(ap.endLine==p.line)=true->dQ (.Call (.Attribute o m ap) [] [] p) (.k9 o m)
 |kD o m x ap p:fX x=true->kq o=false->(ap.endLine==p.line)=true->dQ (.Call (.Attribute o m ap) [x] [] p) (.kD o m x)
 |cal f es p:oU f=none->es.all fX=true->dQ (.Call f es [] p) (.cal f es)
 |kL ks vs p:Nat.ble ks.length 15=true->kP ks vs=true->dQ (.Dict ks vs p) (.kL ks vs)
 |com bC x px it bL aQ p:dQ (.ListComp bC [⟨.Name x px,it,bL,0⟩] aQ p) (.com bC x it bL aQ)
theorem pX {e:Expr} {x:Str} (h:gb e=some x):∃p,e=.Name x p:=by
 induction e using Expr.casesOn with
 |Name y p=>obtain rfl:=Option.some.inj h;exact ⟨p,rfl⟩
 |_=>exact al h
theorem Ci {e o:Expr} {m:Str} {p:Pos} (h:oU e=some (o,m,p)):e=.Attribute o m p:=by
 induction e using Expr.casesOn with
 |Attribute o m p=>cases h;rfl
 |_=>exact al h
theorem O5 {e:Expr} {lo hi st:Option Expr} (h:tI e=some (lo,hi,st)):∃p,e=.Slice lo hi st p:=by
 induction e using Expr.casesOn with
 |Slice lo hi st p=>cases h;exact ⟨p,rfl⟩
 |_=>exact al h
theorem Mb {e:Expr} (h:tI e=none):je e=false:=by
 induction e using Expr.casesOn<;>first|rfl|exact al h.symm
theorem oA {b:Bool} {k:Option Ex} {x:Ex} (h:lI b k=some x):b=true/\k=some x:=by
 induction b using aN with
 |true=>exact ⟨rfl,h⟩
 |false=>exact al h
theorem H3 {o i:Expr} {k:Ex} {p:Pos} (h:zX o i=some k):dQ (.Subscript o i p) k:=by
 unfold zX at h;generalize e:tI i=zc;induction zc using aA with
 |none=>rw [e] at h;obtain rfl:=Option.some.inj h;exact .sub o i p (Mb e)
 |some x=>
  obtain ⟨lo,hi,st⟩:=x;refine aB (O5 e ) ?_;rintro p' rfl;induction st using aA with
  |none=>obtain rfl:=Option.some.inj h;exact .kJ o lo hi p' p
  |some _=>exact al h
theorem O0 {as:List Expr} {f:Expr} {k:Ex} {p:Pos} (c:as.all fX=true) (h:zb as p f=some k):dQ (.Call f as [] p) k:=by
 unfold zb at h;generalize e:oU f=zc;induction zc using aA with
 |none=>rw [e] at h;obtain rfl:=Option.some.inj h;exact .cal f as p e c
 |some x=>
  obtain ⟨o,m,ap⟩:=x;obtain rfl:=Ci e;refine aK (oA h ) fun d h=>?_;rw [Bool.and_eq_true,Bool.not_eq_true'] at d
  match as with
  | []=>obtain rfl:=Option.some.inj h;exact .k9 o m ap p d.1 d.2
  | [x]=>obtain rfl:=Option.some.inj h;rw [List.all_cons,Bool.and_eq_true] at c;exact .kD o m x ap p c.1 d.1 d.2
  |_::_::_=>exact al h
theorem Bh {bC:Expr} {aQ:Scope} {gs:List Comprehension} {k:Ex} {p:Pos} (h:nn bC aQ gs=some k):∃x px it bL,gs=[⟨.Name x px,it,bL,0⟩]/\k=.com bC x it bL aQ:=by
 match gs with
 | []=>exact al h
 | [⟨t,it,bL,a⟩]=>
  unfold nn at h;dsimp only at h;generalize e:gb t=zc;induction zc using aA with
  |none=>rw [e] at h;exact al h
  |some x=>
   rw [e] at h;refine aK (oA h ) fun d h=>?_;refine aB (pX e ) ?_;rintro px rfl;obtain rfl:=Option.some.inj h;obtain rfl:=eq_of_beq d;exact ⟨x,px,it,bL,rfl,rfl⟩
 | ⟨_,_,_,_⟩::_::_=>exact al h
theorem NG {e:Expr} {k:Ex} (h:pS e=some k):dQ e k:=by
 induction e using Expr.casesOn with
 |Constant c k p=>
  induction c using Const.casesOn with
  |none=>obtain rfl:=Option.some.inj h;exact .cN k p
  |bool b=>obtain rfl:=Option.some.inj h;exact .cB b k p
  |int i=>obtain rfl:=Option.some.inj h;exact .cI i k p
  |str x=>obtain rfl:=Option.some.inj h;exact .cS x k p
  |_=>exact al h
 |Name x p=>obtain rfl:=Option.some.inj h;exact .name x p
 |Tuple es k p=>refine aK (oA h) fun c h=>?_;obtain rfl:=Option.some.inj h;exact .tup es k p c
 |List es p=>refine aK (oA h) fun c h=>?_;obtain rfl:=Option.some.inj h;exact .lst es p c
 |BinOp l op r p=>obtain rfl:=Option.some.inj h;exact .bin l op r p
 |UnaryOp op x p=>obtain rfl:=Option.some.inj h;exact .un op x p
 |BoolOp op vs p=>obtain rfl:=Option.some.inj h;exact .boo op vs p
 |IfExp t b o p=>obtain rfl:=Option.some.inj h;exact .lf t b o p
 |Compare l ops cs p=>obtain rfl:=Option.some.inj h;exact .cmp l ops cs p
 |JoinedStr ps p=>obtain rfl:=Option.some.inj h;exact .kh ps p
 |Attribute o a p=>refine aK (oA h) fun c h=>?_;obtain rfl:=Option.some.inj h;exact .att o a p (by rw [Bool.not_eq_true'] at c;exact c)
 |Subscript o i p=>exact H3 h
 |Call f es ks p=>
  induction ks using bh with
  |cons=>exact al h
  |nil=>refine aK (oA h) fun c h=>?_;exact O0 c h
 |Dict ks vs p=>refine aK (oA h) fun c h=>?_;obtain rfl:=Option.some.inj h;rw [Bool.and_eq_true] at c;exact .kL ks vs p c.1 c.2
 |ListComp bC g_ aQ p=>refine El (Bh (p:=p) h) ?_;rintro x px it bL rfl rfl;exact .com bC x px it bL aQ p
 |_=>exact al h
theorem Ga {b:Bool} {α:Type} {r:R α} (h:(bif b then .stuck else r)≠ .stuck):b=false:=by
 induction b using aN with
 |true=>exact absurd rfl h
 |false=>rfl
theorem RT (T:Tx g h0 mb Γ.fns) (dD:Tc g h0) (SC:gF g h0 n Γ.C) (HS:gL I) (IE:bX g h0 n I) (IT:g0 g h0 n I) (F:Fm A Fs env sc q) (rm:Rm A n) {e:Expr} (S:St g h0 Fs Z as O s.heap) (lo:aW g Z as J env s.heap)
 (af:iM Γ I q sc e J O≠ .stuck):zv g h0 A Fs Z as s e env (iM Γ I q sc e J O):=by
 unfold iM at af ⊢;generalize ek:pS e=zc;induction zc using aA with
 |none=>rw [ek] at af;exact absurd rfl af
 |some k=>
 rw [ek] at af;have is:=NG ek;clear ek;show zv g h0 A Fs Z as s e env (eU Γ I q sc J O k);have af:eU Γ I q sc J O k≠ .stuck:=af;induction is with
 |cN k p=>exact wpAny_Constant_none (cg (tk:=s.toks) S .none)
 |cB b k p=>exact wpAny_Constant_bool (cg (tk:=s.toks) S (.bool _))
 |cI i k p=>exact wpAny_Constant_int (cg S (.int _ _))
 |cS x k p=>exact wpAny_Constant_str (cg S (.str _ _))
 |name x p=>exact JA T F S lo af
 |tup es k p c=>exact OS IE F rm c S lo af
 |lst es p c=>exact Pb IE F rm c S lo af
 |bin l op r p=>exact K_ IE F rm S lo af
 |un op x p=>exact I0 IE F rm S lo af
 |boo op vs p=>
  unfold zv;rw [arm_eval_BoolOp];exact OH IE F rm S lo af
 |lf t b o p=>exact K1 IE IT F rm S lo af
 |cmp l ops cs p=>exact JL HS IE F rm S lo af
 |kh ps p=>exact Qy IE F rm S lo af
 |att o a p c=>exact LD dD IE F rm c S lo af
 |kJ o vQ hi p' p=>exact PN IE F rm S lo af
 |sub o i p c=>exact QX IE F rm c S lo af
 |k9 o m ap p c1 c2=>obtain rfl:=Ga af;exact MB IE F rm c1 c2 S lo af
 |kD o m x ap p c0 c1 c2=>obtain rfl:=Ga af;exact Qg IE F rm c0 c1 c2 S lo af
 |cal f es p c0 c=>exact TD T.Gz SC IE F rm (fun _ _ _ z=>by subst z;exact al c0.symm) c S lo af
 |kL ks vs p c1 c2=>exact Lr IE F rm c1 c2 S lo af
 |com bC x px it bL aQ p=>
  have c:=dJ af;rw [Bool.and_eq_true,Bool.not_eq_true'] at c;refine aK c ?_;clear c;rintro c1 rfl;have er:eU Γ I false sc J O (.com bC x it bL aQ)=jG I sc aQ x it bC bL J O:=cH (by rw [c1];rfl);rw [er] at af ⊢;exact RB HS IE IT F rm c1 S lo af
end
noncomputable def BM (c:Value->Prop) (n:Prop) (h:Heap) (e:Addr) (vs:Array Value):Option Addr->Prop
 |none=>n/\vs[1]?=some .none
 |some T=>vs[1]?=some (.ref T)/\T≠e/\∃oT ts v,h.get? T=some oT/\oT.data=.fields ts/\ts[3]?=some v/\c v
inductive gd (c:Value->Prop) (n:Prop) (g:Gd) (Fs:List Addr) (Z:Zm) (as:List Addr) (O:B) (hs h:Heap) (e:Addr) (f:aR):Prop
 |mk (oe:Obj) (vs:Array Value) (T:Option Addr):h.get? e=some oe->oe.data=.fields vs->(∃t,vs[0]?=some t)->iZ g Z f oe->BM c n h e vs T->gm Fs Z as O e->hs.get? e=none->(∀x,T=some x->gm Fs Z as O x/\hs.get? x=none)->gd c n g Fs Z as O hs h e f
noncomputable abbrev zE (L:Addr):=gd (fun v=>v=.none\/v=rawInt L) True
noncomputable abbrev Q7 (L:Addr):=gd (fun v=>v=rawInt L) False
section
variable {g:Gd} {h0:Heap} {Fs:List Addr} {Z ak bj:Zm} {as aj bM:List Addr} {O σ₁ bn:B} {A:Around} {E:Value->Shared->Prop} {s:Shared} {h:Heap} {c c':Value->Prop} {n n':Prop}
theorem gd.weaken {hs:Heap} {e:Addr} {f:aR} (x:gd c n g Fs Z as O hs h e f) (hc:∀v,c v->c' v) (hn:n->n'):gd c' n' g Fs Z as O hs h e f:=by
 obtain ⟨oe,vs,T,a1,a2,a3,a4,a5,a6,a7,a8⟩:=x;refine ⟨oe,vs,T,a1,a2,a3,a4,?_,a6,a7,a8⟩;induction T using aA with
 |none=>exact ⟨hn a5.1,a5.2⟩
 |some T=>obtain ⟨b1,b2,oT,ts,v,b3,b4,b5,b6⟩:=a5;exact ⟨b1,b2,oT,ts,v,b3,b4,b5,hc v b6⟩
theorem gd.Hm {hs:Heap} {e:Addr} {f:aR} (x:jb g Fs Z as O hs h e f):gd (fun v=>v=.none) True g Fs Z as O hs h e f:=by
 obtain ⟨oe,vs,T,a1,a2,a3,a4,a5,a6,a7,a8⟩:=x;refine ⟨oe,vs,T,a1,a2,a3,a4,?_,a6,a7,a8⟩;induction T using aA with
 |none=>exact ⟨trivial,a5⟩
 |some T=>obtain ⟨b1,b2,oT,ts,b3,b4,b5⟩:=a5;exact ⟨b1,b2,oT,ts,.none,b3,b4,b5,rfl⟩
theorem gd.KH {hs:Heap} {e:Addr} {f:aR} (x:gd (fun v=>v=.none) n g Fs Z as O hs h e f):jb g Fs Z as O hs h e f:=by
 obtain ⟨oe,vs,T,a1,a2,a3,a4,a5,a6,a7,a8⟩:=x;refine ⟨oe,vs,T,a1,a2,a3,a4,?_,a6,a7,a8⟩;induction T using aA with
 |none=>exact a5.2
 |some T=>obtain ⟨b1,b2,oT,ts,v,b3,b4,b5,rfl⟩:=a5;exact ⟨b1,b2,oT,ts,b3,b4,b5⟩
theorem gd.later {hs jB:Heap} {e:Addr} {f:aR} (x:gd c n g Fs Z as O hs h e f) (k:∀b,hs.get? b=none->jB.get? b=none):gd c n g Fs Z as O jB h e f:=by
 obtain ⟨oe,vs,T,a1,a2,a3,a4,a5,a6,a7,a8⟩:=x;exact ⟨oe,vs,T,a1,a2,a3,a4,a5,a6,k _ a7,fun y hy=>⟨(a8 y hy).1,k _ (a8 y hy).2⟩⟩
noncomputable def sO (Fs:List Addr) (Z:Zm) (as:List Addr) (O:B) (hs:Heap) (T:Option Addr):Prop:=∀y,T=some y->gm Fs Z as O y/\hs.get? y=none
theorem DJ {env:Env} {dP:List Env} {L e:Addr} {oe:Obj} {vs:Array Value} {head:Value} {Qh:Bool} {Q:Unit->Shared->Prop}
 (eX:A.frames=some (env::dP)) (fo:iL Fs (env::dP)) (hf:env.frame=some L) (S:St g h0 Fs Z as O s.heap)
 (he:s.heap.get? e=some oe) (hd:oe.data=.fields vs) (uZ:e∉Fs) (cZ:1<vs.size)
 (h:∀h' T iD jw,kg Fs e none s.heap h'->s.heap.get? T=none->h'.get? e=some iD->iD.cls=oe.cls->iD.dict=oe.dict->iD.data=.fields jw->jw[0]?=vs[0]? -> BM (fun v=>v=rawInt L) False h' e jw (some T)->Q () {s with heap:=h'}):
 wpAny (model g.prog g.w) A (do let a <- frameOf env;let pl <- entryPlaceOf L Qh;let b <- EntryCells.newEntry head a .none (rawInt L) .none pl;setField (.ref e) 1 b) Q E s:=by
 have hl:=DH S fo;refine wpAny_bind (wpAny_frameOf_fun eX hl hf fun ag qv=>?_);refine wpAny_bind (wpAny_entryPlaceOf fun pl jP=>?_);unfold EntryCells.newEntry newFields;refine wpAny_bind (wpAny_newObj_type ?_ (jP.sizeOk5 _ _ _ _ _));have ql:ag.get? e=some oe:=(qv.2.1 e (B3 fo uZ)).trans he;have oY:=Heap.get?_push_of_some (h:=ag) {cls:=.type "traceback",dict:=none,data:=.fields ([head,.ref L,.none,rawInt L,.none]++(if pl.isEmpty then List.replicate 6 Value.none else pl)).toArray} ql;have mF:ag.objs.size≠e:=Nat.ne_of_gt (Heap.lt_size ql);have Bb:=Obj.data_mapFields hd (·.setIfInBounds 1 (Value.ref ag.objs.size));have uv:=Heap.get?_update_self (Obj.mapFields (·.setIfInBounds 1 (Value.ref ag.objs.size))) oY (Obj.isFreed_of_fields Bb);have PR:=(Heap.get?_update_other (ag.push {cls:=.type "traceback",dict:=none,data:=.fields ([head,.ref L,.none,rawInt L,.none]++(if pl.isEmpty then List.replicate 6 Value.none else pl)).toArray})
  (Obj.mapFields (·.setIfInBounds 1 (Value.ref ag.objs.size))) (Ne.symm mF)).trans (Heap.get?_push_size ag rfl)
 have keep:∀b o,b≠e->ag.get? b=some o->
  ((ag.push {cls:=.type "traceback",dict:=none,data:=.fields ([head,.ref L,.none,rawInt L,.none]++(if pl.isEmpty then List.replicate 6 Value.none else pl)).toArray}).update e (Obj.mapFields (·.setIfInBounds 1 (Value.ref ag.objs.size)))).get? b=some o:=fun b o h_ hb=>by
  rw [Heap.get?_update_other _ _ (Ne.symm h_)];exact Heap.get?_push_of_some _ hb
 refine wpAny_setField oY hd cZ (h _ ag.objs.size _ _ ⟨fun b o hb h_ _ Jo=>?_,fun b o hb h_ _=>?_,fun b o hb=>?_⟩ ?_ uv (Obj.cls_mapFields _ _) ?_ Bb ?_ ?_)
 ·exact keep b o h_ ((qv.2.1 b (B3 fo Jo)).trans hb)
 ·refine aB (qv.2.2 b o hb ) fun sl hs=>?_;exact ⟨sl,keep b _ h_ hs⟩
 ·by_cases q:b=e
  ·subst q;exact ⟨_,uv⟩
  ·refine aB (qv.2.2 b o hb ) fun sl hs=>?_;exact ⟨_,keep b _ q hs⟩
 ·exact Heap.get?_none_of_le (by rw [qv.1];exact Nat.le_refl _)
 ·obtain ⟨c,d,dt,sl⟩:=oe;induction dt using PySem.Data.casesOn<;>rfl
 ·rw [Array.getElem?_setIfInBounds_ne (by decide)]
 ·refine ⟨by simp [cZ],mF,_,_,rawInt L,PR,rfl,?_,rfl⟩;rcases jP with rfl|⟨_,_,_,_,_,_,_,rfl⟩<;>rfl
theorem xG {hs:Heap} {env:Env} {dP:List Env} {L e:Addr} {f:aR} {Q:Unit->Shared->Prop}
 (eX:A.frames=some (env::dP)) (fo:iL Fs (env::dP)) (hf:env.frame=some L) (S:St g h0 Fs Z as O s.heap) (hb:∀b,s.heap.get? b=none->hs.get? b=none)
 (x:zE L g Fs Z as O hs s.heap e f)
 (h:∀h' T,kg Fs e T s.heap h'->sO Fs Z as O hs T->Q7 L g Fs Z as O hs h' e f->Q () {s with heap:=h'}):wpAny (model g.prog g.w) A (noteFrame (.ref e) env) Q E s:=by
 obtain ⟨oe,vs,T,he,hd,⟨t0,rO⟩,xd,tr,le,ne,lT⟩:=x;unfold noteFrame;simp only [hf];have uZ:=le.2.1;induction T using aA with
 |none=>
  have h1:vs[1]?=some .none:=tr.2;refine wpAny_bind (wpAny_field he hd h1 ?_);rw [if_neg (by decide)];refine DJ eX fo hf S he hd uZ (Array.getElem?_eq_some_iff.mp h1).1 fun h' T iD jw k nT he' hc yE i7 mH zO=>?_;have rP:gm Fs Z as O T/\hs.get? T=none:=⟨⟨S.fresh nT,S.gu nT,fun n o e1=>absurd (da e1) (S.fD nT)⟩,hb T nT⟩
  exact h h' none k (fun y q=>by exact al q) ⟨iD,jw,some T,he',i7,⟨t0,mH.trans rO⟩,xd.Ew hc yE,zO,le,ne,fun y q=>by obtain rfl:=Option.some.inj q;exact rP⟩
 |some T=>
  obtain ⟨h1,mF,oT,ts,v,hT,mm,h3,hv⟩:=tr;refine aK (lT T rfl ) fun lT nT=>?_;refine wpAny_bind (wpAny_field he hd h1 ?_);rw [if_pos (show (Value.ref T !=Value.none)=true from by simp)];refine wpAny_bind (wpAny_field hT mm h3 ?_);rcases hv with rfl|rfl
  ·rw [if_neg (show ¬((Value.none==rawInt L)=true) from by simp [rawInt])];refine wpAny_bind (wpAny_setField hT mm (Array.getElem?_eq_some_iff.mp h3).1 ?_);have other:∀b,b≠T->(s.heap.update T (Obj.mapFields (·.setIfInBounds 3 Value.none))).get? b=s.heap.get? b:=fun b hb=>Heap.get?_update_other _ _ (Ne.symm hb);have kb:=Heap.get?_update_self (Obj.mapFields (·.setIfInBounds 3 Value.none)) hT (Obj.isFreed_of_fields (Obj.data_mapFields mm _));have k0:kg Fs e (some T) s.heap (s.heap.update T (Obj.mapFields (·.setIfInBounds 3 Value.none))):=
    ⟨fun b o hb _ q _=>(other b (fun z=>q (by rw [z]))).trans hb,fun b o hb _ q=>⟨o.slots,(other b (fun z=>q (by rw [z]))).trans hb⟩,fun b o hb=>by
     by_cases q:b=T
     ·subst q;exact ⟨_,kb⟩
     ·exact ⟨o,(other b q).trans hb⟩⟩
   have S':St g h0 Fs Z as O (s.heap.update T (Obj.mapFields (·.setIfInBounds 3 Value.none))):=S.touch le (fun y q=>by obtain rfl:=Option.some.inj q;exact lT) k0;refine DJ (s:={s with heap:=s.heap.update T (Obj.mapFields (·.setIfInBounds 3 Value.none))}) eX fo hf S' ((other e (Ne.symm mF)).trans he) hd uZ (Array.getElem?_eq_some_iff.mp h1).1 fun h' T' iD jw k JJ he' hc yE i7 mH zO=>?_;have tm:s.heap.get? T'=none:=by
    generalize q:s.heap.get? T'=zc;induction zc using aA with
    |none=>rfl
    |some o=>
     refine aB (k0.there T' o q ) fun o' iP=>?_;rw [show (s.heap.update T (Obj.mapFields (·.setIfInBounds 3 Value.none))).get? T'=none from JJ] at iP;exact al iP
   have rP:gm Fs Z as O T'/\hs.get? T'=none:=⟨⟨S.fresh tm,S.gu tm,fun n o e1=>absurd (da e1) (S.fD tm)⟩,hb T' tm⟩
   refine h h' (some T) ⟨fun b o hb q1 q2 q3=>k.other b o (k0.other b o hb q1 q2 q3) q1 (fun z=>by exact al z) q3,fun b o hb q1 q2=>?_,fun b o hb=>?_⟩ (fun y q=>by obtain rfl:=Option.some.inj q;exact ⟨lT,nT⟩)
    ⟨iD,jw,some T',he',i7,⟨t0,mH.trans rO⟩,xd.Ew hc yE,zO,le,ne,fun y q=>by obtain rfl:=Option.some.inj q;exact rP⟩
   ·refine aB (k0.slots b o hb q1 q2 ) fun sl z=>?_;refine aB (k.slots b _ z q1 (fun z=>by exact al z) ) fun oa z2=>?_;exact ⟨oa,z2⟩
   ·refine aB (k0.there b o hb ) fun o' z=>?_;exact k.there b o' z
  ·rw [if_pos (show (rawInt L==rawInt L)=true from by simp)];refine wpAny_pure (h s.heap none ⟨fun b o hb _ _ _=>hb,fun b o hb _ _=>⟨o.slots,hb⟩,fun b o hb=>⟨o,hb⟩⟩ (fun y q=>by exact al q) ⟨oe,vs,some T,he,hd,⟨t0,rO⟩,xd,⟨h1,mF,oT,ts,_,hT,mm,h3,rfl⟩,le,ne,fun y q=>by obtain rfl:=Option.some.inj q;exact ⟨lT,nT⟩⟩)
theorem sx {hs:Heap} {e:Addr} {f:aR} {fr:Option Addr} {Q:Unit->Shared->Prop} (x:gd c False g Fs Z as O hs s.heap e f)
 (h:∀h' T,kg Fs e T s.heap h'->sO Fs Z as O hs T->gd (fun v=>v=fr.elim .none (fun a=>rawInt a)) False g Fs Z as O hs h' e f->Q () {s with heap:=h'}):wpAny (model g.prog g.w) A (setFlight (.ref e) fr) Q E s:=by
 obtain ⟨oe,vs,T,he,hd,⟨t0,rO⟩,xd,tr,le,ne,lT⟩:=x;induction T using aA with
 |none=>exact tr.1.elim
 |some T=>
  obtain ⟨h1,mF,oT,ts,v,hT,mm,h3,hv⟩:=tr;refine aK (lT T rfl ) fun lT nT=>?_;unfold setFlight;refine wpAny_bind (wpAny_field he hd h1 ?_);rw [if_pos (show (Value.ref T !=Value.none)=true from by simp)];have cZ:=(Array.getElem?_eq_some_iff.mp h3).1;refine wpAny_setField hT mm cZ ?_;have other:∀b,b≠T->(s.heap.update T (Obj.mapFields (·.setIfInBounds 3 (fr.elim Value.none fun f=>rawInt f)))).get? b=s.heap.get? b:=fun b hb=>Heap.get?_update_other _ _ (Ne.symm hb);have kb:=Heap.get?_update_self (Obj.mapFields (·.setIfInBounds 3 (fr.elim Value.none fun f=>rawInt f))) hT (Obj.isFreed_of_fields (Obj.data_mapFields mm _));refine h _ (some T) ⟨fun b o hb _ q _=>(other b (fun z=>q (by rw [z]))).trans hb,fun b o hb _ q=>⟨o.slots,(other b (fun z=>q (by rw [z]))).trans hb⟩,fun b o hb=>?_⟩ (fun y q=>by obtain rfl:=Option.some.inj q;exact ⟨lT,nT⟩)
   ⟨oe,vs,some T,(other e (Ne.symm mF)).trans he,hd,⟨t0,rO⟩,xd,⟨h1,mF,_,_,_,kb,Obj.data_mapFields mm _,?_,rfl⟩,le,ne,fun y q=>by obtain rfl:=Option.some.inj q;exact ⟨lT,nT⟩⟩
  ·by_cases q:b=T
   ·subst q;exact ⟨_,kb⟩
   ·exact ⟨o,(other b q).trans hb⟩
  ·simp [cZ]
end
structure bS (g:Gd) (h0:Heap) (L:Addr) (Fs:List Addr) (Z:Zm) (as:List Addr) (h:Heap) (Z':Zm) (aL:List Addr) (σ':B) (h':Heap):Prop where
 bz:bW Z Z'
 pre:bI as aL
 st:St g h0 Fs Z' aL σ' h'
 keep:∀b o,h.get? b=some o->b∉as->b≠L->(b∉Fs->h'.get? b=some o)/\∃sl,h'.get? b=some {o with slots:=sl}
 new:∀a∈aL,a∈as\/h.get? a=none
 fz:∀b o,Z' b=some o->Z b=some o\/b∈aL\/h.get? b=none
section
variable {g:Gd} {h0:Heap} {L:Addr} {Fs:List Addr} {Z ak bj:Zm} {as aj bM:List Addr} {O σ₁ bn:B} {h ag aM:Heap} {I:Addr}
theorem bS.of (G:Go g h0 Fs Z as h ak aj σ₁ ag):bS g h0 L Fs Z as h ak aj σ₁ ag:=⟨G.bz,G.pre,G.st,fun b o e n _=>G.keep b o e n,G.new,G.fz⟩
theorem bS.gw (S:St g h0 Fs Z as O h) (hL:L∈Fs) (G:bS g h0 L Fs Z as h ak aj σ₁ ag) (b:Addr) (e:ag.get? b=none):h.get? b=none:=by
 generalize q:h.get? b=zc;induction zc using aA with
 |none=>rfl
 |some o=>
  by_cases m:b∈as
  ·refine aB G.pre fun t p=>?_;obtain ⟨_,o',iP⟩:=G.st.off b (by rw [p];exact List.mem_append_left _ m);rw [e] at iP;exact al iP
  ·by_cases r:b=L
   ·subst r;refine gN (G.st.frm b hL ) fun o _ _ ho _=>?_;rw [e] at ho;exact al ho
   ·obtain ⟨_,sl,k⟩:=G.keep b o q m r;rw [e] at k;exact al k
theorem bS.trans (S:St g h0 Fs Z as O h) (hL:L∈Fs) (a:bS g h0 L Fs Z as h ak aj σ₁ ag) (b:bS g h0 L Fs ak aj ag bj bM bn aM):bS g h0 L Fs Z as h bj bM bn aM where
 bz:=a.bz.trans b.bz
 pre:=a.pre.trans b.pre
 st:=b.st
 keep:=fun x o e n ne=>by
  obtain ⟨k1,sl,k2⟩:=a.keep x o e n ne;have n1:x∉aj:=fun q=>(a.new x q).elim n fun z=>by rw [e] at z;exact al z.symm
  refine ⟨fun nf=>(b.keep x o (k1 nf) n1 ne).1 nf,?_⟩;obtain ⟨_,oa,k3⟩:=b.keep x _ k2 n1 ne;exact ⟨oa,k3⟩
 new:=fun x hx=>by
  rcases b.new x hx with q|q
  ·exact a.new x q
  ·exact .inr (a.gw S hL x q)
 fz:=fun x o hx=>by
  rcases b.fz x o hx with q|q|q
  ·rcases a.fz x o q with r|r|r
   ·exact .inl r
   ·exact .inr (.inl (by refine aB b.pre fun t e=>?_;rw [e];exact List.mem_append_left _ r))
   ·exact .inr (.inr r)
  ·exact .inr (.inl q)
  ·exact .inr (.inr (a.gw S hL x q))
theorem bS.refl (S:St g h0 Fs Z as O h):bS g h0 L Fs Z as h Z as O h:=.of (Go.refl S)
theorem bS.apart (G:bS g h0 L Fs Z as h ak aj σ₁ ag) {o:Obj} (e:h.get? I=some o) (hz:Z I=none) (hF:I∉Fs) (ha:I∉as) (hL:L∈Fs):ak I=none/\I∉aj/\ag.get? I=some o:=by
 have h2:I∉aj:=fun q=>(G.new I q).elim ha fun z=>by rw [e] at z;exact al z.symm
 refine ⟨?_,h2,(G.keep I o e ha (fun q=>hF (q▸hL))).1 hF⟩;generalize q:ak I=zc;induction zc using aA with
 |none=>rfl
 |some o'=>
  rcases G.fz I o' q with r|r|r
  ·rw [hz] at r;exact al r
  ·exact absurd r h2
  ·rw [e] at r;exact al r.symm
theorem bS.loose (G:bS g h0 L Fs Z as h ak aj σ₁ ag) (hn:h.get? I=none) (hz:ak I=none) (hF:I∉Fs) (ha:I∉aj) (k:∀b o,b≠I->ag.get? b=some o->aM.get? b=some o):
 bS g h0 L Fs Z as h ak aj σ₁ aM where
 bz:=G.bz
 pre:=G.pre
 st:=G.st.loose hz hF ha k
 keep:=fun b o hb n ne=>by
  have q1:b≠I:=fun q=>by rw [q,hn] at hb;exact al hb
  obtain ⟨k1,sl,k2⟩:=G.keep b o hb n ne;exact ⟨fun nf=>k b o q1 (k1 nf),sl,k b _ q1 k2⟩
 new:=G.new
 fz:=G.fz
theorem bS.touch (G:bS g h0 L Fs Z as h ak aj σ₁ ag) {e:Addr} {T:Option Addr} (le:gm Fs ak aj σ₁ e) (lT:sO Fs ak aj σ₁ h T) (k:kg Fs e T ag aM) (ne:h.get? e=none):
 bS g h0 L Fs Z as h ak aj σ₁ aM where
 bz:=G.bz
 pre:=G.pre
 st:=G.st.touch le (fun x q=>(lT x q).1) k
 keep:=fun b o hb n nl=>by
  have q1:b≠e:=fun q=>by rw [q,ne] at hb;exact al hb
  have q2:T≠some b:=fun q=>by rw [(lT b q).2] at hb;exact al hb
  obtain ⟨k1,sl,k2⟩:=G.keep b o hb n nl;refine ⟨fun nf=>k.other b o (k1 nf) q1 q2 nf,?_⟩;refine aB (k.slots b _ k2 q1 q2 ) fun oa k3=>?_;exact ⟨oa,k3⟩
 new:=G.new
 fz:=G.fz
theorem bS.named (S:St g h0 Fs Z as O h) (hL:L∈Fs) {o:Obj} {es:Array DictEntry} {n:Nat} (ho:ag.get? L=some o) (hd:o.data=.dict es n) (k:∀b o,b≠L->h.get? b=some o->ag.get? b=some o):bS g h0 L Fs Z as h Z as O ag where
 bz:=bW.refl _
 pre:=bI.refl _
 st:=S.vx hL ho hd k
 keep:=fun b o e _ ne=>⟨fun _=>k b o ne e,o.slots,k b o ne e⟩
 new:=fun _ h=>.inl h
 fz:=fun _ _ h=>.inl h
end
inductive ua (g:Gd) (Z:Zm) (as:List Addr):Fl->Flow->Prop
 |next:ua g Z as .next .next
 |ret {v val}:RV g Z as v val->ua g Z as (.ret v) (.ret val)
inductive PX (g:Gd) (h0:Heap) (env:Env) (Fs:List Addr) (Z:Zm) (as:List Addr) (s:Shared) (r:RS) (fl:Flow) (s':Shared):Prop
 |mk (f:Fl) (aH:Loc) (σ':B) (h':Heap) (tk:Nat) (Z':Zm) (aL:List Addr):r=.fin f aH σ'->s'={s with heap:=h',toks:=tk} -> bS g h0 env.locals Fs Z as s.heap Z' aL σ' h'->aW g Z' aL aH env h'->ua g Z' aL f fl->PX g h0 env Fs Z as s r fl s'
inductive eT (g:Gd) (h0:Heap) (env:Env) (Fs:List Addr) (Z:Zm) (as:List Addr) (s:Shared) (r:RS) (val:Value) (s':Shared):Prop
 |mk (f:aR) (aH:Loc) (σ':B) (h':Heap) (tk:Nat) (Z':Zm) (aL:List Addr) (e:Addr):r=.exc f aH σ'->val=.ref e->s'={s with heap:=h',toks:=tk} -> bS g h0 env.locals Fs Z as s.heap Z' aL σ' h'->aW g Z' aL aH env h'->zE env.locals g Fs Z' aL σ' s.heap h' e f->eT g h0 env Fs Z as s r val s'
section
variable {g:Gd} {h0:Heap} {Fs:List Addr} {Z ak:Zm} {as aj:List Addr} {O σ₁:B} {A:Around} {s:Shared} {J fG:Loc} {env:Env} {sc:Scope} {q:Bool} {h ag:Heap} {tk:Nat}
theorem PX.trans {r:RS} {fl:Flow} {s':Shared} (S:St g h0 Fs Z as O s.heap) (hL:env.locals∈Fs) (G:bS g h0 env.locals Fs Z as s.heap ak aj σ₁ ag) (x:PX g h0 env Fs ak aj {s with heap:=ag,toks:=tk} r fl s'):PX g h0 env Fs Z as s r fl s':=by
 obtain ⟨f,aH,σ',h',bO,Z',aL,e1,e2,G',l,fr⟩:=x;exact ⟨f,aH,σ',h',bO,Z',aL,e1,e2,G.trans S hL G',l,fr⟩
theorem eT.trans {r:RS} {v:Value} {s':Shared} (S:St g h0 Fs Z as O s.heap) (hL:env.locals∈Fs) (G:bS g h0 env.locals Fs Z as s.heap ak aj σ₁ ag) (x:eT g h0 env Fs ak aj {s with heap:=ag,toks:=tk} r v s'):eT g h0 env Fs Z as s r v s':=by
 obtain ⟨f,aH,σ',h',bO,Z',aL,e,e1,e2,e3,G',l,fl⟩:=x;exact ⟨f,aH,σ',h',bO,Z',aL,e,e1,e2,e3,G.trans S hL G',l,fl.later (G.gw S hL)⟩
theorem we {t:Sem Flow} {r:RS} (S:St g h0 Fs Z as O s.heap) (hL:env.locals∈Fs) (G:bS g h0 env.locals Fs Z as s.heap ak aj σ₁ ag)
 (w:wpAny (model g.prog g.w) A t (PX g h0 env Fs ak aj {s with heap:=ag,toks:=tk} r) (eT g h0 env Fs ak aj {s with heap:=ag,toks:=tk} r) {s with heap:=ag,toks:=tk}):
 wpAny (model g.prog g.w) A t (PX g h0 env Fs Z as s r) (eT g h0 env Fs Z as s r) {s with heap:=ag,toks:=tk}:=
 wpAny_mono w (fun _ _ x=>x.trans S hL G) fun _ _ x=>x.trans S hL G
theorem PE.tD {α:Type} {r:R α} {k:α->B->RS} {v:Value} {s':Shared} (S:St g h0 Fs Z as O s.heap) (hL:env.locals∈Fs) (l:aW g Z as J env s.heap) (x:PE g h0 Fs Z as s r v s'):eT g h0 env Fs Z as s (r.toS J k) v s':=by
 obtain ⟨f,σ',h',tk,Z',aL,e,rfl,e2,e3,G,fl⟩:=x;exact ⟨f,J,σ',h',tk,Z',aL,e,rfl,e2,e3,.of G,l.go S hL G,(gd.Hm fl).weaken (fun _ q=>.inl q) fun _=>trivial⟩
theorem jK {α:Type} {r:R α} {k:α->B->RS} (h:r.toS J k≠ .stuck):r≠ .stuck:=fun e=>by subst e;exact h rfl
theorem yD {r:RS} {k:Loc->B->RS} (h:r.bind k≠ .stuck):r≠ .stuck:=fun e=>by subst e;exact h rfl
theorem qq {α:Type} {a:α} {k:α->B->RS}:(R.ok a O).toS J k=k a O:=rfl
theorem pJ {x:Str} {v:V} {val:Value} {Q:Unit->Shared->Prop} {E:Value->Shared->Prop} (F:Fm A Fs env sc q) (hx:bU sc x=true) (S:St g h0 Fs Z as O s.heap) (l:aW g Z as J env s.heap) (rv:RV g Z as v val)
 (k:∀h' tk,bS g h0 env.locals Fs Z as s.heap Z as O h'->aW g Z as (putL x v J) env h'->Q () {s with heap:=h',toks:=tk}):
 wpAny (model g.prog g.w) A (storeName env x val) Q E s:=by
 have hk:env.kindOf x=some .local:=by
  rw [ou F];unfold bU at hx;generalize e:fu x sc.names=zc;induction zc using aA with
  |none=>rw [e] at hx;exact ff hx
  |some k=>rw [e] at hx;induction k using NameKind.casesOn<;>first|rfl|exact ff hx
 refine aw l ?_;clear l;intro m hn r;refine wpAny_storeName_local hk hn (fun h' iW sb=>?_) (by rw [F.scope,F.kind];rfl);refine dW (id iW ) fun o es ep ho hd _=>?_;exact k h' _ (bS.named S F.mem ho hd fun b o hb e=>(sb.2 b hb).trans e) ⟨_,iW,r.put rv⟩
end
noncomputable def kS (I:bQ):Prop:=(∀q sc k g_ aQ p J O,I.e q sc (.SetComp k g_ aQ p) J O=.stuck)/\∀q sc k v g_ aQ p J O,I.e q sc (.DictComp k v g_ aQ p) J O=.stuck
noncomputable def m0 (g:Gd) (h0:Heap) (n:Nat) (I:bQ):Prop:=∀ {q:Bool} {sc:Scope} {st:Stmt} {J:Loc} {O:B} {A:Around} {Fs:List Addr} {env:Env} {Z:Zm} {as:List Addr} {s:Shared},
 Fm A Fs env sc q->Rm A n->St g h0 Fs Z as O s.heap->aW g Z as J env s.heap->I.x q sc st J O≠ .stuck->
  wpAny (model g.prog g.w) A (exec st env) (PX g h0 env Fs Z as s (I.x q sc st J O)) (eT g h0 env Fs Z as s (I.x q sc st J O)) s
section
variable {g:Gd} {h0:Heap} {mb:Gv} {Fs:List Addr} {Z ak:Zm} {as aj:List Addr} {O σ₁:B} {A:Around} {s:Shared} {J fG:Loc} {env:Env} {sc:Scope} {q:Bool} {h ag:Heap} {tk:Nat} {I:bQ} {n:Nat} {Γ:Ctx}
noncomputable abbrev eh (g:Gd) (h0:Heap) (A:Around) (Fs:List Addr) (Z:Zm) (as:List Addr) (s:Shared) (t:Sem Flow) (env:Env) (r:RS):Prop:=
 wpAny (model g.prog g.w) A t (PX g h0 env Fs Z as s r) (eT g h0 env Fs Z as s r) s
theorem rM {t:Sem Flow} {b:Bool} {r:RS} (af:(bif b then r else .stuck)≠ .stuck) (k:b=true->r≠ .stuck->eh g h0 A Fs Z as s t env r):eh g h0 A Fs Z as s t env (bif b then r else .stuck):=by
 have c:=dJ af;rw [cH c] at af ⊢;exact k c af
theorem mJ {t:Sem Flow} {b:Bool} {r:RS} (af:(bif b then .stuck else r)≠ .stuck) (k:b=false->r≠ .stuck->eh g h0 A Fs Z as s t env r):eh g h0 A Fs Z as s t env (bif b then .stuck else r):=by
 induction b using aN with
 |true=>exact absurd rfl af
 |false=>exact k rfl af
theorem qy {f:Fl} {fl:Flow} {tk:Nat} (S:St g h0 Fs Z as O s.heap) (l:aW g Z as J env s.heap) (fr:ua g Z as f fl):PX g h0 env Fs Z as s (.fin f J O) fl {s with toks:=tk}:=
 ⟨f,J,O,s.heap,tk,Z,as,rfl,rfl,bS.refl S,l,fr⟩
@[elab_as_elim] theorem kx {r:RS} {motive:RS->Prop} (af:r≠ .stuck) (k:∀R,r=R->R≠ .stuck->motive R):motive r:=k r rfl af
theorem jo (IE:bX g h0 n I) (F:Fm A Fs env sc q) (rm:Rm A n) {e:Expr} {k:V->B->RS} {Q:Value->Shared->Prop} {R:RS} (S:St g h0 Fs Z as O s.heap) (l:aW g Z as J env s.heap) (er:(I.e q sc e J O).toS J k=R) (hR:R≠ .stuck)
 (hk:∀v val ag tk ak aj σ₁,k v σ₁=R->Go g h0 Fs Z as s.heap ak aj σ₁ ag->aW g ak aj J env ag->RV g ak aj v val->Q val {s with heap:=ag,toks:=tk}):
 wpAny (model g.prog g.w) A (eval e env) Q (eT g h0 env Fs Z as s R) s:=by
 subst er;refine wpAny_mono (IE F rm S l (jK hR)) (fun val bG x=>?_) fun _ _ x=>x.tD S F.mem l;obtain ⟨v,σ₁,ag,tk,ak,aj,e1,rfl,G,rv⟩:=x;exact hk v val ag tk ak aj σ₁ (by rw [e1];rfl) G (l.go S F.mem G) rv
theorem M7 (F:Fm A Fs env sc q):interactive env=false:=by
 unfold interactive;rw [F.scope,F.kind];rfl
theorem JC (HC:kS I) {e:Expr} (h:I.e q sc e J O≠ .stuck) (hl:di e=false) (n:Nat) (env:Env):swapsWith e none n env=pure false:=by
 induction e using Expr.casesOn<;>first|rfl|(cases hl;done)|exact absurd (HC.1 _ _ _ _ _ _ _ _) h|exact absurd (HC.2 _ _ _ _ _ _ _ _ _) h
theorem yJ (HC:kS I) {e:Expr} (h:I.e q sc e J O≠ .stuck) (hl:di e=false) (t:Expr) (n:Nat) (env:Env):swapsWith e (some t) n env=pure false:=by
 induction e using Expr.casesOn<;>first|rfl|(cases hl;done)|exact absurd (HC.1 _ _ _ _ _ _ _ _) h|exact absurd (HC.2 _ _ _ _ _ _ _ _ _) h
theorem QA (HC:kS I) (IE:bX g h0 n I) (F:Fm A Fs env sc q) (rm:Rm A n) {e:Expr} {p:Pos} (hl:di e=false) (S:St g h0 Fs Z as O s.heap) (l:aW g Z as J env s.heap)
 (af:((I.e q sc e J O).toS J fun _ O=>.fin .next J O)≠ .stuck):eh g h0 A Fs Z as s (exec (.Expr e p) env) env ((I.e q sc e J O).toS J fun _ O=>.fin .next J O):=by
 refine kx af fun R er hR=>wpAny_Expr_any (jo IE F rm S l er hR fun v val ag tk ak aj σ₁ er G cK rv=>?_) (M7 F) (JC HC (jK af) hl _ _);subst er;exact PX.trans (tk:=tk) S F.mem (.of G) (qy (tk:=tk) G.st cK .next)
theorem Rt (IE:bX g h0 n I) (F:Fm A Fs env sc q) (rm:Rm A n) {e:Expr} {p:Pos} (S:St g h0 Fs Z as O s.heap) (l:aW g Z as J env s.heap)
 (af:((I.e q sc e J O).toS J fun v O=>.fin (.ret v) J O)≠ .stuck):eh g h0 A Fs Z as s (exec (.Return (some e) p) env) env ((I.e q sc e J O).toS J fun v O=>.fin (.ret v) J O):=by
 refine kx af fun R er hR=>wpAny_Return_some (jo IE F rm S l er hR fun v val ag tk ak aj σ₁ er G cK rv=>?_);subst er;exact PX.trans (tk:=tk) S F.mem (.of G) (qy (tk:=tk) G.st cK (.ret rv))
theorem tq {x:Str} {v:V} {val:Value} (F:Fm A Fs env sc q) (hx:bU sc x=true) {E:Value->Shared->Prop} (S:St g h0 Fs Z as O s.heap) (l:aW g Z as J env s.heap) (rv:RV g Z as v val):
 wpAny (model g.prog g.w) A (storeName env x val) (fun _=>PX g h0 env Fs Z as s (.fin .next (putL x v J) O) .next) E s:=
 pJ F hx S l rv fun h' tk G l'=>⟨.next,_,O,h',tk,Z,as,rfl,rfl,G,l',.next⟩
theorem HI (HC:kS I) (IE:bX g h0 n I) (F:Fm A Fs env sc q) (rm:Rm A n) {x:Str} {e:Expr} {px p:Pos} (hx:bU sc x=true) (S:St g h0 Fs Z as O s.heap) (l:aW g Z as J env s.heap)
 (jI:di e=false) (af:((I.e q sc e J O).toS J fun v O=>.fin .next (putL x v J) O)≠ .stuck):eh g h0 A Fs Z as s (exec (.Assign [.Name x px] e p) env) env ((I.e q sc e J O).toS J fun v O=>.fin .next (putL x v J) O):=by
 refine kx af fun R er hR=>wpAny_Assign_Name (jo IE F rm S l er hR fun v val ag tk ak aj σ₁ er G cK rv=>?_) (yJ HC (jK af) jI _ _ _);subst er;exact wpAny_mono (tq (s:={s with heap:=ag,toks:=tk}) F hx G.st cK rv) (fun _ _ x=>x.trans S F.mem (.of G)) fun _ _ x=>x
theorem Qm (dD:Tc g h0) (HC:kS I) (IE:bX g h0 n I) (F:Fm A Fs env sc q) (rm:Rm A n) {a:Str} {o e:Expr} {px p:Pos} (jI:di e=false) (S:St g h0 Fs Z as O s.heap) (l:aW g Z as J env s.heap)
 (af:((I.e q sc e J O).toS J fun v O=>(I.e q sc o J O).toS J fun b O=>(lV a b v O).toS J fun _ O=>.fin .next J O)≠ .stuck):
 eh g h0 A Fs Z as s (exec (.Assign [.Attribute o a px] e p) env) env ((I.e q sc e J O).toS J fun v O=>(I.e q sc o J O).toS J fun b O=>(lV a b v O).toS J fun _ O=>.fin .next J O):=by
 refine kx af fun R er hR=>plainObj_wpAny_Assign_Attribute (jo IE F rm S l er hR fun v val ag tk ak aj σ₁ er G cK rv=>?_) (yJ HC (jK af) jI _ _ _);refine wpAny_mono (jo (s:={s with heap:=ag,toks:=tk}) IE F rm G.st cK er hR fun b bv aM bE bj bM bn er aS eZ rb=>?_) (fun _ _ x=>x) fun _ _ x=>x.trans S F.mem (.of G);subst er;refine Pp (s:={s with heap:=aM,toks:=bE}) dD aS.st rb (rv.mono aS.bz aS.pre) (jK hR) fun σ' h' bO e3 cF=>?_;rw [e3,qq];exact ⟨.next,J,σ',h',bO,bj,bM,rfl,rfl,.of ((G.trans aS).trans cF),eZ.go aS.st F.mem cF,.next⟩
theorem Ja {x:Str} {op:Operator} {a b:V} {J:Loc} {O:B} (h:jQ x op a b J O≠ .stuck):∃i j,cG a=some i/\cG b=some j/\
 ((op=.Add/\jQ x op a b J O=.fin .next (putL x (.int (i+j)) J) O)\/(op=.Sub/\jQ x op a b J O=.fin .next (putL x (.int (i-j)) J) O)):=by
 unfold jQ at h ⊢;generalize e:both (cG a) (cG b)=zc;induction zc using aA with
 |none=>rw [e] at h;exact absurd rfl h
 |some p=>
  rw [e] at h;refine aK (jY e ) fun e1 e2=>?_;refine ⟨p.1,p.2,e1,e2,?_⟩;induction op using Operator.casesOn with
  |Add=>exact .inl ⟨rfl,rfl⟩
  |Sub=>exact .inr ⟨rfl,rfl⟩
  |_=>exact absurd rfl h
theorem Q5 (T:Tx g h0 mb Γ.fns) (IE:bX g h0 n I) (F:Fm A Fs env sc q) (rm:Rm A n) {x:Str} {op:Operator} {e:Expr} {px p:Pos} (hx:bU sc x=true) (S:St g h0 Fs Z as O s.heap) (l:aW g Z as J env s.heap)
 (af:((eH Γ sc x J O).toS J fun a O=>(I.e q sc e J O).toS J fun b O=>jQ x op a b J O)≠ .stuck):
 eh g h0 A Fs Z as s (exec (.AugAssign (.Name x px) op e p) env) env ((eH Γ sc x J O).toS J fun a O=>(I.e q sc e J O).toS J fun b O=>jQ x op a b J O):=by
 have hk:=ou F x;have eQ:fu x sc.names=some .local:=by
  unfold bU at hx;generalize e:fu x sc.names=zc;induction zc using aA with
  |none=>rw [e] at hx;exact ff hx
  |some k=>rw [e] at hx;induction k using NameKind.casesOn<;>first|rfl|exact ff hx
 have F5:seq x "__debug__" = false:=by
  generalize hd:seq x "__debug__" = zc;induction zc using aN with
  |false=>rfl
  |true=>
   have en:eH Γ sc x J O=.stuck:=by unfold eH;rw [hd];rfl
   rw [en] at af;exact absurd rfl af
 generalize el:dk x J=zc;induction zc using aA with
 |none=>
  have en:eH Γ sc x J O=.stuck:=by unfold eH;rw [F5,eQ,el];rfl
  rw [en] at af;exact absurd rfl af
 |some a=>
  have en:eH Γ sc x J O=.ok a O:=by unfold eH;rw [F5,eQ,el];rfl
  rw [en,qq] at af ⊢;refine aw (id l ) fun m hn r=>?_;refine aw (r x a el ) fun av v1 v2=>?_;refine kx af fun R er hR=>wpAny_AugAssign_Name (wpAny_loadName_local (by rw [F.scope];exact F.kind) (hk.trans eQ) hn v1 (jo IE F rm S l er hR fun b bv ag tk ak aj σ₁ er G cK rb=>?_));subst er;refine i_ (Ja hR ) fun i j e1 e2 hop=>?_;refine aB ((v2.mono G.bz G.pre).gf e1 ) ?_;rintro t rfl;refine aB (rb.gf e2 ) ?_;rintro u rfl;rcases hop with ⟨rfl,q⟩|⟨rfl,q⟩<;>rw [q]
  ·exact AutoIntOps.iadd_0 (wpAny_mono (tq (s:={s with heap:=ag,toks:=_}) F hx G.st cK (.int _ _)) (fun _ _ x=>x.trans S F.mem (.of G)) fun _ _ x=>x)
  ·exact AutoIntOps.isub_0 (wpAny_mono (tq (s:={s with heap:=ag,toks:=_}) F hx G.st cK (.int _ _)) (fun _ _ x=>x.trans S F.mem (.of G)) fun _ _ x=>x)
theorem eT.PZ {r:RS} {k:Loc->B->RS} {v:Value} {s':Shared} (x:eT g h0 env Fs Z as s r v s'):eT g h0 env Fs Z as s (r.bind k) v s':=by
 obtain ⟨f,aH,σ',h',bO,Z',aL,e,e1,e2,e3,G',l',fl⟩:=x;exact ⟨f,aH,σ',h',bO,Z',aL,e,by rw [e1];rfl,e2,e3,G',l',fl⟩
theorem kY (IX:m0 g h0 n I) (F:Fm A Fs env sc q) (rm:Rm A n):∀ {b:List Stmt} {J:Loc} {O:B} {Z:Zm} {as:List Addr} {s:Shared},St g h0 Fs Z as O s.heap->aW g Z as J env s.heap->bB (I.x q sc) b J O≠ .stuck->
 eh g h0 A Fs Z as s (execs b env) env (bB (I.x q sc) b J O):=by
 intro b;induction b with
 |nil=>intro J O Z as s S l _;exact wpAny_execs_nil (qy (tk:=s.toks) S l .next)
 |cons st r ih=>
  intro J O Z as s S l af;have af:RS.bind _ _≠ .stuck:=af;show eh g h0 A Fs Z as s _ env (RS.bind _ _);refine wpAny_execs_cons (wpAny_mono (IX F rm S l (yD af)) (fun fl bG x=>?_) fun _ _ x=>x.PZ);obtain ⟨f,aH,σ',h',bO,Z',aL,e1,rfl,G,l',fr⟩:=x;rw [e1] at af ⊢;induction fr with
  |next=>exact we S F.mem G (ih G.st l' af)
  |ret rv=>exact ⟨_,aH,σ',h',bO,Z',aL,rfl,rfl,G,l',.ret rv⟩
theorem Rq (IT:g0 g h0 n I) (IX:m0 g h0 n I) (F:Fm A Fs env sc q) (rm:Rm A n) {t:Expr} {b o:List Stmt} {p:Pos} (S:St g h0 Fs Z as O s.heap) (l:aW g Z as J env s.heap)
 (af:((I.t q sc t J O).toS J fun c O=>bif c then bB (I.x q sc) b J O else bB (I.x q sc) o J O)≠ .stuck):
 eh g h0 A Fs Z as s (exec (.If t b o p) env) env ((I.t q sc t J O).toS J fun c O=>bif c then bB (I.x q sc) b J O else bB (I.x q sc) o J O):=by
 refine wpAny_If (wpAny_mono (IT F rm S l (jK af)) (fun c bG x=>?_) fun _ _ x=>x.tD S F.mem l);obtain ⟨a,σ₁,ag,tk,ak,aj,e1,rfl,G,rfl⟩:=x;rw [e1,qq] at af ⊢;have cK:=l.go S F.mem G;induction a using aN with
 |true=>exact we S F.mem (.of G) (kY IX F rm G.st cK af)
 |false=>exact we S F.mem (.of G) (kY IX F rm G.st cK af)
end
section
variable {prog:Program} {w:World} {A:Around} {E:Value->Shared->Prop}
theorem Gy {I:Addr} {fp wr:List Addr} {len:Nat} {P:Nat->Value->Prop} {bF:Nat->Heap->Prop} (W:Walks prog w A I fp wr len P bF):∀(n i:Nat) (s:Shared) (Q:List Value->Shared->Prop),bF i s.heap->i+n<=len->
 (∀h' tk ai,bF (i+n) h'->ai.length=n->(∀j v,ai[j]?=some v->P (i+j) v)->(∀b o,b∉wr->s.heap.get? b=some o->h'.get? b=some o)->Q ai {s with heap:=h',toks:=tk})->
 wpAny (model prog w) A (draw (.ref I) n) Q E s:=by
 intro n;induction n with
 |zero=>exact fun i s Q st _ k=>wpAny_pure (k s.heap s.toks [] st rfl (fun j v h=>by exact al h) fun _ _ _ e=>e)
 |succ n ih=>
  intro i s Q st rz k;show wpAny _ _ (do match <- pyNext (.ref I) with|none=>pure []|some v=>return v::(<- holding [v] (draw (.ref I) n))) Q E s;refine wpAny_bind (W.item i s _ _ (by exact ae [_,_,_] [] [.le (.p (.v 0) (.p (.v 2) (.n 1))) (.v 1)] (.lt (.v 0) (.v 1)) rfl rz) st fun v ag dR p fV j_=>?_);refine wpAny_bind (wpAny_holding (ih (i+1) {s with heap:=ag,toks:=dR} _ fV (by exact ae [_,_,_] [] [.le (.p (.v 0) (.p (.v 1) (.n 1))) (.v 2)] (.le (.p (.p (.v 0) (.n 1)) (.v 1)) (.v 2)) rfl rz) fun aM bE ai vr hl hp rc=>wpAny_pure ?_));refine k aM bE (v::ai) (by rw [show i+(n+1)=i+1+n by exact Nat.le_antisymm (ae [_,_] [] [] (.le (.p (.v 0) (.p (.v 1) (.n 1))) (.p (.p (.v 0) (.n 1)) (.v 1))) rfl) (ae [_,_] [] [] (.le (.p (.p (.v 0) (.n 1)) (.v 1)) (.p (.v 0) (.p (.v 1) (.n 1)))) rfl)];exact vr) (by simp [hl]) (fun j x hj=>?_) fun b o hb e=>rc b o hb (j_ b o hb e);induction j using cz with
  |zero=>obtain rfl:=Option.some.inj hj;exact p
  |succ j=>rw [show i+(j+1)=i+1+j by exact Nat.le_antisymm (ae [_,_] [] [] (.le (.p (.v 0) (.p (.v 1) (.n 1))) (.p (.p (.v 0) (.n 1)) (.v 1))) rfl) (ae [_,_] [] [] (.le (.p (.p (.v 0) (.n 1)) (.v 1)) (.p (.v 0) (.p (.v 1) (.n 1)))) rfl)];exact hp j x (by simpa using hj)
end
section
variable {g:Gd} {h0:Heap} {mb:Gv} {Fs:List Addr} {Z ak:Zm} {as aj:List Addr} {O σ₁:B} {A:Around} {s:Shared} {J fG:Loc} {env:Env} {sc:Scope} {q:Bool} {h ag:Heap} {tk:Nat} {I:bQ} {n:Nat} {Γ:Ctx} {E:Value->Shared->Prop}
theorem QR {items:Array Value} {ai:List Value} (hl:ai.length=items.size) (h:∀j v,ai[j]?=some v->items[0+j]?=some v):ai=items.toList:=by
 refine List.ext_getElem? fun j=>?_;by_cases c:j<ai.length
 ·have e:ai[j]?=some ai[j]:=List.getElem?_eq_getElem c;have t:=h j _ e;rw [Nat.zero_add] at t;exact e.trans (t.symm.trans Array.getElem?_toList.symm)
 ·rw [List.getElem?_eq_none (by exact ae [_,_] [] [.le (.v 0) (.v 1)] (.le (.v 0) (.v 1)) rfl (Nat.le_of_not_lt c)),List.getElem?_eq_none (by rw [Array.length_toList];exact ae [_,_,_] [] [.f (.v 2) (.v 0),.le (.v 2) (.v 1)] (.le (.v 0) (.v 1)) rfl hl (Nat.le_of_not_lt c))]
theorem C9 (hh:A.handled=none) {a:V} {val:Value} {l:List V} {Q:List Value->Shared->Prop} (S:St g h0 Fs Z as O s.heap) (ra:RV g Z as a val) (e:rB a O=some l)
 (k:∀h' tk ai,Go g h0 Fs Z as s.heap Z as O h'->aO g Z as l ai->Q ai {s with heap:=h',toks:=tk}):wpAny (model g.prog g.w) A (unpackItems val l.length none) Q E s:=by
 have fin:∀ {items:Array Value},aO g Z as l items.toList->∀(ag:Heap) (tk:Nat) (ai:List Value),ai.length=l.length->(∀j v,ai[j]?=some v->items[0+j]?=some v)->(∀b o,b∉[s.heap.objs.size]->s.heap.get? b=some o->ag.get? b=some o)->Q ai {s with heap:=ag,toks:=tk}:=by
  intro items rs ag tk ai hl hp kk;have hz:l.length=items.size:=by rw [rs.length,Array.length_toList]
  rw [QR (items:=items) (by exact Nat.le_antisymm (ae [_,_,_] [] [.e (.v 0) (.v 2),.e (.v 2) (.v 1)] (.le (.v 0) (.v 1)) rfl hl hz) (ae [_,_,_] [] [.f (.v 1) (.v 2),.f (.v 2) (.v 0)] (.le (.v 0) (.v 1)) rfl hl hz)) hp];exact k ag tk _ (Go.keeps S fun b o e=>kk b o (fun q=>by rw [List.mem_singleton.mp q,dg] at e;exact al e) e) rs
 have list:∀ {x:Addr} {items:Array Value} {n:Nat},s.heap.get? x=some (gV items n)->aO g Z as l items.toList->val=.ref x->wpAny (model g.prog g.w) A (unpackItems val l.length none) Q E s:=by
  intro x items n hx rs hv;subst hv;have hz:l.length=items.size:=by rw [rs.length,Array.length_toList]
  have cj:x≠s.heap.objs.size:=Nat.ne_of_lt (Heap.lt_size hx);have W:=Walks.list (prog:=g.prog) (w:=g.w) hh s.heap.objs.size x cj items;have hL:=lN hx;rw [hz];unfold unpackItems;refine wpAny_bind ?_;unfold notIterableAtAll;refine wpAny_bind (wpAny_specialOf hL.typeIs slot_list_iter.lookup ?_);refine wpAny_pure ?_;simp only [Bool.false_eq_true,if_false];refine wpAny_bind (wpAny_holding (wpAny_pyIter_list hL ?_));refine wpAny_bind (wpAny_holding (Gy W items.size 0 _ _ ⟨⟨_,Heap.get?_push_size _ rfl,rfl,rfl⟩,hL.push _⟩ (by exact ae [_] [] [] (.le (.p (.n 0) (.v 0)) (.v 0)) rfl) fun ag dR ai fV hl hp j_=>?_));rw [Nat.zero_add] at fV;rw [if_neg (by exact fun zz=>Nat.lt_irrefl 0 (ae [_,_] [] [.f (.v 0) (.v 1),.lt (.v 0) (.v 1)] (.lt (.n 0) (.n 0)) rfl hl zz))];refine wpAny_bind (wpAny_holding (W.done {s with heap:=ag,toks:=dR} _ _ fV fun aM bE rc=>?_));simp only [Option.isSome_none,Bool.false_eq_true,if_false];exact wpAny_pure (fin rs aM bE ai (by exact Nat.le_antisymm (ae [_,_,_] [] [.f (.v 1) (.v 2),.e (.v 0) (.v 2)] (.le (.v 0) (.v 1)) rfl hz hl) (ae [_,_,_] [] [.e (.v 0) (.v 2),.f (.v 1) (.v 2)] (.le (.v 0) (.v 1)) rfl hz hl)) hp fun b o hb e=>rc b o hb (j_ b o hb (jA b o e)))
 unfold rB at e;generalize q:mG a=zc;induction zc using aA with
 |some m=>
  rw [q] at e;obtain rfl:m=l:=Option.some.inj e;obtain ⟨x,items,n,rfl,z,rs⟩:=ra.wW q;have hx:=(S.bN _ _ z).1;have hz:m.length=items.size:=by rw [rs.length,Array.length_toList]
  have hT:=oW hx;have cj:x≠s.heap.objs.size:=Nat.ne_of_lt (Heap.lt_size hx);have W:=Walks.tuple (prog:=g.prog) (w:=g.w) hh s.heap.objs.size x cj items;rw [hz];unfold unpackItems;refine wpAny_bind ?_;unfold notIterableAtAll;refine wpAny_bind (wpAny_specialOf hT.typeIs F.slot_tuple_iter.lookup ?_);refine wpAny_pure ?_;simp only [Bool.false_eq_true,if_false];refine wpAny_bind (wpAny_holding (wpAny_pyIter_tuple hT ?_));refine wpAny_bind (wpAny_holding (Gy W items.size 0 _ _ ⟨⟨_,Heap.get?_push_size _ rfl,rfl,rfl⟩,oW (Heap.get?_push_of_some _ hx)⟩ (by exact ae [_] [] [] (.le (.p (.n 0) (.v 0)) (.v 0)) rfl) fun ag dR ai fV hl hp j_=>?_));rw [Nat.zero_add] at fV;rw [if_neg (by exact fun zz=>Nat.lt_irrefl 0 (ae [_,_] [] [.f (.v 0) (.v 1),.lt (.v 0) (.v 1)] (.lt (.n 0) (.n 0)) rfl hl zz))];refine wpAny_bind (wpAny_holding (W.done {s with heap:=ag,toks:=dR} _ _ fV fun aM bE rc=>?_));simp only [Option.isSome_none,Bool.false_eq_true,if_false];exact wpAny_pure (fin rs aM bE ai (by exact Nat.le_antisymm (ae [_,_,_] [] [.f (.v 1) (.v 2),.e (.v 0) (.v 2)] (.le (.v 0) (.v 1)) rfl hz hl) (ae [_,_,_] [] [.e (.v 0) (.v 2),.f (.v 1) (.v 2)] (.le (.v 0) (.v 1)) rfl hz hl)) hp fun b o hb e=>rc b o hb (j_ b o hb (jA b o e)))
 |none=>
  rw [q] at e;refine dW (iF S ra e ) ?_;rintro x items n rfl hx rs;exact list hx rs rfl
theorem rZ {l:List V} {J aH:Loc} (e:putAll [] l J=some aH):l=[]/\J=aH:=by
 induction l using bh with
 |nil=>exact ⟨rfl,Option.some.inj e⟩
 |cons=>exact al e
theorem lY {x:Str} {xs:List Str} {l:List V} {J aH:Loc} (e:putAll (x::xs) l J=some aH):∃v r,l=v::r/\putAll xs r (putL x v J)=some aH:=by
 induction l using bh with
 |nil=>exact al e
 |cons v r=>exact ⟨v,r,rfl,e⟩
theorem Ls (F:Fm A Fs env sc q) {xs:List Str} (hx:xs.all (bU sc)=true):∀ {l:List V} {ai:List Value} {J aH:Loc} {s:Shared} {Q:Unit->Shared->Prop},St g h0 Fs Z as O s.heap->aW g Z as J env s.heap->aO g Z as l ai->putAll xs l J=some aH->
 (∀h' tk,bS g h0 env.locals Fs Z as s.heap Z as O h'->aW g Z as aH env h'->Q () {s with heap:=h',toks:=tk})->
 wpAny (model g.prog g.w) A (assignInOrder (xs.map fun n=>bindName env n) ai) Q E s:=by
 induction xs with
 |nil=>
  intro l ai J aH s Q S lo rs e k;refine aK (rZ e ) ?_;rintro rfl rfl;obtain rfl:=rs.out;exact wpAny_pure (k s.heap s.toks (bS.refl S) lo)
 |cons x xs ih=>
  intro l ai J aH s Q S lo rs e k;refine b_ (lY e ) ?_;rintro v l rfl e';obtain ⟨val,ai,rfl,r,qf⟩:=rs.out;rw [List.all_cons,Bool.and_eq_true] at hx;show wpAny _ _ (do holding ai (bindName env x val);assignInOrder (xs.map fun n=>bindName env n) ai) Q E s;refine wpAny_bind (wpAny_holding (wpAny_bindName (pJ F hx.1 S lo r fun h' tk G vQ=>?_)));exact ih hx.2 (s:={s with heap:=h',toks:=tk}) G.st vQ qf e' fun jM bO G' yy=>k jM bO (G.trans S F.mem G') yy
theorem aW.ext {aH:Loc} (l:aW g Z as J env h) (e:∀y,dk y aH=dk y J):aW g Z as aH env h:=
 let ⟨m,hn,r⟩:=l;⟨m,hn,fun x v q=>r x v (by rw [<- e];exact q)⟩
theorem aO.Oy {l:List V} {ai:List Value} (rs:aO g Z as l ai):aO g Z as l.reverse ai.reverse:=by
 refine aO.ind (motive:=fun l ai=>aO g Z as l.reverse ai.reverse) .nil ?_ rs;intro v val vs ai r _ ih;rw [List.reverse_cons,List.reverse_cons];exact aO.append (.cons r .nil) ih
inductive Tg:List Expr->List Str->Prop
 |nil:Tg [] []
 |cons (x:Str) (p:Pos) {ts:List Expr} {xs:List Str}:Tg ts xs->Tg (.Name x p::ts) (x::xs)
theorem Ku {t:Expr} {ts:List Expr} {xs:List Str} (e:targetsOf (t::ts)=some xs):∃x p,t=.Name x p/\(targetsOf ts).map (x:: ·)=some xs:=by
 induction t using Expr.casesOn with
 |Name x p=>
  refine ⟨x,p,rfl,Eq.trans ?_ e⟩;show Option.map (x:: ·) (targetsOf ts)=(match targetsOf ts with
   |some l=>some (x::l)
   |none=>none)
  (generalize targetsOf ts=zc;induction zc using aA)<;>rfl
 |_=>exact al e
theorem Nc (ts:List Expr):∀ {xs:List Str},targetsOf ts=some xs->Tg ts xs:=by
 induction ts with
 |nil=>intro xs e;obtain rfl:=Option.some.inj e;exact .nil
 |cons t ts ih=>
  intro xs e;refine b_ (Ku e ) ?_;rintro x p rfl h;refine aw (Option.map_eq_some_iff.mp h ) ?_;rintro l h1 rfl;exact .cons x p (ih h1)
theorem Tg.len {ts:List Expr} {xs:List Str} (T:Tg ts xs):xs.length=ts.length:=by
 induction T with
 |nil=>rfl
 |cons x p _ ih=>rw [List.length_cons,List.length_cons,ih]
theorem Tg.each {ts:List Expr} {xs:List Str} (T:Tg ts xs) (env:Env):(assignEach ts env).length=xs.length/\(assignEach ts env).findIdx? (·.1)=none:=by
 induction T with
 |nil=>exact ⟨rfl,rfl⟩
 |@cons x p ts xs _ ih=>
  refine ⟨congrArg (· + 1) ih.1,?_⟩;show List.findIdx? (·.1) ((false,assign (.Name x p) env)::assignEach ts env)=none;rw [List.findIdx?_cons,ih.2];rfl
end
noncomputable def fF (env:Env) (line:Nat) (ts:List Expr):List Str:=ts.filterMap fun
 |.Name id pos=>if env.kindOf id==some .local&&pos.line==line then some id else none
 |_=>none
theorem Tg.on (env:Env) (line:Nat) {ts:List Expr} {xs:List Str} (T:Tg ts xs):(fF env line ts).length<=ts.length/\((fF env line ts).length=ts.length->fF env line ts=xs):=by
 induction T with
 |nil=>exact ⟨Nat.le_refl _,fun _=>rfl⟩
 |@cons x p ts xs _ ih=>
  have hn:fF env line (.Name x p::ts)=bif (env.kindOf x==some NameKind.local&&p.line==line) then x::fF env line ts else fF env line ts:=by
   unfold fF;rw [List.filterMap_cons]
   (generalize c:(env.kindOf x==some NameKind.local&&p.line==line)=zc;induction zc using aN)<;>simp only [c,if_true]<;>rfl
  rw [hn,List.length_cons];generalize (env.kindOf x==some NameKind.local&&p.line==line)=zc;induction zc using aN with
  |true=>exact ⟨Nat.succ_le_succ ih.1,fun q=>congrArg (x:: ·) (ih.2 (Nat.succ.inj q))⟩
  |false=>exact ⟨Nat.le_succ_of_le ih.1,fun q=>absurd (q▸ih.1:ts.length+1<=ts.length) (Nat.not_succ_le_self _)⟩
theorem HQ {ts:List Expr} {xs:List Str} {k:Nat} {tp:Pos} {v:Expr} {env:Env} (T:Tg ts xs) (hb:kT v=false):
 swappedStores [.Tuple ts k tp] v env=pure none\/(swappedStores [.Tuple ts k tp] v env=pure (some xs)/\(ts.length=2\/ts.length=3)):=by
 induction v using Expr.casesOn with
 |Tuple vs k' p'=>
  have h2:=(T.on env ((ts.head?.map (·.pos.line)).getD 0)).2;have eq:swappedStores [.Tuple ts k tp] (.Tuple vs k' p') env=(if (!(ts.length==2||ts.length==3)||vs.length !=ts.length||env.blockKind !=.function)=true then pure none
   else if (vs.any fun| .Starred .. => true|_=>false)=true then pure none
   else if ((fF env ((ts.head?.map (·.pos.line)).getD 0) ts).length !=ts.length||(fF env ((ts.head?.map (·.pos.line)).getD 0) ts).eraseDups.length !=(fF env ((ts.head?.map (·.pos.line)).getD 0) ts).length)=true then pure none
   else if (vs.all (foldedForSure 8))=true then pure none
   else if (vs.all (constantsAlone 8))=true then (do unsupported "assign.tuple-of-constant-expressions:order-of-the-stores";pure (some (fF env ((ts.head?.map (·.pos.line)).getD 0) ts)))
   else pure (some (fF env ((ts.head?.map (·.pos.line)).getD 0) ts))):=rfl
  rw [eq];by_cases c1:(!(ts.length==2||ts.length==3)||vs.length !=ts.length||env.blockKind !=.function)=true
  ·rw [if_pos c1];exact .inl rfl
  rw [if_neg c1]
  split
  ·exact .inl rfl
  by_cases c2:((fF env ((ts.head?.map (·.pos.line)).getD 0) ts).length !=ts.length||(fF env ((ts.head?.map (·.pos.line)).getD 0) ts).eraseDups.length !=(fF env ((ts.head?.map (·.pos.line)).getD 0) ts).length)=true
  ·rw [if_pos c2];exact .inl rfl
  rw [if_neg c2];by_cases c3:(vs.all (foldedForSure 8))=true
  ·rw [if_pos c3];exact .inl rfl
  rw [if_neg c3];by_cases c4:(vs.all (constantsAlone 8))=true
  ·have:kT (.Tuple vs k' p')=true:=by
    show (vs.all (constantsAlone 8)&& !vs.all (foldedForSure 8))=true;rw [c4];simpa using c3
   rw [this] at hb;cases hb
  rw [if_neg c4];have hn:(fF env ((ts.head?.map (·.pos.line)).getD 0) ts).length=ts.length:=by
   generalize q:((fF env ((ts.head?.map (·.pos.line)).getD 0) ts).length !=ts.length)=zc;induction zc using aN with
   |true=>rw [q] at c2;exact absurd (Bool.true_or _) c2
   |false=>simpa using q
  rw [h2 hn];refine .inr ⟨rfl,?_⟩;generalize q:(ts.length==2||ts.length==3)=zc;induction zc using aN with
  |false=>rw [q] at c1;exact absurd rfl c1
  |true=>simpa using q
 |_=>exact .inl rfl
theorem Eg:∀ {xs:List Str} {l:List V} {J aH:Loc},putAll xs l J=some aH->l.length=xs.length:=by
 intro xs;induction xs with
 |nil=>intro l J aH e;rw [(rZ e).1];rfl
 |cons x xs ih=>
  intro l J aH e;refine b_ (lY e ) ?_;rintro v r rfl e';rw [List.length_cons,List.length_cons,ih e']
theorem vn {a b:Str} (h:b≠a) (u v:V) (J:Loc) (y:Str):dk y (putL b v (putL a u J))=dk y (putL a u (putL b v J)):=by
 simp only [xH];by_cases q:y=b
 ·rw [if_pos q,if_pos q,if_neg (fun z=>h (q.symm.trans z))]
 ·rw [if_neg q,if_neg q]
theorem Cj {J aH:Loc} (h:∀y,dk y J=dk y aH) (a:Str) (u:V) (y:Str):dk y (putL a u J)=dk y (putL a u aH):=by
 simp only [xH,h]
theorem xf {a:Str} {xs:List Str} (h:im (a::xs)=true):(∀b∈xs,b≠a)/\im xs=true:=by
 have h:=Bool.and_eq_true_iff.mp h;exact ⟨fun b hb z=>by
  have k:(xs.any fun y=>seq y a)=true:=List.any_eq_true.mpr ⟨b,hb,bY.mpr z⟩;have h1:=h.1;rw [k] at h1;exact ff h1,h.2⟩
theorem MX {xs:List Str} {l:List V} {J aH:Loc} (hd:im xs=true) (hn:xs.length=2\/xs.length=3) (e:putAll xs l J=some aH):
 ∃qP,putAll xs.reverse l.reverse J=some qP/\∀y,dk y aH=dk y qP:=by
 match xs with
 | []=>rcases hn with hn|hn<;>cases hn
 | [_]=>rcases hn with hn|hn<;>cases hn
 | [a,b]=>
  refine b_ (lY e ) ?_;rintro u _ rfl e1;refine b_ (lY e1 ) ?_;rintro v _ rfl e2;refine aK (rZ e2 ) ?_;rintro rfl rfl;exact ⟨_,rfl,vn ((xf hd).1 b (.head _)) u v J⟩
 | [a,b,c]=>
  refine b_ (lY e ) ?_;rintro u _ rfl e1;refine b_ (lY e1 ) ?_;rintro v _ rfl e2;refine b_ (lY e2 ) ?_;rintro w _ rfl e3;refine aK (rZ e3 ) ?_;rintro rfl rfl;refine aK (xf hd ) fun h1 h2=>?_;have h3:=(xf h2).1 c (.head _);refine ⟨_,rfl,fun y=>?_⟩;refine (Cj (vn (h1 b (.head _)) u v J) c w y).trans ?_;refine (vn (h1 c (.tail _ (.head _))) u w _ y).trans ?_;exact Cj (vn h3 v w J) a u y
 |_::_::_::_::_=>rcases hn with hn|hn<;>cases hn
section
variable {g:Gd} {h0:Heap} {mb:Gv} {Fs:List Addr} {Z ak:Zm} {as aj:List Addr} {O σ₁:B} {A:Around} {s:Shared} {J fG:Loc} {env:Env} {sc:Scope} {q:Bool} {h ag:Heap} {tk:Nat} {I:bQ} {n:Nat} {Γ:Ctx}
theorem K4 {E:Value->Shared->Prop} (F:Fm A Fs env sc q) {ts:List Expr} {xs:List Str} (T:Tg ts xs) (hx:xs.all (bU sc)=true):∀ {l:List V} {ai:List Value} {J aH:Loc} {s:Shared} {Q:Unit->Shared->Prop},St g h0 Fs Z as O s.heap->aW g Z as J env s.heap->aO g Z as l ai->putAll xs l J=some aH->
 (∀h' tk,bS g h0 env.locals Fs Z as s.heap Z as O h'->aW g Z as aH env h'->Q () {s with heap:=h',toks:=tk})->
 wpAny (model g.prog g.w) A (assignInOrder ((assignEach ts env).map (·.2)) ai) Q E s:=by
 induction T with
 |nil=>
  intro l ai J aH s Q S lo rs e k;refine aK (rZ e ) ?_;rintro rfl rfl;obtain rfl:=rs.out;exact wpAny_pure (k s.heap s.toks (bS.refl S) lo)
 |@cons x p ts xs _ ih=>
  intro l ai J aH s Q S lo rs e k;refine b_ (lY e ) ?_;rintro v l rfl e';obtain ⟨val,ai,rfl,r,qf⟩:=rs.out;rw [List.all_cons,Bool.and_eq_true] at hx;show wpAny _ _ (do holding ai (do standAt p;bindName env x val);assignInOrder ((assignEach ts env).map (·.2)) ai) Q E s;refine wpAny_bind (wpAny_holding (wpAny_bind (wpAny_standAt (wpAny_bindName (pJ F hx.1 S lo r fun h' tk G vQ=>?_)))));exact ih hx.2 (s:={s with heap:=h',toks:=tk}) G.st vQ qf e' fun jM bO G' yy=>k jM bO (G.trans S F.mem G') yy
noncomputable def wg (I:bQ) (q:Bool) (sc:Scope) (xs:List Str) (v:Expr) (J:Loc) (O:B):RS:=(I.e q sc v J O).toS J fun a O=>nL xs a J O
theorem DI {xs:List Str} {a:V} {J:Loc} {O:B} {R:RS} (e:nL xs a J O=R) (hR:R≠ .stuck):∃L aH,rB a O=some L/\putAll xs L J=some aH/\RS.fin .next aH O=R:=by
 unfold nL at e;generalize e2:rB a O=zc;induction zc using aA with
 |none=>rw [e2] at e;exact absurd e.symm hR
 |some L=>
  rw [e2] at e;dsimp only at e;generalize e3:putAll xs L J=zc;induction zc using aA with
  |none=>rw [e3] at e;exact absurd e.symm hR
  |some aH=>rw [e3] at e;exact ⟨L,aH,rfl,e3,e⟩
theorem My (HC:kS I) (IE:bX g h0 n I) (F:Fm A Fs env sc q) (rm:Rm A n) (hh:A.handled=none) {ts:List Expr} {xs:List Str} {k:Nat} {tp p:Pos} {v:Expr} (ht:targetsOf ts=some xs) (hb:kT v=false) (hx:xs.all (bU sc)=true) (hd:im xs=true)
 (jI:di v=false) (S:St g h0 Fs Z as O s.heap) (l:aW g Z as J env s.heap) (af:wg I q sc xs v J O≠ .stuck):eh g h0 A Fs Z as s (exec (.Assign [.Tuple ts k tp] v p) env) env (wg I q sc xs v J O):=by
 unfold wg at af ⊢;have sw:swapsWithSole [.Tuple ts k tp] v p.line env=pure false:=(yJ HC (jK af) jI (.Tuple ts k tp) p.line env:swapsWith v (some (.Tuple ts k tp)) p.line env=pure false)
 refine kx af fun R er hR=>?_;have T:=Nc ts ht;rcases HQ (k:=k) (tp:=tp) (env:=env) T hb with hs|⟨hs,Sb⟩
 ·refine Assign_Tuple (jo IE F rm S l er hR fun a val ag tk ak aj σ₁ er G cK rv=>?_) sw hs;refine i_ (DI er hR ) ?_;rintro L aH e2 e3 rfl;refine aK (T.each env ) fun t1 t2=>?_;show wpAny _ _ (do standAt tp;unpack val (assignEach ts env)) _ _ _;refine wpAny_bind (wpAny_standAt ?_);unfold unpack;rw [t1,t2,<- Eg e3];refine wpAny_bind (wpAny_holding (C9 (s:={s with heap:=ag,toks:=tk}) hh G.st rv e2 fun aM bE ai aS rs=>?_));exact K4 (s:={s with heap:=aM,toks:=bE}) F T hx aS.st (cK.go G.st F.mem aS) rs e3 fun cu gZ cF kX=>
   ⟨.next,aH,σ₁,cu,gZ,ak,aj,rfl,rfl,(bS.of (G.trans aS)).trans S F.mem cF,kX,.next⟩
 ·refine Assign_Tuple_swapped (jo IE F rm S l er hR fun a val ag tk ak aj σ₁ er G cK rv=>?_) sw hs;refine i_ (DI er hR ) ?_;rintro L aH e2 e3 rfl;rw [<- Eg e3];refine C9 (s:={s with heap:=ag,toks:=tk}) hh G.st rv e2 fun aM bE ai aS rs=>?_;refine aw (MX hd (by rw [T.len];exact Sb) e3 ) fun qP e4 e5=>?_;exact Ls (s:={s with heap:=aM,toks:=bE}) F (by rw [List.all_reverse];exact hx) aS.st (cK.go G.st F.mem aS) rs.Oy e4 fun cu gZ cF kX=>
   ⟨.next,aH,σ₁,cu,gZ,ak,aj,rfl,rfl,(bS.of (G.trans aS)).trans S F.mem cF,kX.ext e5,.next⟩
noncomputable def Ek (e:Expr) (t:Str) (pos:Pos) (_:Nat) (env:Env):Bool:=
 match e with
 |.ListComp _ _ scope _=>env.blockKind==.function&&env.kindOf t==some .local&&pos.line==e.pos.line&& !(scope.names.any fun (n,k)=>n==t&&(k==.local||k==.cell))
 |_=>false
theorem CV {e:Expr} {t:Str} {pos:Pos} {k:Nat} {b:Bool} (hl:di e=true) (h:Ek e t pos k env=b):swapsWith e (some (.Name t pos)) k env=pure b:=by
 induction e using Expr.casesOn<;>first|(subst h;rfl)|exact ff hl
noncomputable def tC (g:Gd) (h0:Heap) (n:Nat) (I:bQ):Prop:=∀ {sc:Scope} {e:Expr} {x:Str} {px:Pos} {J:Loc} {O:B} {A:Around} {Fs:List Addr} {env:Env} {Z:Zm} {as:List Addr} {s:Shared},
 di e=true->bU sc x=true->Fm A Fs env sc false->Rm A n->St g h0 Fs Z as O s.heap->aW g Z as J env s.heap->I.e false sc e J O≠ .stuck->
  wpAny (model g.prog g.w) A (evalThenUse e env (assign (.Name x px) env)) (fun _=>PX g h0 env Fs Z as s ((I.e false sc e J O).toS J fun v O=>.fin .next (putL x v J) O) .next)
   (eT g h0 env Fs Z as s ((I.e false sc e J O).toS J fun v O=>.fin .next (putL x v J) O)) s
theorem Mk {e:Expr} (h:di e=true):∃bC g_ sc pos,e=.ListComp bC g_ sc pos:=by
 induction e using Expr.casesOn with
 |ListComp a b c d=>exact ⟨a,b,c,d,rfl⟩
 |_=>exact ff h
theorem Pk (HS:gL I) (IE:bX g h0 n I) (IT:g0 g h0 n I):tC g h0 n ⟨iM Γ I,stepT Γ I,jD Γ I⟩:=by
 intro sc e x px J O A Fs env Z as s hl hx F rm S lo af;refine TR (Mk hl ) ?_;rintro bC g_ aQ pos rfl;have af:th (eU Γ I false sc J O) (nn bC aQ g_)≠ .stuck:=af;show wpAny _ _ _ (fun _=>PX g h0 env Fs Z as s ((th (eU Γ I false sc J O) (nn bC aQ g_)).toS J fun v O=>.fin .next (putL x v J) O) .next) (eT g h0 env Fs Z as s ((th (eU Γ I false sc J O) (nn bC aQ g_)).toS J fun v O=>.fin .next (putL x v J) O)) s;generalize ek:nn bC aQ g_=zc;induction zc using aA with
 |none=>rw [ek] at af;exact absurd rfl af
 |some k=>
 rw [ek] at af;refine El (Bh (p:=pos) ek ) ?_;rintro y py it bL rfl rfl;clear ek;have c:=dJ af;have er:eU Γ I false sc J O (.com bC y it bL aQ)=jG I sc aQ y it bC bL J O:=cH c;have fU:jG I sc aQ y it bC bL J O≠ .stuck:=er▸af;show wpAny _ _ _ (fun _=>PX g h0 env Fs Z as s ((eU Γ I false sc J O (.com bC y it bL aQ)).toS J fun v O=>.fin .next (putL x v J) O) .next) (eT g h0 env Fs Z as s ((eU Γ I false sc J O (.com bC y it bL aQ)).toS J fun v O=>.fin .next (putL x v J) O)) s;rw [er];rw [Bool.and_eq_true] at c;show wpAny _ _ (do let _ <- comprehension (.ListComp bC [⟨.Name y py,it,bL,0⟩] aQ pos) aQ env (firstIterPos [⟨.Name y py,it,bL,0⟩] pos) (newList []) false (eval it env) (some (assign (.Name x px) env));pure ()) _ _ _;refine wpAny_bind (EK HS IE IT F rm c.1 S lo fU (fun _ _ y=>y.tD S F.mem lo) fun ag tk ak aj σ₁ C m v acc er nC G hn rv zC aC fC=>?_);rw [er,qq];have G':=G.jE nC;have cK:=lo.go S F.mem G';have Bw:C≠env.locals:=fun z=>by
  refine gN (S.frm _ F.mem ) fun o _ _ ho _=>?_;rw [<- z,nC] at ho;exact al ho
 refine wpAny_assign_Name (pJ (s:={s with heap:=ag,toks:=tk}) F hx G'.st cK rv fun aM bE aS eZ=>?_);refine Gq (id hn ) fun oC es ep rS qD hk hf=>?_;have Ri:aM.get? C=some oC:=(aS.keep C oC rS aC Bw).1 fC;refine ⟨m,⟨oC,es,ep,Ri,qD,hk,hf⟩,fun cu sb=>wpAny_pure ?_⟩;have G3:bS g h0 env.locals Fs Z as s.heap ak aj σ₁ cu:=(((bS.of G').trans S F.mem aS).loose nC zC fC aC fun b o hb e=>(sb.2 b hb).trans e)
 refine aw eZ ?_;clear eZ;rintro m' ⟨o',iA,B7,iP,i7,pN,Mx⟩ r';exact ⟨.next,_,σ₁,cu,bE,ak,aj,rfl,rfl,G3,⟨m',⟨o',iA,B7,(sb.2 _ (Ne.symm Bw)).trans iP,i7,pN,Mx⟩,r'⟩,.next⟩
theorem Pl (HC:kS I) (IU:tC g h0 n I) (IE:bX g h0 n I) (F:Fm A Fs env sc false) (rm:Rm A n) {x:Str} {e:Expr} {px p:Pos} (hx:bU sc x=true) (S:St g h0 Fs Z as O s.heap) (l:aW g Z as J env s.heap)
 (af:((I.e false sc e J O).toS J fun v O=>.fin .next (putL x v J) O)≠ .stuck):eh g h0 A Fs Z as s (exec (.Assign [.Name x px] e p) env) env ((I.e false sc e J O).toS J fun v O=>.fin .next (putL x v J) O):=by
 generalize jI:di e=zc;induction zc using aN with
 |false=>exact HI HC IE F rm hx S l jI af
 |true=>
  generalize hb:Ek e x px p.line env=zc;induction zc using aN with
  |true=>
   rw [eh,exec_Assign_Name_used _ _ _ _ (CV jI hb)];refine wpAny_bind (wpAny_standAt (wpAny_bind (wpAny_mono (IU jI hx F rm S l (jK af)) (fun _ _ y=>wpAny_pure y) fun _ _ y=>y)))
  |false=>
   refine kx af fun R er hR=>wpAny_Assign_Name (jo IE F rm S l er hR fun v val ag tk ak aj σ₁ er G cK rv=>?_) (CV jI hb);subst er;exact wpAny_mono (tq (s:={s with heap:=ag,toks:=tk}) F hx G.st cK rv) (fun _ _ x=>x.trans S F.mem (.of G)) fun _ _ x=>x
end
inductive Do (g:Gd) (h0:Heap) (env:Env) (Fs:List Addr) (Z:Zm) (as:List Addr) (s:Shared) (wv:Nat->Loc->B->Prop) (k:Nat) (s':Shared):Prop
 |mk (aH:Loc) (σ':B) (h':Heap) (tk:Nat) (Z':Zm) (aL:List Addr):s'={s with heap:=h',toks:=tk} -> bS g h0 env.locals Fs Z as s.heap Z' aL σ' h'->aW g Z' aL aH env h'->wv k aH σ'->Do g h0 env Fs Z as s wv k s'
section
variable {g:Gd} {h0:Heap} {mb:Gv} {Fs:List Addr} {Z ak:Zm} {as aj:List Addr} {O σ₁:B} {A:Around} {s:Shared} {J fG:Loc} {env:Env} {sc:Scope} {q:Bool} {h ag:Heap} {tk:Nat} {I:bQ} {n:Nat} {Γ:Ctx}
theorem aW.touch {e:Addr} {T:Option Addr} (hm:env.locals∈Fs) (le:gm Fs Z as O e) (lT:∀x,T=some x->gm Fs Z as O x) (k:kg Fs e T h ag) (l:aW g Z as J env h):aW g Z as J env ag:=by
 refine aw l ?_;clear l;rintro m ⟨o,es,ep,ho,hd,hk,hf⟩ r;refine aB (k.slots _ o ho (fun q=>le.2.1 (q▸hm)) (fun q=>(lT _ q).2.1 hm) ) fun sl z=>?_;exact ⟨m,⟨_,es,ep,z,hd,hk,hf⟩,r⟩
theorem xu (S:St g h0 Fs Z as O s.heap) (F:Fm A Fs env sc false) {r:RS} {v:Value} {s':Shared} (x:eT g h0 env Fs Z as s r v s'):
 notedBy (model g.prog g.w) A env (fun e Lj=>cameBackBy (model g.prog g.w) A env (eT g h0 env Fs Z as s r) e Lj) v s':=by
 obtain ⟨hh,nM,dP,eX,fo⟩:=F.full rfl;obtain ⟨f,aH,σ',h',tk,Z',aL,e,e1,rfl,rfl,G,l,fl⟩:=x;unfold notedBy;have le:=fl;obtain ⟨oe,vs,T0,_,_,_,_,_,fY,jl,_⟩:=le;refine xG (s:={s with heap:=h',toks:=tk}) (hs:=s.heap) eX fo nM G.st (bS.gw S F.mem G) fl fun aM T k lT tu=>?_;have aS:=G.touch fY lT k jl;have eZ:=l.touch F.mem fY (fun x q=>(lT x q).1) k;have Rv:=tu;obtain ⟨oe,vs,wE,he,hd,_,_,tr,_,_,_⟩:=Rv;unfold cameBackBy;induction wE using aA with
 |none=>exact tr.1.elim
 |some wE=>
  refine wpAny_bind (wpAny_field he hd tr.1 ?_);rw [if_neg (show ¬((Value.ref wE==Value.none)=true) from by simp)];rw [nM];refine sx (s:={s with heap:=aM,toks:=tk}) tu fun cu Uz CO Dv nj=>?_;exact ⟨f,aH,σ',cu,tk,Z',aL,e,e1,rfl,rfl,aS.touch fY Dv CO jl,eZ.touch F.mem fY (fun x q=>(Dv x q).1) CO,nj.weaken (fun _ q=>.inr q) fun q=>q.elim⟩
theorem Qv (IT:g0 g h0 n I) (IX:m0 g h0 n I) (F:Fm A Fs env sc false) (rm:Rm A n) {t:Expr} {b:List Stmt} {p:Pos} {N:Nat} (S:St g h0 Fs Z as O s.heap) (l:aW g Z as J env s.heap)
 (af:fO (fun J O=>I.t false sc t J O) (fun J O=>bB (I.x false sc) b J O) N J O≠ .stuck):
 eh g h0 A Fs Z as s (exec (.While t b [] p) env) env (fO (fun J O=>I.t false sc t J O) (fun J O=>bB (I.x false sc) b J O) N J O):=by
 generalize hr:fO (fun J O=>I.t false sc t J O) (fun J O=>bB (I.x false sc) b J O) N J O=r at af ⊢;refine wpAny_While (codeAny_whileLoop (Do g h0 env Fs Z as s fun k aH σ'=>fO (fun J O=>I.t false sc t J O) (fun J O=>bB (I.x false sc) b J O) k aH σ'=r) ?_ N ⟨J,O,s.heap,s.toks,Z,as,rfl,bS.refl S,l,hr⟩);rintro k s' ⟨aH,σ',h',tk,Z',aL,rfl,G,l',dG⟩;induction k using cz with
 |zero=>subst dG;exact absurd rfl af
 |succ k=>
 have dG:R.toS aH (I.t false sc t aH σ') _=r:=dG;have fU:_≠RS.stuck:=fun q=>af (dG.symm.trans q);refine wpAny_mono (IT F rm G.st l' (jK fU)) (fun c bG x=>?_) fun v bG x=>xu S F (by
  rw [<- dG];exact (x.tD (s:={s with heap:=h',toks:=tk}) G.st F.mem l').trans S F.mem G)
 obtain ⟨a,σ₁,ag,dR,ak,aj,e1,rfl,yZ,rfl⟩:=x;rw [e1,qq] at dG fU;have cK:=l'.go G.st F.mem yZ;have GG:=G.trans S F.mem (.of yZ);induction a using aN with
 |true=>
  simp only [if_true];dsimp only [cond_true] at dG fU;refine wpAny_mono (kY (s:={s with heap:=ag,toks:=dR}) IX F rm yZ.st cK (yD fU)) (fun fl hW x=>?_) fun v hW x=>xu S F (by
   obtain ⟨f,fy,bn,aM,bE,bj,bM,e,e1,e2,e3,aS,eZ,ff⟩:=x.trans (s:=s) (Z:=Z) (as:=as) S F.mem GG;exact ⟨f,fy,bn,aM,bE,bj,bM,e,by rw [<- dG,e1];rfl,e2,e3,aS,eZ,ff⟩)
  obtain ⟨f,fy,bn,aM,bE,bj,bM,e1,rfl,aS,eZ,fr⟩:=x;rw [e1] at dG;induction fr with
  |next=>exact ⟨k,Nat.lt_succ_self k,fy,bn,aM,bE,bj,bM,rfl,GG.trans S F.mem aS,eZ,dG⟩
  |ret rv=>exact ⟨_,fy,bn,aM,bE,bj,bM,dG.symm,rfl,GG.trans S F.mem aS,eZ,.ret rv⟩
 |false=>
  simp only [Bool.false_eq_true,if_false];exact wpAny_execs_nil ⟨.next,aH,σ₁,ag,dR,ak,aj,dG.symm,rfl,GG,cK,.next⟩
end
inductive FU (g:Gd) (h0:Heap) (env:Env) (Fs:List Addr) (Z:Zm) (as:List Addr) (s:Shared) (It:Addr) (fp:List Addr) (P:Nat->Value->Prop) (bF:Nat->Heap->Prop) (vs:List V) (fv:Nat->Loc->B->Prop) (k:Nat) (s':Shared):Prop
 |mk (i:Nat) (aH:Loc) (hS:B) (Zc:Zm) (asc:List Addr) (h':Heap) (tk:Nat):s'={s with heap:=h',toks:=tk} -> bS g h0 env.locals Fs Z as s.heap Zc asc hS h'->bF i h'->Zc It=none->It∉asc->aW g Zc asc aH env h'->
  (∀b∈fp,b≠It->∃o,Zc b=some o)->(∀i v',P i v'->∃x,az vs i=some x/\RV g Zc asc x v')->fv i aH hS->i<=vs.length->k=vs.length+1-i->FU g h0 env Fs Z as s It fp P bF vs fv k s'
section
variable {g:Gd} {h0:Heap} {mb:Gv} {Fs:List Addr} {Z ak:Zm} {as aj:List Addr} {O σ₁:B} {A:Around} {s:Shared} {J fG:Loc} {env:Env} {sc:Scope} {q:Bool} {h ag:Heap} {tk:Nat} {I:bQ} {n:Nat} {Γ:Ctx}
noncomputable def zj (I:bQ) (sc:Scope) (x:Str) (it:Expr) (b:List Stmt) (J:Loc) (O:B):RS:=(I.e false sc it J O).toS J fun v O=>gQ (fun J O=>bB (I.x false sc) b J O) x v J O
theorem JD {bv:Loc->B->RS} {x:Str} {v:V} {J:Loc} {O:B} {R:RS} (e:gQ bv x v J O=R) (hR:R≠ .stuck):∃l σ',fk v O=some (l,σ')/\dH bv x l J σ'=R:=by
 unfold gQ at e;generalize q:fk v O=zc;induction zc using aA with
 |none=>rw [q] at e;exact absurd e.symm hR
 |some p=>rw [q] at e;exact ⟨p.1,p.2,rfl,e⟩
theorem Oz (HS:gL I) (IE:bX g h0 n I) (IX:m0 g h0 n I) (F:Fm A Fs env sc false) (rm:Rm A n) {x:Str} {px:Pos} {it:Expr} {b:List Stmt} {p:Pos} (hx:bU sc x=true) (S:St g h0 Fs Z as O s.heap) (l:aW g Z as J env s.heap)
 (af:zj I sc x it b J O≠ .stuck):
 eh g h0 A Fs Z as s (exec (.For (.Name x px) it b [] p) env) env (zj I sc x it b J O):=by
 obtain ⟨hh,nM,dP,eX,fo⟩:=F.full rfl;unfold zj at af ⊢;refine kx af fun r er hR=>wpAny_For (jo IE F rm S l er hR fun v val ag tk ak aj σ₁ er G cK rv=>?_) (fun y=>EL HS (jK af) y);clear af;refine b_ (JD er hR ) fun vs bn e2 hr=>?_;refine xi (s:={s with heap:=ag,toks:=tk}) hh G.st rv e2 fun aM bj It fp P bF aS qY bV=>?_;refine aB (bV.ex _ _ bV.st ) fun oI iV=>?_;have GG:=G.trans aS;have nI:s.heap.get? It=none:=Go.gw S G It qY;have eZ:=cK.go G.st F.mem aS;have W:=bV.walk;refine codeAny_forLoop_any (FU g h0 env Fs Z as s It fp P bF vs fun i aH hS=>dH (fun J O=>bB (I.x false sc) b J O) x (vs.drop i) aH hS=r) ?_ (vs.length+1)
  ⟨0,J,bn,bj,aj,aM,tk,rfl,.of GG,bV.st,bV.z,bV.a,eZ,bV.fp,bV.val,hr,Nat.zero_le _,rfl⟩
 rintro k s' ⟨i,aH,hS,Zc,asc,h',bO,rfl,G',st,zI,aI,lo,kC,j0,dG,hi,rfl⟩;by_cases eG:i<vs.length
 ·refine W.item i _ _ _ eG st fun v' ag dR p fV d_=>?_;dsimp only;have d_:∀b o,b≠It->h'.get? b=some o->ag.get? b=some o:=fun b o hb e=>d_ b o (fun q=>hb (List.mem_singleton.mp q)) e;refine aw (j0 i v' p ) fun a ea ra=>?_;rw [u7 ea] at dG;have dG:RS.bind (bB (I.x false sc) b (putL x a aH) hS) _=r:=dG;have fU:_≠RS.stuck:=fun q=>hR (dG.symm.trans q);have G1:=G'.loose nI zI bV.f aI d_;have nY:aW g Zc asc aH env ag:=by
   refine aw lo ?_;clear lo;rintro m ⟨o,es,ep,ho,r⟩ r';exact ⟨m,⟨o,es,ep,d_ _ o (fun z=>bV.f (z▸F.mem)) ho,r⟩,r'⟩
  show wpAny _ _ (pure ()) _ _ _;refine wpAny_pure (wpAny_assign_Name (pJ (s:={s with heap:=ag,toks:=dR}) F hx G1.st nY ra fun aM bE aS Ql=>?_));refine aB (bV.ex _ _ fV ) fun US NC=>?_;have UD:=aS.apart NC zI bV.f aI F.mem;have vr:bF (i+1) aM:=W.frame _ _ _ fV fun b hb o e=>by
   by_cases q:b=It
   ·subst q;exact (bS.apart aS (I:=b) e zI bV.f aI F.mem).2.2
   ·refine aB (kC b hb q ) fun o' z=>?_;rw [(G1.st.bN b o' z).1] at e;obtain rfl:=Option.some.inj e;exact (aS.st.bN b _ (aS.bz _ _ z)).1
  have wB:=G1.trans S F.mem aS;refine wpAny_mono (kY (s:={s with heap:=aM,toks:=bE}) IX F rm aS.st Ql (yD fU)) (fun fl hW x=>?_) fun v hW x=>xu S F (by
   obtain ⟨f,fy,bn,aM,bE,bj,bM,e,e1,e2,e3,aS,eZ,ff⟩:=x.trans (s:=s) (Z:=Z) (as:=as) S F.mem wB;exact ⟨f,fy,bn,aM,bE,bj,bM,e,by rw [<- dG,e1];rfl,e2,e3,aS,eZ,ff⟩)
  obtain ⟨f,fy,bn,cu,gZ,lP,n5,e1,rfl,cF,kX,fr⟩:=x;rw [e1] at dG;induction fr with
  |next=>
   refine aB (bV.ex _ _ vr ) fun Ud LR=>?_;have DR:=cF.apart LR zI bV.f aI F.mem;refine ⟨vs.length+1-(i+1),uw eG,i+1,fy,bn,lP,n5,cu,gZ,rfl,wB.trans S F.mem cF,W.frame _ _ _ vr fun b hb o e=>?_,DR.1,DR.2.1,kX,fun b hb q=>?_,fun i v' p=>?_,dG,eG,rfl⟩
   ·by_cases q:b=It
    ·subst q;exact (bS.apart cF (I:=b) e zI bV.f aI F.mem).2.2
    ·refine aB (kC b hb q ) fun o' z=>?_;rw [(aS.st.bN b o' z).1] at e;obtain rfl:=Option.some.inj e;exact (cF.st.bN b _ (cF.bz _ _ z)).1
   ·refine aB (kC b hb q) fun o z=>?_;exact ⟨o,cF.bz _ _ z⟩
   ·refine aw (j0 i v' p) fun y a b=>?_;exact ⟨y,a,b.mono cF.bz cF.pre⟩
  |ret rv=>exact ⟨_,fy,bn,cu,gZ,lP,n5,dG.symm,rfl,wB.trans S F.mem cF,kX,.ret rv⟩
 ·obtain rfl:i=vs.length:=Nat.le_antisymm hi (Nat.le_of_not_lt eG);refine W.done _ _ _ st fun ag dR d_=>?_;have d_:∀b o,b≠It->h'.get? b=some o->ag.get? b=some o:=fun b o hb e=>d_ b o (fun q=>hb (List.mem_singleton.mp q)) e;have G1:=G'.loose nI zI bV.f aI d_;have nY:aW g Zc asc aH env ag:=by
   refine aw lo ?_;clear lo;rintro m ⟨o,es,ep,ho,r⟩ r';exact ⟨m,⟨o,es,ep,d_ _ o (fun z=>bV.f (z▸F.mem)) ho,r⟩,r'⟩
  rw [List.drop_length] at dG;exact wpAny_execs_nil ⟨.next,aH,hS,ag,dR,Zc,asc,dG.symm,rfl,G1,nY,.next⟩
end
section
variable {M:Model} {A:Around} {E:Value->Shared->Prop} {env:Env}
theorem QU {s:Shared} {x:Sem Value} {Q:Flow->Shared->Prop} (hh:A.handled=none)
 (h:wpAny M A x (fun v bG=>∃(C:Addr) (nm q:Str) (N:Addr) (bs:List Value) (sn:List Str) (sub:List Value) (ab:Bool) (cW:Option Bool) (dd:Option Addr) (k0 k1 k2 k3 k5:Option Value) (dn:String) (e:Addr) (oe:Obj) (vs:Array Value),v=.ref e/\bG.heap.get? C=some (excClassObj nm q C N bs eE true sn sub ab cW dd k0 k1 k2 k3 k5 dn)/\
  bG.heap.get? e=some oe/\oe.cls=.ref C/\oe.data=.fields vs/\vs[1]?=some .none/\E (.ref e) bG) E s):
 wpAny M A (raiseStmt env (some x) none) Q E s:=by
 unfold raiseStmt;refine wpAny_bind (wpAny_mono h (fun v bG ag=>?_) fun _ _ x=>x);obtain ⟨C,nm,q,N,bs,sn,sub,ab,cW,dd,k0,k1,k2,k3,k5,dn,e,oe,vs,rfl,hC,he,hc,hd,h1,hE⟩:=ag;have qZ:(Value.ref C::eE).contains (.type "BaseException")=true:=by rw [List.contains_cons];simp [eE]
 obtain ⟨hp,g,d,tk,os⟩:=bG;have hf:∀ {Q:Value->Shared->Prop},Q .none ⟨hp,g,d,tk,os⟩->wpAny M A (field (.ref e) 1) Q E ⟨hp,g,d,tk,os⟩:=fun hq=>wpAny_field he hd h1 hq
 repeat (first|(with_reducible refine wpAny_loadPart_at he ?_;rw [hc])|with_reducible refine wpAny_loadPart_at hC ?_|(with_reducible refine wpAny_isSubtype_exc hC ?_;rw [qZ])|with_reducible refine hf ?_|wp_step)
 exact wpAny_raiseNew_none hh hE
end
section
variable {g:Gd} {h0:Heap} {mb:Gv} {Fs:List Addr} {Z ak:Zm} {as aj:List Addr} {O σ₁:B} {A:Around} {s:Shared} {J fG:Loc} {env:Env} {sc:Scope} {q:Bool} {h ag:Heap} {tk:Nat} {I:bQ} {n:Nat} {Γ:Ctx}
noncomputable def zm (I:bQ) (sc:Scope) (e:Expr) (J:Loc) (O:B):RS:=(I.e false sc e J O).toS J fun v σ'=>pH O.length v J σ'
set_option tactic.hygienic true in
theorem JY (dD:Tc g h0) (IE:bX g h0 n I) (F:Fm A Fs env sc false) (rm:Rm A n) {e:Expr} {p:Pos} (S:St g h0 Fs Z as O s.heap) (l:aW g Z as J env s.heap) (af:zm I sc e J O≠ .stuck):
 eh g h0 A Fs Z as s (exec (.Raise (some e) none p) env) env (zm I sc e J O):=by
 refine aK (F.full rfl ) fun hh _=>?_;unfold zm at af ⊢;refine kx af fun R er af=>?_;have key:wpAny (model g.prog g.w) A (eval e env) (fun v bG=>∃C nm q N bs sn sub ab cW dd k0 k1 k2 k3 k5 dn e' oe vs,v=.ref e'/\bG.heap.get? C=some (excClassObj nm q C N bs eE true sn sub ab cW dd k0 k1 k2 k3 k5 dn)/\
  bG.heap.get? e'=some oe/\oe.cls=.ref C/\oe.data=.fields vs/\vs[1]?=some .none/\eT g h0 env Fs Z as s R (.ref e') bG) (eT g h0 env Fs Z as s R) s:=by
  refine jo IE F rm S l er af fun v val ag tk ak aj σ₁ er G cK rv=>?_;subst er;unfold pH at af ⊢
  split at af
  ·rename_i m
   split at af
   ·rename_i f em;have c:=dJ af;rw [cH c];cases rv with
    |@loc _ a ha=>
    refine xX (G.st.obj _ _ _ ha em ) fun oe vs x1 x2 x3 x4 xd=>?_;have Rx:=xd;obtain ⟨C,dx,od,m',a',items,k,zG,yS,p,c1,c2,_⟩:=xd;obtain ⟨nm,q,N,bs,sn,sub,ab,cW,dd,k0,k1,k2,k3,k5,dn,mN,hC,_⟩:=dD.exc C c1;have z7:=(G.st.bN _ _ (G.st.base _ _ hC)).1;have za:=G.st.sep _ _ _ ha em (fun z=>by exact aZ.noConfusion z);have hF:=(G.st.off a (da ha)).1;have nh:s.heap.get? a=none:=by
     rcases G.new a (da ha) with q|q
     ·exfalso;refine aB (List.mem_iff_getElem?.mp q ) fun i hi=>?_;have Gj:az as i=some a:=by rw [fJ];exact hi
      have:=G.st.inj _ _ _ (o_ G.pre Gj) ha;have lt:=gI Gj;rw [S.len,this] at lt;have:=Nat.ble_eq.mp c;exact Nat.lt_irrefl 0 (ae [_,_] [] [.lt (.v 0) (.v 1),.le (.v 1) (.v 0)] (.lt (.n 0) (.n 0)) rfl lt this)
     ·exact q
    refine ⟨C,nm,q,N,bs,sn,sub,ab,cW,dd,k0,k1,k2,k3,k5,dn,a,oe,vs,rfl,z7,x1,c2,x2,x3,f,J,bu σ₁ m .dead,ag,tk,ak,aj,a,rfl,rfl,rfl,⟨G.bz,G.pre,G.st.dead m,fun b o e n _=>G.keep b o e n,G.new,G.fz⟩,cK,
     oe,vs,none,x1,x2,x4,Rx,⟨trivial,x3⟩,⟨za,hF,fun i o q1 q2=>?_⟩,nh,fun y q=>by exact al q⟩
    have:=G.st.inj _ _ _ q1 ha;subst this;rw [oO (gI em)] at q2;obtain rfl:=Option.some.inj q2;rfl
   ·exact absurd rfl af
  ·exact absurd rfl af
 show wpAny _ _ (do standAt p;raiseStmt env (some (do let v <- eval e env;standAt p;pure v)) none) _ _ _;refine wpAny_bind (wpAny_standAt (QU hh ?_));exact wpAny_bind (wpAny_mono key (fun v bG x=>wpAny_bind (wpAny_standAt (wpAny_pure x))) fun _ _ x=>x)
theorem St.Kq (S:St g h0 Fs Z as O h) {e:Addr} {oe:Obj} (le:gm Fs Z as O e) (he:h.get? e=some oe):bW Z (bp Z e oe)/\St g h0 Fs (bp Z e oe) as O h:=by
 have zl:=bp.le (o:=oe) le.1;refine ⟨zl,fun b o' e=>zl _ _ (S.base b o' e),fun b o' e'=>?_,S.len,fun m b o' f1 f2=>(S.obj m b o' f1 f2).mono zl (bI.refl _) (fun _ e=>e),fun m b o' f1 f2 f3=>?_,S.off,S.inj,S.frm⟩
 ·unfold bp at e';by_cases q:b=e
  ·subst q;rw [if_pos rfl] at e';obtain rfl:=Option.some.inj e';exact ⟨he,le.2.1⟩
  ·rw [if_neg q] at e';exact S.bN b o' e'
 ·unfold bp;by_cases q:b=e
  ·subst q;exact absurd (le.2.2 m o' f1 f2) f3
  ·rw [if_neg q];exact S.sep m b o' f1 f2 f3
theorem Qs (x:Str):∀(l:Loc) (y:Str) (v:V),dk y (hZ x l)=some v->y≠x/\dk y l=some v:=by
 intro l;induction l with
 |nil=>intro y v e;exact al e
 |cons p r ih=>
  intro y v e;replace e:dk y (bif seq p.1 x then hZ x r else p::hZ x r)=some v:=e;by_cases c:p.1=x
  ·rw [cH (bY.mpr c)] at e;refine aK (ih y v e ) fun h1 h2=>?_;refine ⟨h1,?_⟩;rw [lE,gy (gq.mpr (fun z=>h1 (z.symm.trans c)))];exact h2
  ·rw [gy (gq.mpr c),lE] at e;by_cases d:p.1=y
   ·rw [cH (bY.mpr d)] at e;exact ⟨fun z=>c (d.trans z),by rw [lE,cH (bY.mpr d)];exact e⟩
   ·rw [gy (gq.mpr d)] at e;refine aK (ih y v e ) fun h1 h2=>?_;exact ⟨h1,by rw [lE,gy (gq.mpr d)];exact h2⟩
noncomputable def yv (I:bQ) (sc:Scope) (nm:Option Str) (b hd:List Stmt) (J:Loc) (O:B):RS:=
 o0 (bB (I.x true sc) hd) (bU sc) nm (bB (I.x false sc) b J O)
theorem Qz (T:Tx g h0 mb Γ.fns) (dD:Tc g h0) (IX:m0 g h0 n I) (F:Fm A Fs env sc false) (rm:Rm A n) {b hs:List Stmt} {h1:Stmt} {cp hp p:Pos} {nm:Option Str} {c:Str} (hc:c= "Raised") (hg:mI sc c=true)
 (S:St g h0 Fs Z as O s.heap) (l:aW g Z as J env s.heap) (af:yv I sc nm b (h1::hs) J O≠ .stuck):
 eh g h0 A Fs Z as s (exec (.Try b [.ExceptHandler (some (.Name c cp)) nm (h1::hs) hp] [] [] p) env) env (yv I sc nm b (h1::hs) J O):=by
 subst hc;obtain ⟨hh,nM,dP,eX,fo⟩:=F.full rfl;rw [eh,arm_exec_Try];refine wpAny_bind (wpAny_standAt (wpAny_tryStmt_except ?_));unfold yv at af ⊢;have L3:bB (I.x false sc) b J O≠ .stuck:=fun z=>by rw [z] at af;exact af rfl
 refine wpAny_mono (kY IX F rm S l L3) (fun fl bG x=>?_) fun v bG x=>?_
 ·obtain ⟨f,fG,σ₁,ag,tk,ak,aj,e1,rfl,G,cK,fr⟩:=x;rw [e1] at af ⊢;induction fr with
  |next=>exact wpAny_execs_nil ⟨.next,fG,σ₁,ag,tk,ak,aj,rfl,rfl,G,cK,.next⟩
  |ret rv=>exact ⟨_,fG,σ₁,ag,tk,ak,aj,rfl,rfl,G,cK,.ret rv⟩
 obtain ⟨f,fG,σ₁,ag,tk,ak,aj,e,e1,rfl,rfl,G,cK,fl⟩:=x;rw [e1] at af ⊢;have le:=fl;obtain ⟨_,_,_,_,_,_,_,_,fY,jl,_⟩:=le;refine xG (s:={s with heap:=ag,toks:=tk}) (hs:=s.heap) eX fo nM G.st (bS.gw S F.mem G) fl fun aM T2 k2 tB tu=>?_;have aS:=G.touch fY tB k2 jl;have eZ:=cK.touch F.mem fY (fun x q=>(tB x q).1) k2;refine sx (s:={s with heap:=aM,toks:=tk}) tu fun cu T3 k3 Cd nj=>?_;have cF:=aS.touch fY Cd k3 jl;have kX:=eZ.touch F.mem fY (fun x q=>(Cd x q).1) k3;have F':Fm (A.mark (some (.ref e))) Fs env sc true:=⟨F.scope,F.kind,F.glob,F.blt,F.mem,fun z=>(nomatch z)⟩
 have nZ:Rm (A.mark (some (.ref e))) n:=⟨rm.d,rm.u⟩
 have eQ:fu "Raised" sc.names=some .globalImplicit:=by
  unfold mI at hg;generalize q:fu "Raised" sc.names=zc;induction zc using aA with
  |none=>rw [q] at hg;exact ff hg
  |some kd=>rw [q] at hg;induction kd using NameKind.casesOn<;>first|rfl|exact ff hg
 have hk:env.kindOf "Raised" = some .globalImplicit:=(ou F _).trans eQ;have qp:env.scope.kind=.function:=by rw [F.scope];exact F.kind
 have ss:cu.Ns env.globals g.mg:=by rw [F.glob];exact T.gl.keeps cF.st.keeps
 obtain ⟨oe,vs,T4,he,hd,IW,xd,tr,Ub,TX,Us⟩:=id nj;obtain ⟨C,dx,od,m',a',items,k,zG,yS,pp,c1,c2,_⟩:=id xd;obtain ⟨UN,q,N,bs,sn,sub,ab,cW,dd,k0,k1,UX,Uf,k5,dn,mN,hC,_⟩:=dD.exc C c1;have z7:=(cF.st.bN _ _ (cF.st.base _ _ hC)).1;refine wpAny_handleBy_cons (codeAny_handlers_test (Name_function_global qp hk (loadGlobal_global ss c1 ?_) (by decide+kernel))) (by intro q;cases q);refine wpAny_excMatches_sub_self (h:=cu) z7 he c2 (by simp [eE]) ?_;rw [if_pos rfl];dsimp only;unfold o0 at af ⊢;induction nm using aA with
 |none=>
  dsimp only at af ⊢;have xn:bB (I.x true sc) (h1::hs) fG σ₁≠ .stuck:=fun z=>by rw [z] at af;exact af rfl
  refine codeAny_handlers_suite (sx (s:={s with heap:=cu,toks:=_}) nj fun gO T5 k4 qV AC=>?_);have k_:=cF.touch fY qV k4 jl;have y6:=kX.touch F.mem fY (fun x q=>(qV x q).1) k4;refine wpAny_mono (kY (s:={s with heap:=gO,toks:=_}) IX F' nZ k_.st y6 xn) (fun fl hW x=>?_) fun v hW x=>?_
  ·have x:=x.trans S F.mem k_;obtain ⟨f,fy,bn,fA,bE,bj,bM,e2,rfl,G5,l5,fr⟩:=x;exact ⟨f,fy,bn,fA,bE,bj,bM,by rw [e2];rfl,rfl,G5,l5,fr⟩
  ·obtain ⟨f,fy,bn,fA,bE,bj,bM,e',e2,_⟩:=x;rw [e2] at af;exact absurd rfl af
 |some n'=>
  dsimp only at af ⊢;have cl:=dJ af;rw [cH cl] at af ⊢;unfold oF at af ⊢;have xn:bB (I.x true sc) (h1::hs) (putL n' (.eV f) fG) σ₁≠ .stuck:=fun z=>by rw [z] at af;exact af rfl
  refine codeAny_handlers_suite_as (sx (s:={s with heap:=cu,toks:=_}) nj fun gO T5 k4 qV AC=>?_);have k_:=cF.touch fY qV k4 jl;have y6:=kX.touch F.mem fY (fun x q=>(qV x q).1) k4;obtain ⟨wX,Uw,T6,PJ,P6,_,Hq,_,Kl,Uu,_⟩:=id AC;refine aK (k_.st.Kq Kl PJ ) fun zl S5=>?_;have q_:bS g h0 env.locals Fs Z as s.heap (bp ak e wX) aj σ₁ gO:=⟨k_.bz.trans zl,k_.pre,S5,k_.keep,k_.new,fun b o q=>by
   unfold bp at q;by_cases r:b=e
   ·subst r;exact .inr (.inr jl)
   ·rw [if_neg r] at q;exact k_.fz b o q⟩
  have JH:aW g (bp ak e wX) aj fG env gO:=let ⟨m,hn,r⟩:=y6;⟨m,hn,r.mono zl (bI.refl _)⟩;have rv:RV g (bp ak e wX) aj (.eV f) (.ref e):=.eV bp.at P6 (Hq.mono zl);refine pJ (s:={s with heap:=gO,toks:=_}) F' cl S5 JH rv fun fA Dl mB N5=>?_;have mB:=q_.trans S F.mem mB;refine wpAny_mono (kY (s:={s with heap:=fA,toks:=Dl}) IX F' nZ mB.st N5 xn) (fun fl hW x=>?_) fun v hW x=>?_
  ·have x:=x.trans S F.mem mB;obtain ⟨f2,fy,bn,uA,bE,bj,bM,e2,rfl,G7,l7,fr⟩:=x;rw [e2];have RX:env.kindOf n'=some .local:=by
    rw [ou F];unfold bU at cl;generalize e:fu n' sc.names=zc;induction zc using aA with
    |none=>rw [e] at cl;exact ff cl
    |some k=>rw [e] at cl;induction k using NameKind.casesOn<;>first|rfl|exact ff cl
   refine aw l7 ?_;clear l7;intro m7 Jm r7;refine wpAny_nameGoes_keeps (s:={s with heap:=uA,toks:=bE}) RX Jm (by rw [F.scope,F.kind];rfl) fun I9 v8 FC MA=>?_;refine dW (id FC ) fun o8 Um UB IR HL _=>?_;have G8:=G7.trans S F.mem (bS.named G7.st F.mem IR HL fun b o hb e=>(MA.2 b hb).trans e);refine ⟨f2,hZ n' fy,bn,I9,_,bj,bM,rfl,rfl,G8,⟨_,FC,fun y w ey=>?_⟩,fr⟩;refine aK (Qs n' fy y w ey ) fun d1 d2=>?_;refine aw (r7 y w d2 ) fun val d3 d4=>?_;exact ⟨val,by simp [d1,d3],d4⟩
  ·obtain ⟨f,fy,bn,fA,bE,bj,bM,e',e2,_⟩:=x;rw [e2] at af;exact absurd rfl af
end
section
variable {g:Gd} {h0:Heap} {mb:Gv} {Fs:List Addr} {Z ak:Zm} {as aj:List Addr} {O σ₁:B} {A:Around} {s:Shared} {J fG:Loc} {env:Env} {sc:Scope} {q:Bool} {h ag:Heap} {tk:Nat} {I:bQ} {n:Nat} {Γ:Ctx}
inductive gU:Stmt->Sx->Prop
 |pass p:gU (.Pass p) .pass
 |kG p:gU (.Return none p) .kG
 |expr e p:gU (.Expr e p) (.expr e)
 |ret e p:gU (.Return (some e) p) (.ret e)
 |ls x px v p:gU (.Assign [.Name x px] v p) (.ls x v)
 |kB es k tp v p:gU (.Assign [.Tuple es k tp] v p) (.kB es v)
 |lh o x px v p:gU (.Assign [.Attribute o x px] v p) (.lh o x v)
 |aug x px op v p:gU (.AugAssign (.Name x px) op v p) (.aug x op v)
 |iff t b o p:gU (.If t b o p) (.iff t b o)
 |kj t b p:gU (.While t b [] p) (.kj t b)
 |jW x px it b p:gU (.For (.Name x px) it b [] p) (.jW x it b)
 |ku e p:gU (.Raise (some e) none p) (.ku e)
 |j1 b c cp nm h0 hs hp p:gU (.Try b [.ExceptHandler (some (.Name c cp)) nm (h0::hs) hp] [] [] p) (.j1 b c nm h0 hs)
theorem P_ {s:Stmt} {k:Sx} (h:pW s=some k):gU s k:=by
 induction s using Stmt.casesOn with
 |Pass p=>obtain rfl:=Option.some.inj h;exact .pass p
 |Expr e p=>obtain rfl:=Option.some.inj h;exact .expr e p
 |Return v p=>
  induction v using aA with
  |none=>obtain rfl:=Option.some.inj h;exact .kG p
  |some e=>obtain rfl:=Option.some.inj h;exact .ret e p
 |Assign ts v p=>
  induction ts using bh with
  |nil=>exact al h
  |cons t r=>
   induction r using bh with
   |cons=>exact al h
   |nil=>
    induction t using Expr.casesOn with
    |Name x px=>obtain rfl:=Option.some.inj h;exact .ls x px v p
    |Tuple es k tp=>obtain rfl:=Option.some.inj h;exact .kB es k tp v p
    |Attribute o x px=>obtain rfl:=Option.some.inj h;exact .lh o x px v p
    |_=>exact al h
 |AugAssign t op v p=>
  have h:(match gb t with|none=>none|some x=>some (Sx.aug x op v))=some k:=h;generalize e:gb t=zc;induction zc using aA with
  |none=>rw [e] at h;exact al h
  |some x=>
   rw [e] at h;obtain rfl:=Option.some.inj h;refine aB (pX e ) ?_;rintro px rfl;exact .aug x px op v p
 |If t b o p=>obtain rfl:=Option.some.inj h;exact .iff t b o p
 |While t b o p=>
  induction o using bh with
  |nil=>obtain rfl:=Option.some.inj h;exact .kj t b p
  |cons=>exact al h
 |For t it b o p=>
  induction o using bh with
  |cons=>exact al h
  |nil=>
   have h:(match gb t with|none=>none|some x=>some (Sx.jW x it b))=some k:=h;generalize e:gb t=zc;induction zc using aA with
   |none=>rw [e] at h;exact al h
   |some x=>
    rw [e] at h;obtain rfl:=Option.some.inj h;refine aB (pX e ) ?_;rintro px rfl;exact .jW x px it b p
 |Raise e c p=>
  induction c using aA with
  |some=>exact al h
  |none=>
   induction e using aA with
   |none=>exact al h
   |some e=>obtain rfl:=Option.some.inj h;exact .ku e p
 |Try b hs o f p=>
  induction o using bh with
  |cons=>exact al h
  |nil=>
  induction f using bh with
  |cons=>exact al h
  |nil=>
  induction hs using bh with
  |nil=>exact al h
  |cons hd r=>
  induction r using bh with
  |cons=>obtain ⟨_,_,_,_⟩:=hd;exact al h
  |nil=>
  obtain ⟨ty,nm,b',hp⟩:=hd;induction b' using bh with
  |nil=>exact al h
  |cons h0 hs=>
  induction ty using aA with
  |none=>exact al h
  |some ty=>
   have h:(match gb ty with|none=>none|some c=>some (Sx.j1 b c nm h0 hs))=some k:=h;generalize e:gb ty=zc;induction zc using aA with
   |none=>rw [e] at h;exact al h
   |some c=>
    rw [e] at h;obtain rfl:=Option.some.inj h;refine aB (pX e ) ?_;rintro cp rfl;exact .j1 b c cp nm h0 hs hp p
 |_=>exact al h
theorem Oh (T:Tx g h0 mb Γ.fns) (dD:Tc g h0) (HS:gL I) (HC:kS I) (IE:bX g h0 n I) (IT:g0 g h0 n I) (IX:m0 g h0 n I) (IU:tC g h0 n I) (F:Fm A Fs env sc q) (rm:Rm A n) {st:Stmt} (S:St g h0 Fs Z as O s.heap) (lo:aW g Z as J env s.heap)
 (af:jD Γ I q sc st J O≠ .stuck):eh g h0 A Fs Z as s (exec st env) env (jD Γ I q sc st J O):=by
 generalize e0:pW st=zc;induction zc using aA with
 |none=>exact absurd (show jD Γ I q sc st J O=.stuck by unfold jD;rw [e0];rfl) af
 |some k=>
 cases P_ e0 with
 |pass p=>exact wpAny_Pass (qy (tk:=s.toks) S lo .next)
 |kG p=>exact wpAny_Return_none (qy (tk:=s.toks) S lo (.ret .none))
 |expr e p=>
  refine mJ (b:=di e||q) af fun c h=>?_;rw [Bool.or_eq_false_iff] at c;exact QA HC IE F rm c.1 S lo h
 |ret e p=>exact Rt IE F rm S lo af
 |ls x px v p=>
  refine mJ (b:=q) af fun c h=>?_;subst c;refine rM (b:=bU sc x) h fun c h=>?_;exact Pl HC IU IE F rm c S lo h
 |kB es k tp v p=>
  refine mJ (b:=q) af fun c h=>?_;subst c;refine mJ (b:=di v||kT v) h fun c h=>?_;rw [Bool.or_eq_false_iff] at c;generalize ht:targetsOf es=zc;induction zc using aA with
  |none=>rw [ht] at h;exact absurd rfl h
  |some xs=>
   rw [ht] at h;refine rM (b:=xs.all (bU sc)&&im xs) h fun c2 h=>?_;rw [Bool.and_eq_true] at c2;exact My HC IE F rm (F.full rfl).1 ht c.2 c2.1 c2.2 c.1 S lo h
 |lh o a px v p=>
  refine mJ (b:=q) af fun c h=>?_;subst c;refine mJ (b:=di v) h fun c h=>?_;exact Qm dD HC IE F rm c S lo h
 |aug x px op v p=>
  refine rM (b:=bU sc x&& !q) af fun c h=>?_;rw [Bool.and_eq_true] at c;exact Q5 T IE F rm c.1 S lo h
 |iff t b o p=>exact Rq IT IX F rm S lo af
 |kj t b p=>
  refine mJ (b:=q) af fun c h=>?_;subst c;exact Qv IT IX F rm S lo h
 |jW x px it b p=>
  refine rM (b:=bU sc x&& !q) af fun c h=>?_;rw [Bool.and_eq_true,Bool.not_eq_true'] at c;refine aK c ?_;clear c;rintro c1 rfl;exact Oz HS IE IX F rm c1 S lo h
 |ku e p=>
  refine mJ (b:=q) af fun c h=>?_;subst c;exact JY dD IE F rm S lo h
 |j1 b c cp nm h0 hs hp p=>
  refine rM (b:=!q&&seq c "Raised" && mI sc c) af fun c' h=>?_;simp only [Bool.and_eq_true,Bool.not_eq_true'] at c';refine aK c' ?_;clear c';rintro ⟨rfl,c2⟩ c3;exact Qz T dD IX F rm (bY.mp c2) c3 S lo h
structure NZ (g:Gd) (h0:Heap) (n:Nat) (I:bQ):Prop where
 set:gL I
 comp:kS I
 e:bX g h0 n I
 t:g0 g h0 n I
 x:m0 g h0 n I
 u:tC g h0 n I
theorem u' (T:Tx g h0 mb Γ.fns) (dD:Tc g h0) (SC:gF g h0 n Γ.C):∀k,NZ g h0 n (ev Γ k)
 | 0=>by
  refine ⟨fun _ _ _ _ _ _ _=>rfl,⟨fun _ _ _ _ _ _ _ _=>rfl,fun _ _ _ _ _ _ _ _ _=>rfl⟩,?_,?_,?_,?_⟩
  ·intro q sc e J O A Fs env Z as s F rm S lo af;exact absurd rfl af
  ·intro q sc e J O A Fs env Z as s F rm S lo af;exact absurd rfl af
  ·intro q sc e J O A Fs env Z as s F rm S lo af;exact absurd rfl af
  ·intro sc e x px J O A Fs env Z as s hl hx F rm S lo af;exact absurd rfl af
 |k+1=>by
  have ih:=u' T dD SC k;refine ⟨fun _ _ _ _ _ _ _=>rfl,⟨fun _ _ _ _ _ _ _ _=>rfl,fun _ _ _ _ _ _ _ _ _=>rfl⟩,?_,?_,?_,?_⟩
  ·intro q sc e J O A Fs env Z as s F rm S lo af;exact RT T dD SC ih.set ih.e ih.t F rm S lo af
  ·intro q sc e J O A Fs env Z as s F rm S lo af;exact QI (Γ:=Γ) ih.set ih.e ih.t F rm S lo af
  ·intro q sc e J O A Fs env Z as s F rm S lo af;exact Oh T dD ih.set ih.comp ih.e ih.t ih.x ih.u F rm S lo af
  ·exact Pk ih.set ih.e ih.t
end
theorem Tv {β:Type}:∀ {ps:List Str} {ai:List β} {n:Str},ai.length=ps.length->n∈ps->∃v,(ps.zip ai).lookup n=some v:=by
 intro ps;induction ps with
 |nil=>intro _ _ _ hn;exact absurd hn List.not_mem_nil
 |cons p ps ih=>
  intro ai;induction ai using bh with
  |nil=>exact fun hl=>Nat.noConfusion hl
  |cons v ai=>
  intro n hl hn;rw [List.zip_cons_cons,List.lookup_cons];by_cases e:n=p
  ·subst e;exact ⟨v,by simp⟩
  ·have:(n==p)=false:=beq_eq_false_iff_ne.mpr e;rw [this];exact ih (Nat.succ.inj hl) ((List.mem_cons.mp hn).resolve_left e)
theorem NK {β:Type}:∀ {ps:List Str} {ai:List β} (T:List (Str×β)),ps.Nodup->ai.length=ps.length->(∀n∈ps,T.lookup n=none)->ps.filterMap (fun n=>((T++ps.zip ai).lookup n).map (n,·))=ps.zip ai:=by
 intro ps;induction ps with
 |nil=>exact fun _ _ _ _=>rfl
 |cons p ps ih=>
  intro ai;induction ai using bh with
  |nil=>exact fun _ _ hl=>Nat.noConfusion hl
  |cons v ai=>
  intro T hn hl hT;rw [List.zip_cons_cons,List.filterMap_cons];refine aK (List.nodup_cons.mp hn ) fun h1 h2=>?_;have e1:(T++(p,v)::ps.zip ai).lookup p=some v:=by
   rw [List.lookup_append,hT p (.head _),Option.none_or,List.lookup_cons];simp
  rw [e1];simp only [Option.map_some];rw [show T++(p,v)::ps.zip ai=(T++[(p,v)])++ps.zip ai by simp];rw [ih (T++[(p,v)]) h2 (Nat.succ.inj hl) fun n hm=>?_];rw [List.lookup_append,hT n (.tail _ hm),Option.none_or,List.lookup_cons];have:(n==p)=false:=beq_eq_false_iff_ne.mpr fun q=>h1 (q▸hm);rw [this];rfl
noncomputable def gC (p:Arguments):Prop:=p.posonlyargs=[]/\p.kwonlyargs=[]/\p.vararg=none/\p.kwarg=none
noncomputable def uI (q:Str) (ns:List Str) (d k:Value):FuncData:={name:=q,qualname:=q,params:={posonlyargs:=[],args:=ns.map fun x=>⟨x,none,⟨0,0,0,0⟩⟩,vararg:=none,kwonlyargs:=[],kw_defaults:=[],kwarg:=none,defaults:=[]},body:=.stmts [],scope:=⟨.function,[],false,false,[]⟩,globals:=0,closure:=[],defaults:=d,kwdefaults:=k}
theorem pb {α β:Type} (a:α) (f:α->Sem β):(pure a >>= f)=f a:=rfl
theorem fi {α β:Type} (b:β) (f:α->β->Sem (ForInStep β)):(forIn ([]:List α) b f)=pure b:=rfl
theorem sn:seqItems? Value.none=pure none:=rfl
theorem me {fd:FuncData} {ns:List Str} {ai:List Value} (hp:gC fd.params) (ha:fd.params.args.map (·.arg)=ns):bindArgs fd ⟨ai,[]⟩=bindArgs (uI fd.qualname ns fd.defaults fd.kwdefaults) ⟨ai,[]⟩:=by
 obtain ⟨nm,q,⟨po,as,va,ko,kd,kw,df⟩,b,sc,gl,cl,de,TY⟩:=fd;refine mx hp ?_;clear hp;intro h1 h2 h3 h4;dsimp only at h1 h2 h3 h4 ha;subst h1 h2 h3 h4;have hc:List.map (fun x:Arg=>x.arg) (ns.map fun x=>(⟨x,none,⟨0,0,0,0⟩⟩:Arg))=ns:=by
  rw [List.map_map];exact List.map_id _
 unfold bindArgs uI;dsimp only [fi,pb];rw [ha,hc]
theorem J' {q:Str} {k:Value} {ps:List Str} {ai:List Value} (hn:ps.Nodup) (hl:ai.length=ps.length):
 bindArgs (uI q ps .none k) ⟨ai,[]⟩=pure (ps.zip ai):=by
 have hc:List.map (fun x:Arg=>x.arg) (ps.map fun x=>(⟨x,none,⟨0,0,0,0⟩⟩:Arg))=ps:=by
  rw [List.map_map];exact List.map_id _
 have hm:((ps.take (ps.length-0)).filter fun n=>((ps.zip ai).lookup n).isNone)=[]:=by
  rw [List.filter_eq_nil_iff];intro n iW;refine aB (Tv hl (List.mem_of_mem_take iW) ) fun v hv=>?_;rw [hv];exact Bool.false_ne_true
 have hd:∀n,List.drop n ([]:List Value)=[]:=fun _=>List.drop_nil;unfold bindArgs;dsimp only [uI,fi,pb,sn,List.map_nil,List.nil_append,Option.isNone_none,Option.getD_none];rw [hc];refine (if_neg ?_).trans ((if_neg ?_).trans ?_)
 ·exact fun z=>Nat.lt_irrefl _ (Nat.lt_of_lt_of_le (of_decide_eq_true (Bool.and_eq_true_iff.mp z).1) (Nat.le_of_eq hl))
 ·show ¬(!(List.filter _ (ps.take (ps.length-(List.drop _ ([]:List Value)).length))).isEmpty)=true;rw [hd];erw [hm];exact Bool.false_ne_true
 ·rw [hd,List.zip_nil_right];exact congrArg (Sem.pure ·) ((congrArg _ (List.append_nil _)).trans (NK [] hn hl fun _ _=>rfl))
theorem CL {fd:FuncData} {ps:List Str} {ai:List Value} (hp:gC fd.params) (ha:fd.params.args.map (·.arg)=ps) (hd:fd.defaults=.none) (hn:ps.Nodup) (hl:ai.length=ps.length):
 bindArgs fd ⟨ai,[]⟩=pure (ps.zip ai):=by
 rw [me hp ha,hd];exact J' hn hl
theorem Mv {s:Shared} {fd:FuncData} {ps:List Str} {ai:List Value} (hp:gC fd.params) (ha:fd.params.args.map (·.arg)=ps) (hd:fd.defaults=.none) (hn:ps.Nodup) (hl:ai.length=ps.length):
 BindsTo s fd ⟨ai,[]⟩ (ps.zip ai):=.of_eq (CL hp ha hd hn hl)
noncomputable def qN (g:Gd) (h0:Heap) (fd:FuncData) (f:Fn):Prop:=∀ {s:Shared} {Z:Zm} {as:List Addr} {l:List V} {ai:List Value} {J:Loc},(∀b o,h0.get? b=some o->s.heap.get? b=some o)->(∀b o,h0.get? b=some o->Z b=some o)->aO g Z as l ai->eF f.params l f.h9=some J->
 ∃ei,BindsTo s fd ⟨ai,[]⟩ ei/\(∀x∈ei,fd.scope.names.lookup x.1=some .local)/\hV g Z as J (fun x=>ei.reverse.lookup x)
inductive FnAt (g:Gd) (h0:Heap) (f:Fn) (v:Value):Prop
 |mk (fa:Addr) (o:Obj) (fd:FuncData):v=.ref fa->h0.get? fa=some o->o.data=.func fd->fd.body=.stmts f.body->fd.scope=f.scope->fd.globals=mainGlobals->fd.builtins=builtinsNs->
 h0.CodeRec fd.code fd.qualname->fd.scope.isCoroutine=false->fd.scope.isGenerator=false->fd.scope.kind=.function->(∀x∈fd.scope.names,x.2≠ .cell)->qN g h0 fd f->FnAt g h0 f v
theorem DA {β:Type}:∀ {l:List (Str×β)} {x:Str} {v:β},(l.map (·.1)).Nodup->(x,v)∈l->l.lookup x=some v:=by
 intro l;induction l with
 |nil=>intro _ _ _ hm;exact absurd hm List.not_mem_nil
 |cons p l ih=>
  obtain ⟨y,w⟩:=p;intro x v hn hm;refine aK (List.nodup_cons.mp hn ) fun h1 h2=>?_;rw [List.lookup_cons];rcases List.mem_cons.mp hm with e|e
  ·refine aK (Prod.mk.inj e) ?_;rintro rfl rfl;simp
  ·have:(x==y)=false:=beq_eq_false_iff_ne.mpr fun q=>h1 (q▸List.mem_map.mpr ⟨_,e,rfl⟩);rw [this];exact ih h2 e
theorem AZ {α:Type} {l:List α} (h:l.Nodup):l.reverse.Nodup:=by
 unfold List.Nodup at h ⊢;rw [List.pairwise_reverse];exact h.imp fun {a b} q=>Ne.symm q
section
variable {g:Gd} {h0:Heap} {mb:Gv} {Fs:List Addr} {Z ak:Zm} {as aj:List Addr} {O σ₁:B} {A:Around} {s:Shared} {J fG:Loc} {env:Env} {sc:Scope} {q:Bool} {h ag aM:Heap} {tk:Nat} {I:bQ} {n:Nat} {Γ:Ctx} {L:Addr}
theorem FE:∀ {ps:List Str} {l:List V} {ai:List Value},aO g Z as l ai->∀ {x:Str} {v:V},dk x (ps.zip l)=some v->∃val,(x,val)∈ps.zip ai/\RV g Z as v val:=by
 intro ps;induction ps with
 |nil=>intro _ _ _ x v e;exact al e
 |cons p ps ih=>
  intro l;induction l using bh with
  |nil=>intro _ _ x v e;exact al e
  |cons a l=>
  intro _ rs x v e;cases rs with
  |@cons _ val _ ai r rs=>
  rw [List.zip_cons_cons,lE] at e;by_cases c:p=x
  ·subst c;rw [cH (bY.mpr rfl)] at e;obtain rfl:=Option.some.inj e;exact ⟨val,.head _,r⟩
  ·rw [gy (gq.mpr c)] at e;refine aw (ih rs e ) fun val h1 h2=>?_;exact ⟨val,.tail _ h1,h2⟩
theorem map_fst_zip {α β:Type} {l:List α} {m:List β} (h:l.length=m.length):(l.zip m).map (·.1)=l:=List.map_fst_zip (Nat.le_of_eq h)
theorem OB {fd:FuncData} {f:Fn} (hp:gC fd.params) (ha:fd.params.args.map (·.arg)=f.params) (hd:fd.defaults=.none) (hf:f.h9=[]) (hn:f.params.Nodup) (hl:∀x∈f.params,fd.scope.names.lookup x=some .local):qN g h0 fd f:=by
 intro s Z as l ai J _ _ rs e;rw [hf] at e;unfold eF at e;simp only [List.length_nil,Nat.add_zero,List.drop_nil,List.append_nil] at e;generalize c:(Nat.ble l.length f.params.length&&Nat.ble f.params.length l.length)=zc;induction zc using aN with
 |false=>rw [c] at e;exact al e
 |true=>
  rw [c] at e;rw [Bool.and_eq_true,Nat.ble_eq,Nat.ble_eq] at c;obtain rfl:=Option.some.inj e;have hz:ai.length=f.params.length:=by rw [<- rs.length];exact Nat.le_antisymm (ae [_,_] [] [.le (.v 0) (.v 1)] (.le (.v 0) (.v 1)) rfl c.1) (ae [_,_] [] [.le (.v 0) (.v 1)] (.le (.v 0) (.v 1)) rfl c.2)
  refine ⟨_,Mv hp ha hd hn hz,fun x hx=>?_,fun x v e=>?_⟩
  ·exact hl _ (List.of_mem_zip (show (x.1,x.2)∈_ from hx)).1
  ·refine aw (FE rs e ) fun val h1 h2=>?_;refine ⟨val,DA ?_ (List.mem_reverse.mpr h1),h2⟩;rw [List.map_reverse,map_fst_zip hz.symm];exact AZ hn
theorem bS.leave (G:bS g h0 L (L::Fs) Z as ag ak aj σ₁ aM) (hk:∀b o,h.get? b=some o->ag.get? b=some o) (hL:h.get? L=none):Go g h0 Fs Z as h ak aj σ₁ aM where
 bz:=G.bz
 pre:=G.pre
 st:=G.st.jE
 keep:=fun b o e n=>by
  have hb:b≠L:=fun q=>by rw [q,hL] at e;exact al e
  refine aK (G.keep b o (hk b o e) n hb ) fun k1 k2=>?_;exact ⟨fun nf=>k1 fun q=>(List.mem_cons.mp q).elim hb nf,k2⟩
 new:=fun a ha=>(G.new a ha).imp id fun e=>by
  generalize q:h.get? a=zc;induction zc using aA with
  |none=>rfl
  |some o=>rw [hk a o q] at e;exact al e.symm
 fz:=fun b o z=>by
  rcases G.fz b o z with q|q|e
  ·exact .inl q
  ·exact .inr (.inl q)
  ·refine .inr (.inr ?_);generalize q:h.get? b=zc;induction zc using aA with
   |none=>rfl
   |some o=>rw [hk b o q] at e;exact al e.symm
theorem Mt {hs:Heap} {env:Env} {dP:List Env} {L e:Addr} {f:aR} {Q:Unit->Shared->Prop}
 (eX:A.frames=some (env::dP)) (fo:iL Fs (env::dP)) (hf:env.frame=some L) (S:St g h0 Fs Z as O s.heap) (hb:∀b,s.heap.get? b=none->hs.get? b=none)
 {E:Value->Shared->Prop} (x:zE L g Fs Z as O hs s.heap e f)
 (k:∀h' T T',(∃ag,kg Fs e T s.heap ag/\kg Fs e T' ag h')->sO Fs Z as O hs T->sO Fs Z as O hs T'->jb g Fs Z as O hs h' e f->Q () {s with heap:=h'}):wpAny (model g.prog g.w) A (leaving env (.ref e)) Q E s:=by
 unfold leaving;refine wpAny_bind (xG eX fo hf S hb x fun ag T k1 lT fl=>?_);exact sx (s:={s with heap:=ag}) fl fun aM T' k2 rP Lf=>k aM T T' ⟨ag,k1,k2⟩ lT rP Lf.KH
theorem AO {L a:Addr} {fd:FuncData}:(callEnv fd L a).frame=some L/\(callEnv fd L a).locals=L/\(callEnv fd L a).scope=fd.scope/\(callEnv fd L a).globals=fd.globals/\(callEnv fd L a).builtins=fd.builtins:=by
 refine ⟨?_,rfl,rfl,rfl,rfl⟩
 first|rfl|(unfold callEnv newEnv;simp)
theorem Er (T:Tx g h0 mb Γ.fns) (dD:Tc g h0) (NL:h0.NoLimit) (SC:gF g h0 n Γ.C) {f:Fn} {v:Value} (FA:FnAt g h0 f v) (F:Fm A Fs env sc false) (Dj:A.depth+4*n+9<recursionLimit) (MP:A.units+20*n+103<cLine) {args:List V} {ai:List Value}
 (S:St g h0 Fs Z as O s.heap) (rs:aO g Z as args ai) (af:dj Γ f args O≠ .stuck):
 codeAny (model g.prog g.w) A (.call v ⟨ai,[]⟩) (fun r s'=>match r with| .ok (.ret v)=>PV g h0 Fs Z as s (dj Γ f args O) v s'| .ok _=>False| .error e=>PE g h0 Fs Z as s (dj Γ f args O) e s') s:=by
 obtain ⟨fa,o,fd,rfl,ho,z0,zh,FG,ss,cO,ji,zK,yf,hk,Mh,Oe⟩:=FA;obtain ⟨hh,nM,dP,eX,fo⟩:=F.full rfl;unfold dj at af ⊢;generalize eb:eF f.params args f.h9=zc;induction zc using aA with
 |none=>rw [eb] at af;exact absurd rfl af
 |some J=>
 rw [eb] at af;dsimp only at af ⊢;have fU:bB ((ev Γ 40).x false f.scope) f.body J O≠ .stuck:=fun z=>by rw [z] at af;exact af rfl
 have dT:∀b o,h0.get? b=some o->s.heap.get? b=some o:=fun b o e=>(S.bN b o (S.base b o e)).1;refine gR (Oe (s:=s) dT S.base rs eb ) fun ei hb vz lr=>?_;refine codeAny_call_def (by exact ae [_,_,_] [] [.lt (.p (.p (.v 0) (.m 4 (.v 2))) (.n 9)) (.v 1)] (.lt (.v 0) (.v 1)) rfl Dj) (dT _ _ ho) z0 (NL.keeps dT) (ji.keeps dT) zh hb Mh vz (fun rU CN vN=>?_) zK yf hk;refine nr (AO (L:=s.heap.objs.size) (a:=fa) (fd:=fd) ) fun ef el es eg qX=>?_;generalize hE:callEnv fd s.heap.objs.size fa=cq at*;generalize nN:s.heap.objs.size=L at*;have fE:s.heap.get? L=none:=by rw [<- nN];exact dg _
 refine dW (id CN ) fun oL uQ pK gJ nQ _=>?_;have Bm:St g h0 (L::Fs) Z as O rU:=(Go.keeps S vN).st.into (S.fresh fE) (S.fD fE) gJ nQ;have nY:aW g Z as J cq rU:=⟨_,by rw [el];exact CN,lr⟩
 have uS:iL (L::Fs) (cq::env::dP):=fun e' he'=>by
  rcases List.mem_cons.mp he' with rfl|he'
  ·exact ⟨(by rw [es,hk];intro z;exact ScopeKind.noConfusion z),L,ef,List.mem_cons_self ..⟩
  ·obtain ⟨a1,L',a2,a3⟩:=fo e' he';exact ⟨a1,L',a2,.tail _ a3⟩
 have t3:(A.deeper cq).frames=some (cq::env::dP):=by
  show A.frames.map (cq:: ·)=_;rw [eX];rfl
 have F':Fm (A.deeper cq) (L::Fs) cq f.scope false:=⟨by rw [es,FG],by rw [<- FG];exact hk,eg.trans ss,qX.trans cO,by rw [el];exact .head _,
  fun _=>⟨hh,by rw [ef,el],_,t3,uS⟩⟩
 have nZ:Rm (A.deeper cq) n:=⟨by show A.depth+1+_+_<_;exact ae [_,_,_] [] [.lt (.p (.p (.v 0) (.m 4 (.v 1))) (.n 9)) (.v 2)] (.lt (.p (.p (.p (.v 0) (.n 1)) (.m 4 (.v 1))) (.n 8)) (.v 2)) rfl Dj,by show A.units+3+_+_<_;exact ae [_,_,_] [] [.lt (.p (.p (.v 0) (.m 20 (.v 1))) (.n 103)) (.v 2)] (.lt (.p (.p (.p (.v 0) (.n 3)) (.m 20 (.v 1))) (.n 100)) (.v 2)) rfl MP⟩
 refine wpAny_mono (kY (s:={s with heap:=rU,toks:=_}) (u' T dD SC 40).x F' nZ Bm nY fU) (fun fl hW x=>?_) fun v hW x=>?_
 ·obtain ⟨f',fy,bn,aM,bE,bj,bM,e2,rfl,G,eZ,fr⟩:=x;rw [el] at G;have GG:=G.leave vN fE;rw [e2];induction fr with
  |next=>exact ⟨_,bn,aM,bE,bj,bM,rfl,rfl,GG,.none⟩
  |ret rv=>exact ⟨_,bn,aM,bE,bj,bM,rfl,rfl,GG,rv⟩
 ·obtain ⟨f',fy,bn,aM,bE,bj,bM,e,e2,rfl,rfl,G,eZ,fl⟩:=x;rw [el] at G fl;have le:=fl;obtain ⟨_,_,_,_,_,_,_,_,fY,jl,_⟩:=le;have back:∀b,rU.get? b=none->s.heap.get? b=none:=fun b e=>by
   generalize q:s.heap.get? b=zc;induction zc using aA with
   |none=>rfl
   |some o=>rw [vN b o q] at e;exact al e.symm
  refine Mt (s:={s with heap:=aM,toks:=bE}) (hs:=rU) t3 uS ef G.st (bS.gw Bm (.head _) G) fl fun cu T1 T2 k QF tB nj=>?_;refine aw k ?_;clear k;intro gO k1 k2;have G3:=((G.touch fY QF k1 jl).touch fY tB k2 jl).leave vN fE;rw [e2];refine ⟨f',bn,cu,bE,bj,bM,e,rfl,rfl,rfl,G3,?_⟩;obtain ⟨oe,vs,T0,a1,a2,a3,a4,a5,a6,a7,a8⟩:=nj.later back;exact ⟨oe,vs,T0,a1,a2,a3,a4,a5,⟨a6.1,fun q=>a6.2.1 (.tail _ q),a6.2.2⟩,a7,fun y q=>⟨⟨(a8 y q).1.1,fun z=>(a8 y q).1.2.1 (.tail _ z),(a8 y q).1.2.2⟩,(a8 y q).2⟩⟩
theorem E5 (T:Tx g h0 mb Γ.fns) (dD:Tc g h0) (NL:h0.NoLimit) (SC:gF g h0 n Γ.C) {f:Fn} {v:Value} (FA:FnAt g h0 f v) (F:Fm A Fs env sc false) (rm:Rm A (n+1)) {args:List V} {ai:List Value}
 (S:St g h0 Fs Z as O s.heap) (rs:aO g Z as args ai) (af:dj Γ f args O≠ .stuck):
 wpAny (model g.prog g.w) A (call v ai) (PV g h0 Fs Z as s (dj Γ f args O)) (PE g h0 Fs Z as s (dj Γ f args O)) s:=
 wpAny_call (Er T dD NL SC FA F (by have:=rm.d;exact ae [_,_,_] [] [.lt (.p (.p (.v 0) (.m 4 (.p (.v 1) (.n 1)))) (.n 8)) (.v 2)] (.lt (.p (.p (.v 0) (.m 4 (.v 1))) (.n 9)) (.v 2)) rfl this) (by have:=rm.u;exact ae [_,_,_] [] [.lt (.p (.p (.v 0) (.m 20 (.p (.v 1) (.n 1)))) (.n 100)) (.v 2)] (.lt (.p (.p (.v 0) (.m 20 (.v 1))) (.n 103)) (.v 2)) rfl this) S rs af)
end
section
variable {g:Gd} {Z:Zm} {as aL:List Addr} {n:Nat}
theorem ub {v:V} {l:List V} (h:bP n (v::l)=true):dw n v=true/\bP n l=true:=Bool.and_eq_true_iff.mp h
theorem EZ (l:List (V×V)):yF n l=true->bP n (l.map (·.2))=true:=by
 induction l with
 |nil=>exact fun _=>rfl
 |cons p r ih=>
  intro h;have h:=Bool.and_eq_true_iff.mp h;exact Bool.and_eq_true_iff.mpr ⟨(Bool.and_eq_true_iff.mp h.1).2,ih h.2⟩
theorem RV.cut (p:∀k a,az as k=some a->k<n->az aL k=some a) {v:V} {val:Value} (b:dw n v=true) (h:RV g Z as v val):RV g Z aL v val:=
 RV.rec (motive_1:=fun v val _=>dw n v=true->RV g Z aL v val) (motive_2:=fun l k _=>bP n l=true->aO g Z aL l k)
  (fun _=>.none) (fun b _=>.bool b) (fun i t _=>.int i t) (fun x t _=>.str x t) (fun h _ r b=>.tup h (r b)) (fun h _ r b=>.lst h (r b))
  (fun h d k _ r b=>.qn h d k (r (EZ _ b))) (fun h d k _ r b=>.uC h d k (r (EZ _ b))) (fun h _=>.rng h) (fun h _=>.fn h) (fun v _=>.con v) (fun a b c _=>.eV a b c) (fun h b=>.loc (p _ _ h (Nat.blt_eq.mp b)))
  (fun _=>.nil) (fun _ _ a b c=>.cons (a (ub c).1) (b (ub c).2)) h b
theorem aO.cut (p:∀k a,az as k=some a->k<n->az aL k=some a) {vs:List V} {ai:List Value} (b:bP n vs=true) (h:aO g Z as vs ai):aO g Z aL vs ai:=
 h.ind (motive:=fun l k=>bP n l=true->aO g Z aL l k) (fun _=>.nil) (fun _ _ _ _ a _ r c=>.cons (a.cut p (ub c).1) (r (ub c).2)) b
end
open Classical in
noncomputable def cA (m:Nat) (Z:Zm) (as:List Addr) (O:B) (h:Heap):Zm:=fun b=>
 if ∃k l,m<=k/\az as k=some b/\az O k=some (.list l) then h.get? b else Z b
section
variable {g:Gd} {h0:Heap} {mb:Gv} {Fs bJ:List Addr} {Z ak:Zm} {as aj:List Addr} {O σ₁ bn:B} {A:Around} {s:Shared} {J fG:Loc} {env:Env} {sc:Scope} {q:Bool} {h ag aM:Heap} {tk:Nat} {n m:Nat} {Γ:Ctx} {L:Addr}
theorem cA.at {k:Nat} {a:Addr} {l:List V} (hm:m<=k) (e1:az as k=some a) (e2:az O k=some (.list l)):cA m Z as O h a=h.get? a:=by
 unfold cA;rw [if_pos ⟨k,l,hm,e1,e2⟩]
theorem cA.cases (b:Addr):(∃k l,m<=k/\az as k=some b/\az O k=some (.list l)/\cA m Z as O h b=h.get? b)\/(¬(∃k l,m<=k/\az as k=some b/\az O k=some (.list l))/\cA m Z as O h b=Z b):=by
 by_cases c:∃k l,m<=k/\az as k=some b/\az O k=some (.list l)
 ·refine i_ c ?_;clear c;intro k l c1 c2 c3;exact .inl ⟨k,l,c1,c2,c3,cA.at c1 c2 c3⟩
 ·refine .inr ⟨c,?_⟩;unfold cA;rw [if_neg c]
theorem cA.le (S:St g h0 Fs Z as O h) (m:Nat):bW Z (cA m Z as O h):=fun b o e=>by
 rcases cA.cases (m:=m) (Z:=Z) (as:=as) (O:=O) (h:=h) b with ⟨k,l,c1,c2,c3,c4⟩|⟨_,c⟩
 ·have:=S.sep k b _ c2 c3 (fun z=>by exact aZ.noConfusion z);rw [this] at e;exact al e
 ·rw [c];exact e
theorem Fc (S:St g h0 Fs Z as O h) {v:V} {val:Value} (r:RV g Z as v val):RV g (cA m Z as O h) as (gj m O v) val:=by
 have base:=r.mono (cA.le S m) (bI.refl _);induction v using V.casesOn with
 |loc k=>
  show RV g _ as (bif Nat.blt k m then .loc k else match az O k with
   |some (.list l)=>.lst l
   |_=>.loc k) val
  generalize c:Nat.blt k m=zc;induction zc using aN with
  |true=>exact base
  |false=>
   cases r with
   |@loc _ a ha=>
   dsimp only [cond_false];have hm:m<=k:=by
    rcases Nat.lt_or_ge k m with q|q
    ·rw [Nat.blt_eq.mpr q] at c;cases c
    ·exact q
   generalize e:az O k=zc;induction zc using aA with
   |none=>exact base
   |some o=>
    induction o using aZ.casesOn with
    |list l=>
     refine b_ (S.obj k a _ ha e ) fun items j hx rs=>?_;exact .lst ((cA.at hm ha e).trans hx) (rs.mono (cA.le S m) (bI.refl _))
    |_=>exact base
 |_=>exact base
theorem NW (S:St g h0 Fs Z as O h) {l:List V} {ai:List Value} (r:aO g Z as l ai):aO g (cA m Z as O h) as (l.map (gj m O)) ai:=
 aO.ind (motive:=fun l ai=>aO g (cA m Z as O h) as (l.map (gj m O)) ai) .nil (fun _ _ _ _ r _ ih=>.cons (Fc S r) ih) r
theorem HN (S:St g h0 Fs Z as O h) {v:V} {val:Value} (r:RV g Z as v val):RV g (cA m Z as O h) as (fz m O v) val:=by
 induction v using V.casesOn with
 |tup l=>
  show RV g _ as (.tup (l.map (gj m O))) val;cases r with
  |tup z rs=>exact .tup (cA.le S m _ _ z) (NW S rs)
 |_=>exact Fc S r
theorem Go.held (S:St g h0 Fs Z as O h) (G:Go g h0 Fs Z bJ h ak aj σ₁ ag) (m:Nat) (li:∀a∈bJ,a∈as) (cQ:bn.length=O.length)
 (Eu:∀n a o,az as n=some a->az bn n=some o->(a∈bJ->iC g (cA m ak aj σ₁ ag) as ag a o/\(o≠ .dead->cA m ak aj σ₁ ag a=none))/\(a∉bJ->az O n=some o)):
 Go g h0 Fs Z as h (cA m ak aj σ₁ ag) as bn ag:=by
 have zl:=cA.le G.st m;have RP:∀ {a:Addr},a∈as->a∈aj->a∈bJ:=fun {a} ha h1=>by
  rcases G.new a h1 with q|q
  ·exact q
  ·obtain ⟨_,o,ho⟩:=S.off a ha;rw [q] at ho;exact al ho
 have nW:∀ {a:Addr} {o:Obj},a∈as->a∉bJ->h.get? a=some o->ag.get? a=some o:=fun {a o} ha hn e=>(G.keep a o e hn).1 (S.off a ha).1;refine ⟨G.bz.trans zl,bI.refl _,⟨fun b o e=>zl _ _ (G.st.base b o e),fun b o e=>?_,by rw [cQ];exact S.len,fun n a o e1 e2=>?_,fun n a o e1 e2 e3=>?_,fun a ha=>⟨(S.off a ha).1,?_⟩,S.inj,G.st.frm⟩,fun b o e nb=>G.keep b o e fun q=>nb (li b q),fun a ha=>.inl ha,fun b o e=>?_⟩
 ·rcases cA.cases (m:=m) (Z:=ak) (as:=aj) (O:=σ₁) (h:=ag) b with ⟨k,l,c1,c2,c3,c4⟩|⟨_,c⟩
  ·rw [c4] at e;exact ⟨e,(G.st.off b (da c2)).1⟩
  ·rw [c] at e;exact G.st.bN b o e
 ·refine aK (Eu n a o e1 e2 ) fun q1 q2=>?_;by_cases c:a∈bJ
  ·exact (q1 c).1
  ·exact (S.obj n a o e1 (q2 c)).mono (G.bz.trans zl) (bI.refl _) fun x hx=>nW (da e1) c hx
 ·refine aK (Eu n a o e1 e2 ) fun q1 q2=>?_;by_cases c:a∈bJ
  ·exact (q1 c).2 e3
  ·have na:a∉aj:=fun q=>c (RP (da e1) q);rcases cA.cases (m:=m) (Z:=ak) (as:=aj) (O:=σ₁) (h:=ag) a with ⟨k,l,c1,c2,c3,c4⟩|⟨_,c4⟩
   ·exact absurd (da c2) na
   ·rw [c4];generalize z:ak a=zc;induction zc using aA with
    |none=>rfl
    |some o'=>
     rcases G.fz a o' z with r|r|r
     ·rw [S.sep n a o e1 (q2 c) e3] at r;exact al r
     ·exact absurd r na
     ·obtain ⟨_,o2,ho⟩:=S.off a (da e1);rw [r] at ho;exact al ho
 ·by_cases c:a∈bJ
  ·refine aB G.pre fun t p=>?_;exact (G.st.off a (by rw [p];exact List.mem_append_left _ c)).2
  ·obtain ⟨_,o,ho⟩:=S.off a ha;exact ⟨o,nW ha c ho⟩
 ·have frm:b∈aj->b∈as\/h.get? b=none:=fun q=>(G.new b q).imp (li b) id;rcases cA.cases (m:=m) (Z:=ak) (as:=aj) (O:=σ₁) (h:=ag) b with ⟨k,l,c1,c2,c3,c4⟩|⟨_,c⟩
  ·exact .inr (frm (da c2))
  ·rw [c] at e;rcases G.fz b o e with r|r|r
   ·exact .inl r
   ·exact .inr (frm r)
   ·exact .inr (.inr r)
theorem jb.held (S:St g h0 Fs Z as O h) (G:Go g h0 Fs Z bJ h ak aj σ₁ ag) (m:Nat) {e:Addr} {f:aR} (x:jb g Fs ak aj σ₁ h ag e f):jb g Fs (cA m ak aj σ₁ ag) as bn h ag e f:=by
 have lo:∀ {y:Addr},gm Fs ak aj σ₁ y->h.get? y=none->gm Fs (cA m ak aj σ₁ ag) as bn y:=fun {y} l ny=>by
  refine ⟨?_,l.2.1,fun n o q _=>absurd (da q) (S.fD ny)⟩;rcases cA.cases (m:=m) (Z:=ak) (as:=aj) (O:=σ₁) (h:=ag) y with ⟨k,l',c1,c2,c3,c4⟩|⟨_,c⟩
  ·have:=l.2.2 k _ c2 c3;exact aZ.noConfusion this
  ·rw [c];exact l.1
 obtain ⟨oe,vs,T0,a1,a2,a3,a4,a5,a6,a7,a8⟩:=x;exact ⟨oe,vs,T0,a1,a2,a3,a4.mono (cA.le G.st m),a5,lo a6 a7,a7,fun y q=>⟨lo (a8 y q).1 (a8 y q).2,(a8 y q).2⟩⟩
end
section
variable {g:Gd} {h0:Heap} {mb:Gv} {Fs bJ:List Addr} {Z ak:Zm} {as aj:List Addr} {O σ₁ bn:B} {A:Around} {s:Shared} {J fG:Loc} {env:Env} {sc:Scope} {q:Bool} {h ag aM:Heap} {tk:Nat} {n m:Nat} {Γ:Ctx} {L:Addr}
theorem St.nil (S:St g h0 Fs Z as O h):St g h0 Fs Z [] [] h:=by
 refine ⟨S.base,S.bN,rfl,fun n a o e=>?_,fun n a o e=>?_,fun a ha=>?_,fun n m a e=>?_,S.frm⟩
 ·induction n using cz<;>exact al e
 ·induction n using cz<;>exact al e
 ·cases ha
 ·induction n using cz<;>exact al e
theorem tW {α:Type} {a b:α} {n:Nat} (e:az [a] n=some b):n=0/\b=a:=by
 induction n using cz with
 |zero=>obtain rfl:=Option.some.inj e;exact ⟨rfl,rfl⟩
 |succ n=>induction n using cz<;>exact al e
theorem St.one (S:St g h0 Fs Z as O h) {k:Nat} {a:Addr} {l:List V} (e1:az as k=some a) (e2:az O k=some (.list l)) (hb:bP 0 l=true):St g h0 Fs Z [a] [.list l] h:=by
 refine ⟨S.base,S.bN,rfl,fun n b o f1 f2=>?_,fun n b o f1 f2 f3=>?_,fun b hb=>?_,fun n m b f1 f2=>?_,S.frm⟩
 ·refine aK (tW f1 ) ?_;rintro rfl rfl;obtain rfl:=Option.some.inj f2;refine b_ (S.obj k b _ e1 e2 ) fun items j hx rs=>?_;exact ⟨items,j,hx,rs.cut (fun _ _ _ q=>absurd q (Nat.not_lt_zero _)) hb⟩
 ·refine aK (tW f1 ) ?_;rintro rfl rfl;obtain rfl:=Option.some.inj f2;exact S.sep k b _ e1 e2 f3
 ·rw [List.mem_singleton] at hb;subst hb;exact S.off b (da e1)
 ·rw [(tW f1).1,(tW f2).1]
theorem QZ {k:Nat} {a:Addr} (e1:az as k=some a) {v:V} {val:Value} (r:RV g Z as v val) (hb:iU k v=true):RV g Z [a] (jN v) val:=by
 have none:∀j b,az as j=some b->j<0->az [a] j=some b:=fun _ _ _ q=>absurd q (Nat.not_lt_zero _);induction v using V.casesOn with
 |loc j=>
  have:=Nat.eq_of_beq_eq_true (show Nat.beq j k=true from hb);subst this;cases r with
  |loc ha=>rw [e1] at ha;obtain rfl:=Option.some.inj ha;exact .loc rfl
 |_=>exact r.cut none hb
theorem Ay {k:Nat} {a:Addr} (e1:az as k=some a):∀ {l:List V} {ai:List Value},aO g Z as l ai->l.all (iU k)=true->aO g Z [a] (l.map jN) ai
 |_,_,.nil,_=>.nil
 |_,_,.cons r rs,hb=>by
  rw [List.all_cons,Bool.and_eq_true] at hb;exact .cons (QZ e1 r hb.1) (Ay e1 rs hb.2)
theorem Go.given (S:St g h0 Fs Z as O s.heap) (G:Go g h0 Fs Z bJ s.heap ak aj σ₁ ag) {v:V} {val:Value} (rv:RV g ak aj v val)
 (GG:Go g h0 Fs Z as s.heap (cA m ak aj σ₁ ag) as bn ag) (af:givenBack m v σ₁ bn≠ .stuck):PV g h0 Fs Z as s (givenBack m v σ₁ bn) val {s with heap:=ag,toks:=tk}:=by
 unfold givenBack at af ⊢;have c:=dJ af;rw [cH c];exact ⟨_,bn,ag,tk,_,as,rfl,rfl,GG,(HN G.st rv).cut (fun _ _ _ q=>absurd q (Nat.not_lt_zero _)) c⟩
theorem Go.back (S:St g h0 Fs Z as O h) {k:Nat} {a:Addr} {l:List V} (e1:az as k=some a) (e2:az O k=some (.list l)) (G:Go g h0 Fs Z [a] h ak aj σ₁ ag) {o:aZ} (eo:az σ₁ 0=some o)
 (ho:(∃l',o=.list l'/\bP 0 l'=true)\/o=.dead):Go g h0 Fs Z as h (cA 1 ak aj σ₁ ag) as (bu O k o) ag:=by
 have ea:az aj 0=some a:=o_ G.pre rfl;refine G.held S 1 (fun b hb=>?_) (rH ..) fun n b o' f1 f2=>⟨fun hb=>?_,fun hb=>?_⟩
 ·rw [List.mem_singleton] at hb;subst hb;exact da e1
 ·rw [List.mem_singleton] at hb;subst hb;have:=S.inj _ _ _ f1 e1;subst this;rw [oO (gI e2)] at f2;obtain rfl:=Option.some.inj f2;rcases ho with ⟨l',rfl,hl⟩|rfl
  ·refine b_ (G.st.obj 0 _ _ ea eo ) fun items j hx rs=>?_;refine ⟨⟨items,j,hx,((rs.mono (cA.le G.st 1) (bI.refl _)).cut (fun _ _ _ q=>absurd q (Nat.not_lt_zero _)) hl)⟩,fun _=>?_⟩;rcases cA.cases (m:=1) (Z:=ak) (as:=aj) (O:=σ₁) (h:=ag) b with ⟨k,l,c1,c2,c3,c4⟩|⟨_,c4⟩
   ·have:=G.st.inj _ _ _ c2 ea;omega
   ·rw [c4];exact G.st.sep 0 _ _ ea eo (fun z=>by exact aZ.noConfusion z)
  ·exact ⟨trivial,fun z=>absurd rfl z⟩
 ·by_cases q:k=n
  ·subst q;rw [e1] at f1;obtain rfl:=Option.some.inj f1;exact absurd (List.mem_singleton.mpr rfl) hb
  ·rw [rW q] at f2;exact f2
theorem M3 {run:List V->B->R V} {v:Value} {args:List V} {ai:List Value} (S:St g h0 Fs Z as O s.heap) (rs:aO g Z as args ai)
 (A7:∀(as:List Addr) (O:B) (args:List V),St g h0 Fs Z as O s.heap->aO g Z as args ai->run args O≠ .stuck->wpAny (model g.prog g.w) A (call v ai) (PV g h0 Fs Z as s (run args O)) (PE g h0 Fs Z as s (run args O)) s)
 (af:fN run args O≠ .stuck):wpAny (model g.prog g.w) A (call v ai) (PV g h0 Fs Z as s (fN run args O)) (PE g h0 Fs Z as s (fN run args O)) s:=by
 unfold fN at af ⊢;generalize c:bP 0 args=zc;induction zc using aN with
 |true=>
  rw [c] at af;dsimp only [cond_true] at af ⊢;have fU:run args []≠ .stuck:=fun z=>by rw [z] at af;exact af rfl
  have bJ:∀ {Z' aL σ' h'},Go g h0 Fs Z [] s.heap Z' aL σ' h'->Go g h0 Fs Z as s.heap (cA 0 Z' aL σ' h') as O h':=fun G=>
   G.held S 0 (fun _ q=>by cases q) rfl fun n a o e1 e2=>⟨fun q=>(by cases q),fun _=>e2⟩
  refine wpAny_mono (A7 [] [] args S.nil (rs.cut (fun _ _ _ q=>absurd q (Nat.not_lt_zero _)) c) fU) (fun val s' x=>?_) fun e s' x=>?_
  ·obtain ⟨v',σ',h',tk,Z',aL,e1,rfl,G,rv⟩:=x;rw [e1] at af ⊢;exact G.given S rv (bJ G) af
  ·obtain ⟨f,σ',h',tk,Z',aL,e,e1,rfl,rfl,G,fl⟩:=x;rw [e1];exact ⟨f,O,h',tk,_,as,e,rfl,rfl,rfl,bJ G,fl.held S G 0⟩
 |false=>
  rw [c] at af;dsimp only [cond_false] at af ⊢;generalize ek:lK args=zc;induction zc using aA with
  |none=>rw [ek] at af;exact absurd rfl af
  |some k=>
  rw [ek] at af;dsimp only at af ⊢;generalize es:az O k=zc;induction zc using aA with
  |none=>rw [es] at af;exact absurd rfl af
  |some o=>
  rw [es] at af;induction o using aZ.casesOn with
  |list l=>
   dsimp only at af ⊢;have c2:=dJ af;rw [cH c2] at af ⊢;rw [Bool.and_eq_true] at c2;obtain ⟨a,ea⟩:∃a,az as k=some a:=by
    have:=gI es;rw [<- S.len] at this;exact ⟨as[k],by rw [fJ];simp [this]⟩
   have fU:run (args.map jN) [.list l]≠ .stuck:=fun z=>by rw [z] at af;exact af rfl
   have back:∀ {Z' aL σ' h'} {k':B->R V},Go g h0 Fs Z [a] s.heap Z' aL σ' h'->og k σ' O k'≠ .stuck->∃o,og k σ' O k'=k' (bu O k o)/\Go g h0 Fs Z as s.heap (cA 1 Z' aL σ' h') as (bu O k o) h':=fun {Z' aL σ' h' k'} G hp=>by
    unfold og at hp ⊢;generalize eo:az σ' 0=zc;induction zc using aA with
    |none=>rw [eo] at hp;exact absurd rfl hp
    |some o=>
     rw [eo] at hp;induction o using aZ.casesOn with
     |list l'=>
      dsimp only at hp ⊢;have c3:=dJ hp;exact ⟨_,cH c3,G.back S ea es eo (.inl ⟨l',rfl,c3⟩)⟩
     |dead=>exact ⟨.dead,rfl,G.back S ea es eo (.inr rfl)⟩
     |_=>exact absurd rfl hp
   refine wpAny_mono (A7 [a] [.list l] (args.map jN) (S.one ea es c2.1) (Ay ea rs c2.2) fU) (fun val s' x=>?_) fun e s' x=>?_
   ·obtain ⟨v',σ',h',tk,Z',aL,e1,rfl,G,rv⟩:=x;rw [e1] at af ⊢;dsimp only at af ⊢;refine aw (back G af ) fun o e2 GG=>?_;rw [e2] at af ⊢;exact G.given S rv GG af
   ·obtain ⟨f,σ',h',tk,Z',aL,e,e1,rfl,rfl,G,fl⟩:=x;rw [e1] at af ⊢;dsimp only at af ⊢;refine aw (back G af ) fun o e2 GG=>?_;rw [e2];exact ⟨f,_,h',tk,_,as,e,rfl,rfl,rfl,GG,fl.held S G 1⟩
  |_=>exact absurd rfl af
end
section
open Builtin Builtin.ObjectAttr
section
variable {prog:Program} {w:World} {A:Around} {E:Value->Shared->Prop} {s:Shared} {K:Frag}
theorem P7 {T:String} {name:Str} {v:Value} {pl:Sem Bool} {Q:Value×List Value->Shared->Prop} (X:K.In s.heap) (hs:Manifest.isStub T=false) (ht:typeOf (.type T)=pure (.type "type"))
 (e:findCls K (.type T) (.type "type") name=some (.val v)) (hh:handedIn v=true) (h:Q (v,[]) {s with toks:=s.toks+1}):
 wpAny (model prog w) A (getMethod (.type T) name pl) Q E s:=by
 have M6:opaqueClassAbove (.type T)=pure none:=by unfold opaqueClassAbove;dsimp only;rw [hs];rfl
 have L0:Looks (model prog w) s.heap (typeOf (.type T)) (.type "type"):=Looks.of_pure ht;have hg:findIn K (.type "type") "__getattribute__" = some (some (.builtin "type.__getattribute__")):=type_tga;unfold getMethod specialOf;refine wpAny_bind (wpAny_bind (L0.here ((looks_findIn X hg).here ?_)));dsimp only;rw [if_pos canon_tga];refine wpAny_bind (wpAny_mono (Q:=fun v=>Q (v,[])) (E:=E) ?_ (fun _ _ z=>wpAny_pure z) fun _ _ z=>z);refine cls_open X (Looks.of_pure M6) L0 hg (looks_hook X (r:=none) (by rfl)) (by show subIn K _ _=_;rfl) e ?_;exact wpAny_pure (by show wpAny _ _ (handedOut v) _ _ _;rw [handedOut_of hh];exact wpAny_pure h)
variable {h:Heap} {g:Array GenState} {d:Drawn} {t:Nat} {os:OsState} {nm q:Str} {C N x:Addr} {bs:List Value} {sn:List Str} {sub:List Value} {ab:Bool} {cW:Option Bool} {dd:Option Addr} {k0 k1 k2 k3 k5:Option Value} {dn:String}
theorem G_ {M:Model} {rest:List Value} {o:Obj} {Q:Unit->Shared->Prop} (F:ExcCallFacts "Exception" "Exception.__new__" "Exception.__init__")
 (hC:h.get? C=some (excClassObj nm q C N bs eE true sn sub ab cW dd k0 k1 k2 k3 k5 dn)) (hx:h.get? x=some o) (hc:o.cls=.ref C) (hq:Q () ⟨h,g,d,t,os⟩):
 wpAny M A (checkBuiltinCall "Exception.__init__" ⟨.ref x::rest,[]⟩) Q E ⟨h,g,d,t,os⟩:=by
 have qZ:(Value.ref C::eE).contains (.type "Exception")=true:=by rw [List.contains_cons];simp [eE]
 have UU:=F.noStar;simp only [checkBuiltinCall,F.initKind,F.initSplit,F.initRow];unfold isInstance
 repeat (first|(with_reducible refine wpAny_loadPart_at hx ?_;rw [hc])|(with_reducible refine wpAny_isSubtype_exc hC ?_;rw [qZ])|wp_step)
 refine wpAny_onRaise ?_;rw [show ∀(a b:String) (n:Nat),Bind.check ⟨.positional,"*","Exception",.self,[⟨"args",.varPos,false⟩]⟩ a b n (List.map (fun x=>x.fst) ({pos:=.ref x::rest}:Args).kw)=pure () from
  fun a b n=>check_star_args _ _ _ _ _ _]
 exact wpAny_pure hq
theorem Ni {rest:List Value} {o:Obj} {vs:Array Value} {t0:Addr} {Q:Value->Shared->Prop}
 (hC:h.get? C=some (excClassObj nm q C N bs eE true sn sub ab cW dd k0 k1 k2 k3 k5 dn)) (hx:h.get? x=some o) (hc:o.cls=.ref C) (hd:o.data=.fields vs) (h0:vs[0]?=some (.ref t0))
 (hq:Q .none ⟨(h.push {cls:=.type "tuple",data:=.seq rest.toArray}).update x (Obj.mapFields (·.setIfInBounds 0 (.ref h.objs.size))),g,d,t,os⟩) (oX:rest.length<=sizeLine):
 wpAny (model prog w) A (call (.builtin "Exception.__init__") (.ref x::rest)) Q E ⟨h,g,d,t,os⟩:=by
 have F:=PySem.F.excCall_Exception;refine wpAny_call (codeAny_call_builtin F.init.plain F.initEntry (G_ F hC hx hc ?_));unfold Builtin.«BaseException.__init__»;dsimp only;rw [if_neg (by simp)];unfold newTuple Builtin.BaseException.bexcPut;have cZ:0<vs.size:=(Array.getElem?_eq_some_iff.mp h0).1;have ql:=Heap.get?_push_of_some (h:=h) {cls:=.type "tuple",data:=.seq rest.toArray} hx;refine wpAny_bind (wpAny_newObj_type (wpAny_bind (wpAny_bind (wpAny_field ql hd h0 (wpAny_bind (wpAny_setField ql hd cZ ?_))))) (by show rest.toArray.size<=sizeLine;rw [List.size_toArray];exact oX));refine wpAny_letGo ?_;exact wpAny_pure hq
theorem PC {M:Model} {h:Heap} {b:String}:Looks M h (keeperOf (.builtin b)) .machine:=Looks.of_pure rfl
end
end
noncomputable def jj (x:Str):Bool:=(["code","value","errorcode","level","ret","info","is_noted","line","extra"]:List Str).any (seq x)
theorem wc {a:Str} (h:jj a=true):typeLookup (.type "Exception") a=pure none:=x9 (by kernel_rfl) h
noncomputable def su:Expr->Bool
 |.Constant c _ _=>(wH c).isSome
 |.List es _=>es.isEmpty
 |_=>false
noncomputable def zu (e:Expr):List Expr->Option (Str×Expr)
 | [t]=>match oU t with
  |some p=>match gb p.1 with
   |some x=>bif seq x "self" then some (p.2.1,e) else none
   |none=>none
  |none=>none
 |_=>none
noncomputable def yu:Stmt->Option (Str×Expr)
 |.Assign ts e _=>zu e ts
 |_=>none
noncomputable def o9 (P:List Str) (bJ:List Str):List Stmt->Option (List Str)
 | []=>some bJ
 |st::r=>match yu st with
  |some p=>bif jj p.1&& !bJ.any (fun y=>seq y p.1) then (match gb p.2 with
   |some y=>bif seq y p.1&&P.any (fun z=>seq z p.1) then o9 P (p.1::bJ) r else none
   |none=>bif su p.2 then o9 P bJ r else none) else none
  |none=>none
inductive pt (P:List Str):List Str->List Stmt->List Str->Prop
 |nil (bJ:List Str):pt P bJ [] bJ
 |name {bJ gi:List Str} {r:List Stmt} (a:Str) (px pa pn pe:Pos):jj a=true->(∀y∈bJ,y≠a)->a∈P->pt P (a::bJ) r gi->pt P bJ (.Assign [.Attribute (.Name "self" px) a pa] (.Name a pn) pe::r) gi
 |simp {bJ gi:List Str} {r:List Stmt} (a:Str) (x:Expr) (px pa pe:Pos):jj a=true->(∀y∈bJ,y≠a)->su x=true->pt P bJ r gi->pt P bJ (.Assign [.Attribute (.Name "self" px) a pa] x pe::r) gi
theorem L8 {e:Expr} {ts:List Expr} {p:Str×Expr} (h:zu e ts=some p):∃px pa,ts=[.Attribute (.Name "self" px) p.1 pa]/\e=p.2:=by
 match ts with
 | []=>exact al h
 | [t]=>
  unfold zu at h;dsimp only at h;generalize q:oU t=zc;induction zc using aA with
  |none=>rw [q] at h;exact al h
  |some x=>
   rw [q] at h;obtain rfl:=Ci (o:=x.1) (m:=x.2.1) (p:=x.2.2) q;dsimp only at h;generalize q2:gb x.1=zc;induction zc using aA with
   |none=>rw [q2] at h;exact al h
   |some y=>
    rw [q2] at h;refine aB (pX q2 ) fun px e1=>?_;have c:=dJ (fun z=>al (z.symm.trans h));have h:=(cH c).symm.trans h;obtain rfl:=Option.some.inj h;exact ⟨px,x.2.2,by rw [e1,bY.mp c],rfl⟩
 |_::_::_=>exact al h
theorem H0 {st:Stmt} {p:Str×Expr} (h:yu st=some p):∃px pa pe,st=.Assign [.Attribute (.Name "self" px) p.1 pa] p.2 pe:=by
 induction st using Stmt.casesOn with
 |Assign ts e pe=>
  refine b_ (L8 h ) ?_;rintro px pa rfl rfl;exact ⟨px,pa,pe,rfl⟩
 |_=>exact al h
theorem Jd {P gi:List Str} (mQ:List Stmt):∀ {bJ:List Str},o9 P bJ mQ=some gi->pt P bJ mQ gi:=by
 induction mQ with
 |nil=>intro bJ h;obtain rfl:=Option.some.inj h;exact .nil _
 |cons st r ih=>
  intro bJ h;unfold o9 at h;generalize es:yu st=zc;induction zc using aA with
  |none=>rw [es] at h;exact al h
  |some p=>
   rw [es] at h;refine xL (H0 es ) ?_;rintro px pa pe rfl;dsimp only at h;have c:=dJ (fun z=>al (z.symm.trans h));rw [cH c] at h;rw [Bool.and_eq_true,Bool.not_eq_true',List.any_eq_false] at c;have ll:∀y∈bJ,y≠p.1:=fun y hy z=>c.2 y hy (bY.mpr z);generalize en:gb p.2=zc;induction zc using aA with
   |some y=>
    rw [en] at h;have d:=dJ (fun z=>al (z.symm.trans h));have h:=(cH d).symm.trans h;rw [Bool.and_eq_true] at d;refine aB (pX en ) fun pn e2=>?_;refine aw (List.any_eq_true.mp d.2 ) fun z hz wO=>?_;rw [e2,bY.mp d.1];exact .name p.1 px pa pn pe c.1 ll (bY.mp wO▸hz) (ih h)
   |none=>
    rw [en] at h;have d:=dJ (fun z=>al (z.symm.trans h));exact .simp p.1 p.2 px pa pe c.1 ll d (ih ((cH d).symm.trans h))
structure RW (hs:Heap) (C e dx L:Addr) (vs:Array Value) (m mA:Gv) (bJ ns:List Str) (h:Heap):Prop where
 keep:∀b o,hs.get? b=some o->h.get? b=some o
 fr:h.Ns L m
 ex:∃oe,h.get? e=some oe/\oe.cls=.ref C/\oe.dict=some dx/\oe.data=.fields vs
 dct:h.Ns1 dx mA
 wi:Within mA ns
 has:∀a∈bJ,mA a=m a
 ne:hs.get? e=none
 nd:hs.get? dx=none
 de:dx≠e
 Ld:L≠dx
 Le:L≠e
section
variable {prog:Program} {w:World} {A:Around} {E:Value->Shared->Prop} {s:Shared} {hs:Heap} {C e dx N:Addr} {vs:Array Value} {m mA mN:Gv} {bJ ns:List Str} {ev:Env}
variable {nm q:Str} {bs:List Value} {sn:List Str} {sub:List Value} {ab:Bool} {cW:Option Bool} {dd:Option Addr} {k0 k1 k2 k3 k5:Option Value} {dn:String}
inductive vK (x:Expr):Prop
 |cst (c:Const) (k:Nat) (p:Pos):x=.Constant c k p->(wH c).isSome=true->vK x
 |lst (p:Pos):x=.List [] p->vK x
theorem Gn {x:Expr} (h:su x=true):vK x:=by
 induction x using Expr.casesOn with
 |Constant c k p=>exact .cst c _ p rfl h
 |List es p=>
  induction es using bh with
  |nil=>exact .lst p rfl
  |cons=>exact ff h
 |_=>exact ff h
theorem J1 {x:Expr} (hx:su x=true):wpAny (model prog w) A (eval x ev) (fun _ s'=>∃h' tk,s'={s with heap:=h',toks:=tk} /\ ∀b o,s.heap.get? b=some o->h'.get? b=some o) E s:=by
 rcases Gn hx with ⟨c,k,p,rfl,h⟩|⟨p,rfl⟩
 ·induction c using Const.casesOn with
  |int i=>exact wpAny_Constant_int ⟨s.heap,_,rfl,fun _ _ e=>e⟩
  |str i=>exact wpAny_Constant_str ⟨s.heap,_,rfl,fun _ _ e=>e⟩
  |bool i=>exact wpAny_Constant_bool ⟨s.heap,s.toks,rfl,fun _ _ e=>e⟩
  |none=>exact wpAny_Constant_none ⟨s.heap,s.toks,rfl,fun _ _ e=>e⟩
  |_=>exact ff h
 ·exact wpAny_List (wpAny_pure ⟨by decide,_,_,rfl,fun b o e=>Heap.get?_push_of_some _ e⟩)
theorem PA {x t:Expr} {n:Nat} {env:Env} (c:su x=true):swapsWith x (some t) n env=pure false:=by
 generalize Gn c=zc;induction zc using vK.casesOn with
 |cst c k p e _=>rw [e];rfl
 |lst p e=>rw [e];rfl
theorem RW.put (R:RW hs C e dx ev.locals vs m mA bJ ns s.heap) (hC:hs.get? C=some (excClassObj nm q C N bs eE true sn sub ab cW dd k0 k1 k2 k3 k5 dn)) (hN:hs.Ns N mN) (oQ:mN "__setattr__" = none) {a:Str} (gB:mN a=none) (hB:typeLookup (.type "Exception") a=pure none)
 {v:Value} {gi:List Str} (ll:∀y∈bJ,y≠a) (JF:gi=bJ\/(gi=a::bJ/\m a=some v)) (cZ:ns.length<=sizeLine) {Q:Unit->Shared->Prop}
 (k:∀h' tk,RW hs C e dx ev.locals vs m (fun y=>if y=a then some v else mA y) gi (a::ns) h'->Q () {s with heap:=h',toks:=tk}):
 wpAny (model prog w) A (setAttr (.ref e) a v) Q E s:=by
 obtain ⟨h,g,d,t,os⟩:=s;refine sH R.ex fun oe x1 x2 x3 x4=>?_;have eC:e≠C:=fun z=>by have:=R.ne;rw [z,hC] at this;exact al this.symm
 have I:h.Inst e C mA:=⟨oe,x1,x2,(fun c z=>by rw [x4] at z;exact Data.noConfusion z),.inr ⟨dx,x3,R.de,R.dct⟩⟩
 refine store_attr PySem.F.store_Exception (R.keep _ _ hC) (hN.keeps R.keep) oQ gB hB eC I (fun h' bO I' hk tg=>k h' bO ?_) R.wi cZ;have other:∀b o,b≠e->b≠dx->h.get? b=some o->h'.get? b=some o:=fun b o q1 q2 z=>hk b o q1 (fun Mp UM f1 f2=>by rw [x1] at f1;obtain rfl:=Option.some.inj f1;rw [x3] at f2;obtain rfl:=Option.some.inj f2;exact q2) z;refine Ds (tg oe x1 ) fun vJ y1 y2 y3 y4 y5=>?_;refine sH I' ?_;clear I';intro NH z1 z2 _ z4;rw [y1] at z1;obtain rfl:=Option.some.inj z1;have i7:h'.Ns1 dx (fun y=>if y=a then some v else mA y):=by
  rcases z4 with ⟨z5,_⟩|⟨d',z5,_,z6⟩
  ·rw [y5 dx x3] at z5;exact al z5.symm
  ·rw [y5 dx x3] at z5;obtain rfl:=Option.some.inj z5;exact z6
 refine gN R.fr fun oL es ep gJ nQ=>?_;refine ⟨fun b o z=>other b o (fun q=>by subst q;rw [R.ne] at z;exact al z) (fun q=>by subst q;rw [R.nd] at z;exact al z) (R.keep b o z),⟨oL,es,ep,other _ _ R.Le R.Ld gJ,nQ⟩,⟨vJ,y1,y2.trans x2,y5 dx x3,y3.trans x4⟩,i7,Within.cons a v R.wi,fun y hy=>?_,R.ne,R.nd,R.de,R.Ld,R.Le⟩;rcases JF with rfl|⟨rfl,hv⟩
 ·rw [if_neg (ll y hy)];exact R.has y hy
 ·rcases List.mem_cons.mp hy with rfl|hy
  ·rw [if_pos rfl,hv]
  ·rw [if_neg (ll y hy)];exact R.has y hy
theorem Qd {a:Str} (h:jj a=true):(a==("__debug__" : Str))=false:=
 Bool.not_eq_true' _▸List.all_eq_true.mp (show (["code","value","errorcode","level","ret","info","is_noted","line","extra"]:List Str).all (fun a=>!(a==("__debug__" : Str)))=true by decide+kernel) a (y_ h)
theorem RW.kept (R:RW hs C e dx ev.locals vs m mA bJ ns s.heap) {ag:Heap} (kp:∀b o,s.heap.get? b=some o->ag.get? b=some o):RW hs C e dx ev.locals vs m mA bJ ns ag:=by
 refine gN R.fr fun oL eL pK gJ rL=>?_;refine aw R.ex fun oe x1 x2=>?_;refine gN R.dct fun od ed yA zA rd=>?_;exact ⟨fun b o z=>kp b o (R.keep b o z),⟨oL,eL,pK,kp _ _ gJ,rL⟩,⟨oe,kp _ _ x1,x2⟩,⟨od,ed,yA,kp _ _ zA,rd⟩,R.wi,R.has,R.ne,R.nd,R.de,R.Ld,R.Le⟩
theorem room {a b:Nat} (h:a+(b+1)<=sizeLine):a<=sizeLine/\a+1+b<=sizeLine:=by omega
theorem LM {P:List Str} (hC:hs.get? C=some (excClassObj nm q C N bs eE true sn sub ab cW dd k0 k1 k2 k3 k5 dn)) (hN:hs.Ns N mN) (oQ:mN "__setattr__" = none) (gB:∀a,jj a=true->mN a=none)
 (hk:ev.scope.kind=.function) (tY:ev.kindOf "self" = some .local) (i':m "self" = some (.ref e)) (hP:∀a∈P,ev.kindOf a=some .local/\∃v,m a=some v)
 {mQ:List Stmt} {bJ gi:List Str} (hg:o9 P bJ mQ=some gi):∀ {ns:List Str} {mA:Gv} {s:Shared} {Q:Flow->Shared->Prop},ns.length+mQ.length<=sizeLine->RW hs C e dx ev.locals vs m mA bJ ns s.heap->
  (∀h' tk mX o3,RW hs C e dx ev.locals vs m mX gi o3 h'->Q .next {s with heap:=h',toks:=tk})->wpAny (model prog w) A (execs mQ ev) Q E s:=by
 have self:∀ {bG:Shared} {px:Pos} {Q:Value->Shared->Prop},bG.heap.Ns ev.locals m->Q (.ref e) bG->wpAny (model prog w) A (eval (.Name "self" px) ev) Q E bG:=fun hn hq=>
  wpAny_Name (wpAny_loadName_local hk tY hn i' hq) (by decide+kernel)
 have T:=Jd mQ hg;clear hg tY i';induction T with
 |nil bJ=>intro ns mA s Q _ R k;exact wpAny_execs_nil (k s.heap s.toks mA ns R)
 |name a px pa pn pe c1 ll c4 _ ih=>
  intro ns mA s Q cZ R k;rw [List.length_cons] at cZ;obtain ⟨kl,v,hv⟩:=hP a c4;refine wpAny_execs_cons (plainObj_wpAny_Assign_Attribute ?_);refine wpAny_Name (wpAny_loadName_local hk kl R.fr hv (self R.fr ?_)) (Qd c1);refine R.put hC hN oQ (gB _ c1) (wc c1) ll (.inr ⟨rfl,hv⟩) (room cZ).1 fun h' tk R'=>?_;exact ih (by rw [List.length_cons];exact (room cZ).2) R' fun jM bO mX o3 yQ=>k jM bO mX o3 yQ
 |simp a x px pa pe c1 ll c4 _ ih=>
  intro ns mA s Q cZ R k;rw [List.length_cons] at cZ;refine wpAny_execs_cons (plainObj_wpAny_Assign_Attribute (wpAny_mono (J1 c4) (fun v bG z=>?_) fun _ _ z=>z) (PA c4));refine b_ z ?_;clear z;rintro ag tk rfl kp;have Aw:=R.kept kp;refine self Aw.fr ?_;refine RW.put (s:={s with heap:=ag,toks:=tk}) Aw hC hN oQ (gB _ c1) (wc c1) ll (.inl rfl) (room cZ).1 fun h' tk R'=>?_;exact ih (s:={s with heap:=h',toks:=tk}) (by rw [List.length_cons];exact (room cZ).2) R' fun jM bO mX o3 yQ=>k jM bO mX o3 yQ
end
theorem LB:Manifest.isStub "Exception" = false:=by decide+kernel
theorem MK:typeOf (.type "Exception")=pure (.type "type"):=by kernel_rfl
theorem Q8:handedIn (.builtin "Exception.__init__")=true:=by decide+kernel
theorem Lw {prog:Program} {w:World} {A:Around} {E:Value->Shared->Prop} {s:Shared} {K:Frag} (X:K.In s.heap) (hf:findCls K (.type "Exception") (.type "type") "__init__" = some (.val (.builtin "Exception.__init__"))) {pl:Sem Bool} {Q:Value×List Value->Shared->Prop} (hq:Q (.builtin "Exception.__init__",[]) {s with toks:=s.toks+1}):
 wpAny (model prog w) A (getMethod (.type "Exception") "__init__" pl) Q E s:=
 @P7 prog w A E s K "Exception" "__init__" (.builtin "Exception.__init__") pl Q X LB MK hf Q8 hq
section
variable {prog:Program} {w:World} {A:Around} {E:Value->Shared->Prop} {s:Shared} {K:Frag} {hs:Heap} {C e dx N:Addr} {vs:Array Value} {m mA mN mg mb:Gv} {bJ ns:List Str} {ev:Env}
variable {nm q:Str} {bs:List Value} {sn:List Str} {sub:List Value} {ab:Bool} {cW:Option Bool} {dd:Option Addr} {k0 k1 k2 k3 k5:Option Value} {dn:String}
theorem NX {p1 p2 p3 p4 p5 p6:Pos} {o:Obj} {t0:Addr} {v:Value} {Q:Flow->Shared->Prop} (X:K.In s.heap) (hl:(p2.endLine==p5.line)=true)
 (hf:findCls K (.type "Exception") (.type "type") "__init__" = some (.val (.builtin "Exception.__init__")))
 (hC:s.heap.get? C=some (excClassObj nm q C N bs eE true sn sub ab cW dd k0 k1 k2 k3 k5 dn)) (hx:s.heap.get? e=some o) (hc:o.cls=.ref C) (hd:o.data=.fields vs) (h0:vs[0]?=some (.ref t0))
 (hk:ev.scope.kind=.function) (he:ev.kindOf "Exception" = some .globalImplicit) (hg:s.heap.Ns ev.globals mg) (IB:mg "Exception" = none) (hb:s.heap.Ns ev.builtins mb) (h_:mb "Exception" = some (.type "Exception"))
 (hn:s.heap.Ns ev.locals m) (tY:ev.kindOf "self" = some .local) (i':m "self" = some (.ref e)) (j0:ev.kindOf "value" = some .local) (PD:m "value" = some v)
 (hq:∀tk,Q .next {s with heap:=(s.heap.push {cls:=.type "tuple",data:=.seq #[v]}).update e (Obj.mapFields (·.setIfInBounds 0 (.ref s.heap.objs.size))),toks:=tk}):
 wpAny (model prog w) A (exec (.Expr (.Call (.Attribute (.Name "Exception" p1) "__init__" p2) [.Name "self" p3,.Name "value" p4] [] p5) p6) ev) Q E s:=by
 refine wpAny_Expr ?_ (by unfold interactive;rw [hk];rfl) rfl;show wpAny _ _ (do
  let ov <- attributeBase (.Name "Exception" p1) "__init__" ev (eval (.Name "Exception" p1) ev)
  standAt p2.atName
  methodCall (.Name "Exception" p1) "__init__" p2 p5 ev ov 2 [(false,eval (.Name "self" p3) ev),(false,eval (.Name "value" p4) ev)] []) _ _ _
 rw [tj (by rfl)];refine wpAny_bind (Name_function_global hk he (loadGlobal_builtin hg IB hb h_ ?_) (by decide+kernel));refine wpAny_bind (wpAny_standAt ?_);unfold methodCall;have K7:methodCallForm 2 [(false,eval (.Name "self" p3) ev),(false,eval (.Name "value" p4) ev)] []=true:=rfl;rw [K7];refine wpAny_bind (wpAny_holding ?_);unfold calleeOf;rw [if_pos rfl];refine Lw X hf ?_;dsimp only;refine wpAny_bind ?_;unfold methodCallPos;rw [if_pos (by rw [hl];rfl)];refine wpAny_pure ?_;refine callWith_of (P:=fun _=>True) rfl (fun _ _=>⟨.machine,.inr (.inl rfl),PC⟩) ?_;refine evalArgs_plain (spliced_cons (wpAny_Name (wpAny_loadName_local hk tY hn i' ?_) (by decide+kernel)));refine spliced_cons (wpAny_Name (wpAny_loadName_local hk j0 hn PD ?_) (by decide+kernel));refine wpAny_pure ⟨trivial,?_⟩;exact Ni (rest:=[v]) hC hx hc hd h0 (hq _) (by size_fits)
end
noncomputable def js:List Str:=["self","code","value","errorcode","level","ret"]
inductive vp (g:Gd) (h0:Heap) (K:Frag) (mb:Gv):Prop
 |mk (C:Addr) (nm q:Str) (N:Addr) (bs:List Value) (sn:List Str) (sub:List Value) (ab:Bool) (cW:Option Bool) (dd:Option Addr) (k0 k1 k2 k3 k5:Option Value) (mN:Gv) (fI:Addr) (oI:Obj) (fd:FuncData)
 (p1 p2 p3 p4 p5 p6 p7 p8 p9 Bf:Pos) (rest:List Stmt) (bJ:List Str):
 (g.mg "Raised" = some (.ref C)/\h0.get? C=some (excClassObj nm q C N bs eE true sn sub ab cW dd k0 k1 k2 k3 k5 "Exception.__new__")/\h0.Ns N mN/\mN "__setattr__" = none/\(∀a,jj a=true->mN a=none)/\mN "__init__" = some (.ref fI))->
 (h0.get? fI=some oI/\oI.cls=.type "function" /\ oI.data=.func fd/\
  fd.body=.stmts (.Expr (.Call (.Attribute (.Name "Exception" p1) "__init__" p2) [.Name "self" p3,.Name "value" p4] [] p5) p6:: .Assign [.Attribute (.Name "self" p7) "code" p8] (.Name "code" p9) Bf::rest)/\(p2.endLine==p5.line)=true/\
  o9 js ["code"] rest=some bJ/\("code" : Str)∈bJ/\("value" : Str)∈bJ/\("errorcode" : Str)∈bJ/\1+rest.length<=sizeLine)->
 (fd.globals=mainGlobals/\fd.builtins=builtinsNs/\h0.CodeRec fd.code fd.qualname/\fd.scope.isCoroutine=false/\fd.scope.isGenerator=false/\fd.scope.kind=.function/\(∀x∈fd.scope.names,x.2≠ .cell)/\
  (∀x∈js,fd.scope.names.lookup x=some .local)/\fd.scope.names.lookup ("Exception" : Str)=some .globalImplicit/\
  ∀(s:Shared) (a b c d:Value),(∀b o,h0.get? b=some o->s.heap.get? b=some o)->∃d1 d2,BindsTo s fd ⟨[a,b,c,d],[]⟩ [("self",a),("code",b),("value",c),("errorcode",d),("level",d1),("ret",d2)])->
 (findCls K (.type "Exception") (.type "type") "__init__" = some (.val (.builtin "Exception.__init__"))/\K.In h0/\h0.Ns mainGlobals g.mg/\g.mg "Exception" = none/\h0.Ns builtinsNs mb/\mb "Exception" = some (.type "Exception")/\h0.NoLimit)->vp g h0 K mb
inductive Fb (args:List V) (O:B):Prop
 |mk (t:Str) (l:List V) (ec:List Str):args=[.int 1,.str t,.tup l]->ft l=some ec->kO args O=newObj O (.exc ⟨t,ec⟩)->Fb args O
theorem Ta {a:V} {l:List V} {O:B} (h:cG a=none):kO (a::l) O=.stuck:=by
 induction a using V.casesOn with
 |int i=>exact al h.symm
 |_=>rfl
theorem PQ {i:Int} {b:V} {l:List V} {O:B} (h:cX b=none):kO (.int i::b::l) O=.stuck:=by
 induction b using V.casesOn with
 |str t=>exact al h.symm
 |_=>rfl
theorem Rl {i:Int} {t:Str} {c:V} {l:List V} {O:B} (h:mG c=none):kO (.int i:: .str t::c::l) O=.stuck:=by
 induction c using V.casesOn with
 |tup l=>exact al h.symm
 |_=>rfl
theorem I8 {args:List V} {O:B} (h:kO args O≠ .stuck):Fb args O:=by
 induction args using bh with
 |nil=>exact absurd rfl h
 |cons a l=>
 generalize e:cG a=zc;induction zc using aA with
 |none=>exact absurd (Ta e) h
 |some i=>
 obtain rfl:=nE e;induction l using bh with
 |nil=>exact absurd rfl h
 |cons b l=>
 generalize e:cX b=zc;induction zc using aA with
 |none=>exact absurd (PQ e) h
 |some t=>
 obtain rfl:=ud e;induction l using bh with
 |nil=>exact absurd rfl h
 |cons c l=>
 generalize e:mG c=zc;induction zc using aA with
 |none=>exact absurd (Rl e) h
 |some l'=>
 obtain rfl:=GH e;induction l using bh with
 |cons _ _=>exact absurd rfl h
 |nil=>
 have c:=dJ h;obtain rfl:=eq_of_beq c;generalize e:ft l'=zc;induction zc using aA with
 |none=>exact absurd (by show (bif true then (match ft l' with|some ec=>newObj O (aZ.exc ⟨t,ec⟩)|none=>R.stuck) else .stuck)=_;rw [e];rfl) h
 |some ec=>exact ⟨t,l',ec,rfl,e,by show (bif true then (match ft l' with|some ec=>newObj O (aZ.exc ⟨t,ec⟩)|none=>R.stuck) else .stuck)=_;rw [e];rfl⟩
theorem CY (C:Addr) (rest:List Value):(Code.builtin "type.__call__" ⟨.ref C::rest,[]⟩).weight=1:=by kernel_rfl
section
variable {g:Gd} {h0:Heap} {mb:Gv} {Fs:List Addr} {Z:Zm} {as:List Addr} {O:B} {A:Around} {s:Shared} {env:Env} {sc:Scope} {n:Nat} {K:Frag}
set_option tactic.hygienic true in
theorem Mg (R:vp g h0 K mb) {v:Value} (hv:g.mg "Raised" = some v) (rm:Rm A (n+1)) {args:List V} {ai:List Value} (S:St g h0 Fs Z as O s.heap) (rs:aO g Z as args ai) (af:kO args O≠ .stuck) {E:Value->Shared->Prop}:
 wpAny (model g.prog g.w) A (call v ai) (PV g h0 Fs Z as s (kO args O)) E s:=by
 obtain ⟨C,nm,q,N,bs,sn,sub,ab,cW,dd,k0,k1,k2,k3,k5,mN,fI,oI,fd,p1,p2,p3,p4,p5,p6,p7,p8,p9,Bf,rest,bJ,⟨a1,a2,a3,a4,a5,a6⟩,⟨b1,b2,b3,b4,b5,b6,b7,b8,b9,JT⟩,
  ⟨c1,c2,c3,c4,c5,c6,c7,c8,c9,qr⟩,⟨d1,d2,d3,d4,d5,d6,d7⟩⟩:=R
 rw [a1] at hv;obtain rfl:=Option.some.inj hv;have dT:∀b o,h0.get? b=some o->s.heap.get? b=some o:=fun b o e=>(S.bN b o (S.base b o e)).1;obtain ⟨t,l,ec,rfl,Ss,q⟩:=I8 af;rw [q];clear q af;obtain ⟨_,_,rfl,r1,Dt⟩:=rs.out;obtain ⟨_,_,rfl,r2,mK⟩:=Dt.out;obtain ⟨_,_,rfl,r3,BI⟩:=mK.out;obtain rfl:=BI.out;clear rs Dt mK BI;refine aB r1.out ?_;rintro t1 rfl;refine aB r2.out ?_;rintro t2 rfl;obtain ⟨ta,items,kk,rfl,zt,Kf⟩:=r3.out;refine aw (vd Kf Ss ) fun pp wC Ac=>?_;obtain ⟨h,gg,dr,tk,os⟩:=s;dsimp only at S dT ⊢;refine wpAny_call_exc_init PySem.F.excBase_Exception (dT _ _ a2) (a3.keeps dT) a6 (dT _ _ b1) b2 (fun ag e M=>?_);obtain ⟨j_,cj,t0,he,IW,UV⟩:=M;refine eO (qr ⟨ag,gg,dr,tk,os⟩ (.ref e) (.int 1 t1) (.str t t2) (.ref ta) (fun b o z=>j_ b o (dT b o z)) ) fun v1 v2 hb=>?_;have S4:(A.under (.builtin "type.__call__" ⟨.ref C::[.int 1 t1,.str t t2,.ref ta],[]⟩)).depth<recursionLimit:=by
  show A.depth+Code.weight _<_;rw [CY];have:=rm.d;exact ae [_,_,_] [] [.lt (.p (.p (.v 0) (.m 4 (.p (.v 2) (.n 1)))) (.n 8)) (.v 1)] (.lt (.p (.v 0) (.n 1)) (.v 1)) rfl this
 have tX:∀b o,h0.get? b=some o->ag.get? b=some o:=fun b o z=>j_ b o (dT b o z);have vz:∀x∈[(("self" : Str),Value.ref e),("code",.int 1 t1),("value",.str t t2),("errorcode",.ref ta),("level",v1),("ret",v2)],fd.scope.names.lookup x.1=some .local:=fun x hx=>c8 x.1 (by
  have:=List.mem_map_of_mem (f:=fun x:Str×Value=>x.1) hx;exact this)
 generalize pz:[(("self" : Str),Value.ref e),("code",.int 1 t1),("value",.str t t2),("errorcode",.ref ta),("level",v1),("ret",v2)]=ei at hb vz;refine wpAny_call (codeAny_call_def S4 (tX _ _ b1) b3 (d7.keeps tX) (c3.keeps tX) b4 hb c7 vz (fun aM uX CU=>?_) c4 c5 c6);have m1:ei.reverse.lookup ("self" : Str)=some (.ref e):=by rw [<- pz];kernel_rfl
 have m2:ei.reverse.lookup ("code" : Str)=some (.int 1 t1):=by rw [<- pz];kernel_rfl
 have m3:ei.reverse.lookup ("value" : Str)=some (.str t t2):=by rw [<- pz];kernel_rfl
 have m4:ei.reverse.lookup ("errorcode" : Str)=some (.ref ta):=by rw [<- pz];kernel_rfl
 have m5:ei.reverse.lookup ("level" : Str)=some v1:=by rw [<- pz];kernel_rfl
 have m6:ei.reverse.lookup ("ret" : Str)=some v2:=by rw [<- pz];kernel_rfl
 refine nr (AO (L:=ag.objs.size) (a:=fI) (fd:=fd) ) fun ef el es eg qX=>?_;generalize hE:callEnv fd ag.objs.size fI=ev at*;generalize nN:ag.objs.size=L at*;have fE:ag.get? L=none:=by rw [<- nN];exact dg _
 generalize hm:(fun x=>ei.reverse.lookup x)=m at*;have m1:m "self" = some (.ref e):=by rw [<- hm];exact m1
 have m2:m "code" = some (.int 1 t1):=by rw [<- hm];exact m2
 have m3:m "value" = some (.str t t2):=by rw [<- hm];exact m3
 have m4:m "errorcode" = some (.ref ta):=by rw [<- hm];exact m4
 have m5:m "level" = some v1:=by rw [<- hm];exact m5
 have m6:m "ret" = some v2:=by rw [<- hm];exact m6
 have kl:∀x∈js,ev.kindOf x=some .local:=fun x hx=>by
  unfold Env.kindOf;rw [es];exact c8 x hx
 have uO:ev.scope.kind=.function:=by rw [es];exact c6
 have Dw:∀b o,h.get? b=some o->aM.get? b=some o:=fun b o z=>CU b o (j_ b o z);have tH:∀b o,h0.get? b=some o->aM.get? b=some o:=fun b o z=>Dw b o (dT b o z);have oY:=CU _ _ he;have Le:L≠e:=fun z=>by rw [z,he] at fE;exact al fE.symm
 have eC:e≠C:=fun z=>by rw [z,dT _ _ a2] at cj;exact al cj.symm
 rw [<- el] at uX;refine wpAny_execs_cons (NX (s:=⟨aM,gg,dr,tk+ei.length,os⟩) (K:=K) (mg:=g.mg) (mb:=mb) (fun b o z=>tH b o (d2 b o z)) b5 d1 (tH _ _ a2) oY rfl rfl rfl uO (by unfold Env.kindOf;rw [es];exact c9)
  (by rw [eg,c1];exact d3.keeps tH) d4 (by rw [qX,c2];exact d5.keeps tH) d6 uX (kl _ (by simp [js])) m1 (kl _ (by simp [js])) m3 fun gZ=>?_)
 have Uj:e<aM.objs.size:=Heap.lt_size oY;generalize Bq:(aM.push {cls:=.type "tuple",data:=.seq #[Value.str t t2]}).update e (Obj.mapFields (·.setIfInBounds 0 (.ref aM.objs.size)))=cu;have Cb:∀b o,b≠e->aM.get? b=some o->cu.get? b=some o:=fun b o hb z=>by
  rw [<- Bq,Heap.get?_update_other _ _ (Ne.symm hb)];exact Heap.get?_push_of_some _ z
 have uv:cu.get? e=some {cls:=.ref C,data:=.fields #[.ref aM.objs.size,.none,.none,.none,.bool false,.none]}:=by
  rw [<- Bq];exact Heap.get?_update_self _ (Heap.get?_push_of_some _ oY) rfl
 have nW:∀b o,h.get? b=some o->cu.get? b=some o:=fun b o z=>Cb b o (fun q=>by rw [q,cj] at z;exact al z) (Dw b o z);have dY:cu.Ns ev.locals m:=by
  refine gN uX ?_;clear uX;intro o iA ep ho r;exact ⟨o,iA,ep,Cb _ _ (by rw [el];exact Le) ho,r⟩
 have QJ:∀ {bG:Shared} {Q:Value->Shared->Prop} {E:Value->Shared->Prop} {A:Around},bG.heap.Ns ev.locals m->Q (.ref e) bG->wpAny (model g.prog g.w) A (eval (.Name "self" p7) ev) Q E bG:=fun hn hq=>
  wpAny_Name (wpAny_loadName_local uO (kl _ (by simp [js])) hn m1 hq) (by decide+kernel)
 refine wpAny_execs_cons (plainObj_wpAny_Assign_Attribute (wpAny_Name (wpAny_loadName_local uO (kl _ (by simp [js])) dY m2 (QJ dY ?_)) (by decide+kernel)));refine J7 PySem.F.store_Exception (nW _ _ (dT _ _ a2)) (a3.keeps fun b o z=>nW b o (dT b o z)) a4 (a5 _ (by decide+kernel)) (wc (by decide+kernel)) uv rfl (fun c z=>by cases z) rfl fun gO n9 dx nH CG MO Ro Cx=>?_;have RR:∀b o,h.get? b=some o->gO.get? b=some o:=fun b o z=>Cx b o (fun q=>by rw [q,cj] at z;exact al z) (nW b o z);have pI:h.get? dx=none:=by
  generalize z:h.get? dx=zc;induction zc using aA with
  |none=>rfl
  |some o=>rw [nW dx o z] at nH;exact al nH.symm
 refine gN (id dY ) fun oL uQ pK gJ rL=>?_;have Nq:ev.locals≠dx:=fun z=>by rw [z,nH] at gJ;exact al gJ
 have Ry:RW h C e dx ev.locals #[.ref aM.objs.size,.none,.none,.none,.bool false,.none] m (fun y=>if y=("code" : Str) then some (.int 1 t1) else none) ["code"] ["code"] gO:=
  ⟨RR,⟨oL,uQ,pK,Cx _ _ (by rw [el];exact Le) gJ,rL⟩,⟨_,MO,rfl,rfl,rfl⟩,Ro,Within.cons _ _ Within.nil,fun a ha=>by
   rw [List.mem_singleton] at ha;subst ha;simp [m2],cj,pI,CG,Nq,by rw [el];exact Le⟩
 refine LM (P:=js) (s:=⟨gO,gg,dr,n9,os⟩) (dT _ _ a2) (a3.keeps dT) a4 a5 uO (kl _ (by simp [js])) m1 (fun a ha=>⟨kl a ha,?_⟩) b6 (ns:=["code"]) (by exact JT) Ry fun fA Dl mX o3 R5=>?_
 ·simp only [js,List.mem_cons,List.not_mem_nil,or_false] at ha;rcases ha with rfl|rfl|rfl|rfl|rfl|rfl
  ·exact ⟨_,m1⟩
  ·exact ⟨_,m2⟩
  ·exact ⟨_,m3⟩
  ·exact ⟨_,m4⟩
  ·exact ⟨_,m5⟩
  ·exact ⟨_,m6⟩
 refine ⟨rfl,?_⟩;refine sH R5.ex fun oe y1 y2 y3 y4=>?_;refine La R5.dct fun od Ip yA zA uM LC _ wd=>?_;have G:=(Go.keeps S R5.keep).seal pI (S.fresh pI) (S.gu pI) (S.fD pI) zA;have zd:∀b o,Z b=some o->bp Z dx od b=some o:=bp.le (S.fresh pI);have ze:bp Z dx od e=none:=by unfold bp;rw [if_neg (Ne.symm CG)];exact S.fresh cj
 have OR:iC g (bp Z dx od) (as++[e]) fA e (.exc ⟨t,ec⟩):=⟨oe,_,y1,y4,rfl,⟨_,rfl⟩,C,dx,od,mX,ta,items,kk,t1,t2,pp,a1,y2,y3,bp.at,⟨Ip,yA,uM,LC,wd⟩,
  (R5.has _ b7).trans m2,(R5.has _ b8).trans m3,(R5.has _ b9).trans m4,zd _ _ zt,wC,Ac⟩
 have G':=G.adopt cj ze (S.gu cj) (S.fD cj) y1 OR;exact ⟨_,_,fA,_,_,_,rfl,rfl,G',.loc (by rw [<- S.len];exact mw _ _)⟩
end
noncomputable def iy (C:eK) (script:V) (turn:Int) (i:Nat) (O:B):R V:=
 (quiet (ct .Mod (.int (Int.ofNat i)) (.int 8) O)).bind fun a O=>(quiet (ct .Add (.int 14) a O)).bind fun a O=>(quiet (C "_law_cell" [script,a] O)).bind fun c O=>
 (quiet (ct .Mult (.int 5) (.int (Int.ofNat i)) O)).bind fun b O=>(quiet (ct .Add c b O)).bind fun d O=>(quiet (ct .Mult (.int 3) (.int turn) O)).bind fun f O=>
 (quiet (ct .Add d f O)).bind fun g O=>(quiet (ct .Add g (.int 1) O)).bind fun x O=>quiet (C "_law_text" [x] O)
noncomputable def j5 (C:eK) (script:V) (turn:Int):Nat->Nat->List V->B->R V
 | 0,_,acc,O=>.ok (.lst acc) O
 |n+1,i,acc,O=>(iy C script turn i O).bind fun v O=>j5 C script turn n (i+1) (acc++[v]) O
noncomputable def i5 (C:eK) (args:List V) (O:B):R V:=
 match args with
 | [script,.int depth,.int turn]=>bif decide (0<=depth)&&decide (depth<=1000) then j5 C script turn depth.toNat 0 [] O else .stuck
 |_=>.stuck
theorem QN {C:eK} {a b:V} {l:List V} {O:B} (h:cG b=none):i5 C (a::b::l) O=.stuck:=by
 induction b using V.casesOn with
 |int i=>exact al h.symm
 |_=>rfl
theorem Kb {C:eK} {a c:V} {i:Int} {l:List V} {O:B} (h:cG c=none):i5 C (a:: .int i::c::l) O=.stuck:=by
 induction c using V.casesOn with
 |int i=>exact al h.symm
 |_=>rfl
theorem Af (C:eK) (args:List V) (O:B):i5 C args O=aX (three args) fun p=>aX (cG p.2.1) fun d=>aX (cG p.2.2) fun t=>bif decide (0<=d)&&decide (d<=1000) then j5 C p.1 t d.toNat 0 [] O else .stuck:=by
 induction args using bh with
 |nil=>rfl
 |cons a l=>
 induction l using bh with
 |nil=>rfl
 |cons b l=>
 generalize e:cG b=zc;induction zc using aA with
 |none=>
  refine (QN e).trans ?_;induction l using bh with
  |nil=>rfl
  |cons c l=>induction l using bh with
   |nil=>show _=aX (cG b) _;rw [e];rfl
   |cons _ _=>rfl
 |some i=>
  obtain rfl:=nE e;induction l using bh with
  |nil=>rfl
  |cons c l=>
   generalize e:cG c=zc;induction zc using aA with
   |none=>
    refine (Kb e).trans ?_;induction l using bh with
    |nil=>show _=aX (cG c) _;rw [e];rfl
    |cons _ _=>rfl
   |some j=>
    obtain rfl:=nE e;induction l using bh<;>rfl
noncomputable def lg (run:List V->B->R V) (x:Str) (args:List V) (O:B):R V:=
 (run (.loc (O.length+1)::args) (O++[.ns [],.inst x O.length])).bind fun v σ'=>match v with
  |.none=>.ok (.loc (O.length+1)) σ'
  |_=>.stuck
noncomputable def dA (P:lq) (W:Nat):Nat->eK
 | 0,_,_,_=>.stuck
 |n+1,x,args,O=>bif seq x "Raised" then kO args O else bif seq x "_law_stack" then i5 (dA P W n) args O else match P.cls x with
  |some i=>(match P.fn i with
   |some f=>lg (dj ⟨dA P W n,W,P.names⟩ f) x args O
   |none=>.stuck)
  |none=>match P.fn x with
   |some f=>bif f.pure then fN (dj ⟨dA P W n,W,P.names⟩ f) args O else dj ⟨dA P W n,W,P.names⟩ f args O
   |none=>.stuck
inductive ly (g:Gd) (h0:Heap) (K:Frag) (x:Str) (f:Fn):Prop
 |mk (Ca fI:Addr):g.mg x=some (.ref Ca)->makesIn K Ca=true->findIn K (.ref Ca) "__init__" = some (some (.ref fI))->typeIn K (.ref fI)=some (.type "function")->FnAt g h0 f (.ref fI)->ly g h0 K x f
section
variable {g:Gd} {h0:Heap} {mb:Gv} {Fs:List Addr} {Z:Zm} {as:List Addr} {O:B} {A:Around} {s:Shared} {env:Env} {sc:Scope} {n:Nat} {K:Frag} {Γ:Ctx}
theorem Nj {c:Code} (hw:c.weight=1) (he:c.envs=[]) (hu:c.cUnits=1) (F:Fm A Fs env sc false) (rm:Rm A (n+1)):Fm (A.under c) Fs env sc false/\(A.under c).depth+4*n+9<recursionLimit/\(A.under c).units+20*n+103<cLine:=by
 obtain ⟨hh,hf,dP,eX,fo⟩:=F.full rfl;refine ⟨⟨F.scope,F.kind,F.glob,F.blt,F.mem,fun _=>⟨hh,hf,dP,?_,fo⟩⟩,?_,?_⟩
 ·show pushEnvs c.envs A.frames=_;rw [he,eX];rfl
 ·show A.depth+c.weight+_+_<_;have:=rm.d;exact ae [_,_,_,_] [] [.e (.v 1) (.n 1),.lt (.p (.p (.v 0) (.m 4 (.p (.v 2) (.n 1)))) (.n 8)) (.v 3)] (.lt (.p (.p (.p (.v 0) (.v 1)) (.m 4 (.v 2))) (.n 9)) (.v 3)) rfl hw this
 ·show A.units+c.cUnits+_+_<_;have:=rm.u;exact ae [_,_,_,_] [] [.e (.v 1) (.n 1),.lt (.p (.p (.v 0) (.m 20 (.p (.v 2) (.n 1)))) (.n 100)) (.v 3)] (.lt (.p (.p (.p (.v 0) (.v 1)) (.m 20 (.v 2))) (.n 103)) (.v 3)) rfl hu this
theorem K3 (T:Tx g h0 mb Γ.fns) (dD:Tc g h0) (NL:h0.NoLimit) (X:K.In h0) (SC:gF g h0 n Γ.C) {x:Str} {f:Fn} (CA:ly g h0 K x f) {v:Value} (hv:g.mg x=some v) (F:Fm A Fs env sc false) (rm:Rm A (n+1)) {args:List V} {ai:List Value}
 (S:St g h0 Fs Z as O s.heap) (rs:aO g Z as args ai) (af:lg (dj Γ f) x args O≠ .stuck):
 wpAny (model g.prog g.w) A (call v ai) (PV g h0 Fs Z as s (lg (dj Γ f) x args O)) (PE g h0 Fs Z as s (lg (dj Γ f) x args O)) s:=by
 obtain ⟨Ca,fI,c1,c2,c3,c4,FA⟩:=CA;rw [c1] at hv;obtain rfl:=Option.some.inj hv;obtain ⟨h,gg,dr,tk,os⟩:=s;dsimp only at S;have dT:∀b o,h0.get? b=some o->h.get? b=some o:=fun b o e=>(S.bN b o (S.base b o e)).1;have X':K.In h:=fun b o e=>dT b o (X b o e);refine wpAny_call (make_core (makes_of X' c2) (looks_findIn X' c3) (fun self=>bind_fn X' self c4) (.inl rfl) ?_);have vq:h.get? h.objs.size=none:=dg h;have k1:∀b o,h.get? b=some o->(h.push emptyDict).get? b=some o:=fun b o e=>Heap.get?_push_of_some _ e;have uM:(h.push emptyDict).get? h.objs.size=some emptyDict:=Heap.get?_push_size _ rfl;have G1:=Go.alloc (ao:=.ns []) S vq k1 uM ⟨fun _=>none,Heap.Ns1.of_empty ⟨_,#[],_,uM,rfl,fun e he=>absurd he (by simp),fun _=>rfl⟩,fun y v e=>(by exact al e),Within.nil⟩;have cZ:(h.push emptyDict).objs.size=h.objs.size+1:=Heap.size_push ..;have A6:(h.push emptyDict).get? (h.objs.size+1)=none:=by rw [<- cZ];exact dg _
 have AX:((h.push emptyDict).push (instObj Ca h.objs.size)).get? (h.objs.size+1)=some (instObj Ca h.objs.size):=by rw [<- cZ];exact Heap.get?_push_size _ rfl
 have nd:az (as++[h.objs.size]) O.length=some h.objs.size:=by rw [<- S.len];exact mw _ _
 have G2:=Go.alloc (ao:=.inst x O.length) G1.st A6 (fun b o e=>Heap.get?_push_of_some _ e) AX ⟨Ca,h.objs.size,c1,o_ (bI.append _ _) nd,AX⟩;have GG:=G1.trans G2;have e1:as++[h.objs.size]++[h.objs.size+1]=as++[h.objs.size,h.objs.size+1]:=by simp
 have e2:O++[aZ.ns []]++[aZ.inst x O.length]=O++[.ns [],.inst x O.length]:=by simp
 rw [e1,e2] at GG;have nx:az (as++[h.objs.size,h.objs.size+1]) (O.length+1)=some (h.objs.size+1):=by
  rw [<- e1];have:O.length+1=(as++[h.objs.size]).length:=by simp [S.len]
  rw [this];exact mw _ _
 refine fw (Nj (c:=.builtin "type.__call__" ⟨.ref Ca::ai,[]⟩) (CY Ca ai) (by kernel_rfl) (by kernel_rfl) F rm ) fun F' Jg Ou=>?_;unfold lg at af ⊢;have qf:aO g Z (as++[h.objs.size,h.objs.size+1]) (.loc (O.length+1)::args) (.ref (h.objs.size+1)::ai):=.cons (.loc nx) (rs.mono (bW.refl _) (bI.append _ _));refine codeAny_mono (Er (s:=⟨(h.push emptyDict).push (instObj Ca h.objs.size),gg,dr,tk,os⟩) T dD NL SC FA F' Jg Ou GG.st qf (iq af)) fun r s' z=>?_;induction r using Except.casesOn with
 |error e=>exact PE.trans (s:=⟨h,gg,dr,tk,os⟩) S GG (PE.bind z)
 |ok fl=>
  induction fl using Flow.casesOn with
  |ret v=>
   obtain ⟨w',σ',h',bO,Z',aL,e3,rfl,G3,rv⟩:=z;rw [e3,mU] at af ⊢;induction w' using V.casesOn with
   |none=>
    cases rv;exact ⟨rfl,_,σ',h',bO,Z',aL,rfl,rfl,GG.trans G3,.loc (o_ G3.pre nx)⟩
   |_=>exact absurd rfl af
  |_=>exact z.elim
end
theorem km {α:Type} {r:R α} {a:α} {O:B} (h:quiet r=.ok a O):r=.ok a O:=by
 induction r using R.casesOn with
 |ok b τ=>exact h
 |_=>cases h
theorem ky {α β:Type} {r:R α} {k:α->B->R β} {b:β} {O:B} (h:r.bind k=.ok b O):∃a τ,r=.ok a τ/\k a τ=.ok b O:=by
 induction r using R.casesOn with
 |ok a τ=>exact ⟨a,τ,rfl,h⟩
 |_=>cases h
section
variable {g:Gd} {h0:Heap} {mb:Gv} {Fs:List Addr} {Z ak:Zm} {as aj:List Addr} {O σ₁ bn pM:B} {A:Around} {s:Shared} {J:Loc} {env ev bD:Env} {sc:Scope} {n:Nat} {C:eK} {ag:Heap} {tk:Nat}
noncomputable abbrev Gives (g:Gd) (h0:Heap) (A:Around) (Fs:List Addr) (Z:Zm) (as:List Addr) (s:Shared) (t:Sem Value) (v:V) (σ':B):Prop:=
 wpAny (model g.prog g.w) A t (PV g h0 Fs Z as s (.ok v σ')) (fun _ _=>False) s
theorem nA {l r:Expr} {op:Operator} {p:Pos} {a b u:V} (hl:Gives g h0 A Fs Z as s (eval l bD) a σ₁) (hr:∀ag tk ak aj,Go g h0 Fs Z as s.heap ak aj σ₁ ag->Gives g h0 A Fs ak aj {s with heap:=ag,toks:=tk} (eval r bD) b bn) (e:ct op a b bn=.ok u pM):
 Gives g h0 A Fs Z as s (eval (.BinOp l op r p) bD) u pM:=by
 refine wpAny_BinOp (wpAny_mono hl (fun va bG x=>?_) fun _ _ x=>x);obtain ⟨a',Uc,ag,tk,ak,aj,e1,rfl,G,ra⟩:=x;refine aK (R.ok.inj e1 ) ?_;rintro rfl rfl;refine wpAny_mono (hr ag tk ak aj G) (fun vb hW x=>?_) fun _ _ x=>x;obtain ⟨b',Uk,aM,bE,bj,bM,e2,rfl,aS,rb⟩:=x;refine aK (R.ok.inj e2 ) ?_;rintro rfl rfl;have:=Bz (A:=A) (E:=fun _ _=>False) (s:={s with heap:=aM,toks:=bE}) (op:=op) aS.st (ra.mono aS.bz aS.pre) rb (by rw [e];intro z;cases z);rw [e] at this;exact wpAny_mono this (fun _ _ y=>PV.trans (s:=s) (G.trans aS) y) fun _ _ y=>y
theorem sG {i:Int} {k:Nat} {p:Pos} (S:St g h0 Fs Z as O s.heap):Gives g h0 A Fs Z as s (eval (.Constant (.int i) k p) bD) (.int i) O:=
 wpAny_Constant_int ⟨_,O,s.heap,_,Z,as,rfl,rfl,Go.refl S,.int _ _⟩
theorem Br {f:Value} {x:Str} {pos:Pos} {trees:List (Bool×Sem Value)} {vs:List V} {v:V} (SC:gF g h0 n C) (hf:g.mg x=some f) (F:Fm A Fs ev sc false) (rm:Rm A n) (ht:(trees.any (·.1))=false)
 (ha:wpAny (model g.prog g.w) A (evalArgs f true trees []) (fun a s'=>a.kw=[]/\∃h' tk Z' aL,s'={s with heap:=h',toks:=tk} /\ Go g h0 Fs Z as s.heap Z' aL σ₁ h'/\aO g Z' aL vs a.pos) (fun _ _=>False) s) (e:C x vs σ₁=.ok v bn):
 Gives g h0 A Fs Z as s (callWith pos f [] trees []) v bn:=by
 have af:C x vs σ₁≠ .stuck:=by rw [e];intro z;cases z
 refine callWith_of (P:=PK g f) (by rw [ht];rfl) (fun _ x=>x) (wpAny_mono ha (fun a s' x=>?_) fun _ _ x=>x);obtain ⟨hk,h',tk,Z',aL,rfl,G,rs⟩:=x;refine aK (SC hf af ) fun k1 k2=>?_;refine ⟨k1 _ G.st.keeps,?_⟩;rw [hk];have:=k2 (s:={s with heap:=h',toks:=tk}) F rm G.st rs;rw [e] at this;exact wpAny_mono this (fun _ _ y=>PV.trans G y) fun _ _ y=>uj rfl y
noncomputable def zQ:Expr:=.BinOp (.Constant (.int 14) 0 ⟨543,40,543,42⟩) .Add (.BinOp (.Name "i" ⟨543,45,543,46⟩) .Mod (.Constant (.int 8) 0 ⟨543,49,543,50⟩) ⟨543,45,543,50⟩) ⟨543,40,543,50⟩
noncomputable def wQ:Expr:=.Call (.Name "_law_cell" ⟨543,22,543,31⟩) [.Name "script" ⟨543,32,543,38⟩,zQ] [] ⟨543,22,543,51⟩
noncomputable def Gh:Expr:=.BinOp (.BinOp (.BinOp wQ .Add (.BinOp (.Constant (.int 5) 0 ⟨543,54,543,55⟩) .Mult (.Name "i" ⟨543,58,543,59⟩) ⟨543,54,543,59⟩) ⟨543,22,543,59⟩) .Add (.BinOp (.Constant (.int 3) 0 ⟨543,62,543,63⟩) .Mult (.Name "turn" ⟨543,66,543,70⟩) ⟨543,62,543,70⟩) ⟨543,22,543,70⟩) .Add (.Constant (.int 1) 0 ⟨543,73,543,74⟩) ⟨543,22,543,74⟩
noncomputable def z8:Expr:=.Call (.Name "_law_text" ⟨543,12,543,21⟩) [Gh] [] ⟨543,12,543,75⟩
noncomputable def oN:List (Str×NameKind):=[(".0",.local),("i",.local),("_law_text",.globalImplicit),("_law_cell",.globalImplicit),("script",.free),("turn",.free)]
noncomputable def fm:Scope:=⟨.function,oN,false,false,[]⟩
noncomputable def R1:Expr:=.Call (.Name "range" ⟨543,85,543,90⟩) [.Name "depth" ⟨543,91,543,96⟩] [] ⟨543,85,543,97⟩
noncomputable def B4:Comprehension:=⟨.Name "i" ⟨543,80,543,81⟩,R1,[],0⟩
noncomputable def uL:Expr:=.ListComp z8 [B4] fm ⟨543,11,543,98⟩
structure Ax (g:Gd) (bD:Env) (aQ:Scope) (c1 c2:Addr):Prop where
 kind:bD.scope.kind=.function
 scope:bD.scope=aQ
 glob:bD.globals=mainGlobals
 text:bD.kindOf "_law_text" = some .globalImplicit
 cell:bD.kindOf "_law_cell" = some .globalImplicit
 script:bD.kindOf "script" = some .cell
 turn:bD.kindOf "turn" = some .cell
 idx:bD.kindOf "i" = some .local
 Mi:bD.cells.lookup ("script" : Str)=some c1
 J9:bD.cells.lookup ("turn" : Str)=some c2
structure nB (g:Gd) (Z:Zm) (as:List Addr) (c1 c2:Addr) (script:V) (turn:Int):Prop where
 one:∃o sv,Z c1=some o/\o.data=.cell (some sv)/\RV g Z as script sv
 two:∃o t,Z c2=some o/\o.data=.cell (some (.int turn t))
theorem nB.mono {c1 c2:Addr} {script:V} {turn:Int} (x:nB g Z as c1 c2 script turn) (zl:bW Z ak) (pr:bI as aj):nB g ak aj c1 c2 script turn:=
 let ⟨o,sv,a,b,c⟩:=x.one;let ⟨o2,t,d,e⟩:=x.two;⟨⟨o,sv,zl _ _ a,b,c.mono zl pr⟩,⟨o2,t,zl _ _ d,e⟩⟩
theorem HM {aQ:Scope} {c1 c2:Addr} {script:V} {turn:Int} {i:Nat} {v:V} {vt vc:Value}
 (T:h0.Ns mainGlobals g.mg) (SC:gF g h0 n C) (vD:g.mg "_law_text" = some vt) (ul:g.mg "_law_cell" = some vc) (F:Fm A Fs ev sc false) (rm:Rm A n) (E:Ax g bD aQ c1 c2) (hm:bD.locals∈Fs)
 (S:St g h0 Fs Z as O s.heap) (lo:aW g Z as [("i",.int (Int.ofNat i))] bD s.heap) (ce:nB g Z as c1 c2 script turn) (er:iy C script turn i O=.ok v σ₁):
 Gives g h0 A Fs Z as s (eval z8 bD) v σ₁:=by
 unfold iy at er;refine b_ (ky er ) fun a1 UA e1 er=>?_;refine b_ (ky er ) fun a2 Au e2 er=>?_;refine b_ (ky er ) fun a3 EF e3 er=>?_;refine b_ (ky er ) fun a4 UI e4 er=>?_;refine b_ (ky er ) fun a5 Uh e5 er=>?_;refine b_ (ky er ) fun a6 Ug e6 er=>?_;refine b_ (ky er ) fun a7 Uo e7 er=>?_;refine b_ (ky er ) fun a8 Fj e8 er=>?_;have e1:=km e1;have e2:=km e2;have e3:=km e3;have e4:=km e4;have e5:=km e5;have e6:=km e6;have e7:=km e7;have e8:=km e8
 have er:=km er;have idx:∀ {Z' aL σ' p} {s':Shared},St g h0 Fs Z' aL σ' s'.heap->aW g Z' aL [("i",.int (Int.ofNat i))] bD s'.heap->Gives g h0 A Fs Z' aL s' (eval (.Name "i" p) bD) (.int (Int.ofNat i)) σ':=fun {Z' aL σ' p s'} S' l'=>by
  refine aw l' ?_;clear l';intro m hn r;refine aw (r "i" (.int (Int.ofNat i)) (by kernel_rfl) ) fun val v1 v2=>?_;exact wpAny_Name (wpAny_loadName_local E.kind E.idx hn v1 (cg (tk:=s'.toks) S' v2)) (by decide+kernel)
 have glob:∀ {Z' aL σ' x p f} {s':Shared} {Q:Value->Shared->Prop},St g h0 Fs Z' aL σ' s'.heap->g.mg x=some f->bD.kindOf x=some .globalImplicit->(x==("__debug__" : Str))=false->Q f s'->wpAny (model g.prog g.w) A (eval (.Name x p) bD) Q (fun _ _=>False) s':=fun S' hv hk hd hq=>
  Name_function_global E.kind hk (loadGlobal_global (by rw [E.glob];exact T.keeps S'.keeps) hv hq) hd
 have tL:∀ {Z' aL σ' h' qE AY yX jM},St g h0 Fs Z' aL σ' h'->Go g h0 Fs Z' aL h' qE AY yX jM->aW g Z' aL [("i",.int (Int.ofNat i))] bD h'->aW g qE AY [("i",.int (Int.ofNat i))] bD jM:=fun S' G l=>l.go S' hm G;have RM:∀ {Z' aL σ' p} {s':Shared},St g h0 Fs Z' aL σ' s'.heap->nB g Z' aL c1 c2 script turn->Gives g h0 A Fs Z' aL s' (eval (.Name "script" p) bD) script σ':=fun {Z' aL σ' p s'} S' c=>by
  refine i_ c.one fun o sv x1 x2 x3=>?_;exact wpAny_Name (wpAny_loadName_cell E.kind E.script E.Mi ⟨o,(S'.bN _ _ x1).1,x2⟩ (cg (tk:=s'.toks) S' x3)) (by decide+kernel)
 have Qb:∀ {Z' aL σ' p} {s':Shared},St g h0 Fs Z' aL σ' s'.heap->nB g Z' aL c1 c2 script turn->Gives g h0 A Fs Z' aL s' (eval (.Name "turn" p) bD) (.int turn) σ':=fun {Z' aL σ' p s'} S' c=>by
  refine b_ c.two fun o t x1 x2=>?_;exact wpAny_Name (wpAny_loadName_cell E.kind E.turn E.J9 ⟨o,(S'.bN _ _ x1).1,x2⟩ (cg (tk:=s'.toks) S' (.int _ _))) (by decide+kernel)
 have L4:∀ {Z' aL} {s':Shared},St g h0 Fs Z' aL O s'.heap->aW g Z' aL [("i",.int (Int.ofNat i))] bD s'.heap->
  Gives g h0 A Fs Z' aL s' (eval zQ bD) a2 Au:=fun S' l'=>
  nA (sG S') (fun ag tk ak aj G=>nA (idx G.st (tL S' G l')) (fun aM bE bj bM aS=>sG aS.st) e1) e2
 have Hr:Gives g h0 A Fs Z as s (eval wQ bD) a3 EF:=by
  unfold wQ;rw [wz (fun _ _ _ z=>by cases z)];refine wpAny_bind (glob S ul E.cell (by decide+kernel) ?_);show Gives g h0 A Fs Z as s (callWith ⟨543,22,543,51⟩ vc [] [(false,eval (.Name "script" ⟨543,32,543,38⟩) bD),(false,eval zQ bD)] []) a3 EF;refine Br (vs:=[script,a2]) (σ₁:=Au) SC ul F rm rfl (evalArgs_plain (spliced_cons (wpAny_mono (RM S ce) (fun v1 bG x=>?_) fun _ _ x=>x))) e3;obtain ⟨b1,σ',ag,tk,ak,aj,x1,rfl,G,r1⟩:=x;refine aK (R.ok.inj x1 ) ?_;rintro rfl rfl;refine spliced_cons (wpAny_mono (L4 (s':={s with heap:=ag,toks:=tk}) G.st (tL S G lo)) (fun v2 hW x=>?_) fun _ _ x=>x);obtain ⟨b2,yX,aM,bE,bj,bM,x2,rfl,aS,r2⟩:=x;refine aK (R.ok.inj x2 ) ?_;rintro rfl rfl;exact wpAny_pure ⟨rfl,aM,bE,bj,bM,rfl,G.trans aS,.cons (r1.mono aS.bz aS.pre) (.cons r2 .nil)⟩
 have arg:Gives g h0 A Fs Z as s (eval Gh bD) a8 Fj:=
  nA (nA (nA Hr (fun ag tk ak aj G=>nA (sG G.st) (fun aM bE bj bM aS=>idx aS.st (tL G.st aS (tL S G lo))) e4) e5)
   (fun ag tk ak aj G=>nA (sG G.st) (fun aM bE bj bM aS=>Qb aS.st ((ce.mono G.bz G.pre).mono aS.bz aS.pre)) e6) e7)
   (fun ag tk ak aj G=>sG G.st) e8
 unfold z8;rw [wz (fun _ _ _ z=>by cases z)];refine wpAny_bind (glob S vD E.text (by decide+kernel) ?_);refine Br (trees:=[(false,eval _ bD)]) (vs:=[a8]) (σ₁:=Fj) SC vD F rm rfl (evalArgs_plain (spliced_cons (wpAny_mono arg (fun v1 bG x=>?_) fun _ _ x=>x))) er;obtain ⟨b1,σ',ag,tk,ak,aj,x1,rfl,G,r1⟩:=x;refine aK (R.ok.inj x1 ) ?_;rintro rfl rfl;exact wpAny_pure ⟨rfl,ag,tk,ak,aj,rfl,G,.cons r1 .nil⟩
end
section
variable {g:Gd} {h0:Heap} {Fs:List Addr} {Z:Zm} {as:List Addr} {A:Around} {s:Shared} {I:bQ} {n:Nat}
theorem Jy {K:List V->List V->B->R V} {el:V->B->R V} (Qk:∀acc O,K [] acc O=.ok (.lst acc) O) (MU:∀a l acc O,K (a::l) acc O=(el a O).bind fun v O=>K l (acc++[v]) O) {C D It:Addr} {bD:Env} {aQ HF:Scope} {x:Str} {px pos:Pos} {bC iter:Expr} {R':Result->Shared->Prop}
 (F:Fm A (C::Fs) bD aQ true) (lB:bD.locals=C) (hx:aQ.names.lookup x=some .local) (Hy:aQ.kind=.function)
 {l:List V} {fp:List Addr} {P:Nat->Value->Prop} {bF:Nat->Heap->Prop} {gD:Zm} {g7:List Addr} {g':B} {g6:Heap} {sB:Nat}
 (nC:s.heap.get? C=none) (nD:s.heap.get? D=none) (nI:s.heap.get? It=none) (gv:D≠C) (ju:It≠C) (la:It≠D) (ot:D∉Fs) (sy:It∉Fs)
 (W:Walks g.prog g.w A It fp [It] l.length P bF) (ex:∀i h,bF i h->∃o,h.get? It=some o)
 {rV:List V} {c_:B} (dZ:K l [] g'=.ok (.lst rV) c_)
 (cZ:l.length<=sizeLine) (Ih:∀ {i:Nat} {a v:V} {O σ':B} {Z:Zm} {as:List Addr} {s':Shared},az l i=some a->el a O=.ok v σ'->St g h0 (C::Fs) Z as O s'.heap->aW g Z as [(x,a)] bD s'.heap->bW gD Z->bI g7 as->Gives g h0 A (C::Fs) Z as s' (eval bC bD) v σ')
 (qx:Go g h0 (C::Fs) Z as s.heap gD g7 g' g6) (qO:bF 0 g6) (zD:gD D=none) (aD:D∉g7) (zI:gD It=none) (aI:It∉g7) (m₀:Gv) (m9:g6.Ns C m₀) (sr:IsL g6 D #[] 0)
 (kC:∀b∈fp,b≠It->∃o,gD b=some o) (j0:∀i v',P i v'->∃x,az l i=some x/\RV g gD g7 x v')
 (i6:∀ag tk ak aj items kk m,Go g h0 (C::Fs) Z as s.heap ak aj c_ ag->ag.Ns C m->IsL ag D items kk->aO g ak aj rV items.toList->ak D=none->D∉aj->R' (.ok .next) {s with heap:=ag,toks:=tk}):
 codeAny (model g.prog g.w) A (.compLoop (.ListComp bC [⟨.Name x px,iter,[],0⟩] HF pos) 0 (.ref It) (.ref D) bD) R' {s with heap:=g6,toks:=sB}:=by
 subst lB;have K':Lk g (bD.locals::Fs) A s.heap bD.locals D It fp P bF l:=⟨nC,nD,nI,gv,ju,la,.head _,fun q=>(List.mem_cons.mp q).elim gv ot,fun q=>(List.mem_cons.mp q).elim ju sy,W,ex⟩
 have eQ:bD.kindOf x=some .local:=by rw [ou F,pD];exact hx
 refine codeAny_compLoop_tests (yR g h0 (bD.locals::Fs) Z as s bD.locals D It fp P bF l fun i lj hS Zc asc=>K (l.drop i) lj hS=.ok (.lst rV) c_/\lj.length=i/\bW gD Zc/\bI g7 asc) ?_ (l.length+1)
  ⟨0,#[],[],g',gD,g7,g6,sB,rfl,⟨qx,qO,zD,aD,zI,aI,⟨_,m9⟩,⟨_,sr⟩,.nil,kC,j0⟩,⟨dZ,rfl,bW.refl _,bI.refl _⟩,Nat.zero_le _,rfl⟩
 clear m9 sr qx qO zD aD zI aI kC j0 nC nD nI gv ju la ot sy ex dZ;rintro k s' ⟨i,items,lj,hS,Zc,asc,h',tk,rfl,L,⟨dZ,B1,E1,Fp⟩,hi,rfl⟩;by_cases eG:i<l.length
 ·refine W.item i _ _ _ eG L.st fun v' ag dR p fV d_=>?_;refine aw (L.val i v' p ) fun a ea ra=>?_;rw [u7 ea,MU] at dZ;have L:=L.item K' fV fun b o hb e=>d_ b o (fun q=>hb (List.mem_singleton.mp q)) e;refine aB L.hn fun m sJ=>?_;refine wpAny_assign_Name (wpAny_storeName_local eQ sJ (fun aM nX qR=>?_) (by rw [F.scope,F.kind];rfl));have L:=L.store K' nX fun b o hb e=>(qR.2 b hb).trans e;have lo:=FH nX ra;clear d_ fV p sJ nX qR ra;refine wpAny_pure ?_;rw [if_pos rfl];refine b_ (ky dZ ) fun v HG ev dZ=>?_;refine wpAny_mono (Ih (s':={s with heap:=aM,toks:=dR+1}) ea ev L.G.st lo E1 Fp) (fun val Ir pg=>?_) fun _ _ x=>x.elim;obtain ⟨v1,Pr,gO,n9,z9,xY,e4,rfl,G4,rv⟩:=pg;refine aK (R.ok.inj e4 ) ?_;rintro rfl rfl;have lo:=lo.go L.G.st F.mem G4;have L:=L.run K' G4 (let ⟨m,a,_⟩:=lo;⟨m,a⟩);refine aB L.hL fun kk hL=>?_;refine DS (s:={s with heap:=gO,toks:=n9}) hL (by rw [<- Array.length_toList,<- L.rA.length,B1];exact Nat.le_trans (Nat.le_of_lt eG) cZ) ?_;exact ⟨l.length+1-(i+1),uw eG,i+1,items.push val,lj++[v],_,z9,xY,_,n9,rfl,L.push K' rv,⟨dZ,by simp [B1],E1.trans G4.bz,Fp.trans G4.pre⟩,eG,rfl⟩
 ·obtain rfl:i=l.length:=Nat.le_antisymm hi (Nat.le_of_not_lt eG);rw [List.drop_length,Qk] at dZ;cases dZ;refine W.done _ _ _ L.st fun ag dR d_=>?_;obtain ⟨G,⟨m,hn⟩,kk,hL⟩:=L.kept K' fun b o hb e=>d_ b o (fun q=>hb (List.mem_singleton.mp q)) e;exact i6 ag dR Zc asc items kk m G hn hL L.rA L.zD L.aD
end
noncomputable def rJ:List (Str×NameKind):=[("script",.cell),("depth",.local),("turn",.cell),("range",.globalImplicit)]
inductive uE (g:Gd) (h0:Heap) (mb:Gv) (v:Value):Prop
 |mk (fa:Addr) (o:Obj) (fd:FuncData):v=.ref fa->h0.get? fa=some o->o.data=.func fd->fd.globals=mainGlobals->fd.builtins=builtinsNs->
 h0.CodeRec fd.code fd.qualname->fd.scope.isCoroutine=false->fd.scope.isGenerator=false->fd.scope.kind=.function->fd.scope.names=rJ->fd.closure=[]->
 gC fd.params->fd.params.args.map (·.arg)=[("script" : Str),"depth","turn"]->fd.defaults=.none->g.mg "range" = none->mb "range" = some (.type "range")->(∃vt,g.mg "_law_text" = some vt)->(∃vc,g.mg "_law_cell" = some vc)->
 fd.body=.stmts [.Return (some uL) ⟨543,4,543,98⟩]->uE g h0 mb v
noncomputable def oH (el:V->B->R V):List V->List V->B->R V
 | [],acc,O=>.ok (.lst acc) O
 |a::l,acc,O=>(el a O).bind fun v O=>oH el l (acc++[v]) O
noncomputable def uc (C:eK) (script:V) (turn:Int):V->B->R V
 |.int i,O=>iy C script turn i.toNat O
 |_,_=>.stuck
theorem OM (C:eK) (script:V) (turn:Int) (n:Nat):∀(i:Nat) (acc:List V) (O:B),j5 C script turn n i acc O=oH (uc C script turn) ((List.range' i n).map fun k=>.int (Int.ofNat k)) acc O:=by
 induction n with
 |zero=>exact fun _ _ _=>rfl
 |succ n ih=>exact fun i acc O=>congrArg ((iy C script turn i O).bind) (funext fun v=>funext fun τ=>ih (i+1) (acc++[v]) τ)
theorem Nu {el:V->B->R V} (he:∀a O f τ,el a O≠ .exc f τ) {l:List V}:∀ {acc:List V} {O:B},oH el l acc O≠ .stuck->∃r τ,oH el l acc O=.ok (.lst r) τ:=by
 induction l with
 |nil=>exact fun {acc O} _=>⟨acc,O,rfl⟩
 |cons a l ih=>
  intro acc O h;have h:(el a O).bind _≠R.stuck:=h;show ∃r τ,(el a O).bind (fun v O=>oH el l (acc++[v]) O)=R.ok (V.lst r) τ;generalize e:el a O=zc;induction zc using R.casesOn with
  |ok v τ=>rw [e] at h;exact ih h
  |exc f τ=>exact absurd e (he _ _ _ _)
  |stuck=>rw [e] at h;exact absurd rfl h
theorem k8 {α:Type} {r:R α} {f:aR} {O:B}:quiet r≠ .exc f O:=by induction r using R.casesOn<;>(intro z;cases z)
theorem l8 {α β:Type} {r:R α} {k:α->B->R β} (h1:∀f O,r≠ .exc f O) (h2:∀a O f τ,k a O≠ .exc f τ):∀f O,r.bind k≠ .exc f O:=by
 intro f O;induction r using R.casesOn with
 |ok a τ=>exact h2 _ _ _ _
 |exc f' τ=>exact absurd rfl (h1 f' τ)
 |stuck=>intro z;cases z
theorem KE (C:eK) (script:V) (turn:Int) (i:Nat) (O:B) (f:aR) (τ:B):iy C script turn i O≠ .exc f τ:=by
 unfold iy
 revert f τ
 refine l8 (fun _ _=>k8) fun _ _=>?_;refine l8 (fun _ _=>k8) fun _ _=>?_;refine l8 (fun _ _=>k8) fun _ _=>?_;refine l8 (fun _ _=>k8) fun _ _=>?_;refine l8 (fun _ _=>k8) fun _ _=>?_;refine l8 (fun _ _=>k8) fun _ _=>?_;refine l8 (fun _ _=>k8) fun _ _=>?_;refine l8 (fun _ _=>k8) fun _ _=>?_;exact fun _ _=>k8
theorem Ha (C:eK) (script:V) (turn:Int) (a:V) (O:B) (f:aR) (τ:B):uc C script turn a O≠ .exc f τ:=by
 induction a using V.casesOn with
 |int i=>exact KE _ _ _ _ _ _ _
 |_=>intro z;cases z
section
variable {g:Gd} {h0:Heap} {mb:Gv} {Fs:List Addr} {Z ak:Zm} {as aj:List Addr} {O σ₁:B} {A:Around} {s:Shared} {env:Env} {sc:Scope} {q:Bool} {n:Nat} {C:eK}
theorem iL.more {l:List Env} {L:Addr} (fo:iL Fs l):iL (L::Fs) l:=fun e' he'=>by
 obtain ⟨a1,L',a2,a3⟩:=fo e' he';exact ⟨a1,L',a2,.tail _ a3⟩
theorem Fm.more {L:Addr} (F:Fm A Fs env sc q):Fm A (L::Fs) env sc q:=⟨F.scope,F.kind,F.glob,F.blt,.tail _ F.mem,fun z=>by
 obtain ⟨a,b,dP,c,d⟩:=F.full z;exact ⟨a,b,dP,c,d.more⟩⟩
theorem PL {aQ:Scope} {ev:Env} {c1 c2:Addr} (h:aQ.names=oN) (h1:ev.cells.lookup ("script" : Str)=some c1) (h2:ev.cells.lookup ("turn" : Str)=some c2):
 closureFor aQ ev=pure [(("turn" : Str),c2),("script",c1)]:=by
 unfold closureFor;rw [h];unfold oN cellOf;simp only [List.forIn_cons,List.forIn_nil,h1,h2];rfl
theorem OX (T:Tx g h0 mb (fun _=>false)) (dD:Tc g h0) (F:Fm A Fs env sc false) (rm:Rm A n) (hs:sc.names=rJ) {d:Int} (hd:0<=d) (i7:d<=1000) {r2 r3 r4:Pos} (S:St g h0 Fs Z as O s.heap) (lo:aW g Z as [("depth",.int d)] env s.heap):
 wpAny (model g.prog g.w) A (eval (.Call (.Name "range" r2) [.Name "depth" r3] [] r4) env) (PV g h0 Fs Z as s (R.ok (V.rng d) O)) (fun _ _=>False) s:=by
 have IY:gF g h0 n (fun _ _ _=>.stuck):=fun _ h=>absurd rfl h;have hR:(ev ⟨fun _ _ _=>.stuck,0,fun _=>false⟩ 3).e false sc (.Call (.Name "range" r2) [.Name "depth" r3] [] r4) [("depth",.int d)] O=R.ok (V.rng d) O:=by
  have h1:(ev ⟨fun _ _ _=>.stuck,0,fun _=>false⟩ 3).e false sc (.Call (.Name "range" r2) [.Name "depth" r3] [] r4) [("depth",.int d)] O=cM (.type "range") [.int d] O:=by
   obtain ⟨k,UL,_⟩:=sc;dsimp only at hs;subst hs;kernel_rfl
  rw [h1];have h2:(decide (0<=d)&&decide (d<=1000000))=true:=by
   rw [Bool.and_eq_true,decide_eq_true_eq,decide_eq_true_eq];omega
  show (bif decide (0<=d)&&decide (d<=1000000) then R.ok (V.rng d) O else .stuck)=_;rw [h2];rfl
 have:=(u' T dD IY 3).e (e:=.Call (.Name "range" r2) [.Name "depth" r3] [] r4) F rm S lo (by rw [hR];intro z;cases z);rw [hR] at this;exact wpAny_mono this (fun _ _ y=>y) fun _ _ y=>uj rfl y
end
section
variable {g:Gd} {h0:Heap} {mb:Gv} {Fs:List Addr} {Z ak:Zm} {as aj:List Addr} {O σ₁:B} {A:Around} {s:Shared} {env:Env} {sc:Scope} {q:Bool} {n:Nat} {C:eK} {fns:Str->Bool}
set_option tactic.hygienic true in
inductive Bx (C:eK) (args:List V) (O:B):Prop
 |mk (script:V) (d t:Int):args=[script,.int d,.int t]->0<=d->d<=1000->i5 C args O=j5 C script t d.toNat 0 [] O->Bx C args O
theorem LJ {args:List V} (h:i5 C args O≠ .stuck):Bx C args O:=by
 have q:=Af C args O;rw [q] at h;obtain ⟨p,e0,h,q0⟩:=ci h;obtain ⟨d,e1,h,q1⟩:=ci h;obtain ⟨t,e2,h,q2⟩:=ci h;obtain ⟨c,q3⟩:=eP h;have c:=Bool.and_eq_true_iff.mp c;exact ⟨p.1,d,t,by rw [Iz e0,nE e1,nE e2],of_decide_eq_true c.1,of_decide_eq_true c.2,q.trans (q0.trans (q1.trans (q2.trans q3)))⟩
theorem RU (T:Tx g h0 mb fns) (dD:Tc g h0) (NL:h0.NoLimit) (SC:gF g h0 n C) {v:Value} (SA:uE g h0 mb v) (F:Fm A Fs env sc false) (rm:Rm A (n+1)) {args:List V} {ai:List Value}
 (S:St g h0 Fs Z as O s.heap) (rs:aO g Z as args ai) (af:i5 C args O≠ .stuck):
 wpAny (model g.prog g.w) A (call v ai) (PV g h0 Fs Z as s (i5 C args O)) (PE g h0 Fs Z as s (i5 C args O)) s:=by
 obtain ⟨fa,o,fd,rfl,ho,z0,ss,cO,ji,zK,yf,hk,pA,M5,GS,RN,Io,UJ,T8,⟨vt,vD⟩,⟨vc,ul⟩,zh⟩:=SA;obtain ⟨script,d,turn,rfl,vq,Dq,e⟩:=LJ af;have ck:fm.kind=.function:=rfl;have cn:fm.names=oN:=rfl;rw [e,OM] at af ⊢;rw [<- List.range_eq_range'] at af ⊢;refine eO (Nu (Ha C script turn) af ) fun rV c_ eL=>?_;rw [eL];obtain ⟨hh,nM,dP,eX,fo⟩:=F.full rfl;have dT:∀b o,h0.get? b=some o->s.heap.get? b=some o:=fun b o e=>(S.bN b o (S.base b o e)).1;cases rs with
 |@cons _ sv _ _ RI rs=>
 cases rs with
 |cons rd rs=>
 cases rs with
 |cons rt rs=>
 cases rs;cases rd with
 |int _ t1=>
 cases rt with
 |int _ t2=>
 refine wpAny_call (codeAny_call_cells (by have:=rm.d;exact ae [_,_,_] [] [.lt (.p (.p (.v 0) (.m 4 (.p (.v 2) (.n 1)))) (.n 8)) (.v 1)] (.lt (.v 0) (.v 1)) rfl this) (dT _ _ ho) z0 (NL.keeps dT) (ji.keeps dT) zh (CL GS RN Io (by decide+kernel) rfl) M5 (fun x hx=>?_) (fun bG x=>?_) zK yf hk)
 ·rw [pA];simp only [List.zip_cons_cons,List.zip_nil_left,List.mem_cons,List.not_mem_nil,or_false] at hx;rcases hx with rfl|rfl|rfl
  ·exact .inr ⟨by kernel_rfl,by kernel_rfl⟩
  ·exact .inl (by kernel_rfl)
  ·exact .inr ⟨by kernel_rfl,by kernel_rfl⟩
 have ef:(callEnvC fd s.heap.objs.size fa).frame=some s.heap.objs.size:=by rfl
 have el:(callEnvC fd s.heap.objs.size fa).locals=s.heap.objs.size:=rfl;have es:(callEnvC fd s.heap.objs.size fa).scope=fd.scope:=rfl;have eg:(callEnvC fd s.heap.objs.size fa).globals=fd.globals:=rfl;have qX:(callEnvC fd s.heap.objs.size fa).builtins=fd.builtins:=rfl;have ec:(callEnvC fd s.heap.objs.size fa).cells=cellsFrom (s.heap.objs.size+1) rJ []:=by rw [<- pA];rfl
 have ek:(callEnvC fd s.heap.objs.size fa).kindOf=fun x=>rJ.lookup x:=by
  funext x
  show fd.scope.names.lookup x=_;rw [pA]
 have mD:bindL (callEnvC fd s.heap.objs.size fa).kindOf ([("script" : Str),"depth","turn"].zip [sv,.int d t1,.int turn t2]) (fun _=>none) "depth" = some (.int d t1):=by
  rw [ek];kernel_rfl
 have mS:bindC (callEnvC fd s.heap.objs.size fa).kindOf ([("script" : Str),"depth","turn"].zip [sv,.int d t1,.int turn t2]) (fun _=>none) "script" = some sv:=by
  rw [ek];kernel_rfl
 have mT:bindC (callEnvC fd s.heap.objs.size fa).kindOf ([("script" : Str),"depth","turn"].zip [sv,.int d t1,.int turn t2]) (fun _=>none) "turn" = some (.int turn t2):=by
  rw [ek];kernel_rfl
 have lS:(callEnvC fd s.heap.objs.size fa).cells.lookup ("script" : Str)=some (s.heap.objs.size+1):=by rw [ec];kernel_rfl
 have lT:(callEnvC fd s.heap.objs.size fa).cells.lookup ("turn" : Str)=some (s.heap.objs.size+1+1):=by rw [ec];kernel_rfl
 have cS:=x.cell _ _ lS;have cT:=x.cell _ _ lT;rw [mS] at cS;rw [mT] at cT;have dY:=x.toInCall.ns;refine b_ x.done ?_;rintro ag dR rfl d_;clear x;generalize T7:bindL (callEnvC fd s.heap.objs.size fa).kindOf _ _=mL at dY mD;rw [el] at dY;generalize hE:callEnvC fd s.heap.objs.size fa=cq at*;generalize nN:s.heap.objs.size=L at*;have fE:s.heap.get? L=none:=by rw [<- nN];exact dg _
 have Pm:s.heap.get? (L+1)=none:=Heap.get?_none_of_le (by exact ae [_,_] [] [.e (.v 0) (.v 1)] (.le (.v 0) (.p (.v 1) (.n 1))) rfl nN);have kb:s.heap.get? (L+1+1)=none:=Heap.get?_none_of_le (by exact ae [_,_] [] [.e (.v 0) (.v 1)] (.le (.v 0) (.p (.p (.v 1) (.n 1)) (.n 1))) rfl nN);refine aw cS ?_;clear cS;intro oS Dh O_;refine aw cT ?_;clear cT;intro oT BF Qw;refine dW (id dY ) fun oL uQ pK gJ nQ _=>?_;dsimp only at Dh BF gJ dY;have n1:L+1+1≠L+1:=Nat.succ_ne_self _;have n2:L≠L+1+1:=Nat.ne_of_lt (Nat.lt_succ_of_lt (Nat.lt_succ_self _));have n3:L≠L+1:=Nat.ne_of_lt (Nat.lt_succ_self _);have zT:bp Z (L+1) oS (L+1+1)=none:=by unfold bp;rw [if_neg n1];exact S.fresh kb
 have zL:bp (bp Z (L+1) oS) (L+1+1) oT L=none:=by unfold bp;rw [if_neg n2,if_neg n3];exact S.fresh fE
 have G3:=((Go.frozen S Pm d_ Dh).seal kb zT (S.gu kb) (S.fD kb) BF).into fE zL (S.fD fE) gJ nQ;have Qt:bp (bp Z (L+1) oS) (L+1+1) oT (L+1)=some oS:=by unfold bp;rw [if_neg n1.symm,if_pos rfl]
 have L_:bp (bp Z (L+1) oS) (L+1+1) oT (L+1+1)=some oT:=bp.at;generalize UE:bp (bp Z (L+1) oS) (L+1+1) oT=Z3 at*;have ce:nB g Z3 as (L+1) (L+1+1) script turn:=⟨⟨oS,sv,Qt,O_,RI.mono G3.bz G3.pre⟩,⟨oT,t2,L_,Qw⟩⟩
 have nY:aW g Z3 as [("depth",.int d)] cq ag:=⟨mL,by rw [el];exact dY,fun y w e=>by
  rw [lE] at e;by_cases q:("depth" : Str)=y
  ·subst q;rw [cH (bY.mpr rfl)] at e;obtain rfl:=Option.some.inj e;exact ⟨_,mD,.int _ _⟩
  ·rw [gy (gq.mpr q)] at e;exact al e⟩
 have uS:iL (L::Fs) (cq::env::dP):=fun e' he'=>by
  rcases List.mem_cons.mp he' with rfl|he'
  ·exact ⟨(by rw [es,hk];intro z;exact ScopeKind.noConfusion z),L,ef,List.mem_cons_self ..⟩
  ·exact (iL.more fo) e' he'
 have t3:(A.deeper cq).frames=some (cq::env::dP):=by
  show A.frames.map (cq:: ·)=_;rw [eX];rfl
 have F':Fm (A.deeper cq) (L::Fs) cq fd.scope false:=⟨es,hk,eg.trans ss,qX.trans cO,by rw [el];exact .head _,fun _=>⟨hh,by rw [ef,el],_,t3,uS⟩⟩
 have nZ:Rm (A.deeper cq) n:=⟨by show A.depth+1+_+_<_;have:=rm.d;exact ae [_,_,_] [] [.lt (.p (.p (.v 0) (.m 4 (.p (.v 1) (.n 1)))) (.n 8)) (.v 2)] (.lt (.p (.p (.p (.v 0) (.n 1)) (.m 4 (.v 1))) (.n 8)) (.v 2)) rfl this,by show A.units+3+_+_<_;have:=rm.u;exact ae [_,_,_] [] [.lt (.p (.p (.v 0) (.m 20 (.p (.v 1) (.n 1)))) (.n 100)) (.v 2)] (.lt (.p (.p (.p (.v 0) (.n 3)) (.m 20 (.v 1))) (.n 100)) (.v 2)) rfl this⟩
 have TT:Tx g h0 mb (fun _=>false):=⟨T.gl,T.bl,fun _ h=>(nomatch h),T.bis,T.Gz⟩
 have sw:wpAny (model g.prog g.w) (A.deeper cq) (eval uL cq)
  (PV g h0 Fs Z as s (.ok (.lst rV) c_)) (fun _ _=>False) {s with heap:=ag,toks:=dR}:=by
  unfold uL;rw [eval_ListComp];have cl:∀x∈fm.names,x.2=.local->fm.names.lookup x.1=some .local:=fun x hx q=>by
   rw [cn] at hx ⊢;simp only [oN,List.mem_cons,List.not_mem_nil,or_false] at hx;rcases hx with rfl|rfl|rfl|rfl|rfl|rfl
   ·kernel_rfl
   ·kernel_rfl
   ·cases q
   ·cases q
   ·cases q
   ·cases q
  have cc:∀x∈fm.names,x.2≠ .cell:=fun x hx q=>by
   rw [cn] at hx;simp only [oN,List.mem_cons,List.not_mem_nil,or_false] at hx;rcases hx with rfl|rfl|rfl|rfl|rfl|rfl<;>cases q
  refine wpAny_comprehension_free (g:=B4) (gs:=[]) rfl (fun y=>rfl) (PL cn lS lT) ck cl
   (wpAny_mono (OX (s:={s with heap:=ag,toks:=dR}) TT dD F' nZ pA vq Dq G3.st nY) (fun vi bG pv=>?_) fun _ _ y=>y)
  obtain ⟨v,σ₁,aM,bE,bj,bM,e1,rfl,G,rv⟩:=pv;refine aK (R.ok.inj e1 ) ?_;rintro rfl rfl;have e2:fk (.rng d) O=some ((List.range d.toNat).map fun k=>.int (Int.ofNat k),O):=by
   have h2:(decide (0<=d)&&decide (d<=1000000))=true:=by
    rw [Bool.and_eq_true,decide_eq_true_eq,decide_eq_true_eq];lia
   show (bif decide (0<=d)&&decide (d<=1000000) then some _ else none)=_;rw [h2];rfl
  refine xi (s:={s with heap:=aM,toks:=bE}) (F'.full rfl).1 G.st rv e2 fun cu lP It fp P bF aS qY bV=>?_;have GG:=(G3.trans G).trans aS;refine aB (bV.ex _ _ bV.st ) fun oI iV=>?_;have fH:=GG.st;unfold newList;refine wpAny_newObj_type ?_ (by show 0<=_;exact Nat.zero_le _);refine wpAny_newFunctionEnv cc (fun y hy=>(nomatch hy)) (fun fA mY ng=>?_) ck;dsimp only at mY ng ⊢;generalize hD:cu.objs.size=D at*;have ix:cu.get? D=none:=by rw [<- hD];exact dg _
  generalize hC:(cu.push {cls:=.type "list",data:=.seq ([]:List Value).toArray}).objs.size=Cf at*;have qc:Cf=D+1:=by rw [<- hC,<- hD];exact Heap.size_push ..
  have g9:cu.get? Cf=none:=Heap.get?_none_of_le (by rw [hD,qc];exact Nat.le_succ _);have Mf:(cu.push {cls:=.type "list",data:=.seq ([]:List Value).toArray}).get? Cf=none:=by rw [<- hC];exact dg _
  have gv:D≠Cf:=by rw [qc];exact Nat.ne_of_lt (Nat.lt_succ_self _)
  have keep:∀b o,cu.get? b=some o->fA.get? b=some o:=fun b o e=>by
   have hb:b≠Cf:=fun q=>by rw [q,g9] at e;exact al e
   exact (ng.2 b hb).trans (jA b o (jA b o e))
  have An:fA.get? D=some (gV #[] 0):=by
   refine (ng.2 D gv).trans (jA D _ ?_);rw [<- hD];exact Heap.get?_push_size _ rfl
  have q_:=GG.trans (Go.keeps fH keep);refine dW (id mY ) fun oC HA Kj rS qD _=>?_;have zC:=fH.fresh g9;have aC:=fH.fD g9;have zD:=fH.fresh ix;have aD:=fH.fD ix;have nC:=Go.gw S (GG.jE fE) Cf g9;have nD:=Go.gw S (GG.jE fE) D ix;have nI:=Go.gw S ((G3.trans G).jE fE) It qY;have mB:=q_.into nC zC aC rS qD;have ju:It≠Cf:=fun q=>by rw [q,g9] at iV;exact al iV
  have la:It≠D:=fun q=>by rw [q,ix] at iV;exact al iV
  have qw:bF 0 fA:=bV.walk.frame _ _ _ bV.st fun b _ o e=>keep b o e;have rn:(relabel fm cq).names=[((".0" : Str),.local),("i",.local),("_law_text",.globalImplicit),("_law_cell",.globalImplicit),("script",.cell),("turn",.cell)]:=by
   have:(relabel fm cq).names=fm.names.map (fun (n,k)=>if (k==.free&&cq.scope.kind==.function&&cq.kindOf n==some .cell) then (n,.cell) else (n,k)):=rfl;rw [this,cn,es,hk,ek];kernel_rfl
  generalize vR:({newEnv fm Cf cq.globals [(("turn" : Str),L+1+1),("script",L+1)] cq.qual none .none (some cq) builtinsNs with scope:=relabel fm cq}:Env)=bD;have F2:Fm (A.deeper cq) (Cf::L::Fs) bD (relabel fm cq) true:=by
   subst vR;exact ⟨rfl,ck,F'.glob,F'.blt,List.mem_cons_self ..,fun z=>(nomatch z)⟩
  have CE:Ax g bD (relabel fm cq) (L+1) (L+1+1):=by
   subst vR;refine ⟨ck,rfl,F'.glob,?_,?_,?_,?_,?_,?_,?_⟩
   ·show (relabel fm cq).names.lookup _=_;rw [rn];kernel_rfl
   ·show (relabel fm cq).names.lookup _=_;rw [rn];kernel_rfl
   ·show (relabel fm cq).names.lookup _=_;rw [rn];kernel_rfl
   ·show (relabel fm cq).names.lookup _=_;rw [rn];kernel_rfl
   ·show (relabel fm cq).names.lookup _=_;rw [rn];kernel_rfl
   ·show List.lookup _ [(("turn" : Str),L+1+1),("script",L+1)]=_;kernel_rfl
   ·show List.lookup _ [(("turn" : Str),L+1+1),("script",L+1)]=_;kernel_rfl
  have lB:bD.locals=Cf:=by subst vR;rfl
  have cZ:((List.range d.toNat).map fun k=>V.int (Int.ofNat k)).length<=sizeLine:=by
   rw [List.length_map,List.length_range,sizeLine_eq];exact ae [_] [_] [.aJ (.w 0) (.k 1000),.ie (.c (.v 0)) (.w 0)] (.le (.v 0) (.n 16777216)) rfl Dq (Int.toNat_of_nonneg (ae [] [_] [.aJ (.k 0) (.w 0)] (.aJ (.k 0) (.w 0)) rfl vq))
  have KZ:h0.Ns mainGlobals g.mg:=T.gl;have key:∀bO,codeAny (model g.prog g.w) (A.deeper cq) (.compLoop uL 0 (.ref It) (.ref D) bD)
   (compPost (model g.prog g.w) (A.deeper cq) (fun _ _=>False) none (PV g h0 Fs Z as s (R.ok (V.lst rV) c_)) (.ref D) bD.locals) {s with heap:=fA,toks:=bO}:=fun bO=>by
   refine Jy (s:=s) (K:=oH (uc C script turn)) (el:=uc C script turn) (fun _ _=>rfl) (fun _ _ _ _=>rfl) F2 lB (by rw [rn];kernel_rfl) ck nC nD nI gv ju la (fH.gu ix) bV.f bV.walk bV.ex eL cZ
    (fun {i a v' τ Ue Zi TV s'} ea er Si PI O9 JK=>?_) mB qw zD aD bV.z bV.a _ mY An bV.fp bV.val ?_
   ·have eG:=gI ea;rw [vL,fJ] at ea;rw [List.length_map,List.length_range] at eG;rw [List.getElem?_range eG] at ea;obtain rfl:=Option.some.inj ea;have F3:Fm (A.deeper cq) (Cf::L::Fs) cq fd.scope false:=F'.more;have TP:=(ce.mono (G.trans aS).bz (G.trans aS).pre).mono O9 JK;exact HM KZ SC vD ul F3 nZ CE (by rw [lB];exact .head _) Si PI TP er
   ·intro uA v7 pk sN items kk m mP yN uF zU uk xa;refine ⟨m,by rw [lB];exact yN,fun h' sb=>?_⟩;rw [lB] at sb;have xD:Cf∉sN:=fun q=>(mP.st.off Cf q).1 (List.mem_cons_self ..);have Ai:pk Cf=none:=by
     generalize q:pk Cf=zc;induction zc using aA with
     |none=>rfl
     |some o=>exact absurd (List.mem_cons_self ..) (mP.st.bN Cf o q).2
    have Jx:D∉L::Fs:=fH.gu ix;have PU:D∉Fs:=fun q=>Jx (.tail _ q);have G8:=(((mP.jE nC).loose nC Ai (fH.gu g9) xD fun b o hb e=>(sb.2 b hb).trans e).jE fE).seal nD uk PU xa ((sb.2 D gv).trans uF);exact ⟨.lst rV,c_,h',v7,_,sN,rfl,rfl,G8,.lst bp.at (zU.mono (bp.le uk) (bI.refl _))⟩
  have Uy:bD.locals=bD.locals:=rfl;subst vR;exact codeAny_compStart_list (key _) (bV.walk.self 0 _ _ _ qw (key _))
 refine wpAny_execs_cons (wpAny_Return_some (wpAny_mono sw (fun val s' y=>?_) fun _ _ y=>y.elim));exact y
end
structure uP (g:Gd) (h0:Heap) (mb:Gv) (K:Frag) (P:lq):Prop where
 T:Tx g h0 mb P.names
 tc:Tc g h0
 nl:h0.NoLimit
 X:K.In h0
 raised:vp g h0 K mb
 stack:∀v,g.mg "_law_stack" = some v->uE g h0 mb v
 cls:∀x i f,P.cls x=some i->P.fn i=some f->ly g h0 K x f
 fn:∀x f v,P.fn x=some f->P.cls x=none->seq x "Raised" = false->seq x "_law_stack" = false->g.mg x=some v->FnAt g h0 f v
 keep:∀x v,(seq x "Raised" || seq x "_law_stack" || (P.fn x).isSome||(P.cls x).isSome)=true->g.mg x=some v->keepIn K v=true
section
variable {g:Gd} {h0:Heap} {mb:Gv} {K:Frag} {P:lq}
theorem QV (dh:uP g h0 mb K P) (W n:Nat) (ih:gF g h0 n (dA P W n)):gF g h0 (n+1) (dA P W (n+1)):=by
 intro x args O v hv af;have zZ:gF g h0 n (⟨dA P W n,W,P.names⟩:Ctx).C:=ih;have keep:(seq x "Raised" || seq x "_law_stack" || (P.fn x).isSome||(P.cls x).isSome)=true->∀(h:Heap),(∀b o,h0.get? b=some o->h.get? b=some o)->∃k,(k=Keeper.frame\/k=Keeper.machine\/k=Keeper.boundFrame)/\Looks (model g.prog g.w) h (keeperOf v) k:=
  fun q h hk=>keeps_K (dh.keep x v q hv) h (dh.X.keeps hk)
 unfold dA at af ⊢;generalize c1:seq x "Raised" = zc;induction zc using aN with
 |true=>
  rw [c1] at af;dsimp only [cond_true] at af ⊢;refine ⟨keep (by rw [c1];rfl),fun {A Fs env sc Z as s ai} F rm S rs=>?_⟩;rw [bY.mp c1] at hv;exact Mg dh.raised hv rm S rs af
 |false=>
 rw [c1] at af;dsimp only [cond_false] at af ⊢;generalize c2:seq x "_law_stack" = zc;induction zc using aN with
 |true=>
  rw [c2] at af;dsimp only [cond_true] at af ⊢;refine ⟨keep (by rw [c1,c2];rfl),fun {A Fs env sc Z as s ai} F rm S rs=>?_⟩;rw [bY.mp c2] at hv;exact RU dh.T dh.tc dh.nl ih (dh.stack v hv) F rm S rs af
 |false=>
 rw [c2] at af;dsimp only [cond_false] at af ⊢;generalize c3:P.cls x=zc;induction zc using aA with
 |some i=>
  rw [c3] at af;dsimp only at af ⊢;generalize c4:P.fn i=zc;induction zc using aA with
  |none=>rw [c4] at af;exact absurd rfl af
  |some f=>
   rw [c4] at af;dsimp only at af ⊢;refine ⟨keep (by rw [c3];simp),fun {A Fs env sc Z as s ai} F rm S rs=>?_⟩;exact K3 (Γ:=⟨dA P W n,W,P.names⟩) dh.T dh.tc dh.nl dh.X zZ (dh.cls x i f c3 c4) hv F rm S rs af
 |none=>
 rw [c3] at af;dsimp only at af ⊢;generalize c4:P.fn x=zc;induction zc using aA with
 |none=>rw [c4] at af;exact absurd rfl af
 |some f=>
  rw [c4] at af;dsimp only at af ⊢;refine ⟨keep (by rw [c4];simp),fun {A Fs env sc Z as s ai} F rm S rs=>?_⟩;have FA:=dh.fn x f v c4 c3 c1 c2 hv;generalize c5:f.pure=zc;induction zc using aN with
  |false=>
   rw [c5] at af;dsimp only [cond_false] at af ⊢;exact E5 (Γ:=⟨dA P W n,W,P.names⟩) dh.T dh.tc dh.nl zZ FA F rm S rs af
  |true=>
   rw [c5] at af;dsimp only [cond_true] at af ⊢;exact M3 S rs (fun as O args S rs af=>E5 (Γ:=⟨dA P W n,W,P.names⟩) dh.T dh.tc dh.nl zZ FA F rm S rs af) af
theorem Et (dh:uP g h0 mb K P) (W:Nat):∀n,gF g h0 n (dA P W n)
 | 0=>fun _ h=>absurd rfl h
 |n+1=>QV dh W n (Et dh W n)
end
noncomputable def jc:Value->Option Str
 |.str y _=>some y
 |_=>none
noncomputable def y':Value->Option Addr
 |.ref a=>some a
 |_=>none
noncomputable def D':PySem.Data->Option (List DictEntry)
 |.dict es _=>some es.toList
 |_=>none
noncomputable def GA:PySem.Data->Option (List Value)
 |.fields vs=>some vs.toList
 |_=>none
noncomputable def FT:PySem.Data->Option FuncData
 |.func fd=>some fd
 |_=>none
noncomputable def Ev (T:String):Value->Bool
 |.type t=>t==T
 |_=>false
noncomputable def mh (l:List DictEntry):Bool:=l.all fun e=>(jc e.key).isSome
noncomputable def iH (K:Frag) (a:Addr):Option (List DictEntry):=cJ (K.lookup a) fun o=>D' o.data
noncomputable def dB (x:Str):List DictEntry->Option Value
 | []=>none
 |e::r=>d0 (jc e.key) (fun y=>bif seq y x then some e.val else dB x r) (dB x r)
noncomputable def fdOf (K:Frag) (a:Addr):Option FuncData:=cJ (K.lookup a) fun o=>bif Ev "function" o.cls then FT o.data else none
noncomputable def Dn (K:Frag) (cd:Value) (q:Str):Bool:=d0 (cJ (y' cd) fun c=>cJ (K.lookup c) fun o=>cJ (GA o.data) fun vs=>cJ (az vs 1) jc) (fun y=>seq y q) false
noncomputable def pU (p:Arguments):Bool:=p.posonlyargs.isEmpty&&p.kwonlyargs.isEmpty&&p.vararg.isNone&&p.kwarg.isNone
noncomputable def pP:NameKind->Bool
 |.cell=>false
 |_=>true
noncomputable def n8 (K:Frag) (fd:FuncData):Bool:=Nat.beq fd.globals mainGlobals&&Nat.beq fd.builtins builtinsNs&&Dn K fd.code fd.qualname&& !fd.scope.isCoroutine&& !fd.scope.isGenerator&&zH fd.scope.kind
noncomputable def pw:List Str->List Str->Bool
 | [],l=>l.isEmpty
 |a::as,l=>match l with
  | []=>false
  |b::bs=>seq a b&&pw as bs
noncomputable def yt:Value->Bool
 |.none=>true
 |_=>false
noncomputable def E8 (fd:FuncData) (ps:List Str):Bool:=pU fd.params&&pw (fd.params.args.map (·.arg)) ps&&im ps
noncomputable def mn (fd:FuncData) (ps:List Str):Bool:=ps.all fun x=>qS (fu x fd.scope.names)
theorem sk (a:List Str):∀ {b:List Str},pw a b=true->a=b:=by
 induction a with
 |nil=>exact fun h=>(List.isEmpty_iff.mp h).symm
 |cons a as ih=>
  intro b h;induction b using bh with
  |nil=>exact ff h
  |cons b bs=>
   have h:=Bool.and_eq_true_iff.mp h;rw [bY.mp h.1,ih h.2]
theorem GX {o:Option NameKind} (h:qS o=true):o=some .local:=by
 induction o using aA with
 |none=>exact ff h
 |some k=>induction k using NameKind.casesOn<;>first|rfl|exact ff h
theorem Tl (l:List Str):im l=true->l.Nodup:=by
 induction l with
 |nil=>exact fun _=>.nil
 |cons x r ih=>
  intro h;have h:=Bool.and_eq_true_iff.mp h;refine List.nodup_cons.mpr ⟨fun hm=>?_,ih h.2⟩;have k:(r.any fun y=>seq y x)=true:=List.any_eq_true.mpr ⟨x,hm,bY.mpr rfl⟩;have h1:=h.1;rw [k] at h1;exact ff h1
theorem yC {v:Value} {y:Str} (h:jc v=some y):∃t,v=.str y t:=by
 induction v using Value.casesOn with
 |str x t=>obtain rfl:=Option.some.inj h;exact ⟨t,rfl⟩
 |_=>exact al h
theorem BZ {v:Value} {a:Addr} (h:y' v=some a):v=.ref a:=by
 induction v using Value.casesOn with
 |ref b=>obtain rfl:=Option.some.inj h;rfl
 |_=>exact al h
theorem Kx {d:PySem.Data} {l:List DictEntry} (h:D' d=some l):∃es ep,d=.dict es ep/\es.toList=l:=by
 induction d using PySem.Data.casesOn with
 |dict es ep=>exact ⟨es,ep,rfl,Option.some.inj h⟩
 |_=>exact al h
theorem O8 {d:PySem.Data} {l:List Value} (h:GA d=some l):∃vs,d=.fields vs/\vs.toList=l:=by
 induction d using PySem.Data.casesOn with
 |fields vs=>exact ⟨vs,rfl,Option.some.inj h⟩
 |_=>exact al h
theorem Kh {d:PySem.Data} {fd:FuncData} (h:FT d=some fd):d=.func fd:=by
 induction d using PySem.Data.casesOn with
 |func f=>obtain rfl:=Option.some.inj h;rfl
 |_=>exact al h
theorem Ol {T:String} {v:Value} (h:Ev T v=true):v=.type T:=by
 induction v using Value.casesOn with
 |type t=>rw [eq_of_beq (h:(t==T)=true)]
 |_=>exact ff h
theorem ry {p:Arguments} (h:pU p=true):gC p:=by
 unfold pU at h;simp only [Bool.and_eq_true,List.isEmpty_iff,Option.isNone_iff_eq_none] at h;exact ⟨h.1.1.1,h.1.1.2,h.1.2,h.2⟩
section
variable {g:Gd} {h0:Heap} {mb:Gv} {K:Frag} {P:lq}
theorem AU (es:Array DictEntry) (k:mh es.toList=true) (x:Str):nsFind es x=dB x es.toList:=by
 obtain ⟨l⟩:=es;unfold nsFind findBy;rw [List.find?_toArray];induction l with
 |nil=>rfl
 |cons e r ih=>
  have k:=Bool.and_eq_true_iff.mp (k:((jc e.key).isSome&&mh r)=true);refine aB (Option.isSome_iff_exists.mp k.1 ) fun y hy=>?_;refine aB (yC hy ) fun t ht=>?_;have h1:dB x (e::r)=bif seq y x then some e.val else dB x r:=by show d0 (jc e.key) _ _=_;rw [hy];rfl
  have h2:e.key.isStr x=seq y x:=by
   rw [ht,Bool.eq_iff_iff];exact Iff.trans beq_iff_eq bY.symm
  show Option.map _ (match e.key.isStr x with|true=>some e|false=>_)=_;rw [h1,h2];generalize seq y x=zc;induction zc using aN with
  |true=>rfl
  |false=>exact ih k.2
theorem L5 {es:Array DictEntry} (k:mh es.toList=true):StrKeys es:=fun e he=>by
 refine aB (Option.isSome_iff_exists.mp (List.all_eq_true.mp k e (Array.mem_def.mp he)) ) fun y hy=>?_;refine aB (yC hy ) fun t ht=>?_;exact ⟨y,t,ht⟩
inductive Ce (K:Frag) (N:Addr) (l:List DictEntry):Prop
 |mk (o:Obj) (es:Array DictEntry) (ep:Nat):K.lookup N=some o->o.data=.dict es ep->es.toList=l->Ce K N l
theorem C7 {N:Addr} {l:List DictEntry} (e:iH K N=some l):Ce K N l:=by
 obtain ⟨o,q,e⟩:=dp e;refine b_ (Kx e ) fun es ep h e=>?_;exact ⟨o,es,ep,q,h,e⟩
theorem NP (X:K.In h0) {N:Addr} {l:List DictEntry} (e:iH K N=some l) (k:mh l=true):h0.Ns N fun x=>dB x l:=by
 obtain ⟨o,es,ep,q,h,rfl⟩:=C7 e;exact ⟨o,es,ep,X _ _ q,h,L5 k,AU es k⟩
theorem Pj (X:K.In h0) {N:Addr} {l:List DictEntry} {m:Gv} (hn:h0.Ns N m) (e:iH K N=some l) (k:mh l=true) (x:Str):m x=dB x l:=by
 obtain ⟨o,es,ep,q,h,rfl⟩:=C7 e;refine Gq hn ?_;clear hn;intro o' iA B7 ho hd _ hf;obtain rfl:=Option.some.inj ((X _ _ q).symm.trans ho);refine aK (PySem.Data.dict.inj (h.symm.trans hd) ) ?_;rintro rfl rfl;rw [<- hf,AU es k]
theorem codeRec_of (X:K.In h0) {cd:Value} {q:Str} (h:Dn K cd q=true):h0.CodeRec cd q:=by
 generalize jZ h=zc;induction zc using il.casesOn with
 |none h=>exact ff h
 |some y e h=>
  obtain ⟨c,e0,e⟩:=dp e;obtain ⟨o,e1,e⟩:=dp e;obtain ⟨l,e2,e⟩:=dp e;obtain ⟨v,e3,e⟩:=dp e;refine aB (yC e ) ?_;rintro t rfl;refine aw (O8 e2 ) ?_;rintro vs hd rfl;rw [fJ,Array.getElem?_toList] at e3;exact ⟨c,o,vs,t,BZ e0,X _ _ e1,hd,by rw [e3,bY.mp h]⟩
inductive D8 (h0:Heap) (K:Frag) (a:Addr) (fd:FuncData):Prop
 |mk (o:Obj):h0.get? a=some o->o.data=.func fd->o.cls=.type "function" -> typeIn K (.ref a)=some (.type "function")->D8 h0 K a fd
theorem y7 (X:K.In h0) {a:Addr} {fd:FuncData} (e:fdOf K a=some fd):D8 h0 K a fd:=by
 obtain ⟨o,q,e⟩:=dp e;have k:=dJ fun z=>al (z.symm.trans e);have c:=Ol k;refine ⟨o,X _ _ q,Kh ((cH k).symm.trans e),c,?_⟩;show (K.lookup a).map (·.cls)=_;rw [q];exact congrArg some c
inductive Cy (h0:Heap) (fd:FuncData):Prop
 |mk:fd.globals=mainGlobals->fd.builtins=builtinsNs->h0.CodeRec fd.code fd.qualname->fd.scope.isCoroutine=false->fd.scope.isGenerator=false->fd.scope.kind=.function->Cy h0 fd
theorem rj {b:Bool} (h:(!b)=true):b=false:=by induction b using aN<;>first|rfl|exact ff h
theorem JE {k:ScopeKind} (h:zH k=true):k=.function:=by induction k using ScopeKind.casesOn<;>first|rfl|exact ff h
theorem z_ (X:K.In h0) {fd:FuncData} (h:n8 K fd=true):Cy h0 fd:=by
 have h:=Bool.and_eq_true_iff.mp h;have k:=Bool.and_eq_true_iff.mp h.1;have l:=Bool.and_eq_true_iff.mp k.1;have m:=Bool.and_eq_true_iff.mp l.1;have n:=Bool.and_eq_true_iff.mp m.1;exact ⟨Nat.eq_of_beq_eq_true n.1,Nat.eq_of_beq_eq_true n.2,codeRec_of X m.2,rj l.2,rj k.2,JE h.2⟩
theorem FK {l:List (Str×NameKind)} (h:l.all (fun p=>pP p.2)=true):∀x∈l,x.2≠ .cell:=fun x hx q=>by
 have:=List.all_eq_true.mp h x hx;rw [q] at this;exact ff this
theorem ti {fd:FuncData} {ps:List Str} (h:mn fd ps=true):∀x∈ps,fd.scope.names.lookup x=some .local:=fun x hx=>by
 rw [<- pD];exact GX (List.all_eq_true.mp h x hx)
theorem xE (X:K.In h0) {a:Addr} {fd:FuncData} {f:Fn} (e1:fdOf K a=some fd) (e2:fd.body=.stmts f.body) (e3:fd.scope=f.scope) (e4:n8 K fd=true) (e5:fd.scope.names.all (fun p=>pP p.2)=true) (hb:qN g h0 fd f):FnAt g h0 f (.ref a):=by
 obtain ⟨o,ho,hd,_,_⟩:=y7 X e1;obtain ⟨h1,h2,h3,h4,h5,h6⟩:=z_ X e4;exact ⟨a,o,fd,rfl,ho,hd,e2,e3,h1,h2,h3,h4,h5,h6,FK e5,hb⟩
theorem H5 {v:Value} (h:yt v=true):v=.none:=by induction v using Value.casesOn<;>first|rfl|exact ff h
theorem Rp (X:K.In h0) {a:Addr} {fd:FuncData} {f:Fn} (e1:fdOf K a=some fd) (e2:fd.body=.stmts f.body) (e3:fd.scope=f.scope) (e4:n8 K fd=true) (e5:fd.scope.names.all (fun p=>pP p.2)=true)
 (e6:E8 fd f.params=true) (e7:mn fd f.params=true) (e8:yt fd.defaults=true) (e9:f.h9=[]):FnAt g h0 f (.ref a):=by
 have e6:=Bool.and_eq_true_iff.mp e6;have e:=Bool.and_eq_true_iff.mp e6.1;exact xE X e1 e2 e3 e4 e5 (OB (ry e.1) (sk _ e.2) (H5 e8) e9 (Tl _ e6.2) (ti e7))
noncomputable def yk (K:Frag) (f:Fn) (fd:FuncData):Bool:=n8 K fd&&(fd.scope.names.all (fun p=>pP p.2)&&(E8 fd f.params&&(mn fd f.params&&(yt fd.defaults&&f.h9.isEmpty))))
inductive sA (K:Frag) (f:Fn) (a:Addr):Prop
 |mk (fd:FuncData):fdOf K a=some fd->fd.body=.stmts f.body->fd.scope=f.scope->yk K f fd=true->sA K f a
theorem wM (X:K.In h0) {f:Fn} {a:Addr} (h:sA K f a):FnAt g h0 f (.ref a):=by
 obtain ⟨fd,e1,e2,e3,e4⟩:=h;have h:=Bool.and_eq_true_iff.mp e4;have k:=Bool.and_eq_true_iff.mp h.2;have l:=Bool.and_eq_true_iff.mp k.2;have m:=Bool.and_eq_true_iff.mp l.2;have n:=Bool.and_eq_true_iff.mp m.2;exact Rp X e1 e2 e3 h.1 k.1 l.1 m.1 n.1 (List.isEmpty_iff.mp n.2)
theorem I7 {f:Fn} {a:Addr} (e:(fdOf K a).map (fun fd=>(fd.body,fd.scope))=some (.stmts f.body,f.scope)) (e4:(fdOf K a).any (yk K f)=true):sA K f a:=by
 generalize h:fdOf K a=zc;induction zc using aA with
 |none=>rw [h] at e;exact al e
 |some fd=>
  rw [h] at e e4;have e:=Prod.mk.inj (Option.some.inj e);exact ⟨fd,h,e.1,e.2,e4⟩
noncomputable def defNames:List Stmt->List Str
 | []=>[]
 |s::r=>d0 (defName s) (fun n=>n::defNames r) (defNames r)
theorem K6 {x:Str} (l:List Stmt):∀ {s:Stmt},theDefIn x l=some s->x∈defNames l:=by
 induction l with
 |nil=>exact fun h=>al h
 |cons t r ih=>
  intro s h;have q:theDefIn x (t::r)=d0 (defName t) (fun n=>bif seq n x then some t else theDefIn x r) (theDefIn x r):=rfl;show x∈d0 (defName t) (fun n=>n::defNames r) (defNames r);rw [q] at h;generalize e:defName t=zc;induction zc using aA with
  |none=>rw [e] at h;exact ih h
  |some n=>
   rw [e] at h;have h:(bif seq n x then some t else theDefIn x r)=some s:=h;generalize c:seq n x=zc;induction zc using aN with
   |true=>rw [<- bY.mp c];exact .head _
   |false=>rw [c] at h;exact .tail _ (ih h)
end
noncomputable def dz (x:Str):Fn:=match prog.fn x with
 |some f=>f
 |none=>⟨[],[],[],⟨.function,[],false,false,[]⟩,false⟩
noncomputable def kN:Nat->List Obj->Frag
 |_,[]=>[]
 |i,o::r=>bif o.isFreed then kN (i+1) r else (i,o)::kN (i+1) r
noncomputable def C5 (h:Heap):Frag:=kN 0 h.objs.toList
inductive yG (l:List Obj) (i a:Nat) (o:Obj):Prop
 |mk (j:Nat):a=i+j->l[j]?=some o->o.isFreed=false->yG l i a o
theorem Pt (l:List Obj):∀ {i a:Nat} {o:Obj},(kN i l).lookup a=some o->yG l i a o:=by
 induction l with
 |nil=>exact fun h=>al h
 |cons x r ih=>
  intro i a o h;have next:(kN (i+1) r).lookup a=some o->yG (x::r) i a o:=fun h=>by
   obtain ⟨j,e,q⟩:=ih h;exact ⟨j+1,e.trans (Nat.succ_add_eq_add_succ i j),q,‹_›⟩
  have e:kN i (x::r)=bif x.isFreed then kN (i+1) r else (i,x)::kN (i+1) r:=rfl;rw [e] at h;cases c:x.isFreed with
  |true=>rw [c] at h;exact next h
  |false=>
   rw [c] at h;have h:(match a==i with|true=>some x|false=>(kN (i+1) r).lookup a)=some o:=h;cases q:a==i with
   |true=>rw [q] at h;obtain rfl:=Option.some.inj h;exact ⟨0,eq_of_beq q,rfl,c⟩
   |false=>rw [q] at h;exact next h
theorem Sq (h:Heap):(C5 h).In h:=fun a o e=>by
 obtain ⟨j,rfl,e1,e2⟩:=Pt _ e;rw [Nat.zero_add];rw [Array.getElem?_toList] at e1;obtain ⟨c,d,x,sl⟩:=o;unfold Heap.get?;rw [e1];induction x using PySem.Data.casesOn<;>first|rfl|cases e2
noncomputable def nJ (K:Frag):List DictEntry:=(iH K mainGlobals).getD []
noncomputable def dY (K:Frag) (N:Addr):List DictEntry:=(iH K N).getD []
noncomputable def xI (l:List DictEntry) (x:Str) (a:Addr):Bool:=d0 (cJ (dB x l) y') (fun b=>Nat.beq b a) false
noncomputable def qC:Option Value->Bool
 |none=>true
 |some _=>false
noncomputable def Ak (ok:Str->Bool) (l:List DictEntry):Bool:=l.all fun e=>d0 (jc e.key) (fun y=>!ok y) true
noncomputable def jX:List (Str×Addr):=[(("is_blank" : Str),106),(("digit" : Str),113),(("digits_value" : Str),120),(("base_of" : Str),127),(("whole_of" : Str),134),(("bool_of" : Str),141),(("need_bool" : Str),148),(("text_of" : Str),155),(("hex_sign" : Str),162),(("octal_sign" : Str),169),(("backslash" : Str),176),(("check_behind" : Str),183),(("braced_element" : Str),190),(("quoted_element" : Str),197),(("bare_element" : Str),204),(("find_element" : Str),211),(("split_list" : Str),218),(("as_number" : Str),225),(("operand_fault" : Str),232),(("operand" : Str),239),(("unary" : Str),246),(("need_divisor" : Str),253),(("power" : Str),260),(("need_count" : Str),267),(("shifted_left" : Str),274),(("shifted_right" : Str),281),(("arithmetic" : Str),288),(("text_order" : Str),295),(("order_of" : Str),302),(("relation" : Str),309),(("binary" : Str),316),(("wanted" : Str),323),(("pushed" : Str),330),(("is_large" : Str),337),(("value_of" : Str),344),(("reckoned" : Str),351),(("folded" : Str),358),(("taken" : Str),407),(("op_push" : Str),414),(("op_pop" : Str),421),(("op_join" : Str),428),(("go" : Str),435),(("op_jump" : Str),442),(("op_jump_false" : Str),449),(("op_jump_true" : Str),456),(("op_unary" : Str),463),(("op_binary" : Str),470),(("op_truth" : Str),477),(("op_number" : Str),484),(("_law_cell" : Str),491),(("_law_text" : Str),498),(("_law_base" : Str),505),(("_law_second" : Str),512),(("_law_long" : Str),519),(("_law_piece" : Str),526),(("_law_many" : Str),533),(("_law_change" : Str),540),(("_law_ops" : Str),547),(("_law_done" : Str),554),(("_law_run" : Str),561),(("_law_is_long" : Str),568),(("_law_due" : Str),573),(("law" : Str),585)]
noncomputable def uu:List (Str×Addr):=[("Act.__init__",393),("Code.__init__",372)]
noncomputable def o6:List (Str×Addr):=[("error",99),("Raised",65),("Act",396),("Code",375),("Nest",86),("_law_stack",578)]
noncomputable def uq:List Str:=["len","ord","min","str","list","range","Exception","Act.__init__","Code.__init__","Nest.__init__"]
noncomputable def Ft:List Str:=["self","script","back","is_proc","label"]
noncomputable def Bj:List Str:=["self","code","value","errorcode","level","ret"]
noncomputable def wP:List Stmt:=match (qL "Raised" iR).bind fun b=>sR false (theDefIn "__init__" b) with
 |some f=>f.body
 |none=>[]
noncomputable def GZ:List Stmt:=match theDefIn "_law_stack" iR with
 |some (.FunctionDef _ _ b ..)=>b
 |_=>[]
noncomputable def xc (K:Frag) (fd:FuncData) (ps:List Str):Bool:=n8 K fd&&pU fd.params&&pw (fd.params.args.map (·.arg)) ps
noncomputable def t9 (K:Frag) (fd:FuncData) (ps:List Str):Bool:=xc K fd ps&&fd.scope.names.all (fun q=>pP q.2)
noncomputable def D1 (K:Frag) (p:Str×Addr):Bool:=(fdOf K p.2).any (yk K (dz p.1))
noncomputable def xK (ok:Str->Bool) (l:List DictEntry):Bool:=mh l&&(Ak ok l&&(qC (dB "__getattribute__" l)&&(qC (dB "__setattr__" l)&&qC (dB "__getattr__" l))))
noncomputable def MH (K:Frag) (p:Addr×(Str->Bool)):Bool:=(iH K p.1).any fun l=>xK p.2 l
noncomputable def vS (x:Str) (C N:Addr) (t1 t2:Tok):Obj:=excClassObj x x C N [.type "object"] [.type "object"] true [] [] false none none none none (some (.str x t1)) (some (.str x t2)) (some (.bool true)) "object.__new__"
noncomputable def SV:Obj:=excClassObj "Raised" "Raised" 65 64 [.type "Exception"] eE true [] [] false none none (some (.ref 47)) none (some (.str "Raised" 234)) (some (.str "Raised" 242)) (some (.bool true)) "Exception.__new__"
noncomputable def r1 (K:Frag):List (Option (FuncBody×Scope)):=(jX++uu).map fun p=>(fdOf K p.2).map fun fd=>(fd.body,fd.scope)
noncomputable def w1:List (Option (FuncBody×Scope)):=(jX++uu).map fun p=>some (.stmts (dz p.1).body,(dz p.1).scope)
noncomputable def r2 (K:Frag):List (Option Obj):=[92,91,76,55,396,375,86,65].map fun a=>K.lookup a
noncomputable def w2:List (Option Obj):=[some {cls:=.type "tuple",data:=.seq #[.ref 91]},some (m_ #[.str "NONE" 314] 0),some {cls:=.type "tuple",data:=.seq #[.none,.bool false,.str Str.empty 290]},
 some {cls:=.type "tuple",data:=.seq #[.ref 54,.int 0 247,.int 0 248]},some (vS "Act" 396 395 723 731),some (vS "Code" 375 374 684 692),some (vS "Nest" 86 85 278 286),some SV]
noncomputable def r3 (K:Frag):List (Option (FuncBody×Scope×Value)):=[99,83].map fun a=>(fdOf K a).map fun fd=>(fd.body,fd.scope,fd.defaults)
noncomputable def w3:List (Option (FuncBody×Scope×Value)):=[some (.stmts (dz "error").body,(dz "error").scope,.ref 92),some (.stmts (dz "Nest.__init__").body,(dz "Nest.__init__").scope,.ref 76)]
noncomputable def r4 (K:Frag):List (Option (Option Value)):=[396,375,86].map fun a=>findIn K (.ref a) "__init__"
noncomputable def w4:List (Option (Option Value)):=[some (some (.ref 393)),some (some (.ref 372)),some (some (.ref 83))]
noncomputable def r5 (K:Frag):List (Option Value):=[393,372,83].map fun a=>typeIn K (.ref a)
noncomputable def w5:List (Option Value):=[some (.type "function"),some (.type "function"),some (.type "function")]
noncomputable def r6 (K:Frag):Option (FuncBody×List (Str×NameKind)×List (Str×Addr)×Value):=(fdOf K 578).map fun fd=>(fd.body,fd.scope.names,fd.closure,fd.defaults)
noncomputable def w6:Option (FuncBody×List (Str×NameKind)×List (Str×Addr)×Value):=some (.stmts GZ,rJ,[],.none)
noncomputable def r7 (K:Frag):Option (FuncBody×Value×Option NameKind):=(fdOf K 62).map fun fd=>(fd.body,fd.defaults,fd.scope.names.lookup ("Exception" : Str))
noncomputable def w7:Option (FuncBody×Value×Option NameKind):=some (.stmts wP,.ref 55,some .globalImplicit)
noncomputable def r8 (K:Frag):Option CFound:=findCls K (.type "Exception") (.type "type") "__init__"
noncomputable def w8:Option CFound:=some (.val (.builtin "Exception.__init__"))
noncomputable def oE:List Str:= "Raised" :: "Act" :: "Code" :: "Nest" :: defNames iR
noncomputable def r9 (K:Frag):List Bool:=[(jX++uu).all (D1 K),(jX++o6).all (fun p=>xI (nJ K) p.1 p.2),uq.all (fun x=>qC (dB x (nJ K))),(iH K mainGlobals).any mh,
 (fdOf K 99).any (fun fd=>t9 K fd ["text","errorcode"]&&mn fd ["text","errorcode"]),(fdOf K 83).any (fun fd=>t9 K fd Ft&&mn fd Ft),
 (([395,374,85].map fun a=>(a,jU))++[(64,n4),(64,jj)]).all (MH K),xI (dY K 64) "__init__" 62,[396,375,86].all (fun a=>makesIn K a),
 (fdOf K 578).any (fun fd=>xc K fd ["script","depth","turn"]),(fdOf K 62).any (fun fd=>t9 K fd Bj&&mn fd js),
 oE.all (fun x=>d0 (dB x (nJ K)) (keepIn K) false)]
noncomputable def w9:List Bool:=[true,true,true,true,true,true,true,true,true,true,true,true]
structure Fx (K:Frag):Prop where
 f1:r1 K=w1
 f2:r2 K=w2
 f3:r3 K=w3
 f4:r4 K=w4
 f5:r5 K=w5
 f6:r6 K=w6
 f7:r7 K=w7
 f8:r8 K=w8
 f9:r9 K=w9
noncomputable def Eh (K:Frag):=(r1 K,r2 K,r3 K,r4 K,r5 K,r6 K,r7 K,r8 K,r9 K)
noncomputable def rN:=(w1,w2,w3,w4,w5,w6,w7,w8,w9)
theorem NN {K:Frag} (h:Eh K=rN):Fx K:=by
 have h:=Prod.mk.inj h;have a:=Prod.mk.inj h.2;have b:=Prod.mk.inj a.2;have c:=Prod.mk.inj b.2;have d:=Prod.mk.inj c.2;have e:=Prod.mk.inj d.2;have f:=Prod.mk.inj e.2;have g:=Prod.mk.inj f.2;exact ⟨h.1,a.1,b.1,c.1,d.1,e.1,f.1,g.1,g.2⟩
section
variable {s:Shared} {fd:FuncData} {T:Addr} {o:Obj} {n:Nat} {d1 d2 d3 v1 v2 v3 v4 v5:Value}
theorem RF (hp:gC fd.params) (ha:fd.params.args.map (·.arg)=[("text" : Str),"errorcode"]) (hd:fd.defaults=.ref T) (ho:s.heap.get? T=some o) (hs:o.data=.seq #[d1] n):
 BindsTo s fd ⟨[v1],[]⟩ [("text",v1),("errorcode",d1)]:=
 .of_defaults hd ho hs ((me hp ha).trans rfl) (by kernel_rfl)
theorem PF (hp:gC fd.params) (ha:fd.params.args.map (·.arg)=[("text" : Str),"errorcode"]) (hd:fd.defaults=.ref T) (ho:s.heap.get? T=some o) (hs:o.data=.seq #[d1] n):
 BindsTo s fd ⟨[v1,v2],[]⟩ [("text",v1),("errorcode",v2)]:=
 .of_defaults hd ho hs ((me hp ha).trans rfl) (by kernel_rfl)
theorem Kv (hp:gC fd.params) (ha:fd.params.args.map (·.arg)=[("self" : Str),"script","back","is_proc","label"]) (hd:fd.defaults=.ref T) (ho:s.heap.get? T=some o) (hs:o.data=.seq #[d1,d2,d3] n):
 BindsTo s fd ⟨[v1,v2],[]⟩ [("self",v1),("script",v2),("back",d1),("is_proc",d2),("label",d3)]:=
 .of_defaults hd ho hs ((me hp ha).trans rfl) (by kernel_rfl)
theorem QG (hp:gC fd.params) (ha:fd.params.args.map (·.arg)=[("self" : Str),"script","back","is_proc","label"]) (hd:fd.defaults=.ref T) (ho:s.heap.get? T=some o) (hs:o.data=.seq #[d1,d2,d3] n):
 BindsTo s fd ⟨[v1,v2,v3],[]⟩ [("self",v1),("script",v2),("back",v3),("is_proc",d2),("label",d3)]:=
 .of_defaults hd ho hs ((me hp ha).trans rfl) (by kernel_rfl)
theorem Lb (hp:gC fd.params) (ha:fd.params.args.map (·.arg)=[("self" : Str),"script","back","is_proc","label"]) (hd:fd.defaults=.ref T) (ho:s.heap.get? T=some o) (hs:o.data=.seq #[d1,d2,d3] n):
 BindsTo s fd ⟨[v1,v2,v3,v4],[]⟩ [("self",v1),("script",v2),("back",v3),("is_proc",v4),("label",d3)]:=
 .of_defaults hd ho hs ((me hp ha).trans rfl) (by kernel_rfl)
theorem Tk (hp:gC fd.params) (ha:fd.params.args.map (·.arg)=[("self" : Str),"script","back","is_proc","label"]) (hd:fd.defaults=.ref T) (ho:s.heap.get? T=some o) (hs:o.data=.seq #[d1,d2,d3] n):
 BindsTo s fd ⟨[v1,v2,v3,v4,v5],[]⟩ [("self",v1),("script",v2),("back",v3),("is_proc",v4),("label",v5)]:=
 .of_defaults hd ho hs ((me hp ha).trans rfl) (by kernel_rfl)
theorem Ky (hp:gC fd.params) (ha:fd.params.args.map (·.arg)=[("self" : Str),"code","value","errorcode","level","ret"]) (hd:fd.defaults=.ref T) (ho:s.heap.get? T=some o) (hs:o.data=.seq #[d1,d2,d3] n):
 BindsTo s fd ⟨[v1,v2,v3,v4],[]⟩ [("self",v1),("code",v2),("value",v3),("errorcode",v4),("level",d2),("ret",d3)]:=
 .of_defaults hd ho hs ((me hp ha).trans rfl) (by kernel_rfl)
end
section
variable {g:Gd} {h0:Heap} {mb:Gv} {Z:Zm} {as:List Addr} {K:Frag}
theorem Ez {ps:List Str} {L:List V} {vs:List Value} (hn:ps.Nodup) (rs:aO g Z as L vs) (hz:vs.length=ps.length):hV g Z as (ps.zip L) (fun x=>(ps.zip vs).reverse.lookup x):=fun x v e=>by
 refine aw (FE rs e ) fun val h1 h2=>?_;refine ⟨val,DA ?_ (List.mem_reverse.mpr h1),h2⟩;rw [List.map_reverse,map_fst_zip hz.symm];exact AZ hn
theorem Nr {fd:FuncData} {f:Fn} {T T2:Addr} {o:Obj} {n m:Nat} {t:Tok} (hp:gC fd.params) (ha:fd.params.args.map (·.arg)=[("text" : Str),"errorcode"]) (hd:fd.defaults=.ref T)
 (ho:h0.get? T=some o) (hs:o.data=.seq #[.ref T2] n) (hT:h0.get? T2=some (m_ #[.str "NONE" t] m)) (fp:f.params=[("text" : Str),"errorcode"]) (wp:f.h9=[.tup [.str "NONE"]])
 (hl:∀x∈([("text" : Str),"errorcode"]),fd.scope.names.lookup x=some .local):qN g h0 fd f:=by
 intro s Z as l ai J hk hz rs e;rw [fp,wp] at e;have hn:([("text" : Str),"errorcode"]).Nodup:=by decide+kernel
 have fin:∀ {v1 v2:Value} {b1 b2:V},RV g Z as b1 v1->RV g Z as b2 v2->BindsTo s fd ⟨ai,[]⟩ [("text",v1),("errorcode",v2)]->J=([("text",b1),("errorcode",b2)]:Loc)->
  ∃ei,BindsTo s fd ⟨ai,[]⟩ ei/\(∀x∈ei,fd.scope.names.lookup x.1=some .local)/\hV g Z as J (fun x=>ei.reverse.lookup x):=by
  intro v1 v2 b1 b2 r1 r2 hb hr;refine ⟨_,hb,fun x hx=>?_,?_⟩
  ·simp only [List.mem_cons,List.not_mem_nil,or_false] at hx;rcases hx with rfl|rfl
   ·exact hl _ (.head _)
   ·exact hl _ (.tail _ (.head _))
  ·rw [hr];exact Ez (ps:=["text","errorcode"]) (L:=[b1,b2]) (vs:=[v1,v2]) hn (.cons r1 (.cons r2 .nil)) rfl
 cases rs with
 |nil=>
  have q:eF [("text" : Str),"errorcode"] [] [.tup [.str "NONE"]]=none:=by kernel_rfl
  rw [q] at e;exact al e
 |@cons a w0 l0 u0 r1 rs=>
 cases rs with
 |nil=>
  have q:eF [("text" : Str),"errorcode"] [a] [.tup [.str "NONE"]]=some ([("text",a),("errorcode",.tup [.str "NONE"])]:Loc):=by kernel_rfl
  rw [q] at e;exact fin r1 (.tup (hz _ _ hT) (.cons (.str _ _) .nil)) (RF hp ha hd (hk _ _ ho) hs) (Option.some.inj e).symm
 |@cons b w1 l1 u1 r2 rs=>
 cases rs with
 |nil=>
  have q:eF [("text" : Str),"errorcode"] [a,b] [.tup [.str "NONE"]]=some ([("text",a),("errorcode",b)]:Loc):=by kernel_rfl
  rw [q] at e;exact fin r1 r2 (PF hp ha hd (hk _ _ ho) hs) (Option.some.inj e).symm
 |@cons c w2 l2 u2 r3 rs=>
  have q:eF [("text" : Str),"errorcode"] (a::b::c::l2) [.tup [.str "NONE"]]=none:=by kernel_rfl
  rw [q] at e;exact al e
theorem HJ {fd:FuncData} {f:Fn} {T:Addr} {o:Obj} {n:Nat} {t:Tok} (hp:gC fd.params) (ha:fd.params.args.map (·.arg)=[("self" : Str),"script","back","is_proc","label"]) (hd:fd.defaults=.ref T)
 (ho:h0.get? T=some o) (hs:o.data=.seq #[.none,.bool false,.str Str.empty t] n) (fp:f.params=[("self" : Str),"script","back","is_proc","label"]) (wp:f.h9=[.none,.bool false,.str Str.empty])
 (hl:∀x∈([("self" : Str),"script","back","is_proc","label"]),fd.scope.names.lookup x=some .local):qN g h0 fd f:=by
 intro s Z as l ai J hk hz rs e;rw [fp,wp] at e;have hn:([("self" : Str),"script","back","is_proc","label"]).Nodup:=by decide+kernel
 have fin:∀ {v1 v2 v3 v4 v5:Value} {b1 b2 b3 b4 b5:V},RV g Z as b1 v1->RV g Z as b2 v2->RV g Z as b3 v3->RV g Z as b4 v4->RV g Z as b5 v5->BindsTo s fd ⟨ai,[]⟩ [("self",v1),("script",v2),("back",v3),("is_proc",v4),("label",v5)]->
  J=([("self",b1),("script",b2),("back",b3),("is_proc",b4),("label",b5)]:Loc)->
  ∃ei,BindsTo s fd ⟨ai,[]⟩ ei/\(∀x∈ei,fd.scope.names.lookup x.1=some .local)/\hV g Z as J (fun x=>ei.reverse.lookup x):=by
  intro v1 v2 v3 v4 v5 b1 b2 b3 b4 b5 r1 r2 r3 r4 r5 hb hr;refine ⟨_,hb,fun x hx=>?_,?_⟩
  ·refine hl _ ?_;have:=List.mem_map_of_mem (f:=fun x:Str×Value=>x.1) hx;exact this
  ·rw [hr];exact Ez (ps:=["self","script","back","is_proc","label"]) (L:=[b1,b2,b3,b4,b5]) (vs:=[v1,v2,v3,v4,v5]) hn (.cons r1 (.cons r2 (.cons r3 (.cons r4 (.cons r5 .nil))))) rfl
 cases rs with
 |nil=>
  have q:eF [("self" : Str),"script","back","is_proc","label"] [] [.none,.bool false,.str Str.empty]=none:=by kernel_rfl
  rw [q] at e;exact al e
 |@cons a w0 l0 u0 r1 rs=>
 cases rs with
 |nil=>
  have q:eF [("self" : Str),"script","back","is_proc","label"] [a] [.none,.bool false,.str Str.empty]=none:=by kernel_rfl
  rw [q] at e;exact al e
 |@cons b w1 l1 u1 r2 rs=>
 cases rs with
 |nil=>
  have q:eF [("self" : Str),"script","back","is_proc","label"] [a,b] [.none,.bool false,.str Str.empty]=some ([("self",a),("script",b),("back",.none),("is_proc",.bool false),("label",.str Str.empty)]:Loc):=by kernel_rfl
  rw [q] at e;exact fin r1 r2 .none (.bool _) (.str _ _) (Kv hp ha hd (hk _ _ ho) hs) (Option.some.inj e).symm
 |@cons c w2 l2 u2 r3 rs=>
 cases rs with
 |nil=>
  have q:eF [("self" : Str),"script","back","is_proc","label"] [a,b,c] [.none,.bool false,.str Str.empty]=some ([("self",a),("script",b),("back",c),("is_proc",.bool false),("label",.str Str.empty)]:Loc):=by kernel_rfl
  rw [q] at e;exact fin r1 r2 r3 (.bool _) (.str _ _) (QG hp ha hd (hk _ _ ho) hs) (Option.some.inj e).symm
 |@cons d w3 l3 u3 r4 rs=>
 cases rs with
 |nil=>
  have q:eF [("self" : Str),"script","back","is_proc","label"] [a,b,c,d] [.none,.bool false,.str Str.empty]=some ([("self",a),("script",b),("back",c),("is_proc",d),("label",.str Str.empty)]:Loc):=by kernel_rfl
  rw [q] at e;exact fin r1 r2 r3 r4 (.str _ _) (Lb hp ha hd (hk _ _ ho) hs) (Option.some.inj e).symm
 |@cons x w4 l4 u4 r5 rs=>
 cases rs with
 |nil=>
  have q:eF [("self" : Str),"script","back","is_proc","label"] [a,b,c,d,x] [.none,.bool false,.str Str.empty]=some ([("self",a),("script",b),("back",c),("is_proc",d),("label",x)]:Loc):=by kernel_rfl
  rw [q] at e;exact fin r1 r2 r3 r4 r5 (Tk hp ha hd (hk _ _ ho) hs) (Option.some.inj e).symm
 |@cons y w5 l5 u5 r6 rs=>
  have q:eF [("self" : Str),"script","back","is_proc","label"] (a::b::c::d::x::y::l5) [.none,.bool false,.str Str.empty]=none:=by kernel_rfl
  rw [q] at e;exact al e
end
theorem JI {ok:Str->Bool} {a:Str} (ha:ok a=true) (l:List DictEntry):Ak ok l=true->dB a l=none:=by
 induction l with
 |nil=>exact fun _=>rfl
 |cons e r ih=>
  intro h;have h:=Bool.and_eq_true_iff.mp (h:(d0 (jc e.key) (fun y=>!ok y) true&&Ak ok r)=true);show d0 (jc e.key) (fun y=>bif seq y a then some e.val else dB a r) (dB a r)=none;generalize q:jc e.key=zc;induction zc using aA with
  |none=>exact ih h.2
  |some y=>
   have h1:d0 (jc e.key) (fun y=>!ok y) true=true:=h.1;rw [q] at h1;exact (gy (gq.mpr fun z=>by rw [z] at h1;exact ff ((rj h1).symm.trans ha))).trans (ih h.2)
theorem JZ:∀ {n:Nat} {l:List Bool},l=List.replicate n true->∀b∈l,b=true:=fun e b hb=>by
 subst e;exact List.eq_of_mem_replicate hb
section
variable {g:Gd} {h0:Heap} {mb:Gv} {K:Frag}
theorem Fx.yes (F:Fx K):∀b∈r9 K,b=true:=JZ (n:=12) F.f9
theorem TN {l:List (Str×Addr)} (e1:(l.map fun p=>(fdOf K p.2).map fun fd=>(fd.body,fd.scope))=l.map fun p=>some (.stmts (dz p.1).body,(dz p.1).scope)) (e2:l.all (D1 K)=true) {x:Str} {a:Addr} (h:(x,a)∈l):sA K (dz x) a:=
 I7 (List.map_inj_left.mp e1 _ h) (List.all_eq_true.mp e2 _ h)
theorem Fx.fn (F:Fx K) {x:Str} {a:Addr} (h:(x,a)∈jX++uu):sA K (dz x) a:=by
 exact TN F.f1 (F.yes _ (.head _)) h
inductive Dk (K:Frag) (a:Addr) (body:List Stmt) (sc:Scope) (d:Value) (ps:List Str):Prop
 |mk (fd:FuncData):fdOf K a=some fd->fd.body=.stmts body->fd.scope=sc->fd.defaults=d->n8 K fd=true->fd.scope.names.all (fun q=>pP q.2)=true->pU fd.params=true->pw (fd.params.args.map (·.arg)) ps=true->mn fd ps=true->Dk K a body sc d ps
theorem Eb {a:Addr} {body:List Stmt} {sc:Scope} {d:Value} {ps:List Str} (e:(fdOf K a).map (fun fd=>(fd.body,fd.scope,fd.defaults))=some (.stmts body,sc,d)) (hb:(fdOf K a).any (fun fd=>t9 K fd ps&&mn fd ps)=true):Dk K a body sc d ps:=by
 generalize h:fdOf K a=zc;induction zc using aA with
 |none=>rw [h] at e;exact al e
 |some fd=>
  rw [h] at e hb;have e:=Prod.mk.inj (Option.some.inj e);have e':=Prod.mk.inj e.2;have hb:=Bool.and_eq_true_iff.mp hb;have p:=Bool.and_eq_true_iff.mp hb.1;have q:=Bool.and_eq_true_iff.mp p.1;have r:=Bool.and_eq_true_iff.mp q.1;exact ⟨fd,h,e.1,e'.1,e'.2,r.1,p.2,r.2,q.2,hb.2⟩
theorem IZ (X:K.In h0) (F:Fx K):FnAt g h0 (dz "error") (.ref 99):=by
 obtain ⟨fd,e1,e2,e3,e4,b1,b2,b3,b4,b5⟩:=Eb (List.cons.inj F.f3).1 (F.yes _ (.tail _ (.tail _ (.tail _ (.tail _ (.head _))))));exact xE X e1 e2 e3 b1 b2 (Nr (ry b3) (sk _ b4) e4 (X 92 _ (List.cons.inj F.f2).1) rfl (X 91 _ (List.cons.inj (List.cons.inj F.f2).2).1) (by kernel_rfl) (by kernel_rfl) (ti b5))
theorem Sw (X:K.In h0) (F:Fx K):FnAt g h0 (dz "Nest.__init__") (.ref 83):=by
 obtain ⟨fd,e1,e2,e3,e4,b1,b2,b3,b4,b5⟩:=Eb (List.cons.inj (List.cons.inj F.f3).2).1 (F.yes _ (.tail _ (.tail _ (.tail _ (.tail _ (.tail _ (.head _)))))));exact xE X e1 e2 e3 b1 b2 (HJ (ry b3) (sk _ b4) e4 (X 76 _ (List.cons.inj (List.cons.inj (List.cons.inj F.f2).2).2).1) rfl (by kernel_rfl) (by kernel_rfl) (ti b5))
theorem Fx.mg (F:Fx K):iH K mainGlobals=some (nJ K)/\mh (nJ K)=true:=by
 have b:=F.yes _ (.tail _ (.tail _ (.tail _ (.head _))));unfold nJ;generalize h:iH K mainGlobals=zc;induction zc using aA with
 |none=>rw [h] at b;exact ff b
 |some l=>rw [h] at b;exact ⟨rfl,b⟩
theorem hm (X:K.In h0) (F:Fx K) (hG:h0.Ns mainGlobals g.mg) (x:Str):g.mg x=dB x (nJ K):=Pj X hG F.mg.1 F.mg.2 x
theorem DQ {l:List DictEntry} {x:Str} {a:Addr} (h:xI l x a=true):dB x l=some (.ref a):=by
 generalize jZ h=zc;induction zc using il.casesOn with
 |none h=>exact ff h
 |some b e h=>
  obtain ⟨v,e,q⟩:=dp e;rw [e,BZ q,Nat.eq_of_beq_eq_true h]
theorem uJ {o:Option Value} (h:qC o=true):o=none:=by induction o using aA<;>first|rfl|exact ff h
theorem mz (X:K.In h0) (F:Fx K) (hG:h0.Ns mainGlobals g.mg) {x:Str} {a:Addr} (h:(x,a)∈jX++o6):g.mg x=some (.ref a):=
 (hm X F hG x).trans (DQ (List.all_eq_true.mp (F.yes _ (.tail _ (.head _))) _ h))
theorem tJ (X:K.In h0) (F:Fx K) (hG:h0.Ns mainGlobals g.mg) {x:Str} (h:x∈uq):g.mg x=none:=
 (hm X F hG x).trans (uJ (List.all_eq_true.mp (F.yes _ (.tail _ (.tail _ (.head _)))) _ h))
theorem mj {x:Str} {a:Addr} (h:(x,a)∈o6):(x,a)∈jX++o6:=List.mem_append_right _ h
theorem yU (X:K.In h0) (F:Fx K) (hG:h0.Ns mainGlobals g.mg) {x i:Str} {Ca fI:Addr} (h1:(x,Ca)∈o6) (h2:Ca∈[396,375,86]) (h3:findIn K (.ref Ca) "__init__" = some (some (.ref fI))) (h4:typeIn K (.ref fI)=some (.type "function")) (h5:FnAt g h0 (dz i) (.ref fI)):ly g h0 K x (dz i):=
 ⟨Ca,fI,mz X F hG (mj h1),List.all_eq_true.mp (F.yes _ (.tail _ (.tail _ (.tail _ (.tail _ (.tail _ (.tail _ (.tail _ (.tail _ (.head _)))))))))) _ h2,h3,h4,h5⟩
theorem Sh (X:K.In h0) (F:Fx K) (hG:h0.Ns mainGlobals g.mg):ly g h0 K "Act" (dz "Act.__init__"):=
 yU X F hG (.tail _ (.tail _ (.head _))) (.head _) (List.cons.inj F.f4).1 (List.cons.inj F.f5).1 (wM X (F.fn (List.mem_append_right _ (.head _))))
theorem LL (X:K.In h0) (F:Fx K) (hG:h0.Ns mainGlobals g.mg):ly g h0 K "Code" (dz "Code.__init__"):=
 yU X F hG (.tail _ (.tail _ (.tail _ (.head _)))) (.tail _ (.head _)) (List.cons.inj (List.cons.inj F.f4).2).1 (List.cons.inj (List.cons.inj F.f5).2).1 (wM X (F.fn (List.mem_append_right _ (.tail _ (.head _)))))
theorem MW (X:K.In h0) (F:Fx K) (hG:h0.Ns mainGlobals g.mg):ly g h0 K "Nest" (dz "Nest.__init__"):=
 yU X F hG (.tail _ (.tail _ (.tail _ (.tail _ (.head _))))) (.tail _ (.tail _ (.head _))) (List.cons.inj (List.cons.inj (List.cons.inj F.f4).2).2).1 (List.cons.inj (List.cons.inj (List.cons.inj F.f5).2).2).1 (Sw X F)
inductive BO (h0:Heap) (K:Frag) (N:Addr) (ok:Str->Bool):Prop
 |mk:h0.Ns N (fun x=>dB x (dY K N))->dB "__getattribute__" (dY K N)=none->dB "__setattr__" (dY K N)=none->dB "__getattr__" (dY K N)=none->(∀a,ok a=true->dB a (dY K N)=none)->BO h0 K N ok
theorem yV (X:K.In h0) (F:Fx K) {N:Addr} {ok:Str->Bool} (h:(N,ok)∈([395,374,85].map fun a=>(a,jU))++[(64,n4),(64,jj)]):BO h0 K N ok:=by
 have b:(iH K N).any (xK ok)=true:=List.all_eq_true.mp (F.yes _ (.tail _ (.tail _ (.tail _ (.tail _ (.tail _ (.tail _ (.head _)))))))) _ h;have e1:dY K N=(iH K N).getD []:=rfl;generalize e:iH K N=zc;induction zc using aA with
 |none=>rw [e] at b;exact ff b
 |some l=>
  rw [e] at b e1;obtain rfl:dY K N=l:=e1;have b:=Bool.and_eq_true_iff.mp (b:xK ok (dY K N)=true);have c:=Bool.and_eq_true_iff.mp b.2;have d:=Bool.and_eq_true_iff.mp c.2;have f:=Bool.and_eq_true_iff.mp d.2;exact ⟨NP X e b.1,uJ d.1,uJ f.1,uJ f.2,fun a ha=>JI ha _ c.1⟩
theorem wL (X:K.In h0) (F:Fx K) {x:Str} {C N:Addr} {t1 t2:Tok} (hC:K.lookup C=some (vS x C N t1 t2)) (h:(N,jU)∈([395,374,85].map fun a=>(a,jU))++[(64,n4),(64,jj)]):rX h0 C [.type "object"] jU:=by
 obtain ⟨a,b,c,d,e⟩:=yV X F h;exact ⟨_,_,N,_,_,_,_,_,_,_,_,_,_,_,_,fun x=>dB x (dY K N),X C _ hC,a,b,c,d,e⟩
theorem FN {α:Type} {P:α->Prop} {a b c x:α} (h:x∈[a,b,c]) (pa:P a) (pb:P b) (pc:P c):P x:=by
 rcases List.mem_cons.mp h with rfl|h
 ·exact pa
 rcases List.mem_cons.mp h with rfl|h
 ·exact pb
 rcases List.mem_cons.mp h with rfl|h
 ·exact pc
 ·exact nomatch h
theorem uR (X:K.In h0) (F:Fx K) (hG:h0.Ns mainGlobals g.mg) {x:Str} {a b:Addr} (h:(x,a)∈jX++o6) (e:g.mg x=some (.ref b)):a=b:=Value.ref.inj (Option.some.inj ((mz X F hG h).symm.trans e))
theorem Tm (X:K.In h0) (F:Fx K) (hG:h0.Ns mainGlobals g.mg):Tc g h0 where
 cls:=fun C Ca h e=>by
  have l:=(List.cons.inj (List.cons.inj (List.cons.inj (List.cons.inj F.f2).2).2).2).2;have m:=List.cons.inj l;have n:=List.cons.inj m.2
  revert e
  refine FN (P:=fun C=>g.mg C=some (.ref Ca)->rX h0 Ca [.type "object"] jU) (y_ h) (fun e=>?_) (fun e=>?_) (fun e=>?_)
  ·obtain rfl:=uR X F hG (mj (.tail _ (.tail _ (.head _)))) e;exact wL X F m.1 (.head _)
  ·obtain rfl:=uR X F hG (mj (.tail _ (.tail _ (.tail _ (.head _))))) e;exact wL X F n.1 (.tail _ (.head _))
  ·obtain rfl:=uR X F hG (mj (.tail _ (.tail _ (.tail _ (.tail _ (.head _)))))) e;exact wL X F (List.cons.inj n.2).1 (.tail _ (.tail _ (.head _)))
 exc:=fun Ca e=>by
  obtain rfl:=uR X F hG (mj (.tail _ (.head _))) e;obtain ⟨a,b,c,d,e⟩:=yV X F (N:=64) (ok:=n4) (.tail _ (.tail _ (.tail _ (.head _))));have l:=(List.cons.inj (List.cons.inj (List.cons.inj (List.cons.inj F.f2).2).2).2).2;exact ⟨_,_,64,_,_,_,_,_,_,_,_,_,_,_,_,fun x=>dB x (dY K 64),X 65 _ (List.cons.inj (List.cons.inj (List.cons.inj (List.cons.inj l).2).2).2).1,a,b,c,d,e⟩
inductive E2 (K:Frag) (a:Addr) {β:Type} (f:FuncData->β) (w:β) (ps:List Str) (q:FuncData->Bool):Prop
 |mk (fd:FuncData):fdOf K a=some fd->f fd=w->n8 K fd=true->pU fd.params=true->pw (fd.params.args.map (·.arg)) ps=true->q fd=true->E2 K a f w ps q
theorem FW {a:Addr} {β:Type} {f:FuncData->β} {w:β} {ps:List Str} {q:FuncData->Bool} (e:(fdOf K a).map f=some w) (hb:(fdOf K a).any q=true) (hq:∀fd,q fd=true->xc K fd ps=true):E2 K a f w ps q:=by
 generalize h:fdOf K a=zc;induction zc using aA with
 |none=>rw [h] at e;exact al e
 |some fd=>
  rw [h] at e hb;have b:=Bool.and_eq_true_iff.mp (hq fd hb);have c:=Bool.and_eq_true_iff.mp b.1;exact ⟨fd,h,Option.some.inj e,c.1,c.2,b.2,hb⟩
theorem Ju (X:K.In h0) (F:Fx K) (hG:h0.Ns mainGlobals g.mg) (iw:∀x:Str,x≠ "__name__" -> mb x=bootBuiltins x) {v:Value} (hv:g.mg "_law_stack" = some v):uE g h0 mb v:=by
 rw [mz X F hG (mj (.tail _ (.tail _ (.tail _ (.tail _ (.tail _ (.head _)))))))] at hv;obtain rfl:=Option.some.inj hv;obtain ⟨fd,e1,e2,b1,b3,b4,_⟩:=FW F.f6 (F.yes _ (.tail _ (.tail _ (.tail _ (.tail _ (.tail _ (.tail _ (.tail _ (.tail _ (.tail _ (.head _))))))))))) fun _ b=>b;obtain ⟨o,ho,yB,_,_⟩:=y7 X e1;obtain ⟨f1,f2,f3,f4,f5,f6⟩:=z_ X b1;have e2:=Prod.mk.inj e2;have e3:=Prod.mk.inj e2.2;have e4:=Prod.mk.inj e3.2;exact ⟨578,o,fd,rfl,ho,yB,f1,f2,f3,f4,f5,f6,e3.1,e4.1,ry b3,sk _ b4,e4.2,tJ X F hG (.tail _ (.tail _ (.tail _ (.tail _ (.tail _ (.head _)))))),(iw _ (by decide+kernel)).trans (by kernel_rfl),
  ⟨_,mz X F hG (x:= "_law_text") (a:=498) (List.elem_iff.mp (by decide+kernel))⟩,⟨_,mz X F hG (x:= "_law_cell") (a:=491) (List.elem_iff.mp (by decide+kernel))⟩,e2.1.trans (by kernel_rfl)⟩
theorem Ob (X:K.In h0) (F:Fx K) (hG:h0.Ns mainGlobals g.mg) (hB:h0.Ns builtinsNs mb) (iw:∀x:Str,x≠ "__name__" -> mb x=bootBuiltins x) (NL:h0.NoLimit):vp g h0 K mb:=by
 obtain ⟨fd,e1,e2,b1,b3,b4,b⟩:=FW (ps:=Bj) F.f7 (F.yes _ (.tail _ (.tail _ (.tail _ (.tail _ (.tail _ (.tail _ (.tail _ (.tail _ (.tail _ (.tail _ (.head _)))))))))))) fun _ b=>(Bool.and_eq_true_iff.mp (Bool.and_eq_true_iff.mp b).1).1;have b2:=(Bool.and_eq_true_iff.mp (Bool.and_eq_true_iff.mp b).1).2;have b5:=(Bool.and_eq_true_iff.mp b).2;obtain ⟨o,ho,yB,hc,_⟩:=y7 X e1;obtain ⟨f1,f2,f3,f4,f5,f6⟩:=z_ X b1;obtain ⟨na,_,nc,_,ne⟩:=yV X F (N:=64) (ok:=jj) (.tail _ (.tail _ (.tail _ (.tail _ (.head _)))));have l:=(List.cons.inj (List.cons.inj (List.cons.inj F.f2).2).2).2;have e2:=Prod.mk.inj e2;have e3:=Prod.mk.inj e2.2;refine ⟨65,"Raised","Raised",64,[.type "Exception"],[],[],false,none,none,some (.ref 47),none,some (.str "Raised" 234),some (.str "Raised" 242),some (.bool true),fun x=>dB x (dY K 64),62,o,fd,
  ⟨12,8,12,17⟩,⟨12,8,12,26⟩,⟨12,27,12,31⟩,⟨12,33,12,38⟩,⟨12,8,12,39⟩,⟨12,8,12,39⟩,⟨13,8,13,12⟩,⟨13,8,13,17⟩,⟨13,20,13,24⟩,⟨13,8,13,24⟩,wP.drop 2,["ret","level","errorcode","value","code"],
  ⟨mz X F hG (mj (.tail _ (.head _))),X 65 _ (List.cons.inj (List.cons.inj (List.cons.inj (List.cons.inj (List.cons.inj l).2).2).2).2).1,na,nc,ne,DQ (F.yes _ (.tail _ (.tail _ (.tail _ (.tail _ (.tail _ (.tail _ (.tail _ (.head _)))))))))⟩,
  ⟨ho,hc,yB,e2.1.trans (by kernel_rfl),by kernel_rfl,by kernel_rfl,?_,?_,?_,Nat.le_trans (Nat.le_of_eq (by kernel_rfl:1+(wP.drop 2).length=9)) (by decide+kernel)⟩,
  ⟨f1,f2,f3,f4,f5,f6,FK b2,ti b5,e3.2,fun s a b c d hk=>?_⟩,
  ⟨F.f8,X,hG,tJ X F hG (.tail _ (.tail _ (.tail _ (.tail _ (.tail _ (.tail _ (.head _))))))),hB,(iw _ (by decide+kernel)).trans (by kernel_rfl),NL⟩⟩
 ·exact .tail _ (.tail _ (.tail _ (.tail _ (.head _))))
 ·exact .tail _ (.tail _ (.tail _ (.head _)))
 ·exact .tail _ (.tail _ (.head _))
 ·exact ⟨_,_,Ky (ry b3) (sk _ b4) e3.1 (hk _ _ (X 55 _ (List.cons.inj l).1)) rfl⟩
theorem s8 {α:Type} {x:Str} {w:α} (l:List (Str×α)) (h:jv x l=some w):(x,w)∈l:=by
 induction l with
 |nil=>exact al h
 |cons p r ih=>
  have h:(bif seq p.1 x then some p.2 else jv x r)=some w:=h;generalize c:seq p.1 x=zc;induction zc using aN with
  |true=>
   rw [c] at h;obtain rfl:=bY.mp c;obtain rfl:=Option.some.inj h;exact .head _
  |false=>rw [c] at h;exact .tail _ (ih h)
theorem vM {x:Str} {l:List Str} (h:(l.any fun y=>seq y x)=true):x∈l:=by
 refine aw (List.any_eq_true.mp h ) fun y hy e=>?_;rw [<- bY.mp e];exact hy
theorem Aj {x:Str} {f:Fn} (h:prog.fn x=some f):f=dz x/\(prog.inits x=true\/x∈defNames iR):=by
 refine ⟨by unfold dz;rw [h],?_⟩;have h:fnOf x (jv x oq)=some f:=h;show (jv x oq).isSome=true\/_;generalize c:jv x oq=zc;induction zc using aA with
 |some i=>exact .inl rfl
 |none=>
  rw [c] at h;have h:sR (!(Ch.any fun y=>seq y x)) (theDefIn x iR)=some f:=h;generalize c:theDefIn x iR=zc;induction zc using aA with
  |none=>rw [c] at h;exact al h
  |some s=>exact .inr (K6 _ c)
theorem HD {x:Str} (h:x∈defNames iR):x= "_law_stack" \/ x= "error" \/ ∃a,(x,a)∈jX:=by
 rcases Bool.or_eq_true_iff.mp (List.all_eq_true.mp (by kernel_rfl:(defNames iR).all (fun x=>seq x "_law_stack" || (seq x "error" || jX.any (fun p=>seq p.1 x)))=true) _ h) with q|q
 ·exact .inl (bY.mp q)
 rcases Bool.or_eq_true_iff.mp q with q|q
 ·exact .inr (.inl (bY.mp q))
 ·refine aw (List.any_eq_true.mp q ) ?_;rintro ⟨y,a⟩ m e;obtain rfl:y=x:=bY.mp e;exact .inr (.inr ⟨a,m⟩)
theorem AV (X:K.In h0) (F:Fx K) (hG:h0.Ns mainGlobals g.mg) {x:Str} (h:prog.inits x=true):g.mg x=none:=by
 refine aB (Option.isSome_iff_exists.mp (h:(jv x oq).isSome=true) ) fun c e=>?_;exact tJ X F hG (vM (List.all_eq_true.mp (by kernel_rfl:(oq.all fun p=>uq.any fun y=>seq y p.1)=true) _ (s8 _ e)))
theorem Cr {x i:Str} (h:prog.cls x=some i):x∈oE:=
 vM (List.all_eq_true.mp (by kernel_rfl:(yl.all fun p=>oE.any fun y=>seq y p.1)=true) _ (s8 _ h))
theorem D7 {x:Str} {f:Fn} (h:prog.fn x=some f):prog.inits x=true\/x∈oE:=(Aj h).2.imp id fun q=>.tail _ (.tail _ (.tail _ (.tail _ q)))
theorem kept (X:K.In h0) (F:Fx K) (hG:h0.Ns mainGlobals g.mg) {x:Str} (hx:x∈oE):∃v,g.mg x=some v/\keepIn K v=true:=by
 rw [hm X F hG];generalize jZ (List.all_eq_true.mp (F.yes _ (.tail _ (.tail _ (.tail _ (.tail _ (.tail _ (.tail _ (.tail _ (.tail _ (.tail _ (.tail _ (.tail _ (.head _))))))))))))) x hx)=zc;induction zc using il.casesOn with
 |none h=>exact ff h
 |some v e h=>exact ⟨v,e,h⟩
theorem Pz {x:Str} (h:prog.names x=true):x∈oE:=by
 rcases Bool.or_eq_true_iff.mp h with h|h
 ·rcases Bool.or_eq_true_iff.mp h with h|h
  ·rw [bY.mp h];exact .head _
  ·have h:=Bool.and_eq_true_iff.mp h;refine aB (Option.isSome_iff_exists.mp h.1 ) fun f e=>?_;exact (D7 e).elim (fun q=>ff ((rj h.2).symm.trans q)) id
 ·refine aB (Option.isSome_iff_exists.mp h ) fun i e=>?_;exact Cr e
theorem Qn (X:K.In h0) (F:Fx K) (hG:h0.Ns mainGlobals g.mg) (iw:∀x:Str,x≠ "__name__" -> mb x=bootBuiltins x) {x:Str} {v:Value} (h:tK x=some v):g.mg x=none/\mb x=some v:=by
 have m:=s8 _ h;have a:=Bool.and_eq_true_iff.mp (List.all_eq_true.mp (by kernel_rfl:(vm.all fun p=>(uq.any fun y=>seq y p.1)&& !(seq p.1 "__name__"))=true) _ m);have b:=List.map_inj_left.mp (by kernel_rfl:(vm.map fun p=>bootBuiltins p.1)=vm.map fun p=>some p.2) _ m;exact ⟨tJ X F hG (vM a.1),(iw _ (gq.mp (rj a.2))).trans b⟩
theorem Pq (X:K.In h0) (F:Fx K) (hG:h0.Ns mainGlobals g.mg) (hB:h0.Ns builtinsNs mb) (iw:∀x:Str,x≠ "__name__" -> mb x=bootBuiltins x) (NL:h0.NoLimit) (ND:h0.NoDigits):uP g h0 mb K prog:=by
 refine ⟨⟨hG,hB,fun x hx=>(kept X F hG (Pz hx)).imp fun _ q=>q.1,fun x v hx=>Qn X F hG iw hx,ND⟩,Tm X F hG,NL,X,Ob X F hG hB iw NL,fun v hv=>Ju X F hG iw hv,fun x i f hc hf=>?_,fun x f v hf hc h1 h2 hv=>?_,fun x v hx hv=>?_⟩
 ·rw [(Aj hf).1];exact FN (P:=fun p:Str×Str=>ly g h0 K p.1 (dz p.2)) (s8 yl hc) (Sh X F hG) (LL X F hG) (MW X F hG)
 ·refine aK (Aj hf ) ?_;rintro rfl hi;rcases hi with hi|hi
  ·exact al ((AV X F hG hi).symm.trans hv)
  ·rcases HD hi with rfl|rfl|⟨a,ha⟩
   ·exact ff h2.symm
   ·obtain rfl:=Option.some.inj ((mz X F hG (mj (.head _))).symm.trans hv);exact IZ X F
   ·obtain rfl:=Option.some.inj ((mz X F hG (List.mem_append_left _ ha)).symm.trans hv);exact wM X (F.fn (List.mem_append_left _ ha))
 ·have key:prog.inits x=true\/x∈oE:=by
   rcases Bool.or_eq_true_iff.mp hx with h|h
   ·rcases Bool.or_eq_true_iff.mp h with h|h
    ·rcases Bool.or_eq_true_iff.mp h with h|h
     ·rw [bY.mp h];exact .inr (.head _)
     ·rw [bY.mp h];exact .inr (vM (by kernel_rfl))
    ·refine aB (Option.isSome_iff_exists.mp h) fun f e=>?_;exact D7 e
   ·refine aB (Option.isSome_iff_exists.mp h) fun i e=>?_;exact .inr (Cr e)
  rcases key with q|q
  ·exact al ((AV X F hG q).symm.trans hv)
  ·refine aw (kept X F hG q ) fun w hw hk=>?_;obtain rfl:=Option.some.inj (hw.symm.trans hv);exact hk
end
noncomputable def tp (l:List Value):Obj:={cls:=.type "tuple",data:=.seq l.toArray}
noncomputable def fl (l:List Value):Obj:={cls:=.none,data:=.fields l.toArray}
noncomputable def fo (c:String) (l:List Value):Obj:={cls:=.type c,data:=.fields l.toArray}
noncomputable def fr (l:List (Option Value)):Obj:={cls:=.type "frame",slots:=l.toArray}
noncomputable def dc (P:Params) (l:List (Str×Nat×Value)) (n:Nat):Obj:={cls:=.type "dict",data:=.dict (l.map fun e=>⟨PyData.keyHash P e.1,.str e.1 e.2.1,e.2.2⟩).toArray n}
noncomputable def cl (x:Str) (bs mro:List Value) (N:Addr) (sub:List Value) (sl:List (Option Value)):Obj:={cls:=.type "type",data:=.cls {name:=x,bases:=bs,mro:=mro,ns:=N,qualname:=x,subclasses:=sub},slots:=sl.toArray}
noncomputable def xU:Str:= "/claim/cut.py"
noncomputable def co (x q:Str) (t ln ac fg a1:Nat) (b:Bool) (a2:Nat) (v1 v2 v3:Value) (t2:Nat):Obj:=
 fo "code" [.str x t,.str q (t+1),.str xU (t+2),.int (Int.ofNat ln) 0,.int (Int.ofNat ac) 0,.int 0 0,.int 0 0,.int (Int.ofNat fg) 0,.ref a1,.bool b,.int 181 0,.ref a2,.none,v1,v2,v3,.int (Int.ofNat t2) 0,.int (Int.ofNat ln) 0,.str xU (t2+1)]
noncomputable def F8:List Str->Nat->List Value
 | [],_=>[]
 |x::r,t=>.str x t::F8 r (t+1)
noncomputable def bo (s:Option Stmt) (q m:Str) (mt a t:Nat) (d:Value) (vs:Option (List Str)):List Obj:=match s with
 |some (.FunctionDef x ps b _ _ _ sc _ _ pos)=>
  let k:=match vs with|none=>a|some _=>a+2
  tp []::fl []::((match vs with|none=>[]|some l=>[tp (F8 l (t+3)),tp []])++
   [{cls:=.none,data:=.func {name:=x,qualname:=q,params:=ps,body:=.stmts b,scope:=sc,globals:=0,closure:=[],defaults:=.none,kwdefaults:=.none}},
    co x q t pos.line ps.args.length 3 a true (a+1) (match vs with|none=>.none|some _=>.ref (a+2)) (match vs with|none=>.none|some _=>.ref (a+3)) (.ref (k+2)) (t+(match vs with|none=>0|some l=>l.length)+3),
    {cls:=.type "function",data:=.func {name:=x,qualname:=q,params:=ps,body:=.stmts b,scope:=sc,globals:=3,closure:=[],defaults:=d,kwdefaults:=.none,pyModule:=.str m mt,code:=.ref (k+3)}}])
 |_=>[]
noncomputable def fS (x:Str):Option Stmt:=theDefIn x iR
noncomputable def iS (x:Str):Option Stmt:=(qL x iR).bind (theDefIn "__init__")
noncomputable def oJ:List (Str×Nat×Nat×Nat×Nat):=[
 (("TclFault" : Str),217,31,2,20),(("Misused" : Str),233,44,7,40),(("Raised" : Str),277,65,9,52),(("Nest" : Str),313,86,22,74),(("error" : Str),322,99,29,98),(("is_blank" : Str),331,106,32,105),(("digit" : Str),339,113,34,112),(("digits_value" : Str),350,120,45,119),(("base_of" : Str),357,127,55,126),(("whole_of" : Str),369,134,65,133),(("bool_of" : Str),379,141,85,140),(("need_bool" : Str),387,148,99,147),(("text_of" : Str),394,155,104,154),(("hex_sign" : Str),408,162,107,161),(("octal_sign" : Str),419,169,124,168),(("backslash" : Str),430,176,134,175),(("check_behind" : Str),442,183,152,182),(("braced_element" : Str),453,190,159,189),(("quoted_element" : Str),463,197,174,196),(("bare_element" : Str),473,204,187,203),(("find_element" : Str),481,211,197,210),(("split_list" : Str),490,218,207,217),(("as_number" : Str),500,225,215,224),(("operand_fault" : Str),510,232,220,231),(("operand" : Str),519,239,225,238),(("unary" : Str),529,246,230,245),(("need_divisor" : Str),536,253,244,252),(("power" : Str),545,260,247,259),(("need_count" : Str),552,267,262,266),(("shifted_left" : Str),561,274,265,273),(("shifted_right" : Str),569,281,273,280),(("arithmetic" : Str),578,288,278,287),(("text_order" : Str),586,295,304,294),(("order_of" : Str),596,302,308,301),(("relation" : Str),604,309,314,308),(("binary" : Str),616,316,326,315),(("wanted" : Str),625,323,338,322),(("pushed" : Str),637,330,346,329),(("is_large" : Str),645,337,356,336),(("value_of" : Str),656,344,360,343),(("reckoned" : Str),668,351,371,350),(("folded" : Str),681,358,386,357),(("Code" : Str),720,375,397,364),(("Act" : Str),758,396,406,385),(("taken" : Str),770,407,417,406),(("op_push" : Str),780,414,422,413),(("op_pop" : Str),790,421,424,420),(("op_join" : Str),801,428,426,427),(("go" : Str),810,435,429,434),(("op_jump" : Str),820,442,433,441),(("op_jump_false" : Str),830,449,435,448),(("op_jump_true" : Str),840,456,438,455),(("op_unary" : Str),850,463,441,462),(("op_binary" : Str),862,470,443,469),(("op_truth" : Str),872,477,446,476),(("op_number" : Str),882,484,448,483),(("_law_cell" : Str),892,491,451,490),(("_law_text" : Str),900,498,453,497),(("_law_base" : Str),909,505,457,504),(("_law_second" : Str),918,512,461,511),(("_law_long" : Str),929,519,467,518),(("_law_piece" : Str),941,526,478,525),(("_law_many" : Str),948,533,498,532),(("_law_change" : Str),955,540,504,539),(("_law_ops" : Str),961,547,508,546),(("_law_done" : Str),971,554,510,553),(("_law_run" : Str),982,561,518,560),(("_law_is_long" : Str),990,568,524,567),(("_law_due" : Str),996,573,528,572),(("_law_stack" : Str),1002,578,542,577),(("law" : Str),1024,585,544,584)]
noncomputable def yM (P:Params):List Obj:=[tp [.type "Exception"],fo "builtin_function_or_method" [.builtin "type.__prepare__",.type "type"],dc P [("__module__",196,.str "tclcore.faults" 187),("__qualname__",198,.str "TclFault" 197),("__firstlineno__",200,.int 2 199),("__init__",208,.ref 28),("__static_attributes__",210,.ref 29)] 5,tp [],fl [.int 4 0,.int 4 0,.ref 27],co "TclFault" "TclFault" 191 2 0 0 18 false 19 .none .none .none 194,fr [some (.ref 20),some (.ref 3),some (.ref 17),none,some (.str "tclcore.faults" 187),none,some (.ref 0)]]++(
 bo (iS "TclFault") "TclFault.__init__" "tclcore.faults" 187 22 201 .none (some ["self","why"])++(
 [tp [.str "why" 209],dc P [("__module__",196,.str "tclcore.faults" 187),("__firstlineno__",200,.int 2 199),("__init__",208,.ref 28),("__static_attributes__",210,.ref 29),("__weakref__",212,.ref 32),("__doc__",213,.none)] 3,cl "TclFault" [.type "Exception"] [.ref 31,.type "Exception",.type "BaseException",.type "object"] 30 [.ref 44] [some (.ref 15),none,some (.str "TclFault" 189),some (.str "TclFault" 197),some (.builtin "Exception.__new__"),some (.bool true)],fo "getset_descriptor" [.str "__weakref__" 211,.ref 31,.builtin "ExceptionGroup.__weakref__",.none],fo "super" [.ref 31,.ref 31,.ref 31],fo "builtin_function_or_method" [.builtin "object.__init_subclass__",.ref 31],tp [.ref 31],fo "builtin_function_or_method" [.builtin "type.__prepare__",.type "type"],dc P [("__module__",225,.str "tclcore.faults" 187),("__qualname__",227,.str "Misused" 226),("__firstlineno__",229,.int 7 228),("__static_attributes__",230,.ref 42)] 4,tp [],fl [],co "Misused" "Misused" 220 7 0 0 38 false 39 .none .none .none 223,fr [some (.ref 40),some (.ref 3),some (.ref 37),none,some (.str "tclcore.faults" 187),none,some (.ref 0)],tp [],dc P [("__module__",225,.str "tclcore.faults" 187),("__firstlineno__",229,.int 7 228),("__static_attributes__",230,.ref 42),("__doc__",231,.none)] 2,cl "Misused" [.ref 31] [.ref 44,.ref 31,.type "Exception",.type "BaseException",.type "object"] 43 [] [some (.ref 35),none,some (.str "Misused" 218),some (.str "Misused" 226),some (.builtin "Exception.__new__"),some (.bool true)],fo "super" [.ref 44,.ref 44,.ref 44],fo "builtin_function_or_method" [.builtin "object.__init_subclass__",.ref 44],tp [.type "Exception"],fo "builtin_function_or_method" [.builtin "type.__prepare__",.type "type"],dc P [("__module__",241,.str "tclcore.faults" 187),("__qualname__",243,.str "Raised" 242),("__firstlineno__",245,.int 9 244),("__init__",260,.ref 62),("__static_attributes__",270,.ref 63)] 5,tp [],fl [.int 11 0,.int 4 0,.ref 61],co "Raised" "Raised" 236 9 0 0 50 false 51 .none .none .none 239,fr [some (.ref 52),some (.ref 3),some (.ref 49),none,some (.str "tclcore.faults" 187),none,some (.ref 0)],tp [.str "NONE" 246],tp [.ref 54,.int 0 247,.int 0 248]]++(
 bo (iS "Raised") "Raised.__init__" "tclcore.faults" 187 56 249 (.ref 55) (some ["self","code","value","errorcode","level","ret"])++(
 [tp [.str "code" 261,.str "errorcode" 262,.str "extra" 263,.str "info" 264,.str "is_noted" 265,.str "level" 266,.str "line" 267,.str "ret" 268,.str "value" 269],dc P [("__module__",241,.str "tclcore.faults" 187),("__firstlineno__",245,.int 9 244),("__init__",260,.ref 62),("__static_attributes__",270,.ref 63),("__weakref__",272,.ref 66),("__doc__",273,.none)] 3,cl "Raised" [.type "Exception"] [.ref 65,.type "Exception",.type "BaseException",.type "object"] 64 [] [some (.ref 47),none,some (.str "Raised" 234),some (.str "Raised" 242),some (.builtin "Exception.__new__"),some (.bool true)],fo "getset_descriptor" [.str "__weakref__" 271,.ref 65,.builtin "ExceptionGroup.__weakref__",.none],fo "super" [.ref 65,.ref 65,.ref 65],fo "builtin_function_or_method" [.builtin "object.__init_subclass__",.ref 65],tp [],fo "builtin_function_or_method" [.builtin "type.__prepare__",.type "type"],dc P [("__module__",285,.str "tclcore.faults" 187),("__qualname__",287,.str "Nest" 286),("__firstlineno__",289,.int 22 288),("__init__",301,.ref 83),("__static_attributes__",306,.ref 84)] 5,tp [],fl [.int 24 0,.int 4 0,.ref 82],co "Nest" "Nest" 280 22 0 0 72 false 73 .none .none .none 283,fr [some (.ref 74),some (.ref 3),some (.ref 71),none,some (.str "tclcore.faults" 187),none,some (.ref 0)],tp [.none,.bool false,.str "" 290]]++(
 bo (iS "Nest") "Nest.__init__" "tclcore.faults" 187 77 291 (.ref 76) (some ["self","script","back","is_proc","label"])++(
 [tp [.str "back" 302,.str "is_proc" 303,.str "label" 304,.str "script" 305],dc P [("__module__",285,.str "tclcore.faults" 187),("__firstlineno__",289,.int 22 288),("__init__",301,.ref 83),("__static_attributes__",306,.ref 84),("__dict__",308,.ref 87),("__weakref__",310,.ref 88),("__doc__",311,.none)] 4,cl "Nest" [.type "object"] [.ref 86,.type "object"] 85 [] [none,none,some (.str "Nest" 278),some (.str "Nest" 286),some (.builtin "object.__new__"),some (.bool true)],fo "getset_descriptor" [.str "__dict__" 307,.ref 86,.builtin "function.__dict__",.builtin "function.__dict__#set"],fo "getset_descriptor" [.str "__weakref__" 309,.ref 86,.builtin "ExceptionGroup.__weakref__",.none],fo "super" [.ref 86,.ref 86,.ref 86],fo "builtin_function_or_method" [.builtin "object.__init_subclass__",.ref 86],tp [.str "NONE" 314],tp [.ref 91]]++(
 bo (fS "error") "error" "tclcore.faults" 187 93 315 (.ref 92) (some ["text","errorcode"])++(
 bo (fS "is_blank") "is_blank" "tclcore.numbers" 323 100 325 .none (some ["c"])++(
 bo (fS "digit") "digit" "tclcore.numbers" 323 107 332 .none (some ["c","n"])++(
 bo (fS "digits_value") "digits_value" "tclcore.numbers" 323 114 340 .none (some ["text","base","value","c","n"])++(
 bo (fS "base_of") "base_of" "tclcore.numbers" 323 121 351 .none (some ["mark"])++(
 bo (fS "whole_of") "whole_of" "tclcore.numbers" 323 128 358 .none (some ["text","first","behind","is_minus","base","value"])++(
 bo (fS "bool_of") "bool_of" "tclcore.numbers" 323 135 370 .none (some ["text","value","low","word"])++(
 bo (fS "need_bool") "need_bool" "tclcore.numbers" 323 142 380 .none (some ["text","value"])++(
 bo (fS "text_of") "text_of" "tclcore.numbers" 323 149 388 .none (some ["is_so"])++(
 bo (fS "hex_sign") "hex_sign" "tclcore.words" 395 156 397 .none (some ["text","at","most","place","value","step"])++(
 bo (fS "octal_sign") "octal_sign" "tclcore.words" 395 163 409 .none (some ["text","at","place","value","step"])++(
 bo (fS "backslash") "backslash" "tclcore.words" 395 170 420 .none (some ["text","at","sign","known","behind"])++(
 bo (fS "check_behind") "check_behind" "tclcore.lists" 431 177 433 .none (some ["text","at","what","end"])++(
 bo (fS "braced_element") "braced_element" "tclcore.lists" 431 184 443 .none (some ["text","first","depth","at","c"])++(
 bo (fS "quoted_element") "quoted_element" "tclcore.lists" 431 191 454 .none (some ["text","at","out","c"])++(
 bo (fS "bare_element") "bare_element" "tclcore.lists" 431 198 464 .none (some ["text","at","out","c"])))))))))))))))))))))))
noncomputable def AH (P:Params):List Obj:=bo (fS "find_element") "find_element" "tclcore.lists" 431 205 474 .none (some ["text","at"])++(
 bo (fS "split_list") "split_list" "tclcore.lists" 431 212 482 .none (some ["text","items","found"])++(
 bo (fS "as_number") "as_number" "tclcore.exprops" 491 219 493 .none (some ["text","number"])++(
 bo (fS "operand_fault") "operand_fault" "tclcore.exprops" 491 226 501 .none (some ["op","text","what","shown"])++(
 bo (fS "operand") "operand" "tclcore.exprops" 491 233 511 .none (some ["op","text","number"])++(
 bo (fS "unary") "unary" "tclcore.exprops" 491 240 520 .none (some ["op","a","is_so","number"])++(
 bo (fS "need_divisor") "need_divisor" "tclcore.exprops" 491 247 530 .none (some ["number"])++(
 bo (fS "power") "power" "tclcore.exprops" 491 254 537 .none (some ["base","exponent","why"])++(
 bo (fS "need_count") "need_count" "tclcore.exprops" 491 261 546 .none (some ["count"])++(
 bo (fS "shifted_left") "shifted_left" "tclcore.exprops" 491 268 553 .none (some ["number","count","why"])++(
 bo (fS "shifted_right") "shifted_right" "tclcore.exprops" 491 275 562 .none (some ["number","count"])++(
 bo (fS "arithmetic") "arithmetic" "tclcore.exprops" 491 282 570 .none (some ["op","left","right"])++(
 bo (fS "text_order") "text_order" "tclcore.exprops" 491 289 579 .none (some ["a","b"])++(
 bo (fS "order_of") "order_of" "tclcore.exprops" 491 296 587 .none (some ["a","b","left","right"])++(
 bo (fS "relation") "relation" "tclcore.exprops" 491 303 597 .none (some ["op","order"])++(
 bo (fS "binary") "binary" "tclcore.exprops" 491 310 605 .none (some ["op","a","b","is_in","left","right"])++(
 bo (fS "wanted") "wanted" "tclcore.optimise" 617 317 619 .none (some ["row"])++(
 bo (fS "pushed") "pushed" "tclcore.optimise" 617 324 626 .none (some ["rows","floor","count","at","texts","row"])++(
 bo (fS "is_large") "is_large" "tclcore.optimise" 617 331 638 .none (some ["op","texts"])++(
 bo (fS "value_of") "value_of" "tclcore.optimise" 617 338 646 .none (some ["row","texts","op","a","b"])++(
 bo (fS "reckoned") "reckoned" "tclcore.optimise" 617 345 657 .none (some ["row","texts","op","a","b","is_so"])++(
 bo (fS "folded") "folded" "tclcore.optimise" 617 352 669 .none (some ["out","floor","row","count","texts","made","text"])++(
 [tp [],fo "builtin_function_or_method" [.builtin "type.__prepare__",.type "type"],dc P [("__module__",691,.str "tclcore.compcore" 682),("__qualname__",693,.str "Code" 692),("__firstlineno__",695,.int 397 694),("__init__",707,.ref 372),("__static_attributes__",713,.ref 373)] 5,tp [],fl [.int 399 0,.int 4 0,.ref 371],co "Code" "Code" 686 397 0 0 362 false 363 .none .none .none 689,fr [some (.ref 364),some (.ref 3),some (.ref 361),none,some (.str "tclcore.compcore" 682),none,some (.ref 0)]]++(
 bo (iS "Code") "Code.__init__" "tclcore.compcore" 682 366 696 .none (some ["self","rows","ranges","names","sources","epoch"])++(
 [tp [.str "epoch" 708,.str "names" 709,.str "ranges" 710,.str "rows" 711,.str "sources" 712],dc P [("__module__",691,.str "tclcore.compcore" 682),("__firstlineno__",695,.int 397 694),("__init__",707,.ref 372),("__static_attributes__",713,.ref 373),("__dict__",715,.ref 376),("__weakref__",717,.ref 377),("__doc__",718,.none)] 4,cl "Code" [.type "object"] [.ref 375,.type "object"] 374 [] [none,none,some (.str "Code" 684),some (.str "Code" 692),some (.builtin "object.__new__"),some (.bool true)],fo "getset_descriptor" [.str "__dict__" 714,.ref 375,.builtin "function.__dict__",.builtin "function.__dict__#set"],fo "getset_descriptor" [.str "__weakref__" 716,.ref 375,.builtin "ExceptionGroup.__weakref__",.none],fo "super" [.ref 375,.ref 375,.ref 375],fo "builtin_function_or_method" [.builtin "object.__init_subclass__",.ref 375]]))))))))))))))))))))))))
noncomputable def HY (P:Params):List Obj:=[tp [],fo "builtin_function_or_method" [.builtin "type.__prepare__",.type "type"],dc P [("__module__",730,.str "tclcore.machine" 721),("__qualname__",732,.str "Act" 731),("__firstlineno__",734,.int 406 733),("__init__",743,.ref 393),("__static_attributes__",751,.ref 394)] 5,tp [],fl [.int 408 0,.int 4 0,.ref 392],co "Act" "Act" 725 406 0 0 383 false 384 .none .none .none 728,fr [some (.ref 385),some (.ref 3),some (.ref 382),none,some (.str "tclcore.machine" 721),none,some (.ref 0)]]++(
 bo (iS "Act") "Act.__init__" "tclcore.machine" 721 387 735 .none (some ["self","code","nest"])++(
 [tp [.str "caught" 744,.str "code" 745,.str "each" 746,.str "nest" 747,.str "pc" 748,.str "slots" 749,.str "stack" 750],dc P [("__module__",730,.str "tclcore.machine" 721),("__firstlineno__",734,.int 406 733),("__init__",743,.ref 393),("__static_attributes__",751,.ref 394),("__dict__",753,.ref 397),("__weakref__",755,.ref 398),("__doc__",756,.none)] 4,cl "Act" [.type "object"] [.ref 396,.type "object"] 395 [] [none,none,some (.str "Act" 723),some (.str "Act" 731),some (.builtin "object.__new__"),some (.bool true)],fo "getset_descriptor" [.str "__dict__" 752,.ref 396,.builtin "function.__dict__",.builtin "function.__dict__#set"],fo "getset_descriptor" [.str "__weakref__" 754,.ref 396,.builtin "ExceptionGroup.__weakref__",.none],fo "super" [.ref 396,.ref 396,.ref 396],fo "builtin_function_or_method" [.builtin "object.__init_subclass__",.ref 396]]++(
 bo (fS "taken") "taken" "tclcore.ops" 759 401 761 .none (some ["act","count","at","texts"])++(
 bo (fS "op_push") "op_push" "tclcore.ops" 759 408 771 .none (some ["machine","act","a","b"])++(
 bo (fS "op_pop") "op_pop" "tclcore.ops" 759 415 781 .none (some ["machine","act","a","b"])++(
 bo (fS "op_join") "op_join" "tclcore.ops" 759 422 791 .none (some ["machine","act","a","b","texts"])++(
 bo (fS "go") "go" "tclcore.ops" 759 429 802 .none (some ["machine","act","to"])++(
 bo (fS "op_jump") "op_jump" "tclcore.ops" 759 436 811 .none (some ["machine","act","a","b"])++(
 bo (fS "op_jump_false") "op_jump_false" "tclcore.ops" 759 443 821 .none (some ["machine","act","a","b"])++(
 bo (fS "op_jump_true") "op_jump_true" "tclcore.ops" 759 450 831 .none (some ["machine","act","a","b"])++(
 bo (fS "op_unary") "op_unary" "tclcore.ops" 759 457 841 .none (some ["machine","act","a","b"])++(
 bo (fS "op_binary") "op_binary" "tclcore.ops" 759 464 851 .none (some ["machine","act","a","b","left","right"])++(
 bo (fS "op_truth") "op_truth" "tclcore.ops" 759 471 863 .none (some ["machine","act","a","b"])++(
 bo (fS "op_number") "op_number" "tclcore.ops" 759 478 873 .none (some ["machine","act","a","b"])++(
 bo (fS "_law_cell") "_law_cell" "law_oj0067_01" 883 485 885 .none (some ["script","place"])++(
 bo (fS "_law_text") "_law_text" "law_oj0067_01" 883 492 893 .none (some ["pick","texts"])++(
 bo (fS "_law_base") "_law_base" "law_oj0067_01" 883 499 901 .none (some ["pick","long","texts"])++(
 bo (fS "_law_second") "_law_second" "law_oj0067_01" 883 506 910 .none (some ["op","pick","texts"])++(
 bo (fS "_law_long") "_law_long" "law_oj0067_01" 883 513 919 .none (some ["pick","size","sort","ops","rows"])++(
 bo (fS "_law_piece") "_law_piece" "law_oj0067_01" 883 520 930 .none (some ["kind","pick","depth","op","rows","ops"])++(
 bo (fS "_law_many") "_law_many" "law_oj0067_01" 883 527 942 .none (some ["row"])++(
 bo (fS "_law_change") "_law_change" "law_oj0067_01" 883 534 949 .none (some ["row"])++(
 bo (fS "_law_ops") "_law_ops" "law_oj0067_01" 883 541 956 .none (some [])++(
 bo (fS "_law_done") "_law_done" "law_oj0067_01" 883 548 962 .none (some ["row","stack","play","fault"])++(
 bo (fS "_law_run") "_law_run" "law_oj0067_01" 883 555 972 .none (some ["rows","stack","row","gone","fault"])++(
 bo (fS "_law_is_long") "_law_is_long" "law_oj0067_01" 883 562 983 .none (some ["row","texts"])++(
 bo (fS "_law_due") "_law_due" "law_oj0067_01" 883 569 991 .none none++(
 bo (fS "_law_stack") "_law_stack" "law_oj0067_01" 883 574 997 .none none++(
 bo (fS "law") "law" "law_oj0067_01" 883 579 1003 .none (some ["script","rows","out","entries","depth","floor","k","number","led","row","due","turn","at","place","height","stack"]))))))))))))))))))))))))))))))
noncomputable def xF (P:Params) (m:Str) (t:Nat) (l:List (Str×Nat×Nat×Nat×Nat)):Obj:=
 dc P (("__name__",165,.str m t)::("__doc__",166,.none)::("__package__",167,.none)::("__loader__",168,.builtin "__main__.__loader__#opaque")::("__spec__",169,.none)::("__annotations__",170,.ref 6)::("__builtins__",171,.ref 4)::("__file__",173,.str xU 172)::("__cached__",174,.none)::l.map fun e=>(e.1,e.2.1,.ref e.2.2.1)) (9+l.length)
noncomputable def v9 (l:List (Str×Nat×Nat×Nat×Nat)):Obj:=fl (l.flatMap fun e=>[.int (Int.ofNat e.2.2.2.1) 0,.int 0 0,.ref e.2.2.2.2])
noncomputable def wJ (P:Params):Obj:={cls:=.none,data:=.dict #[⟨PyData.keyHash P "type.__subclasses__.Exception.0",.str "type.__subclasses__.Exception.0" 214,.int 31 0⟩,⟨PyData.keyHash P "type.__subclasses__.Exception.n",.str "type.__subclasses__.Exception.n" 215,.int 2 0⟩,⟨PyData.keyHash P "type.__subclasses__.Exception.1",.str "type.__subclasses__.Exception.1" 274,.int 65 0⟩] 3}
noncomputable def tS (P:Params) (s2 s3 Sf:Obj) (r:List Obj):Heap:=⟨⟨boot_o_0 P::boot_o_1 P::s2::s3::boot_o_4 P::boot_o_5 P::boot_o_6 P::boot_o_7 P::boot_o_8 P::boot_o_9 P::boot_o_10 P::tp []::Sf::
 co "<module>" "<module>" 182 1 0 0 11 false 12 .none .none .none 185::fr [some (.ref 13),some (.ref 3),some (.ref 3),none,some (.str "__main__" 164),none,some (.ref 0)]::r⟩,{}⟩
noncomputable def QT (P:Params):Heap:=tS P (boot_o_2 P) (boot_o_3 P) (fl []) []
noncomputable def wC (P:Params):Heap:=tS P (wJ P) (xF P "tclcore.lists" 431 (oJ.take 20)) (v9 (oJ.take 20)) (yM P)
noncomputable def Ac (P:Params):Heap:=tS P (wJ P) (xF P "tclcore.machine" 721 (oJ.take 43)) (v9 (oJ.take 43)) (yM P++AH P)
noncomputable def rI (P:Params):Heap:=tS P (wJ P) (xF P "law_oj0067_01" 883 oJ) (v9 oJ) (yM P++(AH P++HY P))
noncomputable def Hs:List Nat:=[1,2,3,4,7,8,9,10,11,12,13,14,16,17,18,20,21,22,23,24,25,27,28,29,30,31,32,33,34,35,36,37,38,39,40,42,43,44,45,46,47,49,51,53,54,55,56,57,58,59,60,61,62,63,64,66,67,68,69,70,71,72,73,74,75,76,77,78,79,80]
noncomputable abbrev dM:Program:=PySem.Challenge.rw_oj0067_01.row.prog
noncomputable def vw:Program:=view dM Hs
noncomputable def lo:List Str:=["Raised","error"]
noncomputable def uy (s:Shared):=Eh (C5 s.heap)
noncomputable def uY (_:World) (h:Heap):Prop:=∃K:Frag,K.In h/\Fx K
noncomputable def wn (s:Shared):Bool:=xlAt vw [] s&&recOk PySem.Challenge.rw_oj0067_01.row.toRowW.records s
noncomputable def y9:List Stmt:=behindTheImports dM
noncomputable def qF:Env:={scope:=dM.main.scope,locals:=mainNs,globals:=mainNs,cells:=[],code:=.ref 13,frame:=some 14}
noncomputable def jq:Code:=.body (behindTheImports dM) qF
noncomputable abbrev p0:Pos:=⟨0,0,0,0⟩
noncomputable abbrev mM:Option Value:=some (.ref 6)
noncomputable def b1:List Stmt:=y9.take 24
noncomputable def b2:List Stmt:=(y9.drop 24).take 27
noncomputable def b3:List Stmt:=y9.drop 51
theorem Jp:behindTheImports dM=b1++(b2++(b3++[])):=by kernel_rfl
noncomputable def vH (w:World) (os:OsState):Shared:=⟨QT w.params,#[],{},187,os⟩
noncomputable def Fi (w:World) (os:OsState):Shared:=⟨wC w.params,#[],{},474,os⟩
noncomputable def B_ (w:World) (os:OsState):Shared:=⟨Ac w.params,#[],{},723,os⟩
noncomputable def n0 (w:World) (os:OsState):Shared:=⟨rI w.params,#[],{},1025,os⟩
theorem Oq:opening dM=plainProg dM.main.scope.names:=by kernel_rfl
theorem Lq:∀s,fenceModules? dM s=some s:=by intro s;kernel_rfl
theorem PW (w:World) (os:OsState):topGo treeTable dM w 11 mM 12 ⟨boot_heap w.params,#[],boot_drawn,boot_toks,os⟩ (topStub dM)=some (vH w os,⟨denote treeTable jq,jq,p0,[topFrame p0]⟩):=by
 kernel_rfl
theorem LU (w:World) (os:OsState):segRun treeTable dM w 11 mM 1 1 (vH w os) (blockOf (behindTheImports dM) qF jq p0 [topFrame p0])=some (.next,vH w os,jq,p0):=by
 kernel_rfl
theorem N9 (w:World) (os:OsState):segRun treeTable dM w 11 mM 1 2000 (vH w os) (piecesOf b1 qF jq p0 [topFrame p0])=some (.next,Fi w os,jq,⟨187,0,196,29⟩):=by
 rw [PySem.W.Fast.te14374325043358763698,PySem.W.Fast.te14364793385576792824];kernel_rfl
theorem Lg (w:World) (os:OsState):segRun treeTable dM w 11 mM 1 2000 (Fi w os) (piecesOf b2 qF jq ⟨187,0,196,29⟩ [topFrame p0])=some (.next,B_ w os,jq,⟨405,0,405,8⟩):=by
 rw [PySem.W.Fast.te14374325043358763698,PySem.W.Fast.te14364793385576792824];kernel_rfl
theorem OO (w:World) (os:OsState):segRun treeTable dM w 11 mM 1 2000 (B_ w os) (piecesOf b3 qF jq ⟨405,0,405,8⟩ [topFrame p0])=some (.next,n0 w os,jq,⟨544,0,566,15⟩):=by
 rw [PySem.W.Fast.te14374325043358763698,PySem.W.Fast.te14364793385576792824];kernel_rfl
theorem Mu (w:World) (os:OsState):topRun treeTable dM w 11 mM 10 (n0 w os) ⟨doneF .next,jq,⟨544,0,566,15⟩,[topFrame p0]⟩=some (n0 w os):=by
 kernel_rfl
theorem SD (w:World) (os:OsState):topRun treeTable dM w 11 mM (12+(1+(2000+(2000+(2000+10))))) ⟨boot_heap w.params,#[],boot_drawn,boot_toks,os⟩ (topStub dM)=some (n0 w os):=by
 refine go_top (PW w os) (piece_block (LU w os) ?_);rw [Jp];exact piece_app (N9 w os) (piece_app (Lg w os) (piece_app (OO w os) (piece_nil (Mu w os))))
theorem NI (w:World) (os:OsState):(staticsOk (importedModules dM.main.body) (boot_heap w.params) (rI w.params)&&namesBound dM (rI w.params)&&gensDone (n0 w os)&&laidKept (boot_heap w.params) (rI w.params))=true:=by kernel_rfl
theorem L9 (w:World) (os:OsState):uy (n0 w os)=rN:=by kernel_rfl
theorem Li (w:World) (os:OsState):openSeen vw lo (importedModules dM.main.body) wn true (n0 w os)=openGood vw lo:=by kernel_rfl
theorem left:LeftO dM vw lo wn uy (fun _=>rN) 7156:=
 .of_pieces (H₀:=boot_heap) (H₁:=rI) (m₀:=11) (ann:=mM) (boot_open Oq (by decide+kernel) Lq) (fun w=>by kernel_rfl) SD (by decide+kernel)
  (fun w=>funext fun os=>by rw [Prod.mk.injEq,Prod.mk.injEq];exact ⟨NI w os,Li w os,L9 w os⟩)
theorem NV (w:World) (s:Shared) (e:uy s=rN):uY w s.heap:=⟨_,Sq _,NN e⟩
theorem Qr (w:World) (h h':Heap) (x:uY w h) (k:∀b o,h.get? b=some o->h'.get? b=some o):uY w h':=
 let ⟨K,X,F⟩:=x
 ⟨K,X.keeps k,F⟩
noncomputable def sL:DefRec:={name:= "law",params:={posonlyargs:=[],args:=[⟨"script",none,⟨544,8,544,14⟩⟩],vararg:=none,kwonlyargs:=[],kw_defaults:=[],kwarg:=none,defaults:=[]},body:=(dz "law").body,scope:=(dz "law").scope,pos:=⟨544,0,566,15⟩}
theorem Lc:PySem.Challenge.rw_oj0067_01.wellSaid=true:=by kernel_rfl
theorem GU:defOf vw PySem.Challenge.rw_oj0067_01.row.name=some (sL,[]):=by kernel_rfl
theorem GO:dM.theDef PySem.Challenge.rw_oj0067_01.row.name=some (sL.params,sL.body,sL.scope):=by kernel_rfl
theorem M0:(chainsOk vw&&opensWell dM&&(frees PySem.Challenge.rw_oj0067_01.row.toRowW&&PySem.Challenge.rw_oj0067_01.row.within.isEmpty))=true:=by kernel_rfl
inductive T where
 |leaf (r:RS)
 |br (c:Bool) (x y:T)
 |el (r:R V) (k:V->B->T) (ke:aR->B->T)
 |loop (r:RS) (kn:Loc->B->T) (kr:V->Loc->B->T) (ke:aR->Loc->B->T)
noncomputable def elim {α β:Type} (z:β) (r:R α) (k:α->B->β) (ke:aR->B->β):β:=
 match r with
 |.ok v O=>k v O
 |.exc f O=>ke f O
 |.stuck=>z
noncomputable def cC {β:Type} (z:β) (r:RS) (kn:Loc->B->β) (kr:V->Loc->B->β) (ke:aR->Loc->B->β):β:=
 match r with
 |.fin .next J O=>kn J O
 |.fin (.ret v) J O=>kr v J O
 |.exc f J O=>ke f J O
 |.stuck=>z
noncomputable def aG:T->RS
 |.leaf r=>r
 |.br c x y=>bif c then aG x else aG y
 |.el r k ke=>match r with
  |.ok v O=>aG (k v O)
  |.exc f O=>aG (ke f O)
  |.stuck=>.stuck
 |.loop r kn kr ke=>match r with
  |.fin .next J O=>aG (kn J O)
  |.fin (.ret v) J O=>aG (kr v J O)
  |.exc f J O=>aG (ke f J O)
  |.stuck=>.stuck
noncomputable def zT:T:=.leaf .stuck
structure iX where
 e:Bool->Scope->Expr->Loc->B->(V->B->T)->(aR->B->T)->T
 t:Bool->Scope->Expr->Loc->B->(Bool->B->T)->(aR->B->T)->T
 x:Bool->Scope->Stmt->Loc->B->(Loc->B->T)->(V->Loc->B->T)->(aR->Loc->B->T)->T
noncomputable def pR (ev:Expr->B->(V->B->T)->T) (es:List Expr):B->(List V->B->T)->T:=
 List.rec (motive:=fun _=>B->(List V->B->T)->T) (fun O k=>k [] O) (fun e _ ih O k=>ev e O fun v O=>ih O fun vs O=>k (v::vs) O) es
theorem T_ {ev:Expr->B->(V->B->T)->T} {e:Expr} {r:List Expr} {O:B} {k:List V->B->T}:pR ev (e::r) O k=ev e O fun v O=>pR ev r O fun vs O=>k (v::vs) O:=rfl
noncomputable def Gm (op:CmpOp) (a b:V):Bool:=
 match op with
 |.In=>(match b with
  |.tup _=>false
  |_=>true)
 |.NotEq=>(match a,b with
  |.int _,.int _=>false
  |.str _,.str _=>false
  |_,_=>true)
 |_=>false
noncomputable def z' (O:B) (op:CmpOp) (a b:V) (k:V->B->T) (ke:aR->B->T):T:=
 bif Gm op a b then .el (oB (dI O op a b) O) k ke else match dI O op a b with
  |some c=>k (.bool c) O
  |none=>zT
noncomputable def vk (ev:Expr->B->(V->B->T)->T) (ke:aR->B->T) (l:V) (ops:List CmpOp) (cs:List Expr) (O:B) (k:V->B->T):T:=
 List.rec (motive:=fun _=>V->List Expr->B->(V->B->T)->T) (fun _ _ _ _=>zT) (fun op ops ih l cs O k=>match cs with
  | []=>zT
  |r::rs=>match ops,rs with
   | [],[]=>ev r O fun b O=>z' O op l b k ke
   |_::_,_::_=>ev r O fun b O=>(match dI O op l b with
    |some c=>.br c (ih b rs O k) (k (.bool false) O)
    |none=>zT)
   |_,_=>zT) ops l cs O k
noncomputable def ED (ev:Expr->B->(V->B->T)->T) (op:BoolOp) (es:List Expr):B->(V->B->T)->T:=
 List.rec (motive:=fun _=>B->(V->B->T)->T) (fun _ _=>zT) (fun x r ih O k=>match r with
  | []=>ev x O k
  |_::_=>ev x O fun v O=>match v with
   |.bool b=>(match op with
    |.And=>.br b (ih O k) (k (.bool false) O)
    |.Or=>.br b (k (.bool true) O) (ih O k))
   |_=>zT) es
noncomputable def Bl (tv:Expr->B->(Bool->B->T)->T) (op:BoolOp) (es:List Expr):B->(Bool->B->T)->T:=
 List.rec (motive:=fun _=>B->(Bool->B->T)->T) (fun O k=>k (match op with| .And=>true| .Or=>false) O) (fun x _ ih O k=>tv x O fun b O=>match op with
  |.And=>.br b (ih O k) (k false O)
  |.Or=>.br b (k true O) (ih O k)) es
noncomputable def A2 (ev:Expr->B->(V->B->T)->T) (acc:Str) (es:List Expr):B->(V->B->T)->T:=
 List.rec (motive:=fun _=>Str->B->(V->B->T)->T) (fun acc O k=>k (.str acc) O) (fun e _ ih acc O k=>ev e O fun v O=>match v with
  |.str x=>.br (bd (acc.length+x.length)) (ih (acc++x) O k) zT
  |_=>zT) es acc
noncomputable def EE (ev:Expr->B->(V->B->T)->T) (e:Expr) (O:B) (k:V->B->T):T:=
 match e with
 |.Constant (.str s) _ _=>k (.str s) O
 |.FormattedValue v c none _=>bif c== -1 then ev v O fun a O=>match a with
  |.str x=>.br (bd x.length) (k (.str x) O) zT
  |_=>zT
  else zT
 |_=>zT
noncomputable def EP (ev:Expr->B->(V->B->T)->T) (ps:List Expr) (O:B) (k:V->B->T):T:=
 match ps with
 | [_]=>zT
 |ps=>A2 (fun e O k=>EE ev e O k) Str.empty ps O k
noncomputable def wy (ev:Expr->B->(V->B->T)->T):Option Expr->B->(V->B->T)->T
 |none,O,k=>k .none O
 |some e,O,k=>ev e O k
noncomputable def B2 (ev:Expr->B->(V->B->T)->T) (ks:List (Option Expr)):List Expr->B->(List (V×V)->B->T)->T:=
 List.rec (motive:=fun _=>List Expr->B->(List (V×V)->B->T)->T) (fun vs O k=>match vs with
  | []=>k [] O
  |_=>zT) (fun o _ ih vs O k=>match o,vs with
  |some e,v::vs=>ev e O fun a O=>ev v O fun b O=>ih vs O fun r O=>k ((a,b)::r) O
  |_,_=>zT) ks
noncomputable def KP (op:Operator) (a b:V):Bool:=
 match a,b with
 |.int _,.int _=>(match op with
  |.Add=>true
  |.Sub=>true
  |.BitAnd=>true
  |.BitOr=>true
  |.BitXor=>true
  |_=>false)
 |_,_=>false
noncomputable def Pa:V->Bool
 |.tup _=>true
 |.dct _=>true
 |_=>false
noncomputable def zq (b:Bool) (r:R V) (k:V->B->T) (ke:aR->B->T):T:=bif b then elim zT r k ke else .el r k ke
noncomputable def A_ (Γ:Ctx) (bx:bQ) (I:iX) (q:Bool) (sc:Scope) (J:Loc) (O:B) (k:V->B->T) (ke:aR->B->T) (x:Ex):T:=
 let E:=fun e O k=>I.e q sc e J O k ke
 match x with
 |.cst v=>k v O
 |.name x=>elim zT (eH Γ sc x J O) k ke
 |.tup es=>pR E es O fun vs O=>bif bd vs.length then k (.tup vs) O else zT
 |.lst es=>pR E es O fun vs O=>bif bd vs.length then elim zT (newObj O (.list vs)) k ke else zT
 |.bin l op r=>E l O fun a O=>E r O fun b O=>zq (KP op a b) (ct op a b O) k ke
 |.un op x=>E x O fun a O=>elim zT (nw op a O) k ke
 |.boo op vs=>ED E op vs O k
 |.lf t b o=>I.t q sc t J O (fun c O=>.br c (I.e q sc b J O k ke) (I.e q sc o J O k ke)) ke
 |.cmp l ops cs=>E l O fun a O=>vk E ke a ops cs O k
 |.kh ps=>EP E ps O k
 |.att o a=>E o O fun v O=>elim zT (lX a v O) k ke
 |.kJ o lo hi=>E o O fun v O=>wy E lo O fun a O=>wy E hi O fun b O=>.el (d9 v a b O) k ke
 |.sub o i=>E o O fun v O=>E i O fun a O=>zq (Pa v) (fK v a O) k ke
 |.k9 o m=>bif q then zT else E o O fun v O=>.el (bk m v [] O) k ke
 |.kD o m x=>bif q then zT else E o O fun v O=>.br (jk m v O) (E x O fun b O=>.el (bk m v [b] O) k ke) zT
 |.cal f as=>E f O fun v O=>pR E as O fun vs O=>.el (fP q Γ v vs O) k ke
 |.kL ks vs=>B2 E ks vs O fun l O=>bif j9 l then k (.dct l) O else zT
 |.com bC x it bL aQ=>.el (eU Γ bx q sc J O (.com bC x it bL aQ)) k ke
noncomputable def zN (Γ:Ctx) (bx:bQ) (I:iX) (q:Bool) (sc:Scope) (e:Expr) (J:Loc) (O:B) (k:V->B->T) (ke:aR->B->T):T:=
 match pS e with
 |some x=>A_ Γ bx I q sc J O k ke x
 |none=>zT
noncomputable def CK (I:iX) (q:Bool) (sc:Scope) (e:Expr) (J:Loc) (O:B) (k:Bool->B->T) (ke:aR->B->T):T:=
 let E:=fun e O k=>I.e q sc e J O k ke
 let AT:=fun (v:V) (O:B)=>match v with
  |.bool b=>k b O
  |_=>zT
 match e with
 |.UnaryOp .Not x _=>I.t q sc x J O (fun b O=>k (!b) O) ke
 |.BoolOp op vs _=>Bl (fun e O k=>I.t q sc e J O k ke) op vs O k
 |.IfExp .. => zT
 |.Compare l ops cs _=>E l O fun a O=>vk E ke a ops cs O AT
 |e=>E e O AT
noncomputable def eI (xv:Stmt->Loc->B->(Loc->B->T)->T) (b:List Stmt):Loc->B->(Loc->B->T)->T:=
 List.rec (motive:=fun _=>Loc->B->(Loc->B->T)->T) (fun J O kn=>kn J O) (fun s _ ih J O kn=>xv s J O fun J O=>ih J O kn) b
theorem UH {xv:Stmt->Loc->B->(Loc->B->T)->T} {s:Stmt} {r:List Stmt} {J:Loc} {O:B} {kn:Loc->B->T}:eI xv (s::r) J O kn=xv s J O fun J O=>eI xv r J O kn:=rfl
noncomputable def qo (bv:Loc->B->(Loc->B->T)->T) (x:Str) (l:List V):Loc->B->(Loc->B->T)->T:=
 List.rec (motive:=fun _=>Loc->B->(Loc->B->T)->T) (fun J O kn=>kn J O) (fun a _ ih J O kn=>bv (putL x a J) O fun J O=>ih J O kn) l
theorem UR {bv:Loc->B->(Loc->B->T)->T} {x:Str} {a:V} {r:List V} {J:Loc} {O:B} {kn:Loc->B->T}:qo bv x (a::r) J O kn=bv (putL x a J) O fun J O=>qo bv x r J O kn:=rfl
noncomputable def ym:V->Bool
 |.tup _=>true
 |_=>false
noncomputable def PY (Γ:Ctx) (bx:bQ) (I:iX) (q:Bool) (sc:Scope) (s:Sx) (J:Loc) (O:B) (kn:Loc->B->T) (kr:V->Loc->B->T) (ke:aR->Loc->B->T):T:=
 let E:=fun e J O k=>I.e q sc e J O k (fun f O=>ke f J O)
 let bR:=fun (b:List Stmt) J O kn=>eI (fun s J O kn=>I.x q sc s J O kn kr ke) b J O kn
 match s with
 |.pass=>kn J O
 |.expr e=>bif di e||q then zT else E e J O fun _ O=>kn J O
 |.kG=>kr .none J O
 |.ret e=>E e J O fun v O=>kr v J O
 |.ls x v=>bif q then zT else bif bU sc x then E v J O fun a O=>kn (putL x a J) O else zT
 |.kB ts v=>bif q then zT else bif di v||kT v then zT else (match targetsOf ts with
  |some xs=>bif xs.all (bU sc)&&im xs then E v J O fun a O=>cC zT (nL xs a J O) kn kr ke else zT
  |none=>zT)
 |.lh o x v=>bif q then zT else bif di v then zT else E v J O fun a O=>E o J O fun b O=>elim zT (lV x b a O) (fun _ O=>kn J O) (fun f O=>ke f J O)
 |.aug x op v=>bif bU sc x&& !q then elim zT (eH Γ sc x J O) (fun a O=>E v J O fun b O=>cC zT (jQ x op a b J O) kn kr ke) (fun f O=>ke f J O) else zT
 |.iff t b o=>I.t q sc t J O (fun c O=>.br c (bR b J O kn) (bR o J O kn)) (fun f O=>ke f J O)
 |.kj t b=>bif q then zT else .loop (fO (fun J O=>bx.t q sc t J O) (fun J O=>bB (bx.x q sc) b J O) Γ.W J O) kn kr ke
 |.jW x it b=>bif bU sc x&& !q then E it J O fun v O=>bif ym v then (match fk v O with
  |some (l,O)=>qo (fun J O kn=>bR b J O kn) x l J O kn
  |none=>zT) else .loop (gQ (fun J O=>bB (bx.x q sc) b J O) x v J O) kn kr ke else zT
 |.ku e=>bif q then zT else E e J O fun v σ'=>cC zT (pH O.length v J σ') kn kr ke
 |.j1 b c nm h0 hs=>bif !q&&seq c "Raised" && mI sc c then
  eI (fun s J O jx=>I.x false sc s J O jx kr fun f J O=>match nm with
   |none=>eI (fun s J O kn=>I.x true sc s J O kn kr fun _ _ _=>zT) (h0::hs) J O kn
   |some n=>bif bU sc n then eI (fun s J O kn=>I.x true sc s J O kn (fun v J O=>kr v (hZ n J) O) fun _ _ _=>zT) (h0::hs) (putL n (.eV f) J) O (fun J O=>kn (hZ n J) O) else zT) b J O kn else zT
noncomputable def xR (Γ:Ctx) (bx:bQ) (I:iX) (q:Bool) (sc:Scope) (s:Stmt) (J:Loc) (O:B) (kn:Loc->B->T) (kr:V->Loc->B->T) (ke:aR->Loc->B->T):T:=
 match pW s with
 |some k=>PY Γ bx I q sc k J O kn kr ke
 |none=>zT
noncomputable def qb (Γ:Ctx) (n:Nat):iX:=
 Nat.rec (motive:=fun _=>iX) ⟨fun _ _ _ _ _ _ _=>zT,fun _ _ _ _ _ _ _=>zT,fun _ _ _ _ _ _ _ _=>zT⟩ (fun n ih=>⟨zN Γ (ev Γ n) ih,CK ih,xR Γ (ev Γ n) ih⟩) n
noncomputable def C6:Loc->B->T:=fun J O=>.leaf (.fin .next J O)
noncomputable def Dd:V->Loc->B->T:=fun v J O=>.leaf (.fin (.ret v) J O)
noncomputable def D3:aR->Loc->B->T:=fun f J O=>.leaf (.exc f J O)
section
variable {α β γ:Type} {z:β} {O:B}
theorem iN {r:R α} {f:α->B->R γ} {k:γ->B->β} {ke:aR->B->β}:elim z (r.bind f) k ke=elim z r (fun a O=>elim z (f a O) k ke) ke:=by induction r using R.casesOn<;>rfl
theorem iI {r:R α} {J:Loc} {f:α->B->RS} {kn:Loc->B->β} {kr:V->Loc->B->β} {ke:aR->Loc->B->β}:cC z (r.toS J f) kn kr ke=elim z r (fun a O=>cC z (f a O) kn kr ke) (fun f O=>ke f J O):=by induction r using R.casesOn<;>rfl
theorem TU {r:RS} {f:Loc->B->RS} {kn:Loc->B->β} {kr:V->Loc->B->β} {ke:aR->Loc->B->β}:cC z (r.bind f) kn kr ke=cC z r (fun J O=>cC z (f J O) kn kr ke) kr ke:=by
 induction r using RS.casesOn with
 |fin f J O=>induction f using Fl.casesOn<;>rfl
 |_=>rfl
theorem qd {r:R α} {k:α->B->T} {ke:aR->B->T}:aG (elim zT r k ke)=elim .stuck r (fun v O=>aG (k v O)) (fun f O=>aG (ke f O)):=by induction r using R.casesOn<;>rfl
theorem wf {r:RS} {kn:Loc->B->T} {kr:V->Loc->B->T} {ke:aR->Loc->B->T}:aG (cC zT r kn kr ke)=cC .stuck r (fun J O=>aG (kn J O)) (fun v J O=>aG (kr v J O)) (fun f J O=>aG (ke f J O)):=by
 induction r using RS.casesOn with
 |fin f J O=>induction f using Fl.casesOn<;>rfl
 |_=>rfl
theorem ox {r:R V} {k:V->B->T} {ke:aR->B->T}:aG (.el r k ke)=elim .stuck r (fun v O=>aG (k v O)) (fun f O=>aG (ke f O)):=by induction r using R.casesOn<;>rfl
theorem Gg {b:Bool} {r:R V} {k:V->B->T} {ke:aR->B->T}:aG (zq b r k ke)=elim .stuck r (fun v O=>aG (k v O)) (fun f O=>aG (ke f O)):=by
 induction b using aN with
 |true=>exact qd
 |false=>exact ox
theorem Cp {r:RS} {kn:Loc->B->T} {kr:V->Loc->B->T} {ke:aR->Loc->B->T}:aG (.loop r kn kr ke)=cC .stuck r (fun J O=>aG (kn J O)) (fun v J O=>aG (kr v J O)) (fun f J O=>aG (ke f J O)):=by
 induction r using RS.casesOn with
 |fin f J O=>induction f using Fl.casesOn<;>rfl
 |_=>rfl
theorem F0 {b:Bool} {x y:T}:aG (bif b then x else y)=bif b then aG x else aG y:=by induction b using aN<;>rfl
noncomputable def jd (e:Expr->B->R V) (t:Expr->B->(V->B->T)->T) (ke:aR->B->T):Prop:=∀x O k,aG (t x O k)=elim .stuck (e x O) (fun v O=>aG (k v O)) (fun f O=>aG (ke f O))
noncomputable def Ts (e:Expr->B->R Bool) (t:Expr->B->(Bool->B->T)->T) (ke:aR->B->T):Prop:=∀x O k,aG (t x O k)=elim .stuck (e x O) (fun v O=>aG (k v O)) (fun f O=>aG (ke f O))
noncomputable def Gr (e:Stmt->Loc->B->RS) (t:Stmt->Loc->B->(Loc->B->T)->T) (kr:V->Loc->B->T) (ke:aR->Loc->B->T):Prop:=∀x J O kn,aG (t x J O kn)=cC .stuck (e x J O) (fun J O=>aG (kn J O)) (fun v J O=>aG (kr v J O)) (fun f J O=>aG (ke f J O))
variable {ev:Expr->B->R V} {et:Expr->B->(V->B->T)->T} {tv:Expr->B->R Bool} {tt:Expr->B->(Bool->B->T)->T} {xv:Stmt->Loc->B->RS} {xt:Stmt->Loc->B->(Loc->B->T)->T} {ke:aR->B->T} {kR:V->Loc->B->T} {kE:aR->Loc->B->T}
theorem jr {t:T} {r:R α} {kt:α->B->T} {k:α->B->R γ} {f:γ->B->RS} {g:aR->B->RS} (h:aG t=elim .stuck r (fun v O=>aG (kt v O)) g) (hk:∀v O,aG (kt v O)=elim .stuck (k v O) f g):aG t=elim .stuck (r.bind k) f g:=by
 rw [h];induction r using R.casesOn with
 |ok v O=>exact hk v O
 |_=>rfl
theorem Bu {t:T} {r:RS} {kt:Loc->B->T} {k:Loc->B->RS} {f:Loc->B->RS} {kr:V->Loc->B->RS} {g:aR->Loc->B->RS} (h:aG t=cC .stuck r (fun J O=>aG (kt J O)) kr g) (hk:∀J O,aG (kt J O)=cC .stuck (k J O) f kr g):aG t=cC .stuck (r.bind k) f kr g:=by
 rw [h];induction r using RS.casesOn with
 |fin x J O=>
  induction x using Fl.casesOn with
  |next=>exact hk J O
  |_=>rfl
 |_=>rfl
theorem xO (H:jd ev et ke) (es:List Expr):∀(O:B) (k:List V->B->T),aG (pR et es O k)=elim .stuck (dX ev es O) (fun v O=>aG (k v O)) (fun f O=>aG (ke f O)):=by
 induction es with
 |nil=>exact fun _ _=>rfl
 |cons e r ih=>exact fun O k=>jr (H e O _) fun v O=>jr (ih O _) fun _ _=>rfl
theorem H_ {op:CmpOp} {a b:V} {O:B} {k:V->B->T}:aG (z' O op a b k ke)=elim .stuck (oB (dI O op a b) O) (fun v O=>aG (k v O)) (fun f O=>aG (ke f O)):=by
 unfold z';rw [F0];generalize Gm op a b=zc;induction zc using aN with
 |true=>exact ox
 |false=>
  dsimp only [cond_false]
  (generalize dI O op a b=zc;induction zc using aA)<;>rfl
theorem CW (H:jd ev et ke) (ops:List CmpOp):∀(cs:List Expr) (l:V) (O:B) (k:V->B->T),aG (vk et ke l ops cs O k)=elim .stuck (dL ev l ops cs O) (fun v O=>aG (k v O)) (fun f O=>aG (ke f O)):=by
 induction ops with
 |nil=>exact fun cs _ _ _=>by induction cs using bh<;>rfl
 |cons op ops ih=>
  intro cs l O k;induction ops using bh with
  |nil=>
   induction cs using bh with
   |nil=>rfl
   |cons r rs=>
    induction rs using bh with
    |nil=>exact jr (H r O _) fun _ _=>H_
    |cons _ _=>rfl
  |cons eD ops=>
   induction cs using bh with
   |nil=>rfl
   |cons r rs=>
    induction rs using bh with
    |nil=>rfl
    |cons r' rs=>
     refine jr (H r O _) fun b O=>?_;generalize dI O op l b=zc;induction zc using aA with
     |none=>rfl
     |some c=>
      induction c using aN with
      |true=>exact ih (r'::rs) b O k
      |false=>rfl
theorem I_ (H:jd ev et ke) (op:BoolOp) (es:List Expr):∀(O:B) (k:V->B->T),aG (ED et op es O k)=elim .stuck (jn ev op es O) (fun v O=>aG (k v O)) (fun f O=>aG (ke f O)):=by
 induction es with
 |nil=>exact fun _ _=>rfl
 |cons x r ih=>
  induction r using bh with
  |nil=>exact H x
  |cons y r=>
   refine fun O k=>jr (H x O _) fun v O=>?_;induction v using V.casesOn with
   |bool b=>induction op using BoolOp.casesOn<;>induction b using aN<;>first|rfl|exact ih O k
   |_=>rfl
theorem N8 (H:Ts tv tt ke) (op:BoolOp) (es:List Expr):∀(O:B) (k:Bool->B->T),aG (Bl tt op es O k)=elim .stuck (eR tv op es O) (fun v O=>aG (k v O)) (fun f O=>aG (ke f O)):=by
 induction es with
 |nil=>exact fun _ _=>by induction op using BoolOp.casesOn<;>rfl
 |cons x r ih=>exact fun O k=>jr (H x O _) fun b O=>by induction op using BoolOp.casesOn<;>induction b using aN<;>first|rfl|exact ih O k
theorem Tt (H:jd ev et ke) (es:List Expr):∀(acc:Str) (O:B) (k:V->B->T),aG (A2 et acc es O k)=elim .stuck (jL ev acc es O) (fun v O=>aG (k v O)) (fun f O=>aG (ke f O)):=by
 induction es with
 |nil=>exact fun _ _ _=>rfl
 |cons e r ih=>
  refine fun acc O k=>jr (H e O _) fun v O=>?_;induction v using V.casesOn with
  |str x=>
   show aG (.br (bd (acc.length+x.length)) _ _)=elim .stuck (bif bd (acc.length+x.length) then _ else _) _ _;generalize bd (acc.length+x.length)=zc;induction zc using aN with
   |true=>exact ih (acc++x) O k
   |false=>rfl
  |_=>rfl
theorem OY (H:jd ev et ke):jd (fun e O=>ib ev e O) (fun e O k=>EE et e O k) ke:=fun e O k=>by
 cases e with
 |Constant c _ _=>cases c<;>rfl
 |FormattedValue v c sp p=>
  cases sp with
  |some _=>rfl
  |none=>
   show aG (bif c== -1 then et v O fun a O=>match a with
    |.str x=>.br (bd x.length) (k (.str x) O) zT
    |_=>zT else zT)=elim .stuck (bif c== -1 then (ev v O).bind fun a O=>match a with
    |.str x=>bif bd x.length then (R.ok (V.str x) O:R V) else .stuck
    |_=>.stuck else .stuck) _ _
   cases hc:c== -1 with
   |false=>rfl
   |true=>
    dsimp only [cond_true];refine jr (H v O _) fun v O=>?_;cases v with
    |str x=>
     dsimp only;cases bd x.length<;>rfl
    |_=>rfl
 |_=>rfl
theorem MZ (H:jd ev et ke) (ps:List Expr) (O:B) (k:V->B->T):aG (EP et ps O k)=elim .stuck (m8 ev ps O) (fun v O=>aG (k v O)) (fun f O=>aG (ke f O)):=by
 match ps with
 | []=>rfl
 | [_]=>rfl
 |a::b::r=>exact Tt (OY H) (a::b::r) Str.empty O k
theorem EX (H:jd ev et ke) (o:Option Expr) (O:B) (k:V->B->T):aG (wy et o O k)=elim .stuck (gT ev o O) (fun v O=>aG (k v O)) (fun f O=>aG (ke f O)):=by
 induction o using aA with
 |none=>rfl
 |some e=>exact H e O k
theorem JP (H:jd ev et ke) (ks:List (Option Expr)):∀(vs:List Expr) (O:B) (k:List (V×V)->B->T),aG (B2 et ks vs O k)=elim .stuck (hU ev ks vs O) (fun v O=>aG (k v O)) (fun f O=>aG (ke f O)):=by
 induction ks with
 |nil=>exact fun vs _ _=>by induction vs using bh<;>rfl
 |cons o ks ih=>
  intro vs O k;induction o using aA with
  |none=>induction vs using bh<;>rfl
  |some e=>
   induction vs using bh with
   |nil=>rfl
   |cons v vs=>exact jr (H e O _) fun a O=>jr (H v O _) fun b O=>jr (ih vs O _) fun _ _=>rfl
theorem sI (H:Gr xv xt kR kE) (b:List Stmt):∀(J:Loc) (O:B) (kn:Loc->B->T),aG (eI xt b J O kn)=cC .stuck (bB xv b J O) (fun J O=>aG (kn J O)) (fun v J O=>aG (kR v J O)) (fun f J O=>aG (kE f J O)):=by
 induction b with
 |nil=>exact fun _ _ _=>rfl
 |cons s r ih=>exact fun J O kn=>Bu (H s J O _) fun J O=>ih J O kn
theorem N6 {bv:Loc->B->RS} {bt:Loc->B->(Loc->B->T)->T} (H:∀J O kn,aG (bt J O kn)=cC .stuck (bv J O) (fun J O=>aG (kn J O)) (fun v J O=>aG (kR v J O)) (fun f J O=>aG (kE f J O))) (x:Str) (l:List V):
 ∀(J:Loc) (O:B) (kn:Loc->B->T),aG (qo bt x l J O kn)=cC .stuck (dH bv x l J O) (fun J O=>aG (kn J O)) (fun v J O=>aG (kR v J O)) (fun f J O=>aG (kE f J O)):=by
 induction l with
 |nil=>exact fun _ _ _=>rfl
 |cons a r ih=>exact fun J O kn=>Bu (H _ O _) fun J O=>ih J O kn
end
noncomputable def DE (bx:bQ) (I:iX):Prop:=∀(q:Bool) (sc:Scope) (e:Expr) (J:Loc) (O:B) (k:V->B->T) (ke:aR->B->T),aG (I.e q sc e J O k ke)=elim .stuck (bx.e q sc e J O) (fun v O=>aG (k v O)) (fun f O=>aG (ke f O))
noncomputable def DT (bx:bQ) (I:iX):Prop:=∀(q:Bool) (sc:Scope) (e:Expr) (J:Loc) (O:B) (k:Bool->B->T) (ke:aR->B->T),aG (I.t q sc e J O k ke)=elim .stuck (bx.t q sc e J O) (fun v O=>aG (k v O)) (fun f O=>aG (ke f O))
noncomputable def DX (bx:bQ) (I:iX):Prop:=∀(q:Bool) (sc:Scope) (s:Stmt) (J:Loc) (O:B) (kn:Loc->B->T) (kr:V->Loc->B->T) (ke:aR->Loc->B->T),aG (I.x q sc s J O kn kr ke)=cC .stuck (bx.x q sc s J O) (fun J O=>aG (kn J O)) (fun v J O=>aG (kr v J O)) (fun f J O=>aG (ke f J O))
section
variable {Γ:Ctx} {bx:bQ} {I:iX} {q:Bool} {sc:Scope} {J:Loc} {O:B}
theorem Te (HE:DE bx I) (HT:DT bx I) (k:V->B->T) (ke:aR->B->T) (x:Ex):aG (A_ Γ bx I q sc J O k ke x)=elim .stuck (eU Γ bx q sc J O x) (fun v O=>aG (k v O)) (fun f O=>aG (ke f O)):=by
 have H:jd (fun e O=>bx.e q sc e J O) (fun e O k=>I.e q sc e J O k ke) ke:=fun x O k=>HE q sc x J O k ke;have i0:∀ {β:Type} (e:Expr) (O:B) (f:V->B->T) (g:V->B->R β) (P:β->B->RS),(∀v O,aG (f v O)=elim .stuck (g v O) P fun f O=>aG (ke f O))->aG (I.e q sc e J O f ke)=elim .stuck ((bx.e q sc e J O).bind g) P fun f O=>aG (ke f O):=
  fun e O f g P h=>by rw [HE,iN];congr 1;funext v O;exact h v O
 induction x using Ex.casesOn with
 |cst v=>rfl
 |name x=>exact qd
 |tup es=>exact (xO H _ _ _).trans (by unfold eU;rw [iN];congr 1;funext vs O;(generalize bd vs.length=zc;induction zc using aN)<;>rfl)
 |lst es=>exact (xO H _ _ _).trans (by unfold eU;rw [iN];congr 1;funext vs O;(generalize bd vs.length=zc;induction zc using aN)<;>rfl)
 |bin l op r=>exact i0 _ _ _ _ _ fun a O=>i0 _ _ _ _ _ fun b O=>Gg
 |un op x=>exact i0 _ _ _ _ _ fun a O=>qd
 |boo op vs=>exact I_ H op vs O k
 |lf t b o=>
  unfold eU;refine (HT q sc t J O _ ke).trans ?_;rw [iN]
  congr 1;funext c O
  induction c using aN with
  |true=>exact HE q sc b J O k ke
  |false=>exact HE q sc o J O k ke
 |cmp l ops cs=>exact i0 _ _ _ _ _ fun a O=>CW H ops cs a O k
 |kh ps=>exact MZ H ps O k
 |att o a=>exact i0 _ _ _ _ _ fun v O=>qd
 |kJ o lo hi=>exact i0 _ _ _ _ _ fun v O=>(EX H _ _ _).trans (by rw [iN];congr 1;funext a O;exact (EX H _ _ _).trans (by rw [iN];congr 1;funext b O;exact ox))
 |sub o i=>exact i0 _ _ _ _ _ fun a O=>i0 _ _ _ _ _ fun b O=>Gg
 |k9 o m=>
  induction q using aN with
  |true=>rfl
  |false=>exact i0 _ _ _ _ _ fun v O=>ox
 |kD o m x=>
  induction q using aN with
  |true=>rfl
  |false=>
   refine i0 _ _ _ _ _ fun v O=>?_;generalize jk m v O=zc;induction zc using aN with
   |false=>rfl
   |true=>exact i0 _ _ _ _ _ fun b O=>ox
 |cal f as=>exact i0 _ _ _ _ _ fun v O=>(xO H _ _ _).trans (by rw [iN];congr 1;funext vs O;exact ox)
 |kL ks vs=>exact (JP H _ _ _ _).trans (by unfold eU;rw [iN];congr 1;funext l O;(generalize j9 l=zc;induction zc using aN)<;>rfl)
 |com bC x it bL aQ=>exact ox
theorem Hj (HE:DE bx I) (HT:DT bx I) (e:Expr) (k:V->B->T) (ke:aR->B->T):aG (zN Γ bx I q sc e J O k ke)=elim .stuck (iM Γ bx q sc e J O) (fun v O=>aG (k v O)) (fun f O=>aG (ke f O)):=by
 unfold zN iM;generalize pS e=zc;induction zc using aA with
 |none=>rfl
 |some x=>exact Te HE HT k ke x
theorem Ia (HE:DE bx I) (HT:DT bx I) (e:Expr) (k:Bool->B->T) (ke:aR->B->T):aG (CK I q sc e J O k ke)=elim .stuck (stepT Γ bx q sc e J O) (fun v O=>aG (k v O)) (fun f O=>aG (ke f O)):=by
 have H:jd (fun e O=>bx.e q sc e J O) (fun e O k=>I.e q sc e J O k ke) ke:=fun x O k=>HE q sc x J O k ke;have FQ:∀(v:V) (O:B),aG (match v with| .bool b=>k b O|_=>zT)=elim .stuck (boolOf v O) (fun v O=>aG (k v O)) (fun f O=>aG (ke f O)):=fun v O=>by induction v using V.casesOn<;>rfl
 have plain:aG (I.e q sc e J O (fun v O=>match v with| .bool b=>k b O|_=>zT) ke)=elim .stuck ((bx.e q sc e J O).bind fun v O=>boolOf v O) (fun v O=>aG (k v O)) (fun f O=>aG (ke f O)):=by
  rw [HE,iN]
  congr 1;funext v O
  exact FQ v O
 induction e using Expr.casesOn with
 |UnaryOp op x _=>
  induction op using UnaryOp.casesOn with
  |Not=>
   show aG (I.t q sc x J O (fun b O=>k (!b) O) ke)=elim .stuck ((bx.t q sc x J O).bind fun b O=>.ok (!b) O) _ _;rw [HT,iN];rfl
  |_=>exact plain
 |BoolOp op vs _=>exact N8 (fun x O k=>HT q sc x J O k ke) op vs O k
 |IfExp t b o p=>rfl
 |Compare l ops cs _=>
  show aG (I.e q sc l J O (fun a O=>vk (fun e O k=>I.e q sc e J O k ke) ke a ops cs O fun v O=>match v with| .bool b=>k b O|_=>zT) ke)=elim .stuck ((bx.e q sc l J O).bind fun a O=>(dL (fun e O=>bx.e q sc e J O) a ops cs O).bind fun v O=>boolOf v O) _ _;rw [HE,iN]
  congr 1;funext a O
  rw [CW H,iN]
  congr 1;funext v O
  exact FQ v O
 |_=>exact plain
end
section
variable {Γ:Ctx} {bx:bQ} {I:iX} {q:Bool} {sc:Scope} {J:Loc} {O:B}
theorem LX (HE:DE bx I) (HT:DT bx I) (HX:DX bx I) (s:Stmt) (kn:Loc->B->T) (kr:V->Loc->B->T) (ke:aR->Loc->B->T):
 aG (xR Γ bx I q sc s J O kn kr ke)=cC .stuck (jD Γ bx q sc s J O) (fun J O=>aG (kn J O)) (fun v J O=>aG (kr v J O)) (fun f J O=>aG (ke f J O)):=by
 have HB:Gr (bx.x q sc) (fun s J O kn=>I.x q sc s J O kn kr ke) kr ke:=fun x J O kn=>HX q sc x J O kn kr ke;have bR:=fun (b:List Stmt) J O kn=>sI HB b J O kn;unfold xR jD xQ;generalize pW s=zc;induction zc using aA with
 |none=>rfl
 |some s=>
 induction s using Sx.casesOn with
 |pass=>rfl
 |kG=>rfl
 |expr e=>
  show aG (bif di e||q then zT else I.e q sc e J O (fun _ O=>kn J O) (fun f O=>ke f J O))=cC .stuck (bif di e||q then .stuck else (bx.e q sc e J O).toS J fun _ O=>.fin .next J O) _ _ _;generalize (di e||q)=zc;induction zc using aN with
  |true=>rfl
  |false=>
   dsimp only [cond_false];rw [HE,iI];rfl
 |ret e=>
  show aG (I.e q sc e J O (fun v O=>kr v J O) (fun f O=>ke f J O))=cC .stuck ((bx.e q sc e J O).toS J fun v O=>.fin (.ret v) J O) _ _ _;rw [HE,iI];rfl
 |ls x v=>
  induction q using aN with
  |true=>rfl
  |false=>
   show aG (bif bU sc x then I.e false sc v J O (fun a O=>kn (putL x a J) O) (fun f O=>ke f J O) else zT)=cC .stuck (bif bU sc x then (bx.e false sc v J O).toS J fun a O=>.fin .next (putL x a J) O else .stuck) _ _ _;generalize bU sc x=zc;induction zc using aN with
   |false=>rfl
   |true=>
    dsimp only [cond_true];rw [HE,iI];rfl
 |kB es v=>
  induction q using aN with
  |true=>rfl
  |false=>
   show aG (bif di v||kT v then zT else (match targetsOf es with
    |some xs=>bif xs.all (bU sc)&&im xs then I.e false sc v J O (fun a O=>cC zT (nL xs a J O) kn kr ke) (fun f O=>ke f J O) else zT
    |none=>zT))=cC .stuck (bif di v||kT v then .stuck else (match targetsOf es with
    |some xs=>bif xs.all (bU sc)&&im xs then (bx.e false sc v J O).toS J fun a O=>nL xs a J O else .stuck
    |none=>.stuck)) _ _ _
   generalize (di v||kT v)=zc;induction zc using aN with
   |true=>rfl
   |false=>
   dsimp only [cond_false];generalize targetsOf es=zc;induction zc using aA with
   |none=>rfl
   |some xs=>
    dsimp only;generalize (xs.all (bU sc)&&im xs)=zc;induction zc using aN with
    |false=>rfl
    |true=>
     dsimp only [cond_true];rw [HE,iI]
     congr 1;funext a O
     exact wf
 |lh o x v=>
  induction q using aN with
  |true=>rfl
  |false=>
   show aG (bif di v then zT else I.e false sc v J O (fun a O=>I.e false sc o J O (fun b O=>elim zT (lV x b a O) (fun _ O=>kn J O) (fun f O=>ke f J O)) (fun f O=>ke f J O)) (fun f O=>ke f J O))=
    cC .stuck (bif di v then .stuck else (bx.e false sc v J O).toS J fun a O=>(bx.e false sc o J O).toS J fun b O=>(lV x b a O).toS J fun _ O=>.fin .next J O) _ _ _
   generalize di v=zc;induction zc using aN with
   |true=>rfl
   |false=>
    dsimp only [cond_false];rw [HE,iI]
    congr 1;funext a O
    rw [HE,iI]
    congr 1;funext b O
    rw [qd,iI];rfl
 |aug x op v=>
  show aG (bif bU sc x&& !q then elim zT (eH Γ sc x J O) (fun a O=>I.e q sc v J O (fun b O=>cC zT (jQ x op a b J O) kn kr ke) (fun f O=>ke f J O)) (fun f O=>ke f J O) else zT)=
   cC .stuck (bif bU sc x&& !q then (eH Γ sc x J O).toS J fun a O=>(bx.e q sc v J O).toS J fun b O=>jQ x op a b J O else .stuck) _ _ _
  generalize (bU sc x&& !q)=zc;induction zc using aN with
  |false=>rfl
  |true=>
   dsimp only [cond_true];rw [qd,iI]
   congr 1;funext a O
   rw [HE,iI]
   congr 1;funext b O
   exact wf
 |iff t b o=>
  show aG (I.t q sc t J O (fun c O=>.br c (eI (fun s J O kn=>I.x q sc s J O kn kr ke) b J O kn) (eI (fun s J O kn=>I.x q sc s J O kn kr ke) o J O kn)) (fun f O=>ke f J O))=
   cC .stuck ((bx.t q sc t J O).toS J fun c O=>bif c then bB (bx.x q sc) b J O else bB (bx.x q sc) o J O) _ _ _
  rw [HT,iI]
  congr 1;funext c O
  induction c using aN with
  |true=>exact bR b J O kn
  |false=>exact bR o J O kn
 |kj t b=>
  show aG (bif q then zT else .loop (fO (fun J O=>bx.t q sc t J O) (fun J O=>bB (bx.x q sc) b J O) Γ.W J O) kn kr ke)=cC .stuck (bif q then .stuck else fO (fun J O=>bx.t q sc t J O) (fun J O=>bB (bx.x q sc) b J O) Γ.W J O) _ _ _;induction q using aN with
  |true=>rfl
  |false=>exact Cp
 |jW x it b=>
  show aG (bif bU sc x&& !q then I.e q sc it J O (fun v O=>bif ym v then (match fk v O with
   |some (l,O)=>qo (fun J O kn=>eI (fun s J O kn=>I.x q sc s J O kn kr ke) b J O kn) x l J O kn
   |none=>zT) else .loop (gQ (fun J O=>bB (bx.x q sc) b J O) x v J O) kn kr ke) (fun f O=>ke f J O) else zT)=
   cC .stuck (bif bU sc x&& !q then (bx.e q sc it J O).toS J fun v O=>gQ (fun J O=>bB (bx.x q sc) b J O) x v J O else .stuck) _ _ _
  generalize (bU sc x&& !q)=zc;induction zc using aN with
  |false=>rfl
  |true=>
   dsimp only [cond_true];rw [HE,iI]
   congr 1;funext v O
   rw [F0];generalize ym v=zc;induction zc using aN with
   |false=>exact Cp
   |true=>
    dsimp only [cond_true,gQ];generalize fk v O=zc;induction zc using aA with
    |none=>rfl
    |some k6=>
     obtain ⟨l,τ⟩:=k6;exact N6 (fun J O kn=>bR b J O kn) x l J τ kn
 |ku e=>
  show aG (bif q then zT else I.e q sc e J O (fun v σ'=>cC zT (pH O.length v J σ') kn kr ke) (fun f O=>ke f J O))=cC .stuck (bif q then .stuck else (bx.e q sc e J O).toS J fun v σ'=>pH O.length v J σ') _ _ _;induction q using aN with
  |true=>rfl
  |false=>
   dsimp only [cond_false];rw [HE,iI]
   congr 1;funext v σ'
   exact wf
 |j1 b c nm h0 hs=>
  show aG (bif !q&&seq c "Raised" && mI sc c then
   eI (fun s J O jx=>I.x false sc s J O jx kr fun f J O=>match nm with
    |none=>eI (fun s J O kn=>I.x true sc s J O kn kr fun _ _ _=>zT) (h0::hs) J O kn
    |some n=>bif bU sc n then eI (fun s J O kn=>I.x true sc s J O kn (fun v J O=>kr v (hZ n J) O) fun _ _ _=>zT) (h0::hs) (putL n (.eV f) J) O (fun J O=>kn (hZ n J) O) else zT) b J O kn else zT)=
   cC .stuck (bif !q&&seq c "Raised" && mI sc c then o0 (fun J O=>bB (bx.x true sc) (h0::hs) J O) (bU sc) nm (bB (bx.x false sc) b J O) else .stuck) _ _ _
  generalize (!q&&seq c "Raised" && mI sc c)=zc;induction zc using aN with
  |false=>rfl
  |true=>
   dsimp only [cond_true];have key:=fun (n7:aR->Loc->B->T)=>sI (fun x J O kn=>HX false sc x J O kn kr n7) b J O kn;rw [key];generalize bB (bx.x false sc) b J O=zc;induction zc using RS.casesOn with
   |stuck=>rfl
   |fin fl aH σ'=>induction fl using Fl.casesOn<;>rfl
   |exc f aH σ'=>
    show aG (match nm with
     |none=>eI (fun s J O kn=>I.x true sc s J O kn kr fun _ _ _=>zT) (h0::hs) aH σ' kn
     |some n=>bif bU sc n then eI (fun s J O kn=>I.x true sc s J O kn (fun v J O=>kr v (hZ n J) O) fun _ _ _=>zT) (h0::hs) (putL n (.eV f) aH) σ' (fun J O=>kn (hZ n J) O) else zT)=_
    induction nm using aA with
    |none=>
     dsimp only;have Py:=fun (n7:aR->Loc->B->T)=>sI (fun x J O kn=>HX true sc x J O kn kr n7) (h0::hs) aH σ' kn;rw [Py];show _=cC RS.stuck (vO (bB (bx.x true sc) (h0::hs) aH σ')) _ _ _;generalize bB (bx.x true sc) (h0::hs) aH σ'=zc;induction zc using RS.casesOn with
     |fin fl _ _=>induction fl using Fl.casesOn<;>rfl
     |_=>rfl
    |some n=>
     show _=cC RS.stuck (bif bU sc n then oF (fun J O=>bB (bx.x true sc) (h0::hs) J O) n f aH σ' else .stuck) _ _ _;dsimp only;generalize bU sc n=zc;induction zc using aN with
     |false=>rfl
     |true=>
      dsimp only [cond_true,oF];have Lz:=fun (Ng:V->Loc->B->T) (n7:aR->Loc->B->T) (jx:Loc->B->T)=>sI (fun x J O kn=>HX true sc x J O kn Ng n7) (h0::hs) (putL n (.eV f) aH) σ' jx;rw [Lz];generalize bB (bx.x true sc) (h0::hs) (putL n (.eV f) aH) σ'=zc;induction zc using RS.casesOn with
      |fin fl _ _=>induction fl using Fl.casesOn<;>rfl
      |_=>rfl
theorem tP (Γ:Ctx):∀n,DE (ev Γ n) (qb Γ n)/\DT (ev Γ n) (qb Γ n)/\DX (ev Γ n) (qb Γ n)
 | 0=>⟨fun _ _ _ _ _ _ _=>rfl,fun _ _ _ _ _ _ _=>rfl,fun _ _ _ _ _ _ _ _=>rfl⟩
 |n+1=>by
  refine fw (tP Γ n ) fun a b c=>?_;exact ⟨fun q sc e J O k ke=>Hj a b e k ke,fun q sc e J O k ke=>Ia (Γ:=Γ) a b e k ke,fun q sc s J O kn kr ke=>LX a b c s kn kr ke⟩
end
noncomputable def aP (x:Str):Fn:=match prog.fn x with
 |some f=>f
 |none=>⟨[],[],[],⟨.function,[],false,false,[]⟩,false⟩
noncomputable def Run (t:T) (P:RS->Prop):Prop:=P (aG t)
section
variable {P:RS->Prop}
theorem Run.leaf {r:RS} (h:P r):Run (.leaf r) P:=h
theorem Run.cast {t t':T} (k:Run t' P) (h:t'=t):Run t P:=h▸k
theorem Run.stmt {xv:Stmt->Loc->B->(Loc->B->T)->T} {s:Stmt} {r:List Stmt} {J:Loc} {O:B} {kn:Loc->B->T} (jm:Loc->B->Prop)
 (main:∀jx:Loc->B->T,(∀J O,jm J O->Run (jx J O) P)->Run (xv s J O jx) P) (tail:∀J O,jm J O->Run (eI xv r J O kn) P):Run (eI xv (s::r) J O kn) P:=main _ tail
theorem Run.cY {xv:Stmt->Loc->B->(Loc->B->T)->T} {s:Stmt} {r:List Stmt} {J:Loc} {O:B} {kn:Loc->B->T} (se:Loc) (g':B)
 (main:∀jx:Loc->B->T,Run (jx se g') P->Run (xv s J O jx) P) (tail:Run (eI xv r se g' kn) P):Run (eI xv (s::r) J O kn) P:=main _ tail
noncomputable def T.bt:T->Bool
 |.br c _ _=>c
 |_=>false
noncomputable def T.bf:T->Bool
 |.br c _ _=>c
 |_=>true
noncomputable def T.b1:T->T
 |.br _ x _=>x
 |_=>zT
noncomputable def T.b2:T->T
 |.br _ _ y=>y
 |_=>zT
noncomputable def T.hd:T->R V
 |.el r _ _=>r
 |_=>.stuck
noncomputable def T.nx (t:T) (v:V) (O:B):T:=match t with
 |.el _ k _=>k v O
 |_=>zT
noncomputable def T.ne (t:T) (f:aR) (O:B):T:=match t with
 |.el _ _ ke=>ke f O
 |_=>zT
noncomputable def T.lr:T->RS
 |.loop r _ _ _=>r
 |_=>.stuck
noncomputable def T.ln (t:T) (J:Loc) (O:B):T:=match t with
 |.loop _ kn _ _=>kn J O
 |_=>zT
noncomputable def T.lv (t:T) (v:V) (J:Loc) (O:B):T:=match t with
 |.loop _ _ kr _=>kr v J O
 |_=>zT
noncomputable def T.le (t:T) (f:aR) (J:Loc) (O:B):T:=match t with
 |.loop _ _ _ ke=>ke f J O
 |_=>zT
theorem Run.au {t:T} (hc:T.bt t=true) (h:Run (T.b1 t) P):Run t P:=by
 induction t using T.casesOn with
 |br c x y=>cases (show c=true from hc);exact h
 |_=>exact ff hc
theorem Run.ah {t:T} (hc:T.bf t=false) (h:Run (T.b2 t) P):Run t P:=by
 induction t using T.casesOn with
 |br c x y=>cases (show c=false from hc);exact h
 |_=>cases hc
theorem Run.bK {r:R V} {k:V->B->T} {ke:aR->B->T} {v:V} {O:B} (hr:r=.ok v O) (h:Run (k v O) P):Run (.el r k ke) P:=by subst hr;exact h
theorem Run.PT {r:R V} {k:V->B->T} {ke:aR->B->T} {f:aR} {O:B} (hr:r=.exc f O) (h:Run (ke f O) P):Run (.el r k ke) P:=by subst hr;exact h
theorem Run.UP {r:RS} {kn:Loc->B->T} {kr:V->Loc->B->T} {ke:aR->Loc->B->T} {J:Loc} {O:B} (hr:r=.fin .next J O) (h:Run (kn J O) P):Run (.loop r kn kr ke) P:=by subst hr;exact h
theorem Run.Fq {c:Bool} {x y:T} (hc:c=true) (h:Run x P):Run (.br c x y) P:=by subst hc;exact h
theorem Run.P8 {c:Bool} {x y:T} (hc:c=false) (h:Run y P):Run (.br c x y) P:=by subst hc;exact h
theorem Run.br {c:Bool} {x y:T} (h1:c=true->Run x P) (h2:c=false->Run y P):Run (.br c x y) P:=by
 induction c using aN with
 |true=>exact h1 rfl
 |false=>exact h2 rfl
theorem Run.ok {t:T} {v:V} {O:B} (hr:T.hd t=.ok v O) (h:Run (T.nx t v O) P):Run t P:=by
 induction t using T.casesOn with
 |el r k ke=>cases (show r=.ok v O from hr);exact h
 |_=>cases hr
theorem Run.exc {t:T} {f:aR} {O:B} (hr:T.hd t=.exc f O) (h:Run (T.ne t f O) P):Run t P:=by
 induction t using T.casesOn with
 |el r k ke=>cases (show r=.exc f O from hr);exact h
 |_=>cases hr
theorem Run.next {t:T} {J:Loc} {O:B} (hr:T.lr t=.fin .next J O) (h:Run (T.ln t J O) P):Run t P:=by
 induction t using T.casesOn with
 |loop r kn kr ke=>cases (show r=.fin .next J O from hr);exact h
 |_=>cases hr
theorem Run.pC {t:T} {v:V} {J:Loc} {O:B} (hr:T.lr t=.fin (.ret v) J O) (h:Run (T.lv t v J O) P):Run t P:=by
 induction t using T.casesOn with
 |loop r kn kr ke=>cases (show r=.fin (.ret v) J O from hr);exact h
 |_=>cases hr
theorem Run.yW {t:T} {f:aR} {J:Loc} {O:B} (hr:T.lr t=.exc f J O) (h:Run (T.le t f J O) P):Run t P:=by
 induction t using T.casesOn with
 |loop r kn kr ke=>cases (show r=.exc f J O from hr);exact h
 |_=>cases hr
end
noncomputable def dS:RS->R V
 |.fin (.ret v) _ O=>.ok v O
 |.fin .next _ O=>.ok .none O
 |.exc f _ O=>.exc f O
 |.stuck=>.stuck
noncomputable def oK:Stmt:=.Pass ⟨0,0,0,0⟩
noncomputable def g5 (Γ:Ctx) (n:Nat) (q:Bool) (sc:Scope) (b:List Stmt) (J:Loc) (O:B):T:=eI (fun s J O kn=>(qb Γ n).x q sc s J O kn Dd D3) (b++[oK]) J O C6
theorem Aq {xv:Stmt->Loc->B->RS} (h:∀J O,xv oK J O=.fin .next J O):∀(b:List Stmt) (J:Loc) (O:B),bB xv (b++[oK]) J O=bB xv b J O
 | [],J,O=>by
  show (xv oK J O).bind (fun J O=>bB xv [] J O)=_;rw [h];rfl
 |s::r,J,O=>by
  rw [List.cons_append,EV,EV]
  congr 1;funext J O
  exact Aq h r J O
theorem Fh (Γ:Ctx) (n:Nat) (q:Bool) (sc:Scope) (b:List Stmt) (J:Loc) (O:B):bB ((ev Γ (n+1)).x q sc) b J O=aG (g5 Γ (n+1) q sc b J O):=by
 unfold g5;rw [sI (fun x J O kn=>(tP Γ (n+1)).2.2 q sc x J O kn Dd D3) (b++[oK]) J O C6,Aq (fun _ _=>rfl)];generalize bB ((ev Γ (n+1)).x q sc) b J O=zc;induction zc using RS.casesOn with
 |fin fl _ _=>induction fl using Fl.casesOn<;>rfl
 |_=>rfl
noncomputable def Bd (Γ:Ctx) (n:Nat) (q:Bool) (sc:Scope) (e:Expr) (J:Loc) (O:B):T:=(qb Γ n).t q sc e J O (fun b O=>.leaf (.fin (.ret (.bool b)) [] O)) (fun f O=>.leaf (.exc f [] O))
noncomputable def F9 (Γ:Ctx) (n:Nat) (q:Bool) (sc:Scope) (e:Expr) (J:Loc) (O:B):T:=(qb Γ n).e q sc e J O (fun v O=>.leaf (.fin (.ret v) [] O)) (fun f O=>.leaf (.exc f [] O))
theorem ez {Γ:Ctx} {n:Nat} {q:Bool} {sc:Scope} {b:List Stmt} {J:Loc} {O:B} {P:RS->Prop} (h:Run (g5 Γ (n+1) q sc b J O) P):P (bB ((ev Γ (n+1)).x q sc) b J O):=by
 rw [Fh];exact h
theorem dO {Γ:Ctx} {n:Nat} {q:Bool} {sc:Scope} {e:Expr} {J:Loc} {O σ':B} {b:Bool} (h:Run (Bd Γ n q sc e J O) (fun r=>r=.fin (.ret (.bool b)) [] σ')):(ev Γ n).t q sc e J O=.ok b σ':=by
 unfold Run Bd at h;rw [(tP Γ n).2.1] at h;generalize e1:(ev Γ n).t q sc e J O=zc;induction zc using R.casesOn with
 |ok c τ=>
  rw [e1] at h;have h:RS.fin (.ret (.bool c)) [] τ=.fin (.ret (.bool b)) [] σ':=h;cases h;rfl
 |exc f τ=>rw [e1] at h;cases (h:RS.exc f [] τ=.fin (.ret (.bool b)) [] σ')
 |stuck=>rw [e1] at h;cases (h:RS.stuck=.fin (.ret (.bool b)) [] σ')
theorem OT {Γ:Ctx} {n:Nat} {q:Bool} {sc:Scope} {e:Expr} {J:Loc} {O σ':B} {v:V} (h:Run (F9 Γ n q sc e J O) (fun r=>r=.fin (.ret v) [] σ')):(ev Γ n).e q sc e J O=.ok v σ':=by
 unfold Run F9 at h;rw [(tP Γ n).1] at h;generalize e1:(ev Γ n).e q sc e J O=zc;induction zc using R.casesOn with
 |ok c τ=>
  rw [e1] at h;have h:RS.fin (.ret c) [] τ=.fin (.ret v) [] σ':=h;cases h;rfl
 |exc f τ=>rw [e1] at h;cases (h:RS.exc f [] τ=.fin (.ret v) [] σ')
 |stuck=>rw [e1] at h;cases (h:RS.stuck=.fin (.ret v) [] σ')
noncomputable abbrev WW:Nat:=100000
noncomputable abbrev CF (n:Nat):eK:=dA prog WW n
noncomputable abbrev GF (n:Nat):Ctx:=⟨CF n,WW,prog.names⟩
theorem xj {Γ:Ctx} {f:Fn} {args:List V} {O:B} {J:Loc} (hb:eF f.params args f.h9=some J):dj Γ f args O=dS (aG (g5 Γ 40 false f.scope f.body J O)):=by
 rw [<- Fh];unfold dj;rw [hb];dsimp only;generalize bB ((ev Γ 40).x false f.scope) f.body J O=zc;induction zc using RS.casesOn with
 |fin fl _ _=>induction fl using Fl.casesOn<;>rfl
 |_=>rfl
noncomputable def iz (r:R V) (O:B):R V:=
 match r with
 |.ok v σ'=>givenBack 0 v σ' O
 |.exc f _=>.exc f O
 |.stuck=>.stuck
theorem bH {n:Nat} {x:Str} {args:List V} {f:Fn} {O:B} {J:Loc} {P:R V->Prop} (h1:CF (n+1) x args O=fN (dj (GF n) f) args O) (h2:bP 0 args=true) (hb:eF f.params args f.h9=some J)
 (h:Run (g5 (GF n) 40 false f.scope f.body J []) (fun r=>P (iz (dS r) O))):P (CF (n+1) x args O):=by
 rw [h1];unfold fN;rw [h2];dsimp only [cond_true];rw [xj hb];exact h
theorem fR {n:Nat} {x:Str} {args:List V} {f:Fn} {O:B} {J:Loc} {P:R V->Prop} (h1:CF (n+1) x args O=dj (GF n) f args O) (hb:eF f.params args f.h9=some J)
 (h:Run (g5 (GF n) 40 false f.scope f.body J O) (fun r=>P (dS r))):P (CF (n+1) x args O):=by
 rw [h1,xj hb];exact h
theorem F4 {tv:Loc->B->R Bool} {bv:Loc->B->RS} {n:Nat} {J:Loc} {O:B} (ht:tv J O=.ok false O):fO tv bv (n+1) J O=.fin .next J O:=by
 rw [wD,ht];rfl
noncomputable def kF (x:Str):Bool:=(nS x [.str " ",.str "\t",.str "\n",.str "\x0b",.str "\x0c",.str "\r"]).getD false
noncomputable def pG (k:Nat):Int:=bif decide (48<=(k:Int))&&decide ((k:Int)<=57) then k-48 else bif decide (97<=(k:Int))&&decide ((k:Int)<=122) then k-87 else bif decide (65<=(k:Int))&&decide ((k:Int)<=90) then k-55 else -1
theorem jH (n:Nat) (x:Str) (O:B):CF (n+1) "is_blank" [.str x] O=.ok (.bool (kF x)) O:=by
 refine bH (P:=fun r=>r=.ok (.bool (kF x)) O) (f:=aP "is_blank") (J:=[("c",.str x)]) (by kernel_rfl) (by kernel_rfl) (by kernel_rfl) ?_;exact Run.leaf (by kernel_rfl)
theorem EQ (n k:Nat) (O:B):CF (n+1) "digit" [.str ⟨#[k]⟩] O=.ok (.int (pG k)) O:=by
 refine bH (P:=fun r=>r=.ok (.int (pG k)) O) (f:=aP "digit") (J:=[("c",.str ⟨#[k]⟩)]) (by kernel_rfl) (by kernel_rfl) (by kernel_rfl) ?_;unfold pG;refine Run.ok (v:=.int 1) (O:=[]) (by kernel_rfl) ?_;refine Run.ah (by kernel_rfl) ?_;refine Run.ok (v:=.int k) (O:=[]) (by kernel_rfl) ?_
 repeat' (first|contradiction|refine Run.leaf ?_|refine Run.br (fun _=>?_) (fun _=>?_))
 all_goals (simp only [*];rfl)
theorem Run.gH {P:RS->Prop} {r:RS} {kn:Loc->B->T} {kr:V->Loc->B->T} {ke:aR->Loc->B->T} (Q:RS->Prop) (hr:Q r) (h:∀r,Q r->Run (.loop r kn kr ke) P):Run (.loop r kn kr ke) P:=h r hr
theorem A5 {α:Type}:∀(l:List α) (i:Nat) (a:α),az l i=some a->l.drop i=a::l.drop (i+1)
 | [],i,a,h=>by induction i using cz<;>exact al h
 |b::r,0,a,h=>by obtain rfl:=Option.some.inj h;rfl
 |b::r,i+1,a,h=>by rw [List.drop_succ_cons,List.drop_succ_cons];exact A5 r i a h
theorem o7 {α:Type}:∀(l:List α) (i:Nat),i<l.length->∃a,az l i=some a
 | [],i,h=>absurd h (Nat.not_lt_zero _)
 |a::r,0,_=>⟨a,rfl⟩
 |a::r,i+1,h=>o7 r i (Nat.lt_of_succ_lt_succ h)
noncomputable def fx (jm:Loc->B->Prop) (Q:RS->Prop) (r:RS):Prop:=(∃aH σ',r=.fin .next aH σ'/\jm aH σ')\/(Q r/\∀f,r.bind f=r)
theorem fx.next {jm:Loc->B->Prop} {Q:RS->Prop} {J:Loc} {O:B} (h:jm J O):fx jm Q (.fin .next J O):=.inl ⟨J,O,rfl,h⟩
theorem fx.ret {jm:Loc->B->Prop} {Q:RS->Prop} {v:V} {J:Loc} {O:B} (h:Q (.fin (.ret v) J O)):fx jm Q (.fin (.ret v) J O):=.inr ⟨h,fun _=>rfl⟩
theorem fx.exc {jm:Loc->B->Prop} {Q:RS->Prop} {e:aR} {J:Loc} {O:B} (h:Q (.exc e J O)):fx jm Q (.exc e J O):=.inr ⟨h,fun _=>rfl⟩
theorem PO {bv:Loc->B->RS} {x:Str} (I:Nat->Loc->B->Prop) (Q:RS->Prop) {l:List V}
 (step:∀i a J O,az l i=some a->I i J O->fx (I (i+1)) Q (bv (putL x a J) O))
 (fin:∀J O,I l.length J O->Q (.fin .next J O)):∀(n i:Nat) (J:Loc) (O:B),i+n=l.length->I i J O->Q (dH bv x (l.drop i) J O):=by
 intro n;induction n with
 |zero=>
  intro i J O hi h;rw [List.drop_eq_nil_of_le (by exact ae [_,_] [] [.f (.p (.v 1) (.n 0)) (.v 0)] (.le (.v 0) (.v 1)) rfl hi)];exact fin J O (by rw [<- hi];exact h)
 |succ n ih=>
  intro i J O hi h;refine aB (o7 l i (by exact ae [_,_,_] [] [.e (.p (.v 0) (.p (.v 2) (.n 1))) (.v 1)] (.lt (.v 0) (.v 1)) rfl hi) ) fun a ea=>?_;rw [A5 l i a ea,lR];rcases step i a J O ea h with ⟨aH,σ',e,h'⟩|⟨hq,hb⟩
  ·rw [e];exact ih (i+1) aH σ' (by exact Nat.le_antisymm (ae [_,_,_] [] [.e (.p (.v 0) (.p (.v 1) (.n 1))) (.v 2)] (.le (.p (.p (.v 0) (.n 1)) (.v 1)) (.v 2)) rfl hi) (ae [_,_,_] [] [.f (.p (.v 1) (.p (.v 2) (.n 1))) (.v 0)] (.le (.v 0) (.p (.p (.v 1) (.n 1)) (.v 2))) rfl hi)) h'
  ·rw [hb];exact hq
theorem SJ {bv:Loc->B->RS} {x:Str} (I:Nat->Loc->B->Prop) (Q:RS->Prop) {l:List V} {J:Loc} {O:B}
 (step:∀i a J O,az l i=some a->I i J O->fx (I (i+1)) Q (bv (putL x a J) O))
 (fin:∀J O,I l.length J O->Q (.fin .next J O)) (h0:I 0 J O):Q (dH bv x l J O):=PO I Q step fin l.length 0 J O (by exact Nat.le_antisymm (ae [_] [] [] (.le (.p (.n 0) (.v 0)) (.v 0)) rfl) (ae [_] [] [] (.le (.v 0) (.p (.n 0) (.v 0))) rfl)) h0
theorem lU {tv:Loc->B->R Bool} {bv:Loc->B->RS} (I:Nat->Loc->B->Prop) (Q:RS->Prop)
 (step:∀i J O,I i J O->(tv J O=.ok false O/\Q (.fin .next J O))\/(tv J O=.ok true O/\fx (fun J O=>∃j,j<i/\I j J O) Q (bv J O))):∀(n i:Nat) (J:Loc) (O:B),i<n->I i J O->Q (fO tv bv n J O):=by
 intro n;induction n with
 |zero=>exact fun i J O hi h=>absurd hi (Nat.not_lt_zero _)
 |succ n ih=>
  intro i J O hi h;rcases step i J O h with ⟨ht,hq⟩|⟨ht,hs⟩
  ·rw [wD,ht];exact hq
  ·rw [wD,ht];show Q ((bv J O).bind (fun J O=>fO tv bv n J O));rcases hs with ⟨aH,σ',e,j,hj,h'⟩|⟨hq,hb⟩
   ·rw [e];exact ih j aH σ' (by exact ae [_,_,_] [] [.lt (.v 2) (.p (.v 1) (.n 1)),.lt (.v 0) (.v 2)] (.lt (.v 0) (.v 1)) rfl hi hj) h'
   ·rw [hb];exact hq
theorem intBits_le {i:Int} {m:Nat} (h:i.natAbs<2 ^ m):Builtin.Int.intBits i<=m:=by
 unfold Builtin.Int.intBits
 split
 ·exact Nat.zero_le _
 ·rename_i hi;have hi:i≠0:=by simpa using hi
  exact (Nat.log2_lt (by lia)).mpr h
theorem yb {a b:Int} {O:B} {m k:Nat} (ha:a.natAbs<2 ^ m) (hb:b.natAbs<2 ^ k) (h:m+k<=100000):ct .Mult (.int a) (.int b) O=.ok (.int (a*b)) O:=by
 have h1:=intBits_le ha;have h2:=intBits_le hb;show aX (bif decide (Builtin.Int.intBits a+Builtin.Int.intBits b<=100000) then some (a*b) else none) (ja O)=_;rw [decide_eq_true (by exact ae [_,_,_,_] [] [.le (.p (.v 2) (.v 3)) (.n 100000),.le (.v 0) (.v 2),.le (.v 1) (.v 3)] (.le (.p (.v 0) (.v 1)) (.n 100000)) rfl h h1 h2)];rfl
noncomputable abbrev TL:Nat:=10000
noncomputable def sz (x:Str):Nat:=x.cps.toList.length
theorem eY (x:Str):x.length=sz x:=by show x.cps.size=_;exact (Array.length_toList).symm
theorem DG (x:Str) (O:B) (bv:Loc->B->RS) (y:Str) (J:Loc):gQ bv y (.str x) J O=dH bv y (x.cps.toList.map fun c=>.str ⟨#[c]⟩) J O:=rfl
theorem Nm {l:List Nat} {i:Nat} {a:V} (h:az (l.map fun c=>V.str ⟨#[c]⟩) i=some a):∃c,az l i=some c/\a=.str ⟨#[c]⟩:=by
 induction l generalizing i with
 |nil=>induction i using cz<;>exact al h
 |cons b r ih=>
  induction i using cz with
  |zero=>obtain rfl:=Option.some.inj h;exact ⟨b,rfl,rfl⟩
  |succ i=>exact ih h
theorem Jc (n:Nat) (x:Str) (O:B):∃b:Int,CF (n+1) "base_of" [.str x] O=.ok (.int b) O/\(b=0\/(2<=b/\b<=16)):=by
 refine bH (P:=fun r=>∃b:Int,r=.ok (.int b) O/\(b=0\/(2<=b/\b<=16))) (f:=aP "base_of") (J:=[("mark",.str x)]) (by kernel_rfl) (by kernel_rfl) (by kernel_rfl) ?_
 repeat' (first|contradiction|refine Run.leaf ?_|refine Run.br (fun _=>?_) (fun _=>?_))
 ·exact ⟨16,rfl,by decide⟩
 ·exact ⟨8,rfl,by decide⟩
 ·exact ⟨2,rfl,by decide⟩
 ·exact ⟨10,rfl,by decide⟩
 ·exact ⟨0,rfl,by decide⟩
noncomputable def kW (L:Nat) (v:V):Prop:=v=.none\/∃i:Int,v=.int i/\i.natAbs<16 ^ L
noncomputable def GI (x:Str) (b:Int) (r:RS):Prop:=(∃J,r=.fin (.ret .none) J [])\/∃(v:Int) (r0:Loc),r=.fin .next (("text",.str x)::("base",.int b)::("value",.int v)::r0) []/\v.natAbs<16 ^ sz x
theorem Dg (n:Nat) (x:Str) (b:Int) (hx:sz x<=TL) (h1:2<=b) (h2:b<=16) (O:B):∃v,CF (n+2) "digits_value" [.str x,.int b] O=.ok v O/\kW (sz x) v:=by
 refine bH (P:=fun r=>∃v,r=.ok v O/\kW (sz x) v) (f:=aP "digits_value") (J:=[("text",.str x),("base",.int b)]) (by kernel_rfl) (by kernel_rfl) (by kernel_rfl) ?_;refine Run.br (fun _=>?_) (fun _=>?_)
 ·exact Run.leaf ⟨.none,rfl,.inl rfl⟩
 ·refine Run.gH (GI x b) ?_ ?_
  ·rw [DG];refine SJ (Q:=GI x b) (fun i J O=>O=[]/\∃v:Int,v.natAbs<16 ^ i/\0<=v/\(J=([("text",.str x),("base",.int b),("value",.int v)]:Loc)\/∃c d:V,J=([("text",.str x),("base",.int b),("value",.int v),("c",c),("n",d)]:Loc))) ?_ ?_ ⟨rfl,0,by decide,by decide,.inl rfl⟩
   ·rintro i a J O ha ⟨rfl,v,hv,mH,bw⟩;refine aw (Nm ha ) ?_;rintro c hc rfl;have hi:i<sz x:=gI hc;have cL:sz x<=10000:=hx;have hm:ct .Mult (.int v) (.int b) []=.ok (.int (v*b)) []:=yb (m:=4*i) (k:=5) (by rw [show (2:Nat) ^ (4*i)=16 ^ i by rw [Nat.pow_mul]];exact hv) (by show b.natAbs<32;lia) (by exact ae [_,_] [] [.x 4 (.lt (.v 0) (.v 1)),.x 4 (.le (.v 1) (.n 10000))] (.le (.p (.m 4 (.v 0)) (.n 5)) (.n 100000)) rfl hi cL);rcases bw with rfl|⟨c',d',rfl⟩
    all_goals
     refine ez (P:=fx _ _) ?_;refine Run.ok (EQ n c []) ?_;refine Run.br (fun h=>Run.au rfl (Run.leaf (.ret (.inl ⟨_,rfl⟩)))) (fun h3=>Run.br (fun h=>Run.au rfl (Run.leaf (.ret (.inl ⟨_,rfl⟩)))) (fun h4=>Run.ah rfl ?_));refine Run.ok hm (Run.leaf (.next ⟨rfl,v*b+pG c,?_,?_,.inr ⟨_,_,rfl⟩⟩))
     all_goals
      have h3:=of_decide_eq_false h3;have h4:=of_decide_eq_false h4;have h5:0<=v*b:=Int.mul_nonneg mH (by lia)
    ·have h6:v*b+b<=16 ^ i*16:=by
      have:(v+1)*b<=16 ^ i*16:=by
       have q:v+1<=(16:Int) ^ i:=by
        have:(v.natAbs:Int)<((16 ^ i:Nat):Int):=by exact_mod_cast hv
        rw [Int.natAbs_of_nonneg mH] at this
        push_cast at this;exact ae [] [_,_] [.aY (.w 0) (.w 1)] (.aJ (.p (.w 0) (.k 1)) (.w 1)) rfl this
       exact Int.mul_le_mul q h2 (by exact ae [] [_] [.aJ (.k 2) (.w 0)] (.aJ (.k 0) (.w 0)) rfl h1) (Int.pow_nonneg (by decide))
      rw [Int.add_mul] at this;exact ae [] [_,_,_] [.aJ (.p (.w 0) (.m 1 (.w 1))) (.q (.w 2) 16)] (.aJ (.p (.w 0) (.w 1)) (.q (.w 2) 16)) rfl this
     have h7:((v*b+pG c).natAbs:Int)<((16 ^ (i+1):Nat):Int):=by
      rw [Int.natAbs_of_nonneg (by lia),Nat.pow_succ];push_cast;exact ae [] [_,_,_,_] [.aY (.w 1) (.w 3),.aJ (.p (.w 0) (.w 3)) (.q (.w 2) 16)] (.aY (.p (.w 0) (.w 1)) (.q (.w 2) 16)) rfl (Int.not_le.mp h4) h6
     exact_mod_cast h7
    ·lia
    ·have h6:v*b+b<=16 ^ i*16:=by
      have:(v+1)*b<=16 ^ i*16:=by
       have q:v+1<=(16:Int) ^ i:=by
        have:(v.natAbs:Int)<((16 ^ i:Nat):Int):=by exact_mod_cast hv
        rw [Int.natAbs_of_nonneg mH] at this
        push_cast at this;exact ae [] [_,_] [.aY (.w 0) (.w 1)] (.aJ (.p (.w 0) (.k 1)) (.w 1)) rfl this
       exact Int.mul_le_mul q h2 (by exact ae [] [_] [.aJ (.k 2) (.w 0)] (.aJ (.k 0) (.w 0)) rfl h1) (Int.pow_nonneg (by decide))
      rw [Int.add_mul] at this;exact ae [] [_,_,_] [.aJ (.p (.w 0) (.m 1 (.w 1))) (.q (.w 2) 16)] (.aJ (.p (.w 0) (.w 1)) (.q (.w 2) 16)) rfl this
     have h7:((v*b+pG c).natAbs:Int)<((16 ^ (i+1):Nat):Int):=by
      rw [Int.natAbs_of_nonneg (by lia),Nat.pow_succ];push_cast;exact ae [] [_,_,_,_] [.aY (.w 1) (.w 3),.aJ (.p (.w 0) (.w 3)) (.q (.w 2) 16)] (.aY (.p (.w 0) (.w 1)) (.q (.w 2) 16)) rfl (Int.not_le.mp h4) h6
     exact_mod_cast h7
    ·lia
   ·rintro J O ⟨rfl,v,hv,mH,bw⟩;rw [List.length_map] at hv;rcases bw with rfl|⟨c,d,rfl⟩
    ·exact .inr ⟨v,_,rfl,hv⟩
    ·exact .inr ⟨v,_,rfl,hv⟩
  ·rintro r (⟨J,rfl⟩|⟨v,r0,rfl,hv⟩)
   ·exact Run.pC rfl (Run.leaf ⟨.none,rfl,.inl rfl⟩)
   ·refine Run.next rfl (Run.leaf ⟨.int v,rfl,.inr ⟨v,rfl,hv⟩⟩)
theorem item_str {x:Str} {i:Int} (h0:0<=i) (h1:i<sz x) (hx:sz x<=TL) (O:B):∃c,az x.cps.toList i.toNat=some c/\fK (.str x) (.int i) O=.ok (.str ⟨#[c]⟩) O:=by
 refine aB (o7 x.cps.toList i.toNat (by show _<sz x;exact ae [_,_] [_] [.aY (.w 0) (.c (.v 1)),.ie (.c (.v 0)) (.w 0)] (.lt (.v 0) (.v 1)) rfl h1 (Int.toNat_of_nonneg (ae [] [_] [.aJ (.k 0) (.w 0)] (.aJ (.k 0) (.w 0)) rfl h0))) ) fun c hc=>?_;refine ⟨c,hc,?_⟩;have cL:sz x<=10000:=hx;have e:idx i x.cps.toList.length=some i.toNat:=by
  unfold idx;have h2:i<(x.cps.toList.length:Int):=h1;have h3:x.cps.toList.length<=1048576:=by show sz x<=_;exact ae [_] [] [.le (.v 0) (.n 10000)] (.le (.v 0) (.n 1048576)) rfl cL
  rw [decide_eq_true h0,decide_eq_true h2,decide_eq_true h3];rfl
 show aX (idx i x.cps.toList.length) (qs x.cps.toList vP O)=_;rw [e];show aX (az x.cps.toList i.toNat) (BU vP O)=_;rw [hc];rfl
theorem tO {O:B} {k:Nat} {l:List V} (hk:az O k=some (.list l)):eB O k=some l:=by unfold eB;rw [hk];rfl
theorem j3 {α:Type} {O:B} {k:Nat} {l:List V} {f:List V->R α} (hk:az O k=some (.list l)):aX (eB O k) f=f l:=by rw [tO hk];rfl
theorem tA {α β:Type} {o:Option β} {b:β} {f:β->R α} (h:o=some b):aX o f=f b:=by rw [h];rfl
theorem cR {n:Nat} (h:n<=1048576):bd n=true:=decide_eq_true h
theorem len_str {x:Str} (hx:sz x<=TL) (O:B):cM (.builtin "len") [.str x] O=.ok (.int (sz x)) O:=by
 have cL:sz x<=10000:=hx;show (bif bd x.length then R.ok (V.int (x.length:Int)) O else .stuck)=_;rw [eY,cR (by exact ae [_] [] [.le (.v 0) (.n 10000)] (.le (.v 0) (.n 1048576)) rfl cL)];rfl
theorem qk {x:Str} {i j:Int} (hx:sz x<=TL) (O:B):d9 (.str x) (.int i) (.int j) O=.ok (.str (Txt.slice x (some i) (some j))) O:=by
 have cL:sz x<=10000:=hx;show (bif bd x.length then R.ok (V.str (Txt.slice x (some i) (some j))) O else .stuck)=_;rw [eY,cR (by exact ae [_] [] [.le (.v 0) (.n 10000)] (.le (.v 0) (.n 1048576)) rfl cL)];rfl
theorem vB (x:Str) (i j:Option Int):sz (Txt.slice x i j)<=sz x:=by rw [<- eY,<- eY];exact Txt.slice_le x i j
noncomputable def W1 (x:Str) (f b:Int):Loc:=[("text",.str x),("first",.int f),("behind",.int b)]
inductive sf (x:Str):RS->Prop
 |mk (f b:Int):0<=f->f<=b->b<=sz x->sf x (.fin .next (W1 x f b) [])
inductive wh (x:Str):Nat->Loc->B->Prop
 |mk (f b:Int) (i:Nat):0<=f->f<=b->b<=sz x->i=(b-f).toNat->wh x i (W1 x f b) []
noncomputable def W2 (x:Str) (f b:Int) (m:Bool) (r:Loc):Loc:=("text",.str x)::("first",.int f)::("behind",.int b)::("is_minus",.bool m)::r
theorem TS {L:Nat} {i:Int} (h:kW L (.int i)):kW L (.int (-i)):=by
 rcases h with h|⟨j,h,k⟩
 ·exact V.noConfusion h
 ·obtain rfl:=V.int.inj h;exact .inr ⟨_,rfl,by rw [Int.natAbs_neg];exact k⟩
inductive um (x:Str):Loc->B->Prop
 |mk (f b:Int):0<=f->f<=b->b<=sz x->um x (W1 x f b) []
inductive Bv (x:Str):Loc->B->Prop
 |mk (f b:Int) (m:Bool):0<=f->b<=sz x->Bv x (W2 x f b m []) []
inductive Es (x:Str) (f b:Int) (m:Bool):Loc->B->Prop
 |mk (bR:Int):(bR=0\/(2<=bR/\bR<=16))->Es x f b m (W2 x f b m [("base",.int bR)]) []
inductive At (se:Loc) (g':B):Loc->B->Prop
 |mk:At se g' se g'
theorem EG {x:Str} {f b:Int} (hx:sz x<=TL) (h0:0<=f) (h2:b<=sz x):(b-f).toNat<WW:=by
 have:sz x<=10000:=hx;show _<100000;lia
theorem I5 {f b:Int} (h:f<b):(b-(f+1)).toNat<(b-f).toNat:=by exact ae [_,_] [_,_] [.ie (.c (.v 0)) (.s (.w 0) (.p (.w 1) (.k 1))),.jf (.c (.v 1)) (.s (.w 0) (.w 1))] (.lt (.v 0) (.v 1)) rfl (Int.toNat_of_nonneg (ae [] [_,_] [.aY (.w 1) (.w 0)] (.aJ (.k 0) (.s (.w 0) (.p (.w 1) (.k 1)))) rfl h)) (Int.toNat_of_nonneg (ae [] [_,_] [.aY (.w 1) (.w 0)] (.aJ (.k 0) (.s (.w 0) (.w 1))) rfl h))
theorem R7 {f b:Int} (h:f<b):(b-1-f).toNat<(b-f).toNat:=by exact ae [_,_] [_,_] [.ie (.c (.v 0)) (.s (.s (.w 0) (.k 1)) (.w 1)),.jf (.c (.v 1)) (.s (.w 0) (.w 1))] (.lt (.v 0) (.v 1)) rfl (Int.toNat_of_nonneg (ae [] [_,_] [.aY (.w 1) (.w 0)] (.aJ (.k 0) (.s (.s (.w 0) (.k 1)) (.w 1))) rfl h)) (Int.toNat_of_nonneg (ae [] [_,_] [.aY (.w 1) (.w 0)] (.aJ (.k 0) (.s (.w 0) (.w 1))) rfl h))
set_option tactic.hygienic true in
theorem nP (n:Nat) (x:Str) (hx:sz x<=TL) (O:B):∃v,CF (n+3) "whole_of" [.str x] O=.ok v O/\kW (sz x) v:=by
 refine bH (P:=fun r=>∃v,r=.ok v O/\kW (sz x) v) (f:=aP "whole_of") (J:=[("text",.str x)]) (by kernel_rfl) (by kernel_rfl) (by kernel_rfl) ?_;have cL:sz x<=10000:=hx;refine Run.stmt (um x) (fun kn hk=>Run.ok (len_str hx []) (hk _ _ (.mk 0 (sz x) (Int.le_refl _) (Int.natCast_nonneg _) (Int.le_refl _)))) ?_;intro _ _ h;induction h;rename_i f b h0 h1 h2;refine Run.stmt (um x) (fun kn hk=>?_) ?_
 ·refine Run.gH (sf x) ?_ ?_
  ·refine lU (Q:=sf x) (wh x) ?_ WW (b-f).toNat _ _ (EG hx h0 h2) (.mk f b _ h0 h1 h2 rfl);intro i J O h;induction h;rename_i f b i h0 h1 h2 hi;subst hi;by_cases hf:f<b
   ·refine aw (item_str (x:=x) (i:=f) h0 (by exact ae [_] [_,_] [.aJ (.w 1) (.c (.v 0)),.aY (.w 0) (.w 1)] (.aY (.w 0) (.c (.v 0))) rfl h2 hf) hx [] ) fun c hc hi=>?_;generalize hb:kF ⟨#[c]⟩=zc;induction zc using aN with
    |false=>
     refine .inl ⟨dO (Run.au (decide_eq_true hf) (Run.ok hi (Run.ok (jH (n+1) ⟨#[c]⟩ []) ?_))),.mk f b h0 h1 h2⟩;rw [hb];exact Run.ah rfl (Run.leaf rfl)
    |true=>
     refine .inr ⟨dO (Run.au (decide_eq_true hf) (Run.ok hi (Run.ok (jH (n+1) ⟨#[c]⟩ []) ?_))),?_⟩
     ·rw [hb];exact Run.au rfl (Run.leaf rfl)
     ·refine ez (P:=fx _ _) (Run.leaf (.next ⟨(b-(f+1)).toNat,I5 hf,.mk (f+1) b _ (by exact ae [] [_] [.aJ (.k 0) (.w 0)] (.aJ (.k 0) (.p (.w 0) (.k 1))) rfl h0) (by exact ae [] [_,_] [.aY (.w 0) (.w 1)] (.aJ (.p (.w 0) (.k 1)) (.w 1)) rfl hf) h2 rfl⟩))
   ·refine .inl ⟨dO (Run.ah (decide_eq_false hf) (Run.leaf rfl)),.mk f b h0 h1 h2⟩
  ·intro r h;induction h;rename_i f b h0 h1 h2;exact Run.next rfl (hk _ _ (.mk f b h0 h1 h2))
 clear h0 h1 h2;intro _ _ h;induction h;rename_i f b h0 h1 h2;refine Run.stmt (um x) (fun kn hk=>?_) ?_
 ·refine Run.gH (sf x) ?_ ?_
  ·refine lU (Q:=sf x) (wh x) ?_ WW (b-f).toNat _ _ (EG hx h0 h2) (.mk f b _ h0 h1 h2 rfl);intro i J O h;induction h;rename_i f b i h0 h1 h2 hi;subst hi;by_cases hf:f<b
   ·refine aw (item_str (x:=x) (i:=b-1) (by exact ae [] [_,_] [.aJ (.k 0) (.w 1),.aY (.w 1) (.w 0)] (.aJ (.k 0) (.s (.w 0) (.k 1))) rfl h0 hf) (by exact ae [_] [_] [.aJ (.w 0) (.c (.v 0))] (.aY (.s (.w 0) (.k 1)) (.c (.v 0))) rfl h2) hx [] ) fun c hc hi=>?_;generalize hb:kF ⟨#[c]⟩=zc;induction zc using aN with
    |false=>
     refine .inl ⟨dO (Run.au (decide_eq_true hf) (Run.ok hi (Run.ok (jH (n+1) ⟨#[c]⟩ []) ?_))),.mk f b h0 h1 h2⟩;rw [hb];exact Run.ah rfl (Run.leaf rfl)
    |true=>
     refine .inr ⟨dO (Run.au (decide_eq_true hf) (Run.ok hi (Run.ok (jH (n+1) ⟨#[c]⟩ []) ?_))),?_⟩
     ·rw [hb];exact Run.au rfl (Run.leaf rfl)
     ·refine ez (P:=fx _ _) (Run.leaf (.next ⟨(b-1-f).toNat,R7 hf,.mk f (b-1) _ h0 (by exact ae [] [_,_] [.aY (.w 0) (.w 1)] (.aJ (.w 0) (.s (.w 1) (.k 1))) rfl hf) (by exact ae [_] [_] [.aJ (.w 0) (.c (.v 0))] (.aJ (.s (.w 0) (.k 1)) (.c (.v 0))) rfl h2) rfl⟩))
   ·refine .inl ⟨dO (Run.ah (decide_eq_false hf) (Run.leaf rfl)),.mk f b h0 h1 h2⟩
  ·intro r h;induction h;rename_i f b h0 h1 h2;exact Run.next rfl (hk _ _ (.mk f b h0 h1 h2))
 clear h0 h1 h2;intro _ _ h;induction h;rename_i f b h0 h1 h2;refine Run.stmt (At (W2 x f b false []) []) (fun kn hk=>hk _ _ .mk) ?_;intro _ _ h;induction h;refine Run.stmt (Bv x) (fun kn hk=>?_) ?_
 ·refine Run.br (fun h=>?_) (fun h=>Run.ah rfl (hk _ _ (.mk f b false h0 h2)));have h:=of_decide_eq_true h;refine aw (item_str (x:=x) (i:=f) h0 (by exact ae [_] [_,_] [.aJ (.w 1) (.c (.v 0)),.aY (.w 0) (.w 1)] (.aY (.w 0) (.c (.v 0))) rfl h2 h) hx [] ) fun c hc hi=>?_;refine Run.ok hi (Run.br (fun _=>?_) (fun _=>Run.ah rfl (hk _ _ (.mk f b false h0 h2))));exact Run.au rfl (Run.ok hi (hk _ _ (.mk (f+1) b _ (by exact ae [] [_] [.aJ (.k 0) (.w 0)] (.aJ (.k 0) (.p (.w 0) (.k 1))) rfl h0) h2)))
 clear h0 h1 h2 f b;intro _ _ h;induction h;rename_i f b m h0 h2;refine Run.stmt (At (W2 x f b m [("base",.int 0)]) []) (fun kn hk=>hk _ _ .mk) ?_;intro _ _ h;induction h;refine Run.stmt (Es x f b m) (fun kn hk=>?_) ?_
 ·refine Run.br (fun h=>?_) (fun h=>Run.ah rfl (hk _ _ (.mk 0 (.inl rfl))));have h:=of_decide_eq_true h;refine aw (item_str (x:=x) (i:=f) h0 (by lia) hx [] ) fun c hc hi=>?_;refine Run.ok hi (Run.br (fun _=>?_) (fun _=>Run.ah rfl (hk _ _ (.mk 0 (.inl rfl)))));refine Run.au rfl ?_;refine aw (item_str (x:=x) (i:=f+1) (by exact ae [] [_] [.aJ (.k 0) (.w 0)] (.aJ (.k 0) (.p (.w 0) (.k 1))) rfl h0) (by lia) hx [] ) fun c2 Gp N3=>?_;refine aw (Jc (n+1) ⟨#[c2]⟩ [] ) fun bR hB zV=>?_;exact Run.ok N3 (Run.ok hB (hk _ _ (.mk bR zV)))
 intro _ _ h;induction h;rename_i bR hB;refine Run.stmt (fun J O=>O=[]/\∃v:V,J=W2 x f b m [("base",.int bR),("value",v)]/\kW (sz x) v) (fun kn hk=>?_) ?_
 ·rcases hB with rfl|⟨NJ,zV⟩
  ·refine Run.ah rfl (Run.ok (qk hx []) ?_);refine aw (Dg n (Txt.slice x (some f) (some b)) 10 (Nat.le_trans (vB _ _ _) hx) (by decide) (by decide) [] ) fun v hv hn=>?_;refine Run.ok hv (hk _ _ ⟨rfl,v,rfl,?_⟩);rcases hn with h|⟨i,h,k⟩
   ·exact .inl h
   ·exact .inr ⟨i,h,Nat.lt_of_lt_of_le k (Nat.pow_le_pow_right (by decide) (vB _ _ _))⟩
  ·refine Run.au (decide_eq_true (by lia)) (Run.ok (qk hx []) ?_);refine aw (Dg n (Txt.slice x (some (f+2)) (some b)) bR (Nat.le_trans (vB _ _ _) hx) NJ zV [] ) fun v hv hn=>?_;refine Run.ok hv (hk _ _ ⟨rfl,v,rfl,?_⟩);rcases hn with h|⟨i,h,k⟩
   ·exact .inl h
   ·exact .inr ⟨i,h,Nat.lt_of_lt_of_le k (Nat.pow_le_pow_right (by decide) (vB _ _ _))⟩
 rintro _ _ ⟨rfl,v,rfl,hv⟩;refine Run.stmt (fun J O=>O=[]/\∃i:Int,J=W2 x f b m [("base",.int bR),("value",.int i)]/\kW (sz x) (.int i)) (fun kn hk=>?_) ?_
 ·rcases id hv with rfl|⟨i,rfl,hi⟩
  ·exact Run.au rfl (Run.leaf ⟨.none,rfl,.inl rfl⟩)
  ·exact Run.ah rfl (hk _ _ ⟨rfl,i,rfl,hv⟩)
 rintro _ _ ⟨rfl,i,rfl,hv⟩;refine Run.br (fun h=>?_) (fun h=>?_)
 ·exact Run.leaf ⟨_,rfl,TS hv⟩
 ·exact Run.leaf ⟨_,rfl,hv⟩
noncomputable def tU (v:V):Prop:=v=.none\/∃b,v=.bool b
theorem Kr {x:Str} (hx:sz x<=TL) (O:B):bk "lower" (.str x) [] O=.ok (.str (Txt.lower x)) O:=by
 have cL:sz x<=10000:=hx;have h1:(Txt.lower x).length<=3*sz x:=by rw [<- eY];exact PyProof.Rows.len_lower x
 have e:bk "lower" (.str x) [] O=bif bd x.length&&bd (Txt.lower x).length then .ok (.str (Txt.lower x)) O else .stuck:=by kernel_rfl
 rw [e,eY,cR (by exact ae [_] [] [.le (.v 0) (.n 10000)] (.le (.v 0) (.n 1048576)) rfl cL),cR (by exact ae [_,_] [] [.x 3 (.le (.v 1) (.n 10000)),.le (.v 0) (.m 3 (.v 1))] (.le (.v 0) (.n 1048576)) rfl cL h1)];rfl
theorem wa (n:Nat) (x:Str) (hx:sz x<=TL) (O:B):∃v,CF (n+4) "bool_of" [.str x] O=.ok v O/\tU v:=by
 refine bH (P:=fun r=>∃v,r=.ok v O/\tU v) (f:=aP "bool_of") (J:=[("text",.str x)]) (by kernel_rfl) (by kernel_rfl) (by kernel_rfl) ?_;refine aw (nP n x hx [] ) fun v hv hn=>?_;refine Run.ok hv ?_;rcases hn with rfl|⟨i,rfl,_⟩
 ·refine Run.ah rfl (Run.ok (Kr hx []) (Run.br (fun _=>?_) (fun _=>?_)))
  ·exact Run.leaf ⟨.none,rfl,.inl rfl⟩
  ·refine Run.au rfl (Run.ok rfl (Run.br (fun _=>?_) (fun _=>?_)))
   ·exact Run.leaf ⟨.bool true,rfl,.inr ⟨_,rfl⟩⟩
   refine Run.au rfl (Run.ok rfl (Run.br (fun _=>?_) (fun _=>?_)))
   ·exact Run.leaf ⟨.bool true,rfl,.inr ⟨_,rfl⟩⟩
   refine Run.au rfl (Run.ok rfl (Run.br (fun _=>?_) (fun _=>?_)))
   ·exact Run.leaf ⟨.bool true,rfl,.inr ⟨_,rfl⟩⟩
   refine Run.au rfl (Run.ok rfl (Run.br (fun _=>?_) (fun _=>?_)))
   ·exact Run.leaf ⟨.bool false,rfl,.inr ⟨_,rfl⟩⟩
   refine Run.au rfl (Run.ok rfl (Run.br (fun _=>?_) (fun _=>?_)))
   ·exact Run.leaf ⟨.bool false,rfl,.inr ⟨_,rfl⟩⟩
   refine Run.au rfl (Run.ok rfl (Run.br (fun _=>?_) (fun _=>?_)))
   ·exact Run.leaf ⟨.bool false,rfl,.inr ⟨_,rfl⟩⟩
   exact Run.leaf ⟨.none,rfl,.inl rfl⟩
 ·exact Run.au rfl (Run.leaf ⟨.bool _,rfl,.inr ⟨_,rfl⟩⟩)
noncomputable def cU (x:Str):Prop:=∀c∈x.cps.toList,c<128
noncomputable def eM (f:aR):Prop:=cU f.val/\∀e∈f.ec,cU e
theorem iG {a b:Str} (ha:cU a) (hb:cU b):cU (a++b):=fun c hc=>by
 have:(a++b).cps.toList=a.cps.toList++b.cps.toList:=by show (a.cps++b.cps).toList=_;exact Array.toList_append
 rw [this] at hc;exact (List.mem_append.mp hc).elim (ha c) (hb c)
theorem bZ {x:Str} (h:x.cps.toList.all (fun c=>decide (c<128))=true):cU x:=fun c hc=>of_decide_eq_true (List.all_eq_true.mp h c hc)
theorem ga {a b:Str} {m k:Nat} (ha:a.length<=m) (hb:b.length<=k):(a++b).length<=m+k:=by
 have:(a++b).length=a.length+b.length:=strLen_append _ _;exact ae [_,_,_,_,_] [] [.le (.v 3) (.v 1),.le (.v 4) (.v 2),.e (.v 0) (.p (.v 3) (.v 4))] (.le (.v 0) (.p (.v 1) (.v 2))) rfl ha hb this
theorem oG {a b:Str} (ha:a.length<=50000) (hb:b.length<=50000):bd (a.length+b.length)=true:=cR (by exact ae [_,_] [] [.le (.v 0) (.n 50000),.le (.v 1) (.n 50000)] (.le (.p (.v 0) (.v 1)) (.n 1048576)) rfl ha hb)
theorem l9 {a b:Str} (ha:a.length<=50000) (hb:b.length<=50000) (O:B):ct .Add (.str a) (.str b) O=.ok (.str (a++b)) O:=by
 show (bif tV .Add&&bd (a.length+b.length) then R.ok (V.str (a++b)) O else .stuck)=_;rw [oG ha hb];rfl
theorem qU (l:List Str):ft (l.map .str)=some l:=by
 induction l with
 |nil=>rfl
 |cons x r ih=>show cJ (ft (r.map .str)) (fun l=>some (x::l))=_;rw [ih];rfl
theorem Ey (n:Nat) (t:Str) (ec:List Str) (O:B):CF (n+1) "Raised" [.int 1,.str t,.tup (ec.map .str)] O=.ok (.loc O.length) (O++[.exc ⟨t,ec⟩]):=by
 have e:CF (n+1) "Raised" [.int 1,.str t,.tup (ec.map .str)] O=(match ft (ec.map .str) with|some ec=>newObj O (.exc ⟨t,ec⟩)|none=>.stuck):=by kernel_rfl
 rw [e,qU];rfl
theorem k7 (n:Nat) (t:Str) (ec:List Str) (O:B):CF (n+2) "error" [.str t,.tup (ec.map .str)] O=.ok (.loc O.length) (O++[.exc ⟨t,ec⟩]):=by
 refine fR (P:=fun r=>r=.ok (.loc O.length) (O++[.exc ⟨t,ec⟩])) (f:=aP "error") (J:=[("text",.str t),("errorcode",.tup (ec.map .str))]) (by kernel_rfl) (by kernel_rfl) ?_;exact Run.ok (Ey n t ec O) (Run.leaf rfl)
theorem SW (n:Nat) (t:Str) (O:B):CF (n+2) "error" [.str t] O=.ok (.loc O.length) (O++[.exc ⟨t,["NONE"]⟩]):=by
 refine fR (P:=fun r=>r=.ok (.loc O.length) (O++[.exc ⟨t,["NONE"]⟩])) (f:=aP "error") (J:=[("text",.str t),("errorcode",.tup [.str "NONE"])]) (by kernel_rfl) (by kernel_rfl) ?_;exact Run.ok (Ey n t ["NONE"] O) (Run.leaf rfl)
noncomputable def FJ (v:V) (r:R V) (O:B):Prop:=(∃b,v=.bool b/\r=.ok (.bool b) O)\/(v=.none/\∃f,r=.exc f O/\eM f)
theorem J5 (n:Nat) (x:Str) (hx:sz x<=TL) (ha:cU x) (O:B) (v:V) (hv:CF (n+4) "bool_of" [.str x] []=.ok v []) (hb:tU v):FJ v (CF (n+5) "need_bool" [.str x] O) O:=by
 refine bH (P:=fun r=>FJ v r O) (f:=aP "need_bool") (J:=[("text",.str x)]) (by kernel_rfl) (by kernel_rfl) (by kernel_rfl) ?_;have cL:sz x<=10000:=hx;have hl:x.length<=10000:=by rw [eY];exact hx
 refine Run.ok hv ?_;rcases hb with rfl|⟨b,rfl⟩
 ·refine Run.au rfl (Run.ok (l9 (Nat.le_trans (by decide+kernel:_<=100) (by decide)) (by exact ae [_] [] [.le (.v 0) (.n 10000)] (.le (.v 0) (.n 50000)) rfl hl) []) (Run.ok (l9 (Nat.le_trans (ga (by decide+kernel:_<=100) hl) (by decide)) (by decide+kernel) []) ?_));refine Run.ok (k7 (n+2) _ ["TCL","VALUE","BOOLEAN"] []) (Run.leaf (.inr ⟨rfl,_,rfl,iG (iG (bZ (by decide+kernel)) ha) (bZ (by decide+kernel)),fun e he=>?_⟩));simp only [List.mem_cons,List.not_mem_nil,or_false] at he;rcases he with rfl|rfl|rfl<;>exact bZ (by decide+kernel)
 ·exact Run.ah rfl (Run.leaf (.inl ⟨b,rfl,rfl⟩))
noncomputable def Cl (x:Str):Prop:=∀c∈x.cps.toList,c<128/\c≠92
theorem Cl.asc {x:Str} (h:Cl x):cU x:=fun c hc=>(h c hc).1
theorem sQ {a b:Str} (ha:Cl a) (hb:Cl b):Cl (a++b):=fun c hc=>by
 have:(a++b).cps.toList=a.cps.toList++b.cps.toList:=by show (a.cps++b.cps).toList=_;exact Array.toList_append
 rw [this] at hc;exact (List.mem_append.mp hc).elim (ha c) (hb c)
theorem lx {x:Str} (h:x.cps.toList.all (fun c=>decide (c<128)&&c !=92)=true):Cl x:=fun c hc=>by
 have:=List.all_eq_true.mp h c hc;rw [Bool.and_eq_true,decide_eq_true_eq] at this;exact ⟨this.1,by simpa using this.2⟩
theorem s7 (a b:Str):sz (a++b)=sz a+sz b:=by rw [<- eY,<- eY,<- eY];exact strLen_append _ _
noncomputable def fh (i:Int):Str:=Str.ofString (toString i)
theorem zB (m k:Nat) (hk:1<=k) (h:m<10 ^ k):sz (fh (Int.ofNat m))<=k/\Cl (fh (Int.ofNat m)):=by
 unfold fh sz;rw [text_ofNat];refine ⟨by rw [List.toList_toArray,List.length_map];exact digits10_le hk h,fun c hc=>?_⟩;rw [List.toList_toArray] at hc;refine aw (List.mem_map.mp hc ) ?_;rintro d hd rfl;have:=Nat.isDigit_of_mem_toDigits (by decide) (by decide) hd;unfold Char.isDigit at this;simp only [Bool.and_eq_true,decide_eq_true_eq,UInt32.le_iff_toNat_le] at this;have h1:d.toNat<=57:=this.2;exact ⟨by exact ae [_] [] [.le (.v 0) (.n 57)] (.lt (.v 0) (.n 128)) rfl h1,by exact fun zz=>Nat.lt_irrefl 0 (ae [_] [] [.le (.v 0) (.n 57),.f (.v 0) (.n 92)] (.lt (.n 0) (.n 0)) rfl h1 zz)⟩
theorem GP (i:Int) (k:Nat) (hk:1<=k) (h:i.natAbs<10 ^ k):sz (fh i)<=k+1/\Cl (fh i):=by
 by_cases c:i<0
 ·have e:fh i=("-" : Str)++fh (0-i):=by
   unfold fh;rw [toString_neg c];show Str.ofString ("-" ++ toString (0-i))=Str.ofString "-" ++ Str.ofString (toString (0-i));have:∀a b:String,Str.ofString (a++b)=Str.ofString a++Str.ofString b:=fun a b=>by
    rw [Str.ofString_eq_toList,Str.ofString_eq_toList,Str.ofString_eq_toList];show (⟨((a++b).toList.map Char.toNat).toArray⟩:Str)=⟨(a.toList.map Char.toNat).toArray++(b.toList.map Char.toNat).toArray⟩;rw [String.toList_append,List.map_append];simp
   exact this _ _
  obtain ⟨m,hm⟩:∃m:Nat,0-i=Int.ofNat m:=⟨(0-i).toNat,by show _=((0-i).toNat:Int);exact Int.le_antisymm (ae [_] [_] [.jf (.c (.v 0)) (.s (.k 0) (.w 0))] (.aJ (.s (.k 0) (.w 0)) (.c (.v 0))) rfl (Int.toNat_of_nonneg (ae [] [_] [.aY (.w 0) (.k 0)] (.aJ (.k 0) (.s (.k 0) (.w 0))) rfl c))) (ae [_] [_] [.ie (.c (.v 0)) (.s (.k 0) (.w 0))] (.aJ (.c (.v 0)) (.s (.k 0) (.w 0))) rfl (Int.toNat_of_nonneg (ae [] [_] [.aY (.w 0) (.k 0)] (.aJ (.k 0) (.s (.k 0) (.w 0))) rfl c)))⟩
  rw [e,hm,s7];refine aK (zB m k hk (by have:(m:Int)=0-i:=hm.symm;lia) ) fun h1 h2=>?_;have:sz ("-" : Str)=1:=by kernel_rfl
  exact ⟨by exact ae [_,_,_] [] [.le (.v 1) (.v 2),.e (.v 0) (.n 1)] (.le (.p (.v 0) (.v 1)) (.p (.v 2) (.n 1))) rfl h1 this,sQ (lx (by decide+kernel)) h2⟩
 ·obtain ⟨m,rfl⟩:∃m:Nat,i=Int.ofNat m:=⟨i.toNat,by show _=(i.toNat:Int);exact Int.le_antisymm (ae [_] [_] [.jf (.c (.v 0)) (.w 0)] (.aJ (.w 0) (.c (.v 0))) rfl (Int.toNat_of_nonneg (ae [] [_] [.aJ (.k 0) (.w 0)] (.aJ (.k 0) (.w 0)) rfl (Int.not_lt.mp c)))) (ae [_] [_] [.ie (.c (.v 0)) (.w 0)] (.aJ (.c (.v 0)) (.w 0)) rfl (Int.toNat_of_nonneg (ae [] [_] [.aJ (.k 0) (.w 0)] (.aJ (.k 0) (.w 0)) rfl (Int.not_lt.mp c))))⟩
  refine aK (zB m k hk h ) fun h1 h2=>?_;exact ⟨by exact ae [_,_] [] [.le (.v 0) (.v 1)] (.le (.v 0) (.p (.v 1) (.n 1))) rfl h1,h2⟩
theorem yL:∀L:Nat,16 ^ L<10 ^ (L+L / 4+1)
 | 0=>by decide
 | 1=>by decide
 | 2=>by decide
 | 3=>by decide
 |L+4=>by
  have ih:=yL L;have e:L+4+(L+4) / 4+1=(L+L / 4+1)+5:=by lia
  rw [e,Nat.pow_add 10,show L+4=L+4 from rfl,Nat.pow_add 16]
  calc 16 ^ L*16 ^ 4<=16 ^ L*10 ^ 5:=Nat.mul_le_mul_left _ (by decide)
   _<10 ^ (L+L / 4+1)*10 ^ 5:=Nat.mul_lt_mul_of_pos_right ih (by decide)
noncomputable abbrev G (L:Nat):Nat:=L+L / 4+2
theorem sY {i:Int} {L:Nat} (h:i.natAbs<=16 ^ L):sz (fh i)<=G L/\Cl (fh i):=
 GP i (L+L / 4+1) (by exact ae [_,_] [] [] (.le (.n 1) (.p (.p (.v 0) (.v 1)) (.n 1))) rfl) (Nat.lt_of_le_of_lt h (yL L))
theorem vj {i:Int} {L:Nat} (h:i.natAbs<=16 ^ L) (hL:L<=3400) (O:B):cM (.type "str") [.int i] O=.ok (.str (fh i)) O:=by
 have:i.natAbs<10 ^ 4300:=Nat.lt_of_le_of_lt h (Nat.lt_of_lt_of_le (yL L) (Nat.pow_le_pow_right (by decide) (by lia)));show (bif textOk i then R.ok (V.str (Str.ofString (toString i))) O else .stuck)=_;unfold textOk;rw [decide_eq_true this];rfl
noncomputable def hJ (K:Nat) (r:R V) (O:B):Prop:=(∃s,r=.ok (.str s) O/\sz s<=K/\Cl s)\/∃f,r=.exc f O/\eM f
theorem R6 (n:Nat) (x:Str) (hx:sz x<=3400) (hc:Cl x) (O:B):∃s,CF (n+4) "as_number" [.str x] O=.ok (.str s) O/\sz s<=G (sz x)/\Cl s/\(CF (n+3) "whole_of" [.str x] []=.ok .none []->s=x):=by
 refine bH (P:=fun r=>∃s,r=.ok (.str s) O/\sz s<=G (sz x)/\Cl s/\(CF (n+3) "whole_of" [.str x] []=.ok .none []->s=x)) (f:=aP "as_number") (J:=[("text",.str x)]) (by kernel_rfl) (by kernel_rfl) (by kernel_rfl) ?_;refine aw (nP n x (Nat.le_trans hx (by decide)) [] ) fun v hv hn=>?_;refine Run.ok hv ?_;rcases hn with rfl|⟨i,rfl,hi⟩
 ·exact Run.au rfl (Run.leaf ⟨x,rfl,(by show sz x<=sz x+sz x / 4+2;exact ae [_,_] [] [] (.le (.v 0) (.p (.p (.v 0) (.v 1)) (.n 2))) rfl),hc,fun _=>rfl⟩)
 ·refine Run.ah rfl (Run.ok (vj (Nat.le_of_lt hi) hx []) (Run.leaf ⟨_,rfl,(sY (Nat.le_of_lt hi)).1,(sY (Nat.le_of_lt hi)).2,fun q=>?_⟩));rw [q] at hv;cases hv
theorem rD (n:Nat) (b:Bool) (O:B):CF (n+1) "text_of" [.bool b] O=.ok (.str (if b then "1" else "0")) O:=by
 refine bH (P:=fun r=>r=.ok (.str (if b then "1" else "0")) O) (f:=aP "text_of") (J:=[("is_so",.bool b)]) (by kernel_rfl) (by kernel_rfl) (by kernel_rfl) ?_;induction b using aN with
 |true=>exact Run.au rfl (Run.leaf rfl)
 |false=>exact Run.ah rfl (Run.leaf rfl)
theorem yY (n:Nat) (op x:Str) (ho:op.length<=10) (ha:cU op) (hx:sz x<=TL) (hc:cU x):∃f,CF (n+3) "operand_fault" [.str op,.str x] []=.ok (.loc 0) [.exc f]/\eM f:=by
 refine fR (P:=fun r=>∃f,r=.ok (.loc 0) [.exc f]/\eM f) (f:=aP "operand_fault") (J:=[("op",.str op),("text",.str x)]) (by kernel_rfl) (by kernel_rfl) ?_;have hl:x.length<=10000:=by rw [eY];exact hx
 have Ck:cU "ARITH" /\ cU "DOMAIN" := ⟨bZ (by decide+kernel),bZ (by decide+kernel)⟩
 have hf:∀sh:Str,sh.length<=20000->cU sh->∀w:Str,cU w->Run (g5 (GF (n+2)) 40 false (aP "operand_fault").scope ((aP "operand_fault").body.drop 2) [("op",.str op),("text",.str x),("what",.str w),("shown",.str sh)] [])
  (fun r=>∃f,dS r=.ok (.loc 0) [.exc f]/\eM f):=by
  intro sh hs oQ w hw;refine Run.au (by kernel_rfl) ?_;refine Run.au (cR (by exact ae [_] [] [.le (.v 0) (.n 20000)] (.le (.v 0) (.n 1048576)) rfl hs)) ?_;refine Run.au (oG (Nat.le_trans (by decide+kernel:_<=100) (by decide)) (by exact ae [_] [] [.le (.v 0) (.n 20000)] (.le (.v 0) (.n 50000)) rfl hs)) ?_;refine Run.au (oG (Nat.le_trans (ga (by decide+kernel:_<=100) hs) (by decide)) (by decide+kernel)) ?_;refine Run.au (cR (by exact ae [_] [] [.le (.v 0) (.n 10)] (.le (.v 0) (.n 1048576)) rfl ho)) ?_;refine Run.au (oG (Nat.le_trans (ga (ga (by decide+kernel:_<=100) hs) (by decide+kernel:_<=100)) (by decide)) (by exact ae [_] [] [.le (.v 0) (.n 10)] (.le (.v 0) (.n 50000)) rfl ho)) ?_;refine Run.au (oG (Nat.le_trans (ga (ga (ga (by decide+kernel:_<=100) hs) (by decide+kernel:_<=100)) ho) (by decide)) (by decide+kernel)) ?_;refine Run.ok (k7 (n+0) _ ["ARITH","DOMAIN",w] []) (Run.leaf ⟨_,rfl,iG (iG (iG (iG (bZ (by decide+kernel)) oQ) (bZ (by decide+kernel))) ha) (bZ (by decide+kernel)),fun e he=>?_⟩);simp only [List.mem_cons,List.not_mem_nil,or_false] at he;rcases he with rfl|rfl|rfl
  ·exact Ck.1
  ·exact Ck.2
  ·exact hw
 refine Run.au (by kernel_rfl) ?_;refine Run.au (cR (by exact ae [_] [] [.le (.v 0) (.n 10000)] (.le (.v 0) (.n 1048576)) rfl hl)) ?_;refine Run.au (oG (Nat.le_trans (by decide+kernel:_<=100) (by decide)) (by exact ae [_] [] [.le (.v 0) (.n 10000)] (.le (.v 0) (.n 50000)) rfl hl)) ?_;refine Run.au (oG (Nat.le_trans (ga (by decide+kernel:_<=100) hl) (by decide)) (by decide+kernel)) ?_;refine Run.br (fun _=>?_) (fun _=>?_)
 ·exact (hf "empty string" (by decide+kernel) (bZ (by decide+kernel)) "empty string" (bZ (by decide+kernel))).cast (by kernel_rfl)
 ·exact (hf (Str.empty++ "non-numeric string \"" ++ x++ "\"") (Nat.le_trans (ga (ga (by decide+kernel:_<=100) hl) (by decide+kernel:_<=100)) (by decide)) (iG (iG (bZ (by decide+kernel)) hc) (bZ (by decide+kernel))) "non-numeric string" (bZ (by decide+kernel))).cast (by kernel_rfl)
noncomputable def C2 (v:V) (r:R V) (O:B):Prop:=(∃i,v=.int i/\r=.ok (.int i) O)\/(v=.none/\∃f,r=.exc f O/\eM f)
theorem p_ (n:Nat) (op x:Str) (ho:op.length<=10) (ha:cU op) (hx:sz x<=TL) (hc:cU x) (O:B) {v:V} (hv:CF (n+3) "whole_of" [.str x] []=.ok v []) (hn:kW (sz x) v):C2 v (CF (n+4) "operand" [.str op,.str x] O) O:=by
 refine bH (P:=fun r=>C2 v r O) (f:=aP "operand") (J:=[("op",.str op),("text",.str x)]) (by kernel_rfl) (by kernel_rfl) (by kernel_rfl) ?_;refine Run.ok hv ?_;rcases hn with rfl|⟨i,rfl,hi⟩
 ·refine aw (yY n op x ho ha hx hc ) fun f hf mo=>?_;exact Run.au rfl (Run.ok hf (Run.leaf (.inr ⟨rfl,f,rfl,mo⟩)))
 ·exact Run.ah rfl (Run.leaf (.inl ⟨i,rfl,rfl⟩))
theorem JO (i:Int) {m:Nat} (h:i.natAbs<m):(Builtin.bitNot i).natAbs<=m:=by
 show (-i-1).natAbs<=m;omega
theorem IJ (n:Nat) (op x:Str) (hop:op= "!" \/ op= "-" \/ op= "~" \/ op= "+") (hx:sz x<=3400) (hc:Cl x) (O:B):hJ (G (sz x)) (CF (n+5) "unary" [.str op,.str x] O) O:=by
 refine bH (P:=fun r=>hJ (G (sz x)) r O) (f:=aP "unary") (J:=[("op",.str op),("a",.str x)]) (by kernel_rfl) (by kernel_rfl) (by kernel_rfl) ?_;have cL:sz x<=TL:=Nat.le_trans hx (by decide);have one:∀b:Bool,sz (if b then "1" else "0")<=G (sz x)/\Cl (if b then "1" else "0"):=fun b=>by
  have h1:sz (if b then "1" else "0")=1:=by induction b using aN<;>kernel_rfl
  refine ⟨by rw [h1];show 1<=sz x+sz x / 4+2;exact ae [_,_] [] [] (.le (.n 1) (.p (.p (.v 0) (.v 1)) (.n 2))) rfl,?_⟩;induction b using aN<;>exact lx (by decide+kernel)
 refine aw (nP n x cL [] ) fun v hv hn=>?_;have num:∀i:Int,i.natAbs<16 ^ sz x->∀j:Int,j.natAbs<=16 ^ sz x->cM (.type "str") [.int j] []=.ok (.str (fh j)) []/\sz (fh j)<=G (sz x)/\Cl (fh j):=fun i _ j hj=>⟨vj hj hx [],sY hj⟩
 rcases hop with rfl|rfl|rfl|rfl
 ·refine Run.au rfl ?_;refine aw (wa n x cL [] ) fun b hb xl=>?_;refine Run.ok hb ?_;rcases xl with rfl|⟨b,rfl⟩
  ·refine aw (yY (n+1) "!" x (by decide+kernel) (bZ (by decide+kernel)) cL hc.asc ) fun f hf mo=>?_;exact Run.au rfl (Run.ok hf (Run.leaf (.inr ⟨f,rfl,mo⟩)))
  ·refine Run.ah rfl (Run.ok (rD (n+3) (!b) []) (Run.leaf (.inl ⟨_,rfl,one _⟩)))
 ·refine Run.ah rfl ?_;rcases p_ n "-" x (by decide+kernel) (bZ (by decide+kernel)) cL hc.asc [] hv hn with ⟨i,rfl,h⟩|⟨rfl,f,h,hf⟩
  ·have hi:i.natAbs<16 ^ sz x:=by rcases hn with h|⟨j,h,k⟩<;>cases h;exact k
   refine fw (num i hi (-i) (by rw [Int.natAbs_neg];exact ae [_,_] [] [.lt (.v 0) (.v 1)] (.le (.v 0) (.v 1)) rfl hi) ) fun a b c=>?_;exact Run.ok h (Run.au rfl (Run.ok a (Run.leaf (.inl ⟨_,rfl,b,c⟩))))
  ·exact Run.exc h (Run.leaf (.inr ⟨f,rfl,hf⟩))
 ·refine Run.ah rfl ?_;rcases p_ n "~" x (by decide+kernel) (bZ (by decide+kernel)) cL hc.asc [] hv hn with ⟨i,rfl,h⟩|⟨rfl,f,h,hf⟩
  ·have hi:i.natAbs<16 ^ sz x:=by rcases hn with h|⟨j,h,k⟩<;>cases h;exact k
   refine fw (num i hi (Builtin.bitNot i) (JO i hi) ) fun a b c=>?_;exact Run.ok h (Run.ah rfl (Run.au rfl (Run.ok a (Run.leaf (.inl ⟨_,rfl,b,c⟩)))))
  ·exact Run.exc h (Run.leaf (.inr ⟨f,rfl,hf⟩))
 ·refine Run.ah rfl ?_;rcases p_ n "+" x (by decide+kernel) (bZ (by decide+kernel)) cL hc.asc [] hv hn with ⟨i,rfl,h⟩|⟨rfl,f,h,hf⟩
  ·have hi:i.natAbs<16 ^ sz x:=by rcases hn with h|⟨j,h,k⟩<;>cases h;exact k
   refine fw (num i hi i (by exact ae [_,_] [] [.lt (.v 0) (.v 1)] (.le (.v 0) (.v 1)) rfl hi) ) fun a b c=>?_;exact Run.ok h (Run.ah rfl (Run.ah rfl (Run.au rfl (Run.ok a (Run.leaf (.inl ⟨_,rfl,b,c⟩))))))
  ·exact Run.exc h (Run.leaf (.inr ⟨f,rfl,hf⟩))
noncomputable def gS (K:Nat) (r:R V) (O:B):Prop:=(∃i:Int,r=.ok (.int i) O/\i.natAbs<=16 ^ K)\/∃f,r=.exc f O/\eM f
noncomputable def uf (b:Bool) (r:R V) (O:B):Prop:=(b=true/\r=.ok .none O)\/(b=false/\∃f,r=.exc f O/\eM f)
theorem nu {t:Str} {ec:List Str} (h:t.cps.toList.all (fun c=>decide (c<128))=true) (h2:ec.all (fun e=>e.cps.toList.all (fun c=>decide (c<128)))=true):eM ⟨t,ec⟩:=
 ⟨bZ h,fun e he=>bZ (List.all_eq_true.mp h2 e he)⟩
theorem Ee (n:Nat) (r:Int) (O:B):uf (decide (r≠0)) (CF (n+3) "need_divisor" [.int r] O) O:=by
 refine bH (P:=fun q=>uf (decide (r≠0)) q O) (f:=aP "need_divisor") (J:=[("number",.int r)]) (by kernel_rfl) (by kernel_rfl) (by kernel_rfl) ?_;refine Run.br (fun h=>?_) (fun h=>?_)
 ·have h:r=0:=by simpa using h
  exact Run.ok (k7 n "divide by zero" ["ARITH","DIVZERO","divide by zero"] []) (Run.leaf (.inr ⟨by simp [h],_,rfl,nu (by decide+kernel) (by decide+kernel)⟩))
 ·have h:r≠0:=by simpa using h
  exact Run.leaf (.inl ⟨by simp [h],rfl⟩)
theorem FX (n:Nat) (r:Int) (O:B):uf (decide (0<=r)) (CF (n+3) "need_count" [.int r] O) O:=by
 refine bH (P:=fun q=>uf (decide (0<=r)) q O) (f:=aP "need_count") (J:=[("count",.int r)]) (by kernel_rfl) (by kernel_rfl) (by kernel_rfl) ?_;refine Run.br (fun h=>?_) (fun h=>?_)
 ·have h:=of_decide_eq_true h;exact Run.ok (k7 n "negative shift argument" ["ARITH","DOMAIN","domain error: argument not in valid range"] []) (Run.leaf (.inr ⟨by simp;omega,_,rfl,nu (by decide+kernel) (by decide+kernel)⟩))
 ·have h:=of_decide_eq_false h;exact Run.leaf (.inl ⟨by simp;omega,rfl⟩)
theorem Ig (K:Nat):1<=16 ^ K:=Nat.pow_pos (by decide)
theorem A3 (a b:Int) (_:b≠0):(a.fdiv b).natAbs<=a.natAbs:=by
 rcases (by lia:b<0\/0<=b) with h|h
 ·rw [<- Int.neg_fdiv_neg,Int.fdiv_eq_ediv_of_nonneg _ (by exact ae [] [_] [.aY (.w 0) (.k 0)] (.aJ (.k 0) (.g (.w 0))) rfl h)];have:=Int.natAbs_ediv_le_natAbs (-a) (-b)
  rwa [Int.natAbs_neg] at this
 ·rw [Int.fdiv_eq_ediv_of_nonneg _ h];exact Int.natAbs_ediv_le_natAbs a b
theorem Rr (a b:Int) (hb:b≠0):(a.fmod b).natAbs<=b.natAbs:=by
 rcases (by lia:b<0\/0<=b) with h|h
 ·have e:a.fmod b= -((-a).fmod (-b)):=by rw [Int.neg_fmod_neg];exact Int.le_antisymm (ae [] [_] [] (.aJ (.w 0) (.g (.g (.w 0)))) rfl) (ae [] [_] [] (.aJ (.g (.g (.w 0))) (.w 0)) rfl)
  rw [e,Int.natAbs_neg,Int.fmod_eq_emod_of_nonneg _ (by exact ae [] [_] [.aY (.w 0) (.k 0)] (.aJ (.k 0) (.g (.w 0))) rfl h)];have h1:=Int.emod_lt_of_pos (-a) (b:=-b) (by exact ae [] [_] [.aY (.w 0) (.k 0)] (.aY (.k 0) (.g (.w 0))) rfl h);have h2:=Int.emod_nonneg (-a) (b:=-b) (by exact fun zz=>Nat.lt_irrefl 0 (ae [] [_] [.aY (.w 0) (.k 0),.ie (.g (.w 0)) (.k 0)] (.lt (.n 0) (.n 0)) rfl h zz));lia
 ·rw [Int.fmod_eq_emod_of_nonneg _ h];have h1:=Int.emod_lt_of_pos a (b:=b) (by lia);have h2:=Int.emod_nonneg a hb;lia
theorem QL (n:Nat) (a c:Int) {K:Nat} (ha:a.natAbs<=16 ^ K) (O:B):gS K (CF (n+4) "shifted_right" [.int a,.int c] O) O:=by
 refine bH (P:=fun q=>gS K q O) (f:=aP "shifted_right") (J:=[("number",.int a),("count",.int c)]) (by kernel_rfl) (by kernel_rfl) (by kernel_rfl) ?_;rcases FX n c [] with ⟨h0,h⟩|⟨_,f,h,hf⟩
 ·have h0:=of_decide_eq_true h0;refine Run.ok h (Run.ok (v:=.int 2147483648) (O:=[]) (by kernel_rfl) (Run.br (fun h2=>?_) (fun h2=>?_)))
  ·refine Run.br (fun _=>Run.leaf (.inl ⟨-1,rfl,Ig K⟩)) (fun _=>Run.leaf (.inl ⟨0,rfl,Nat.zero_le _⟩))
  ·have hp:ct .RShift (.int a) (.int c) []=.ok (.int (a.fdiv (2 ^ c.toNat))) []:=by
    show aX (bif decide (0<=c) then some (a.fdiv (2 ^ c.toNat)) else none) (ja ([]:B))=_;rw [decide_eq_true h0];rfl
   refine Run.ok hp (Run.leaf (.inl ⟨_,rfl,Nat.le_trans (A3 _ _ ?_) ha⟩));have:(0:Int)<2 ^ c.toNat:=Int.pow_pos (by decide);exact fun zz=>Nat.lt_irrefl 0 (ae [] [_] [.aY (.k 0) (.w 0),.ie (.w 0) (.k 0)] (.lt (.n 0) (.n 0)) rfl this zz)
 ·exact Run.exc h (Run.leaf (.inr ⟨f,rfl,hf⟩))
noncomputable def Rg (K:Nat) (i:Int):Prop:=-(16 ^ K:Int)<=i/\i<16 ^ K
theorem Rg.of {K:Nat} {i:Int} (h:i.natAbs<16 ^ K):Rg K i:=by
 have h1:(i.natAbs:Int)<((16 ^ K:Nat):Int):=by exact_mod_cast h
 push_cast at h1
 exact ⟨by omega,by omega⟩
theorem Rg.abs {K:Nat} {i:Int} (h:Rg K i):i.natAbs<=16 ^ K:=by
 have h1:(i.natAbs:Int)<=((16 ^ K:Nat):Int):=by
  push_cast;refine aK h ?_;clear h;intro a b;omega
 exact_mod_cast h1
theorem Rg.not {K:Nat} {i:Int} (h:Rg K i):Rg K (Builtin.bitNot i):=by
 refine aK h ?_;clear h;intro a b;show -(16 ^ K:Int) <= -i-1/\-i-1<16 ^ K;lia
theorem RQ {K:Nat} {m:Nat} (h:m<16 ^ K):Rg K (m:Int):=by
 have h1:(m:Int)<((16 ^ K:Nat):Int):=by exact_mod_cast h
 push_cast at h1
 exact ⟨by exact ae [_] [_] [.aY (.c (.v 0)) (.w 0)] (.aJ (.g (.w 0)) (.c (.v 0))) rfl h1,h1⟩
theorem Rg.nat {K:Nat} {i:Int} (h:Rg K i) (h0:0<=i):i.toNat<16 ^ K:=by
 have h1:(i.toNat:Int)<((16 ^ K:Nat):Int):=by push_cast;rw [Int.toNat_of_nonneg h0];exact h.2
 exact_mod_cast h1
theorem Rg.and {K:Nat} {x y:Int} (hx:Rg K x) (hy:Rg K y):Rg K (Builtin.bitAnd x y):=by
 unfold Builtin.bitAnd;have hp:(0:Int)<16 ^ K:=Int.pow_pos (by decide);have ax:∀m:Nat,((x.toNat &&& m:Nat):Int)<=(x.toNat:Int):=fun m=>by exact_mod_cast Nat.and_le_left
 have ay:∀m:Nat,((y.toNat &&& m:Nat):Int)<=(y.toNat:Int):=fun m=>by exact_mod_cast Nat.and_le_left
 split
 ·rename_i h1 h2;have h1:=of_decide_eq_true h1;have:=ax y.toNat;rw [Int.toNat_of_nonneg h1] at this;refine aK hx ?_;clear hx;intro a b;exact ⟨by lia,by exact ae [_] [_,_] [.aJ (.c (.v 0)) (.w 1),.aY (.w 1) (.w 0)] (.aY (.c (.v 0)) (.w 0)) rfl this b⟩
 ·rename_i h1 h2;have h1:=of_decide_eq_true h1;have:=ax (Builtin.bitNot y).toNat;rw [Int.toNat_of_nonneg h1] at this;refine aK hx ?_;clear hx;intro a b;exact ⟨by exact ae [_] [_,_] [.x 2 (.aJ (.c (.v 0)) (.w 1)),.aY (.w 1) (.w 0)] (.aJ (.g (.w 0)) (.s (.w 1) (.c (.v 0)))) rfl this b,by exact ae [_] [_,_] [.aY (.w 0) (.w 1)] (.aY (.s (.w 0) (.c (.v 0))) (.w 1)) rfl b⟩
 ·rename_i h1 h2;have h2:=of_decide_eq_true h2;have:=ay (Builtin.bitNot x).toNat;rw [Int.toNat_of_nonneg h2] at this;refine aK hy ?_;clear hy;intro a b;exact ⟨by exact ae [_] [_,_] [.x 2 (.aJ (.c (.v 0)) (.w 1)),.aY (.w 1) (.w 0)] (.aJ (.g (.w 0)) (.s (.w 1) (.c (.v 0)))) rfl this b,by exact ae [_] [_,_] [.aY (.w 0) (.w 1)] (.aY (.s (.w 0) (.c (.v 0))) (.w 1)) rfl b⟩
 ·rename_i h1 h2;have h1:=of_decide_eq_false h1;have h2:=of_decide_eq_false h2;have n1:=hx.not.nat (by show 0 <= -x-1;exact ae [] [_] [.aY (.w 0) (.k 0)] (.aJ (.k 0) (.s (.g (.w 0)) (.k 1))) rfl (Int.not_le.mp h1));have n2:=hy.not.nat (by show 0 <= -y-1;exact ae [] [_] [.aY (.w 0) (.k 0)] (.aJ (.k 0) (.s (.g (.w 0)) (.k 1))) rfl (Int.not_le.mp h2));have e:(16:Nat) ^ K=2 ^ (4*K):=by rw [Nat.pow_mul]
  refine Rg.not (RQ ?_);rw [e] at n1 n2 ⊢;exact Nat.or_lt_two_pow n1 n2
theorem Rg.or {K:Nat} {x y:Int} (hx:Rg K x) (hy:Rg K y):Rg K (Builtin.bitOr x y):=(hx.not.and hy.not).not
theorem I4 {K:Nat} {x y:Int} (hx:Rg K x) (hy:Rg K y):(Builtin.bitXor x y).natAbs<=16 ^ (K+1):=by
 have h1:=(hx.or hy).abs;have h2:=(hx.and hy).abs;have h3:(Builtin.bitXor x y).natAbs<=(Builtin.bitOr x y).natAbs+(Builtin.bitAnd x y).natAbs:=by
  show (Builtin.bitOr x y-Builtin.bitAnd x y).natAbs<=_;omega
 rw [Nat.pow_succ];exact ae [_,_,_,_] [] [.le (.v 2) (.v 1),.le (.v 3) (.v 1),.le (.v 0) (.p (.v 2) (.v 3))] (.le (.v 0) (.q (.v 1) 16)) rfl h1 h2 h3
noncomputable def jz:List Str:=["+","-","*","/","%",">>","&","|","^"]
theorem Dp {a K:Nat} {i:Int} (h:i.natAbs<16 ^ a) (k:a<=K):i.natAbs<=16 ^ K:=Nat.le_trans (Nat.le_of_lt h) (Nat.pow_le_pow_right (by decide) k)
theorem Fo {a K:Nat} {i:Int} (h:i.natAbs<16 ^ a) (k:a<=K):i.natAbs<16 ^ K:=Nat.lt_of_lt_of_le h (Nat.pow_le_pow_right (by decide) k)
theorem QH (n:Nat) (op:Str) (hop:op∈jz) (l r:Int) {a b:Nat} (hl:l.natAbs<16 ^ a) (hr:r.natAbs<16 ^ b) (Ot:a+b<=2200) (O:B):gS (a+b+1) (CF (n+5) "arithmetic" [.str op,.int l,.int r] O) O:=by
 refine bH (P:=fun q=>gS (a+b+1) q O) (f:=aP "arithmetic") (J:=[("op",.str op),("left",.int l),("right",.int r)]) (by kernel_rfl) (by kernel_rfl) (by kernel_rfl) ?_;have As:=Dp hl (K:=a+b) (by exact ae [_,_] [] [] (.le (.v 0) (.p (.v 0) (.v 1))) rfl);have dG:=Dp hr (K:=a+b) (by exact ae [_,_] [] [] (.le (.v 0) (.p (.v 1) (.v 0))) rfl);have rl:=Rg.of (Fo hl (K:=a+b) (by exact ae [_,_] [] [] (.le (.v 0) (.p (.v 0) (.v 1))) rfl));have rr:=Rg.of (Fo hr (K:=a+b) (by exact ae [_,_] [] [] (.le (.v 0) (.p (.v 1) (.v 0))) rfl));have up:16 ^ (a+b)*2<=16 ^ (a+b+1):=by rw [Nat.pow_succ];exact ae [_] [] [] (.le (.q (.v 0) 2) (.q (.v 0) 16)) rfl
 have p4:∀k:Nat,(16:Nat) ^ k=2 ^ (4*k):=fun k=>by rw [Nat.pow_mul]
 unfold jz at hop;simp only [List.mem_cons,List.not_mem_nil,or_false] at hop;rcases hop with rfl|rfl|rfl|rfl|rfl|rfl|rfl|rfl|rfl
 ·exact Run.au rfl (Run.leaf (.inl ⟨l+r,rfl,by omega⟩))
 ·exact Run.ah rfl (Run.au rfl (Run.leaf (.inl ⟨l-r,rfl,by omega⟩)))
 ·refine Run.ah rfl (Run.ah rfl (Run.au rfl (Run.ok (yb (m:=4*a) (k:=4*b) (by rw [<- p4];exact hl) (by rw [<- p4];exact hr) (by exact ae [_,_] [] [.x 4 (.le (.p (.v 0) (.v 1)) (.n 2200))] (.le (.p (.m 4 (.v 0)) (.m 4 (.v 1))) (.n 100000)) rfl Ot)) (Run.leaf (.inl ⟨l*r,rfl,?_⟩)))));rw [Int.natAbs_mul]
  calc l.natAbs*r.natAbs<=16 ^ a*16 ^ b:=Nat.mul_le_mul (by exact ae [_,_] [] [.lt (.v 0) (.v 1)] (.le (.v 0) (.v 1)) rfl hl) (by exact ae [_,_] [] [.lt (.v 0) (.v 1)] (.le (.v 0) (.v 1)) rfl hr)
   _=16 ^ (a+b):=by rw [Nat.pow_add]
   _<=16 ^ (a+b+1):=Nat.pow_le_pow_right (by decide) (by exact ae [_,_] [] [] (.le (.p (.v 0) (.v 1)) (.p (.p (.v 0) (.v 1)) (.n 1))) rfl)
 ·refine Run.ah rfl (Run.ah rfl (Run.ah rfl (Run.au rfl ?_)));rcases Ee (n+1) r [] with ⟨h0,h⟩|⟨_,f,h,hf⟩
  ·have h0:r≠0:=of_decide_eq_true h0;have hp:ct .FloorDiv (.int l) (.int r) []=.ok (.int (l.fdiv r)) []:=by
    have hd:Builtin.divisionGoesByPylong l r=false:=by
     unfold Builtin.divisionGoesByPylong;have:(if (r==0)=true then 0 else r.natAbs.log2 / 30+1)<=300:=by
      rw [if_neg (by simpa using h0)];have:r.natAbs.log2<4*b:=(Nat.log2_lt (by omega)).mpr (by rw [<- p4];exact hr);omega
     simp only [Bool.and_eq_false_imp,decide_eq_true_eq];intro q;exact absurd q (by exact fun zz=>Nat.lt_irrefl 0 (ae [_] [] [.le (.v 0) (.n 300),.lt (.n 300) (.v 0)] (.lt (.n 0) (.n 0)) rfl this q))
    show aX (bif r !=0&& !Builtin.divisionGoesByPylong l r then some (l.fdiv r) else none) (ja ([]:B))=_;rw [hd,show (r !=0)=true by simpa using h0];rfl
   exact Run.ok h (Run.ok hp (Run.leaf (.inl ⟨_,rfl,Nat.le_trans (A3 l r h0) (by exact ae [_,_,_] [] [.le (.v 0) (.v 2),.le (.q (.v 2) 2) (.v 1)] (.le (.v 0) (.v 1)) rfl As up)⟩)))
  ·exact Run.exc h (Run.leaf (.inr ⟨f,rfl,hf⟩))
 ·refine Run.ah rfl (Run.ah rfl (Run.ah rfl (Run.ah rfl (Run.au rfl ?_))));rcases Ee (n+1) r [] with ⟨h0,h⟩|⟨_,f,h,hf⟩
  ·have h0:r≠0:=of_decide_eq_true h0;have hp:ct .Mod (.int l) (.int r) []=.ok (.int (l.fmod r)) []:=by
    show aX (bif r !=0 then some (l.fmod r) else none) (ja ([]:B))=_;rw [show (r !=0)=true by simpa using h0];rfl
   exact Run.ok h (Run.ok hp (Run.leaf (.inl ⟨_,rfl,Nat.le_trans (Rr l r h0) (by exact ae [_,_,_] [] [.le (.v 0) (.v 2),.le (.q (.v 2) 2) (.v 1)] (.le (.v 0) (.v 1)) rfl dG up)⟩)))
  ·exact Run.exc h (Run.leaf (.inr ⟨f,rfl,hf⟩))
 ·refine Run.ah rfl (Run.ah rfl (Run.ah rfl (Run.ah rfl (Run.ah rfl (Run.ah rfl (Run.ah rfl (Run.au rfl ?_)))))));rcases QL n l r (K:=a+b+1) (by exact ae [_,_,_] [] [.le (.v 0) (.v 2),.le (.q (.v 2) 2) (.v 1)] (.le (.v 0) (.v 1)) rfl As up) [] with ⟨i,h,hi⟩|⟨f,h,hf⟩
  ·exact Run.ok h (Run.leaf (.inl ⟨i,rfl,hi⟩))
  ·exact Run.exc h (Run.leaf (.inr ⟨f,rfl,hf⟩))
 ·exact Run.ah rfl (Run.ah rfl (Run.ah rfl (Run.ah rfl (Run.ah rfl (Run.ah rfl (Run.ah rfl (Run.ah rfl (Run.au rfl (Run.leaf (.inl ⟨_,rfl,by have:=(rl.and rr).abs;exact ae [_,_,_] [] [.le (.q (.v 2) 2) (.v 1),.le (.v 0) (.v 2)] (.le (.v 0) (.v 1)) rfl up this⟩))))))))))
 ·exact Run.ah rfl (Run.ah rfl (Run.ah rfl (Run.ah rfl (Run.ah rfl (Run.ah rfl (Run.ah rfl (Run.ah rfl (Run.ah rfl (Run.au rfl (Run.leaf (.inl ⟨_,rfl,by have:=(rl.or rr).abs;exact ae [_,_,_] [] [.le (.q (.v 2) 2) (.v 1),.le (.v 0) (.v 2)] (.le (.v 0) (.v 1)) rfl up this⟩)))))))))))
 ·exact Run.ah rfl (Run.ah rfl (Run.ah rfl (Run.ah rfl (Run.ah rfl (Run.ah rfl (Run.ah rfl (Run.ah rfl (Run.ah rfl (Run.ah rfl (Run.au rfl (Run.leaf (.inl ⟨_,rfl,I4 rl rr⟩))))))))))))
theorem Op {x:Str} (h:cU x) (i j:Option Int):cU (Txt.slice x i j):=by
 unfold Txt.slice
 split
 ·exact h
 ·intro c hc;rw [List.toList_toArray] at hc;refine aw (List.mem_filterMap.mp hc ) fun k _ hk=>?_;rw [<- Array.getElem?_toList] at hk;exact h c (List.mem_of_getElem? hk)
noncomputable def wS (r:R V) (O:B):Prop:=r=.ok .none O\/∃f,r=.exc f O/\eM f
theorem zM {x:Str} (hx:Cl x) {i c:Nat} (hc:az x.cps.toList i=some c):((⟨#[c]⟩:Str).cps.toList==("\\" : Str).cps.toList)=false:=by
 have h1:=(hx c (da hc)).2;have h2:("\\" : Str).cps.toList=[92]:=by kernel_rfl
 rw [h2];show ([c]==[92])=false
 simpa using h1
noncomputable def Gk (x w:Str) (a:Int) (r:RS):Prop:=∃e:Int,r=.fin .next [("text",.str x),("at",.int a),("what",.str w),("end",.int e)] []
theorem Fk (n:Nat) (x w:Str) (a:Int) (h0:0<=a) (hx:sz x<=TL) (hc:cU x) (hw:w.length<=10) (Od:cU w) (O:B):wS (CF (n+3) "check_behind" [.str x,.int a,.str w] O) O:=by
 refine bH (P:=fun r=>wS r O) (f:=aP "check_behind") (J:=[("text",.str x),("at",.int a),("what",.str w)]) (by kernel_rfl) (by kernel_rfl) (by kernel_rfl) ?_;have cL:sz x<=10000:=hx;have main:a<sz x->Run (g5 (GF (n+2)) 40 false (aP "check_behind").scope ((aP "check_behind").body.drop 1) [("text",.str x),("at",.int a),("what",.str w)] []) (fun r=>wS (iz (dS r) O) O):=by
  intro ha;refine Run.gH (Gk x w a) ?_ ?_
  ·refine lU (Q:=Gk x w a) (fun i J O=>O=[]/\∃e:Int,J=([("text",.str x),("at",.int a),("what",.str w),("end",.int e)]:Loc)/\0<=e/\i=(sz x-e).toNat) ?_ WW (sz x-a).toNat _ _ (by show _<100000;exact ae [_,_] [_] [.aJ (.k 0) (.w 0),.le (.v 1) (.n 10000),.ie (.c (.v 0)) (.s (.c (.v 1)) (.w 0))] (.lt (.v 0) (.n 100000)) rfl h0 cL (Int.toNat_of_nonneg (ae [_] [_] [.aY (.w 0) (.c (.v 0))] (.aJ (.k 0) (.s (.c (.v 0)) (.w 0))) rfl ha))) ⟨rfl,a,rfl,h0,rfl⟩;rintro i J O ⟨rfl,e,rfl,h1,rfl⟩;by_cases he:e<sz x
   ·by_cases zg:e<a+20
    ·refine aw (item_str (x:=x) (i:=e) h1 he hx [] ) fun c hc hi=>?_;generalize hb:kF ⟨#[c]⟩=zc;induction zc using aN with
     |true=>
      refine .inl ⟨dO (Run.ok (len_str hx []) (Run.au (decide_eq_true he) (Run.au (decide_eq_true zg) (Run.ok hi (Run.ok (jH (n+1) ⟨#[c]⟩ []) ?_))))),e,rfl⟩;rw [hb];exact Run.ah rfl (Run.leaf rfl)
     |false=>
      refine .inr ⟨dO (Run.ok (len_str hx []) (Run.au (decide_eq_true he) (Run.au (decide_eq_true zg) (Run.ok hi (Run.ok (jH (n+1) ⟨#[c]⟩ []) ?_))))),?_⟩
      ·rw [hb];exact Run.au rfl (Run.leaf rfl)
      ·exact ez (P:=fx _ _) (Run.leaf (.next ⟨(sz x-(e+1)).toNat,by exact ae [_,_,_] [_] [.ie (.c (.v 0)) (.s (.c (.v 2)) (.p (.w 0) (.k 1))),.jf (.c (.v 1)) (.s (.c (.v 2)) (.w 0))] (.lt (.v 0) (.v 1)) rfl (Int.toNat_of_nonneg (ae [_] [_] [.aY (.w 0) (.c (.v 0))] (.aJ (.k 0) (.s (.c (.v 0)) (.p (.w 0) (.k 1)))) rfl he)) (Int.toNat_of_nonneg (ae [_] [_] [.aY (.w 0) (.c (.v 0))] (.aJ (.k 0) (.s (.c (.v 0)) (.w 0))) rfl he)),rfl,e+1,rfl,by exact ae [] [_] [.aJ (.k 0) (.w 0)] (.aJ (.k 0) (.p (.w 0) (.k 1))) rfl h1,rfl⟩))
    ·exact .inl ⟨dO (Run.ok (len_str hx []) (Run.au (decide_eq_true he) (Run.ah (decide_eq_false zg) (Run.leaf rfl)))),e,rfl⟩
   ·exact .inl ⟨dO (Run.ok (len_str hx []) (Run.ah (decide_eq_false he) (Run.leaf rfl))),e,rfl⟩
  rintro r ⟨e,rfl⟩;have hs:(Txt.slice x (some a) (some e)).length<=10000:=Nat.le_trans (Txt.slice_le x _ _) (by rw [eY];exact hx);refine Run.next rfl ?_;refine Run.ok (l9 (Nat.le_trans (by decide+kernel:_<=100) (by decide)) (by exact ae [_] [] [.le (.v 0) (.n 10)] (.le (.v 0) (.n 50000)) rfl hw) []) ?_;refine Run.ok (l9 (Nat.le_trans (ga (by decide+kernel:_<=100) hw) (by decide)) (by decide+kernel) []) ?_;refine Run.ok (qk hx []) ?_;refine Run.ok (l9 (Nat.le_trans (ga (ga (by decide+kernel:_<=100) hw) (by decide+kernel:_<=100)) (by decide)) (by exact ae [_] [] [.le (.v 0) (.n 10000)] (.le (.v 0) (.n 50000)) rfl hs) []) ?_;refine Run.ok (l9 (Nat.le_trans (ga (ga (ga (by decide+kernel:_<=100) hw) (by decide+kernel:_<=100)) hs) (by decide)) (by decide+kernel) []) ?_;refine Run.ok (k7 n _ ["TCL","VALUE","LIST","JUNK"] []) (Run.leaf (.inr ⟨_,rfl,iG (iG (iG (iG (bZ (by decide+kernel)) Od) (bZ (by decide+kernel))) (Op hc _ _)) (bZ (by decide+kernel)),fun e he=>?_⟩));simp only [List.mem_cons,List.not_mem_nil,or_false] at he;rcases he with rfl|rfl|rfl|rfl<;>exact bZ (by decide+kernel)
 refine Run.ok (len_str hx []) (Run.br (fun h=>Run.au rfl (Run.leaf (.inl rfl))) (fun h=>?_));have h:¬(a >= sz x):=of_decide_eq_false h;refine aw (item_str (x:=x) (i:=a) h0 (by exact ae [_] [_] [.aY (.w 0) (.c (.v 0))] (.aY (.w 0) (.c (.v 0))) rfl (Int.not_le.mp h)) hx [] ) fun c hc hi=>?_;refine Run.ok hi (Run.ok (jH (n+1) ⟨#[c]⟩ []) (Run.br (fun _=>Run.au rfl (Run.leaf (.inl rfl))) (fun _=>Run.ah rfl ((main (by exact ae [_] [_] [.aY (.w 0) (.c (.v 0))] (.aY (.w 0) (.c (.v 0))) rfl (Int.not_le.mp h))).cast (by kernel_rfl)))))
inductive g8 (x:Str) (a:Int) (r:R V) (O:B):Prop
 |ok (s:Str) (j:Int):r=.ok (.tup [.str s,.int j]) O->a<j->j<=sz x->g8 x a r O
 |exc (f:aR):r=.exc f O->eM f->g8 x a r O
inductive n_ (S:B->Prop) (x:Str) (a:Int):RS->Prop
 |nx (J:Loc) (O:B):S O->n_ S x a (.fin .next J O)
 |ok (s:Str) (j:Int) (J:Loc) (O:B):a<j->j<=sz x->n_ S x a (.fin (.ret (.tup [.str s,.int j])) J O)
 |exc (f:aR) (J:Loc) (O:B):eM f->n_ S x a (.exc f J O)
noncomputable def SE (x:Str) (f d p:Int):Loc:=[("text",.str x),("first",.int f),("depth",.int d),("at",.int p)]
noncomputable def yI (x:Str) (f d p:Int) (c:V):Loc:=[("text",.str x),("first",.int f),("depth",.int d),("at",.int p),("c",c)]
inductive Ap (x:Str) (f d p:Int):Loc->Prop
 |a:Ap x f d p (SE x f d p)
 |b (c:V):Ap x f d p (yI x f d p c)
inductive xN (x:Str) (f:Int):Nat->Loc->B->Prop
 |mk (d p:Int) (J:Loc) (i:Nat):Ap x f d p J->f<=p->i=(sz x-p).toNat->xN x f i J []
theorem pQ {x:Str} {p:Int} (h:p<sz x):(sz x-(p+1)).toNat<(sz x-p).toNat:=by exact ae [_,_,_] [_] [.ie (.c (.v 0)) (.s (.c (.v 2)) (.p (.w 0) (.k 1))),.jf (.c (.v 1)) (.s (.c (.v 2)) (.w 0))] (.lt (.v 0) (.v 1)) rfl (Int.toNat_of_nonneg (ae [_] [_] [.aY (.w 0) (.c (.v 0))] (.aJ (.k 0) (.s (.c (.v 0)) (.p (.w 0) (.k 1)))) rfl h)) (Int.toNat_of_nonneg (ae [_] [_] [.aY (.w 0) (.c (.v 0))] (.aJ (.k 0) (.s (.c (.v 0)) (.w 0))) rfl h))
theorem tZ {x:Str} {a:Int} (h0:0<=a) (hx:sz x<=TL):(sz x-a).toNat<WW:=by
 have:sz x<=10000:=hx;show _<100000;omega
set_option tactic.hygienic true in
theorem Mw (n:Nat) (x:Str) (f:Int) (h0:0<=f) (h1:f<=sz x) (hx:sz x<=TL) (hc:Cl x) (O:B):g8 x f (CF (n+4) "braced_element" [.str x,.int f] O) O:=by
 refine bH (P:=fun r=>g8 x f r O) (f:=aP "braced_element") (J:=[("text",.str x),("first",.int f)]) (by kernel_rfl) (by kernel_rfl) (by kernel_rfl) ?_;refine Run.gH (n_ (fun O=>O=[]) x f) ?_ ?_
 ·refine lU (Q:=n_ (fun O=>O=[]) x f) (xN x f) ?_ WW (sz x-f).toNat _ _ (tZ h0 hx) (.mk 1 f _ _ .a (Int.le_refl _) rfl);intro i J O h;induction h;rename_i d p J i bw h2 hi;subst hi;by_cases hp:p<sz x
  ·refine aw (item_str (x:=x) (i:=p) (Int.le_trans h0 h2) hp hx [] ) fun c i3 hi=>?_;refine .inr ⟨?_,?_⟩
   ·induction bw<;>exact dO (Run.ok (len_str hx []) (Run.leaf (by rw [decide_eq_true hp])))
   refine ez (P:=fx _ _) (Run.cY (yI x f d p (.str ⟨#[c]⟩)) [] (fun kn hk=>?_) ?_)
   ·induction bw<;>exact Run.ok hi hk
   clear bw;have up:f<=p+1:=Int.le_add_one h2;have nx:=fun d=>xN.mk (x:=x) d (p+1) (yI x f d (p+1) (.str ⟨#[c]⟩)) _ (.b _) up rfl;refine Run.ah (zM hc i3) (Run.br (fun _=>Run.leaf (.next ⟨_,pQ hp,nx (d+1)⟩)) (fun _=>?_));refine Run.br (fun _=>?_) (fun _=>Run.leaf (.next ⟨_,pQ hp,nx d⟩));refine Run.br (fun _=>?_) (fun _=>Run.leaf (.next ⟨_,pQ hp,nx (d-1)⟩));rcases Fk n x "braces" (p+1) (Int.le_trans h0 up) hx hc.asc (by decide+kernel) (bZ (by decide+kernel)) [] with h|⟨e,h,he⟩
   ·exact Run.ok h (Run.ok (qk hx []) (Run.leaf (.ret (.ok _ _ _ _ (Int.lt_add_one_of_le h2) hp))))
   ·exact Run.exc h (Run.leaf (.exc (.exc e _ _ he)))
  ·refine .inl ⟨?_,.nx _ _ rfl⟩;induction bw<;>exact dO (Run.ok (len_str hx []) (Run.leaf (by rw [decide_eq_false hp])))
 ·intro r h;induction h with
  |nx J O h=>subst h;exact Run.next rfl (Run.ok (k7 (n+1) "unmatched open brace in list" ["TCL","VALUE","LIST","BRACE"] []) (Run.leaf (.exc _ rfl (nu (by decide+kernel) (by decide+kernel)))))
  |ok s j J O h2 h3=>exact Run.pC rfl (Run.leaf (.ok s j rfl h2 h3))
  |exc e J O he=>exact Run.yW rfl (Run.leaf (.exc e rfl he))
noncomputable def j4 (l:List Nat):List Str:=l.map fun c=>⟨#[c]⟩
theorem Be (l:List Nat) (h:l.length<=TL) (O:B) (k:Nat) (hk:az O k=some (.list ((j4 l).map .str))):∃s,bk "join" (.str Str.empty) [.loc k] O=.ok (.str s) O:=by
 refine ⟨Str.join Str.empty (j4 l),?_⟩;have hs:((j4 l).map (·.length)).sum=l.length:=by
  clear hk h;induction l with
  |nil=>rfl
  |cons a r ih=>
   show 1+((j4 r).map (·.length)).sum=r.length+1;rw [ih];exact Nat.le_antisymm (ae [_] [] [] (.le (.p (.n 1) (.v 0)) (.p (.v 0) (.n 1))) rfl) (ae [_] [] [] (.le (.p (.v 0) (.n 1)) (.p (.n 1) (.v 0))) rfl)
 have h':l.length<=10000:=h;have e:bk "join" (.str Str.empty) [.loc k] O=aX (eB O k) (ue Str.empty O):=by kernel_rfl
 rw [e,j3 hk];unfold ue Cq;rw [qU];show (bif Nat.beq (Str.empty).cps.toList.length 0&&bd _ then _ else _)=_;rw [hs,cR (by exact ae [_] [] [.le (.v 0) (.n 10000)] (.le (.v 0) (.n 1048576)) rfl h')];rfl
noncomputable def MR (x:Str) (p:Int):Loc:=[("text",.str x),("at",.int p),("out",.loc 0)]
noncomputable def uo (x:Str) (p:Int) (c:V):Loc:=[("text",.str x),("at",.int p),("out",.loc 0),("c",c)]
noncomputable def dU (l:List Nat):B:=[.list ((j4 l).map .str)]
noncomputable def EB (O:B):Prop:=∃l,O=dU l
theorem CT (l:List Nat) (h:l.length<=TL) (c:Nat):bk "append" (.loc 0) [.str ⟨#[c]⟩] (dU l)=.ok .none (dU (l++[c])):=by
 have h':l.length<=10000:=h;have e:bk "append" (.loc 0) [.str ⟨#[c]⟩] (dU l)=bif bd ((j4 l).map V.str).length then .ok .none [.list ((j4 l).map .str++[.str ⟨#[c]⟩])] else .stuck:=by kernel_rfl
 rw [e,List.length_map,show (j4 l).length=l.length by unfold j4;rw [List.length_map],cR (by exact ae [_] [] [.le (.v 0) (.n 10000)] (.le (.v 0) (.n 1048576)) rfl h')];show R.ok V.none [aZ.list _]=R.ok V.none (dU (l++[c]));unfold dU j4;simp
inductive uV (x:Str) (p:Int):Loc->Prop
 |a:uV x p (MR x p)
 |b (c:V):uV x p (uo x p c)
inductive si (x:Str) (a:Int):Nat->Loc->B->Prop
 |mk (l:List Nat) (p:Int) (J:Loc) (i:Nat):uV x p J->a<=p->(l.length:Int)=p-a->p<=sz x->i=(sz x-p).toNat->si x a i J (dU l)
theorem J6 {l:List Nat} {c:Nat} {p a:Int} (h:(l.length:Int)=p-a):((l++[c]).length:Int)=p+1-a:=by rw [List.length_append];show ((l.length+1:Nat):Int)=_;exact Int.le_antisymm (ae [_] [_,_] [.ie (.c (.v 0)) (.s (.w 0) (.w 1))] (.aJ (.c (.p (.v 0) (.n 1))) (.s (.p (.w 0) (.k 1)) (.w 1))) rfl h) (ae [_] [_,_] [.jf (.c (.v 0)) (.s (.w 0) (.w 1))] (.aJ (.s (.p (.w 0) (.k 1)) (.w 1)) (.c (.p (.v 0) (.n 1)))) rfl h)
theorem CM {x:Str} {l:List Nat} {p a:Int} (h0:0<=a) (hx:sz x<=TL) (h:(l.length:Int)=p-a) (h3:p<=sz x):l.length<=TL:=by
 have:sz x<=10000:=hx;show _<=10000;exact ae [_,_] [_,_] [.aJ (.k 0) (.w 0),.ie (.c (.v 0)) (.s (.w 1) (.w 0)),.aJ (.w 1) (.c (.v 1)),.le (.v 1) (.n 10000)] (.le (.v 0) (.n 10000)) rfl h0 h h3 this
theorem si.next {x:Str} {a p:Int} {l:List Nat} {c:Nat} {v:V} (h2:a<=p) (hl:(l.length:Int)=p-a) (hp:p<sz x):si x a (sz x-(p+1)).toNat (uo x (p+1) v) (dU (l++[c])):=
 .mk _ (p+1) _ _ (.b _) (Int.le_add_one h2) (J6 hl) hp rfl
set_option tactic.hygienic true in
theorem Rc (n:Nat) (x:Str) (a:Int) (h0:0<=a) (h1:a<=sz x) (hx:sz x<=TL) (hc:Cl x) (O:B):g8 x a (CF (n+4) "quoted_element" [.str x,.int a] O) O:=by
 refine bH (P:=fun r=>g8 x a r O) (f:=aP "quoted_element") (J:=[("text",.str x),("at",.int a)]) (by kernel_rfl) (by kernel_rfl) (by kernel_rfl) ?_;refine Run.gH (n_ EB x a) ?_ ?_
 ·refine lU (Q:=n_ EB x a) (si x a) ?_ WW (sz x-a).toNat _ _ (tZ h0 hx) (.mk [] a _ _ .a (Int.le_refl _) (Int.sub_self a).symm h1 rfl);intro i J O h;induction h;rename_i l p J i bw h2 hl h3 hi;subst hi;by_cases hp:p<sz x
  ·refine aw (item_str (x:=x) (i:=p) (Int.le_trans h0 h2) hp hx (dU l) ) fun c i3 hi=>?_;have lt:=CM h0 hx hl h3;refine .inr ⟨?_,?_⟩
   ·induction bw<;>exact dO (Run.ok (len_str hx (dU l)) (Run.leaf (by rw [decide_eq_true hp])))
   refine ez (P:=fx _ _) (Run.cY (uo x p (.str ⟨#[c]⟩)) (dU l) (fun kn hk=>?_) ?_)
   ·induction bw<;>exact Run.ok hi hk
   clear bw;refine Run.ah (zM hc i3) (Run.br (fun _=>?_) (fun _=>?_))
   ·rcases Fk n x "quotes" (p+1) (Int.le_trans h0 (Int.le_add_one h2)) hx hc.asc (by decide+kernel) (bZ (by decide+kernel)) (dU l) with h|⟨e,h,he⟩
    ·refine aB (Be l lt (dU l) 0 rfl ) fun s hs=>?_;exact Run.ok h (Run.au (by kernel_rfl) (Run.ok hs (Run.leaf (.ret (.ok s _ _ _ (Int.lt_add_one_of_le h2) hp)))))
    ·exact Run.exc h (Run.leaf (.exc (.exc e _ _ he)))
   ·exact Run.au (by kernel_rfl) (Run.ok (CT l lt c) (Run.leaf (.next ⟨_,pQ hp,.next h2 hl hp⟩)))
  ·refine .inl ⟨?_,.nx _ _ ⟨l,rfl⟩⟩;induction bw<;>exact dO (Run.ok (len_str hx (dU l)) (Run.leaf (by rw [decide_eq_false hp])))
 ·intro r h;induction h with
  |nx J O h=>refine aB h ?_;clear h;rintro l rfl;exact Run.next rfl (Run.ok (k7 (n+1) "unmatched open quote in list" ["TCL","VALUE","LIST","QUOTE"] (dU l)) (Run.leaf (.exc _ rfl (nu (by decide+kernel) (by decide+kernel)))))
  |ok s j J O h2 h3=>exact Run.pC rfl (Run.leaf (.ok s j rfl h2 h3))
  |exc e J O he=>exact Run.yW rfl (Run.leaf (.exc e rfl he))
inductive wo (x:Str) (a:Int):RS->Prop
 |mk (l:List Nat) (p:Int) (J:Loc):uV x p J->a<p->p<=sz x->l.length<=TL->wo x a (.fin .next J (dU l))
set_option tactic.hygienic true in
theorem Hd (n:Nat) (x:Str) (a:Int) (h0:0<=a) (h1:a<sz x) (hx:sz x<=TL) (hc:Cl x) {c0:Nat} (Dx:az x.cps.toList a.toNat=some c0) (rp:kF ⟨#[c0]⟩=false) (O:B):g8 x a (CF (n+4) "bare_element" [.str x,.int a] O) O:=by
 refine bH (P:=fun r=>g8 x a r O) (f:=aP "bare_element") (J:=[("text",.str x),("at",.int a)]) (by kernel_rfl) (by kernel_rfl) (by kernel_rfl) ?_;refine Run.gH (wo x a) ?_ ?_
 ·refine lU (Q:=wo x a) (si x a) ?_ WW (sz x-a).toNat _ _ (tZ h0 hx) (.mk [] a _ _ .a (Int.le_refl _) (Int.sub_self a).symm (Int.le_of_lt h1) rfl);intro i J O h;induction h;rename_i l p J i bw h2 hl h3 hi;subst hi;have lt:=CM h0 hx hl h3;by_cases hp:p<sz x
  ·refine aw (item_str (x:=x) (i:=p) (Int.le_trans h0 h2) hp hx (dU l) ) fun c i3 hi=>?_;have kZ:=jH (n+2) ⟨#[c]⟩ (dU l);generalize cO:kF ⟨#[c]⟩=zc;induction zc using aN with
   |true=>
    rw [cO] at kZ;have ne:a<p:=Int.lt_iff_le_and_ne.mpr ⟨h2,fun h=>by subst h;rw [Dx] at i3;obtain rfl:=Option.some.inj i3;rw [rp] at cO;exact ff cO⟩;refine .inl ⟨?_,.mk l p J bw ne h3 lt⟩;induction bw<;>exact dO (Run.ok (len_str hx (dU l)) (Run.au (decide_eq_true hp) (Run.ok hi (Run.ok kZ (Run.ah rfl (Run.leaf rfl))))))
   |false=>
    rw [cO] at kZ;refine .inr ⟨?_,?_⟩
    ·induction bw<;>exact dO (Run.ok (len_str hx (dU l)) (Run.au (decide_eq_true hp) (Run.ok hi (Run.ok kZ (Run.au rfl (Run.leaf rfl))))))
    refine ez (P:=fx _ _) (Run.cY (uo x p (.str ⟨#[c]⟩)) (dU l) (fun kn hk=>?_) ?_)
    ·induction bw<;>exact Run.ok hi hk
    exact Run.ah (zM hc i3) (Run.au (by kernel_rfl) (Run.ok (CT l lt c) (Run.leaf (.next ⟨_,pQ hp,.next h2 hl hp⟩))))
  ·refine .inl ⟨?_,.mk l p J bw (Int.lt_of_lt_of_le h1 (Int.not_lt.mp hp)) h3 lt⟩;induction bw<;>exact dO (Run.ok (len_str hx (dU l)) (Run.ah (decide_eq_false hp) (Run.leaf rfl)))
 ·intro r h;induction h;rename_i l p J bw h5 h3 lt;refine aB (Be l lt (dU l) 0 rfl ) fun s hs=>?_;induction bw<;>exact Run.next rfl (Run.au (by kernel_rfl) (Run.ok hs (Run.leaf (.ok s p rfl h5 h3))))
noncomputable def Ct (x:Str) (p:Int):Loc:=[("text",.str x),("at",.int p)]
inductive wI (x:Str) (a:Int):RS->Prop
 |mk (p:Int):a<=p->(p<sz x->∃c,az x.cps.toList p.toNat=some c/\kF ⟨#[c]⟩=false)->wI x a (.fin .next (Ct x p) [])
inductive Gc (x:Str) (a:Int):Nat->Loc->B->Prop
 |mk (p:Int) (i:Nat):a<=p->i=(sz x-p).toNat->Gc x a i (Ct x p) []
set_option tactic.hygienic true in
theorem EW (n:Nat) (x:Str) (a:Int) (h0:0<=a) (hx:sz x<=TL) (hc:Cl x) (O:B):CF (n+5) "find_element" [.str x,.int a] O=.ok .none O\/g8 x a (CF (n+5) "find_element" [.str x,.int a] O) O:=by
 refine bH (P:=fun r=>r=.ok .none O\/g8 x a r O) (f:=aP "find_element") (J:=[("text",.str x),("at",.int a)]) (by kernel_rfl) (by kernel_rfl) (by kernel_rfl) ?_;refine Run.gH (wI x a) ?_ ?_
 ·refine lU (Q:=wI x a) (Gc x a) ?_ WW (sz x-a).toNat _ _ (tZ h0 hx) (.mk a _ (Int.le_refl _) rfl);intro i J O h;induction h;rename_i p i h2 hi;subst hi;by_cases hp:p<sz x
  ·refine aw (item_str (x:=x) (i:=p) (Int.le_trans h0 h2) hp hx [] ) fun c i3 hi=>?_;have kZ:=jH (n+3) ⟨#[c]⟩ [];generalize cO:kF ⟨#[c]⟩=zc;induction zc using aN with
   |false=>
    rw [cO] at kZ;exact .inl ⟨dO (Run.ok (len_str hx []) (Run.au (decide_eq_true hp) (Run.ok hi (Run.ok kZ (Run.ah rfl (Run.leaf rfl)))))),.mk p h2 fun _=>⟨c,i3,cO⟩⟩
   |true=>
    rw [cO] at kZ;exact .inr ⟨dO (Run.ok (len_str hx []) (Run.au (decide_eq_true hp) (Run.ok hi (Run.ok kZ (Run.au rfl (Run.leaf rfl)))))),ez (P:=fx _ _) (Run.leaf (.next ⟨_,pQ hp,.mk (p+1) _ (Int.le_add_one h2) rfl⟩))⟩
  ·exact .inl ⟨dO (Run.ok (len_str hx []) (Run.ah (decide_eq_false hp) (Run.leaf rfl))),.mk p h2 fun h=>absurd h hp⟩
 intro r h;induction h;rename_i p h2 h3;refine Run.next rfl (Run.ok (len_str hx []) (Run.br (fun _=>Run.leaf (.inl rfl)) (fun h=>?_)));have hp:p<sz x:=Int.not_le.mp (of_decide_eq_false h);have p0:=Int.le_trans h0 h2;have p1:0<=p+1:=Int.le_add_one p0;refine aw (h3 hp ) fun c i3 cO=>?_;refine aw (item_str (x:=x) (i:=p) p0 hp hx [] ) fun c' BH hi=>?_;obtain rfl:c=c':=Option.some.inj (i3.symm.trans BH);clear BH h h3;refine Run.ok hi (Run.br (fun _=>?_) (fun _=>?_))
 ·generalize Mw n x (p+1) p1 hp hx hc []=zc;induction zc using g8.casesOn with
  |ok s j e u v=>exact Run.ok e (Run.leaf (.inr (.ok s j rfl (Int.lt_of_le_of_lt (Int.le_add_one h2) u) v)))
  |exc f e hf=>exact Run.exc e (Run.leaf (.inr (.exc f rfl hf)))
 refine Run.ok hi (Run.br (fun _=>?_) (fun _=>?_))
 ·generalize Rc n x (p+1) p1 hp hx hc []=zc;induction zc using g8.casesOn with
  |ok s j e u v=>exact Run.ok e (Run.leaf (.inr (.ok s j rfl (Int.lt_of_le_of_lt (Int.le_add_one h2) u) v)))
  |exc f e hf=>exact Run.exc e (Run.leaf (.inr (.exc f rfl hf)))
 ·generalize Hd n x p p0 hp hx hc i3 cO []=zc;induction zc using g8.casesOn with
  |ok s j e u v=>exact Run.ok e (Run.leaf (.inr (.ok s j rfl (Int.lt_of_le_of_lt h2 u) v)))
  |exc f e hf=>exact Run.exc e (Run.leaf (.inr (.exc f rfl hf)))
inductive s9 (r:R V) (O:B):Prop
 |ok (l:List Str):r=.ok (.lst (l.map .str)) O->s9 r O
 |exc (f:aR):r=.exc f O->eM f->s9 r O
theorem ic (l:List Str):bP 0 (l.map .str)=true:=by
 induction l with
 |nil=>rfl
 |cons a r ih=>rw [List.map_cons,zi,ih];rfl
noncomputable def gK (l:List Str):B:=[.list (l.map .str)]
theorem Rh (l:List Str) (O:B):givenBack 0 (.loc 0) (gK l) O=.ok (.lst (l.map .str)) O:=by
 have e:givenBack 0 (.loc 0) (gK l) O=bif bP 0 (l.map .str) then .ok (.lst (l.map .str)) O else .stuck:=by kernel_rfl
 rw [e,ic];rfl
theorem J_ (l:List Str) (h:l.length<=TL) (s:Str):bk "append" (.loc 0) [.str s] (gK l)=.ok .none (gK (l++[s])):=by
 have h':l.length<=10000:=h;have e:bk "append" (.loc 0) [.str s] (gK l)=bif bd (l.map V.str).length then .ok .none [.list (l.map .str++[.str s])] else .stuck:=by kernel_rfl
 rw [e,List.length_map,cR (by exact ae [_] [] [.le (.v 0) (.n 10000)] (.le (.v 0) (.n 1048576)) rfl h')];show R.ok V.none [aZ.list _]=R.ok V.none (gK (l++[s]));unfold gK;simp
noncomputable def vC (x:Str) (v:V):Loc:=[("text",.str x),("items",.loc 0),("found",v)]
inductive t5 (x:Str):RS->Prop
 |nx (l:List Str) (v:V):t5 x (.fin .next (vC x v) (gK l))
 |exc (f:aR) (J:Loc) (O:B):eM f->t5 x (.exc f J O)
inductive u9 (x:Str):Nat->Loc->B->Prop
 |no (l:List Str):u9 x 0 (vC x .none) (gK l)
 |el (l:List Str) (s:Str) (j:Int):(l.length:Int)<j->j<=sz x->u9 x ((sz x-j).toNat+1) (vC x (.tup [.str s,.int j])) (gK l)
inductive D0 (x:Str) (J:Loc) (O:B):Prop
 |mk (i:Nat):i<WW->u9 x i J O->D0 x J O
inductive DN (x:Str):Loc->B->Prop
 |mk (l:List Str) (v:V):DN x (vC x v) (gK l)
theorem Lx {x:Str} {j:Int} (hx:sz x<=9000) (h:0<j):(sz x-j).toNat+1<WW:=by show _<100000;lia
theorem LN {x:Str} {j k:Int} (h:j<k) (h1:k<=sz x):(sz x-k).toNat+1<(sz x-j).toNat+1:=by exact ae [_,_,_] [_,_] [.aY (.w 0) (.w 1),.ie (.c (.v 0)) (.s (.c (.v 2)) (.w 1)),.jf (.c (.v 1)) (.s (.c (.v 2)) (.w 0))] (.lt (.p (.v 0) (.n 1)) (.p (.v 1) (.n 1))) rfl h (Int.toNat_of_nonneg (ae [_] [_] [.aJ (.w 0) (.c (.v 0))] (.aJ (.k 0) (.s (.c (.v 0)) (.w 0))) rfl h1)) (Int.toNat_of_nonneg (ae [_] [_,_] [.aY (.w 0) (.w 1),.aJ (.w 1) (.c (.v 0))] (.aJ (.k 0) (.s (.c (.v 0)) (.w 0))) rfl h h1))
theorem M_ {x:Str} {l:List Str} {j:Int} (hx:sz x<=9000) (h:(l.length:Int)<j) (h1:j<=sz x):l.length<=TL:=by show _<=10000;exact ae [_,_] [_] [.le (.v 1) (.n 9000),.aY (.c (.v 0)) (.w 0),.aJ (.w 0) (.c (.v 1))] (.le (.v 0) (.n 10000)) rfl hx h h1
theorem Kw {l:List Str} {s:Str} {j k:Int} (h:(l.length:Int)<j) (h1:j<k):((l++[s]).length:Int)<k:=by rw [List.length_append];show ((l.length+1:Nat):Int)<_;exact ae [_] [_,_] [.aY (.c (.v 0)) (.w 1),.aY (.w 1) (.w 0)] (.aY (.c (.p (.v 0) (.n 1))) (.w 0)) rfl h h1
set_option tactic.hygienic true in
theorem SU (n:Nat) (x:Str) (hx:sz x<=9000) (hc:Cl x) (O:B):s9 (CF (n+6) "split_list" [.str x] O) O:=by
 refine bH (P:=fun r=>s9 r O) (f:=aP "split_list") (J:=[("text",.str x)]) (by kernel_rfl) (by kernel_rfl) (by kernel_rfl) ?_;have cL:sz x<=TL:=Nat.le_trans hx (by decide);refine Run.cY (([("text",.str x),("items",.loc 0)]:Loc)) (gK []) (fun kn hk=>hk) ?_;refine Run.stmt (D0 x) (fun kn hk=>?_) ?_
 ·rcases EW n x 0 (Int.le_refl _) cL hc (gK []) with h|⟨s,j,h,h1,h2⟩|⟨f,h,hf⟩
  ·exact Run.ok h (hk _ _ ⟨0,by decide,.no []⟩)
  ·exact Run.ok h (hk _ _ ⟨_,Lx hx h1,.el [] s j h1 h2⟩)
  ·exact Run.exc h (Run.leaf (.exc f rfl hf))
 rintro J σ' ⟨i,hi,hI⟩;refine Run.stmt (DN x) (fun kn hk=>?_) ?_
 ·refine Run.gH (t5 x) (lU (Q:=t5 x) (u9 x) ?_ WW i J _ hi hI) ?_
  ·clear hi hI;intro i J O h;induction h with
   |no l=>exact .inl ⟨dO (Run.leaf rfl),.nx l .none⟩
   |el l s j h1 h2=>
    refine .inr ⟨dO (Run.leaf rfl),ez (P:=fx _ _) ?_⟩;refine Run.au (by kernel_rfl) (Run.ok (J_ l (M_ hx h1 h2) s) ?_);rcases EW n x j (Int.le_trans (Int.natCast_nonneg _) (Int.le_of_lt h1)) cL hc (gK (l++[s])) with h|⟨s2,j2,h,h3,h4⟩|⟨f,h,hf⟩
    ·exact Run.ok h (Run.leaf (.next ⟨0,Nat.succ_pos _,.no _⟩))
    ·exact Run.ok h (Run.leaf (.next ⟨_,LN h3 h4,.el _ s2 j2 (Kw h1 h3) h4⟩))
    ·exact Run.exc h (Run.leaf (.exc (.exc f _ _ hf)))
  ·intro r h;induction h with
   |nx l v=>exact Run.next rfl (hk _ _ (.mk l v))
   |exc f J O hf=>exact Run.yW rfl (Run.leaf (.exc f rfl hf))
 intro _ _ h;induction h;rename_i l v;exact Run.leaf (.ok l (Rh l O))
theorem LV (s:Str) (l:List Str):∃b,nS s (l.map .str)=some b:=⟨l.any fun y=>y.cps.toList==s.cps.toList,by unfold nS;rw [qU];rfl⟩
theorem Ix (s:Str) (l:List Str) (O:B):∃b,oB (dI O .In (.str s) (.lst (l.map .str))) O=.ok (.bool b) O:=by
 refine aB (LV s l ) fun b hb=>?_;refine ⟨b,?_⟩;show oB (nS s (l.map .str)) O=_;rw [hb];rfl
noncomputable def ru:List Str:=["==","!=","<","<=",">",">="]
noncomputable def ki:List Str:=["eq","ne","lt","le","gt","ge"]
theorem C_ (n:Nat) (op:Str) (hop:op∈ru++ki) (o:Int) (O:B):∃b,CF (n+1) "relation" [.str op,.int o] O=.ok (.bool b) O:=by
 refine bH (P:=fun r=>∃b,r=.ok (.bool b) O) (f:=aP "relation") (J:=[("op",.str op),("order",.int o)]) (by kernel_rfl) (by kernel_rfl) (by kernel_rfl) ?_;unfold ru ki at hop;simp only [List.mem_append,List.mem_cons,List.not_mem_nil,or_false] at hop;rcases hop with (rfl|rfl|rfl|rfl|rfl|rfl)|(rfl|rfl|rfl|rfl|rfl|rfl)
 all_goals
  repeat (first|refine Run.au rfl ?_|refine Run.ah rfl ?_)
  exact Run.leaf ⟨_,rfl⟩
theorem BW (n:Nat) (a b:Str) (O:B):∃i,CF (n+1) "text_order" [.str a,.str b] O=.ok (.int i) O:=by
 refine bH (P:=fun r=>∃i,r=.ok (.int i) O) (f:=aP "text_order") (J:=[("a",.str a),("b",.str b)]) (by kernel_rfl) (by kernel_rfl) (by kernel_rfl) ?_;exact Run.br (fun _=>Run.leaf ⟨_,rfl⟩) (fun _=>Run.br (fun _=>Run.leaf ⟨_,rfl⟩) (fun _=>Run.leaf ⟨_,rfl⟩))
theorem SR (n:Nat) (a b:Str) (ha:sz a<=TL) (hb:sz b<=TL) (O:B):∃i,CF (n+4) "order_of" [.str a,.str b] O=.ok (.int i) O:=by
 refine bH (P:=fun r=>∃i,r=.ok (.int i) O) (f:=aP "order_of") (J:=[("a",.str a),("b",.str b)]) (by kernel_rfl) (by kernel_rfl) (by kernel_rfl) ?_;refine aw (nP n a ha [] ) fun v hv hn=>?_;refine aw (nP n b hb [] ) fun w hw hm=>?_;refine aB (BW (n+2) a b [] ) fun i hi=>?_;refine Run.ok hv (Run.ok hw ?_);rcases hn with rfl|⟨p,rfl,_⟩
 ·exact Run.au rfl (Run.au rfl (Run.ok hi (Run.leaf ⟨_,rfl⟩)))
 ·rcases hm with rfl|⟨q,rfl,_⟩
  ·exact Run.ah rfl (Run.au rfl (Run.au rfl (Run.ok hi (Run.leaf ⟨_,rfl⟩))))
  ·exact Run.ah rfl (Run.ah rfl (Run.ah rfl (Run.leaf ⟨_,rfl⟩)))
noncomputable def tf (b:Bool):Str:=if b then "1" else "0"
theorem pf (b:Bool):sz (tf b)=1/\Cl (tf b):=by
 refine ⟨by induction b using aN<;>kernel_rfl,?_⟩;induction b using aN<;>exact lx (by decide+kernel)
theorem Jv (n:Nat) (op a b:Str) (hop:op∈ru) (ha:sz a<=TL) (hb:sz b<=TL) (O:B):∃t,CF (n+7) "binary" [.str op,.str a,.str b] O=.ok (.str (tf t)) O:=by
 refine bH (P:=fun r=>∃t,r=.ok (.str (tf t)) O) (f:=aP "binary") (J:=[("op",.str op),("a",.str a),("b",.str b)]) (by kernel_rfl) (by kernel_rfl) (by kernel_rfl) ?_;refine aB (SR (n+2) a b ha hb [] ) fun i hi=>?_;refine aB (C_ (n+5) op (List.mem_append_left _ hop) i [] ) fun t ht=>?_;have fin:Run (g5 (GF (n+6)) 40 false (aP "binary").scope (aP "binary").body [("op",.str op),("a",.str a),("b",.str b)] []) (fun r=>∃t,iz (dS r) O=.ok (.str (tf t)) O):=by
  unfold ru at hop;simp only [List.mem_cons,List.not_mem_nil,or_false] at hop;rcases hop with rfl|rfl|rfl|rfl|rfl|rfl
  all_goals exact Run.au rfl (Run.ok hi (Run.ok ht (Run.ok (rD (n+5) t []) (Run.leaf ⟨t,rfl⟩))))
 exact fin
theorem Rj (n:Nat) (op a b:Str) (hop:op∈ki) (O:B):∃t,CF (n+7) "binary" [.str op,.str a,.str b] O=.ok (.str (tf t)) O:=by
 refine bH (P:=fun r=>∃t,r=.ok (.str (tf t)) O) (f:=aP "binary") (J:=[("op",.str op),("a",.str a),("b",.str b)]) (by kernel_rfl) (by kernel_rfl) (by kernel_rfl) ?_;refine aB (BW (n+5) a b [] ) fun i hi=>?_;refine aB (C_ (n+5) op (List.mem_append_right _ hop) i [] ) fun t ht=>?_;unfold ki at hop;simp only [List.mem_cons,List.not_mem_nil,or_false] at hop;rcases hop with rfl|rfl|rfl|rfl|rfl|rfl
 all_goals exact Run.ah rfl (Run.au rfl (Run.ok hi (Run.ok ht (Run.ok (rD (n+5) t []) (Run.leaf ⟨t,rfl⟩)))))
theorem Td (n:Nat) (op a b:Str) (hop:op= "in" \/ op= "ni") (hb:sz b<=9000) (hc:Cl b) (O:B):hJ 1 (CF (n+7) "binary" [.str op,.str a,.str b] O) O:=by
 refine bH (P:=fun r=>hJ 1 r O) (f:=aP "binary") (J:=[("op",.str op),("a",.str a),("b",.str b)]) (by kernel_rfl) (by kernel_rfl) (by kernel_rfl) ?_;have one:∀t,sz (tf t)<=1/\Cl (tf t):=fun t=>⟨Nat.le_of_eq (pf t).1,(pf t).2⟩
 rcases SU n b hb hc [] with ⟨l,h⟩|⟨f,h,hf⟩
 ·refine aB (Ix a l [] ) fun t ht=>?_;rcases hop with rfl|rfl
  all_goals exact Run.ah rfl (Run.ah rfl (Run.au rfl (Run.ok h (Run.ok ht (Run.ok (rD (n+5) _ []) (Run.leaf (.inl ⟨_,rfl,one _⟩)))))))
 ·rcases hop with rfl|rfl
  all_goals exact Run.ah rfl (Run.ah rfl (Run.au rfl (Run.exc h (Run.leaf (.inr ⟨f,rfl,hf⟩)))))
noncomputable def a0 {α:Type} (r r':R α):Prop:=r=.stuck\/r'=r
noncomputable def ch (r r':RS):Prop:=r=.stuck\/r'=r
theorem a0.rfl' {α:Type} {r:R α}:a0 r r:=.inr rfl
theorem ch.rfl' {r:RS}:ch r r:=.inr rfl
theorem a0.stuck {α:Type} {r:R α}:a0 .stuck r:=.inl rfl
theorem ch.stuck {r:RS}:ch .stuck r:=.inl rfl
section
variable {α β:Type}
theorem a0.bind {r r':R α} {k k':α->B->R β} (h:a0 r r') (hk:∀a O,a0 (k a O) (k' a O)):a0 (r.bind k) (r'.bind k'):=by
 rcases h with rfl|rfl
 ·exact .stuck
 ·induction r' using R.casesOn with
  |ok a O=>exact hk a O
  |_=>exact .rfl'
theorem a0.quiet {r r':R α} (h:a0 r r'):a0 (quiet r) (quiet r'):=by
 rcases h with rfl|rfl
 ·exact .stuck
 ·exact .rfl'
theorem a0.aX {o:Option β} {k k':β->R α} (h:∀b,a0 (k b) (k' b)):a0 (aX o k) (aX o k'):=by
 induction o using aA with
 |none=>exact .rfl'
 |some b=>exact h b
theorem a0.cond {c:Bool} {r r' s s':R α} (h:a0 r r') (k:a0 s s'):a0 (bif c then r else s) (bif c then r' else s'):=by induction c using aN<;>assumption
theorem ch.cond {c:Bool} {r r' s s':RS} (h:ch r r') (k:ch s s'):ch (bif c then r else s) (bif c then r' else s'):=by induction c using aN<;>assumption
theorem ch.bind {r r':RS} {k k':Loc->B->RS} (h:ch r r') (hk:∀a O,ch (k a O) (k' a O)):ch (r.bind k) (r'.bind k'):=by
 rcases h with rfl|rfl
 ·exact .stuck
 ·induction r' using RS.casesOn with
  |fin f J O=>
   induction f using Fl.casesOn with
   |next=>exact hk J O
   |ret v=>exact .rfl'
  |_=>exact .rfl'
theorem a0.toS {r r':R α} {J:Loc} {k k':α->B->RS} (h:a0 r r') (hk:∀a O,ch (k a O) (k' a O)):ch (r.toS J k) (r'.toS J k'):=by
 rcases h with rfl|rfl
 ·exact .stuck
 ·induction r' using R.casesOn with
  |ok a O=>exact hk a O
  |_=>exact .rfl'
variable {e e':Expr->B->R V} {t t':Expr->B->R Bool} {x x':Stmt->Loc->B->RS}
theorem xM (H:∀a O,a0 (e a O) (e' a O)) (es:List Expr):∀(O:B),a0 (dX e es O) (dX e' es O):=by
 induction es with
 |nil=>exact fun _=>.rfl'
 |cons a r ih=>exact fun O=>(H a O).bind fun v O=>(ih O).bind fun vs O=>.rfl'
theorem DO (H:∀a O,a0 (e a O) (e' a O)) (ops:List CmpOp):∀(cs:List Expr) (l:V) (O:B),a0 (dL e l ops cs O) (dL e' l ops cs O):=by
 induction ops with
 |nil=>exact fun cs _ _=>by induction cs using bh<;>exact .rfl'
 |cons op ops ih=>
  intro cs l O;induction cs using bh with
  |nil=>induction ops using bh<;>exact .rfl'
  |cons r rs=>
   induction ops using bh with
   |nil=>
    induction rs using bh with
    |nil=>exact (H r O).bind fun v O=>.rfl'
    |cons _ _=>exact .rfl'
   |cons eD ops=>
    induction rs using bh with
    |nil=>exact .rfl'
    |cons r' rs=>
     refine (H r O).bind fun b O=>?_;generalize dI O op l b=zc;induction zc using aA with
     |none=>exact .rfl'
     |some c=>
      induction c using aN with
      |true=>exact ih (r'::rs) b O
      |false=>exact .rfl'
theorem Ma (H:∀a O,a0 (e a O) (e' a O)) (op:BoolOp) (es:List Expr):∀(O:B),a0 (jn e op es O) (jn e' op es O):=by
 induction es with
 |nil=>exact fun _=>.rfl'
 |cons a r ih=>
  induction r using bh with
  |nil=>exact H a
  |cons b r=>
   refine fun O=>(H a O).bind fun v O=>?_;induction v using V.casesOn with
   |bool c=>induction op using BoolOp.casesOn<;>induction c using aN<;>first|exact .rfl'|exact ih O
   |_=>exact .rfl'
theorem D9 (H:∀a O,a0 (t a O) (t' a O)) (op:BoolOp) (es:List Expr):∀(O:B),a0 (eR t op es O) (eR t' op es O):=by
 induction es with
 |nil=>exact fun _=>.rfl'
 |cons a r ih=>exact fun O=>(H a O).bind fun c O=>by induction op using BoolOp.casesOn<;>induction c using aN<;>first|exact .rfl'|exact ih O
theorem Oj (H:∀a O,a0 (e a O) (e' a O)) (es:List Expr):∀(acc:Str) (O:B),a0 (jL e acc es O) (jL e' acc es O):=by
 induction es with
 |nil=>exact fun _ _=>.rfl'
 |cons a r ih=>
  refine fun acc O=>(H a O).bind fun v O=>?_;induction v using V.casesOn with
  |str y=>exact (ih _ O).cond .rfl'
  |_=>exact .rfl'
theorem N' (H:∀a O,a0 (e a O) (e' a O)) (a:Expr) (O:B):a0 (ib e a O) (ib e' a O):=by
 induction a using Expr.casesOn with
 |Constant c _ _=>induction c using Const.casesOn<;>exact .rfl'
 |FormattedValue v c sp p=>
  induction sp using aA with
  |some _=>exact .rfl'
  |none=>
   refine a0.cond (r:=(e v O).bind _) (r':=(e' v O).bind _) ((H v O).bind fun a O=>?_) .rfl';exact .rfl'
 |_=>exact .rfl'
theorem Qi (H:∀a O,a0 (e a O) (e' a O)) (ps:List Expr) (O:B):a0 (m8 e ps O) (m8 e' ps O):=by
 match ps with
 | []=>exact .rfl'
 | [_]=>exact .rfl'
 |a::b::r=>exact Oj (N' H) (a::b::r) Str.empty O
theorem Bp (H:∀a O,a0 (e a O) (e' a O)) (o:Option Expr) (O:B):a0 (gT e o O) (gT e' o O):=by
 induction o using aA with
 |none=>exact .rfl'
 |some a=>exact H a O
theorem NA (H:∀a O,a0 (e a O) (e' a O)) (ks:List (Option Expr)):∀(vs:List Expr) (O:B),a0 (hU e ks vs O) (hU e' ks vs O):=by
 induction ks with
 |nil=>exact fun vs _=>by induction vs using bh<;>exact .rfl'
 |cons o ks ih=>
  intro vs O;induction o using aA with
  |none=>induction vs using bh<;>exact .rfl'
  |some a=>
   induction vs using bh with
   |nil=>exact .rfl'
   |cons v vs=>exact (H a O).bind fun _ O=>(H v O).bind fun _ O=>(ih vs O).bind fun _ O=>.rfl'
theorem TA {f f':V->B->R V} {h h':V->B->R Bool} (H:∀a O,a0 (f a O) (f' a O)) (K:∀a O,a0 (h a O) (h' a O)) (l:List V):∀(acc:List V) (O:B),a0 (cV f h l acc O) (cV f' h' l acc O):=by
 induction l with
 |nil=>exact fun _ _=>.rfl'
 |cons a r ih=>exact fun acc O=>(K a O).quiet.bind fun b O=>((H a O).quiet.bind fun v O=>(ih _ O).cond .rfl').cond (ih acc O)
theorem uh (H:∀s J O,ch (x s J O) (x' s J O)) (b:List Stmt):∀(J:Loc) (O:B),ch (bB x b J O) (bB x' b J O):=by
 induction b with
 |nil=>exact fun _ _=>.rfl'
 |cons s r ih=>exact fun J O=>(H s J O).bind ih
theorem KL {tv Gb:Loc->B->R Bool} {bv qM:Loc->B->RS} (H:∀J O,a0 (tv J O) (Gb J O)) (K:∀J O,ch (bv J O) (qM J O)) (n:Nat):∀(J:Loc) (O:B),ch (fO tv bv n J O) (fO Gb qM n J O):=by
 induction n with
 |zero=>exact fun _ _=>.rfl'
 |succ n ih=>exact fun J O=>(H J O).toS fun b O=>((K J O).bind ih).cond .rfl'
theorem K5 {bv qM:Loc->B->RS} (K:∀J O,ch (bv J O) (qM J O)) (y:Str) (l:List V):∀(J:Loc) (O:B),ch (dH bv y l J O) (dH qM y l J O):=by
 induction l with
 |nil=>exact fun _ _=>.rfl'
 |cons a r ih=>exact fun J O=>(K _ O).bind ih
end
structure qz (I I':bQ):Prop where
 e:∀q sc a J O,a0 (I.e q sc a J O) (I'.e q sc a J O)
 t:∀q sc a J O,a0 (I.t q sc a J O) (I'.t q sc a J O)
 x:∀q sc s J O,ch (I.x q sc s J O) (I'.x q sc s J O)
noncomputable def nV (C C':eK):Prop:=∀x args O,a0 (C x args O) (C' x args O)
section
variable {C C':eK} {W:Nat} {fns:Str->Bool} {I I':bQ} {q:Bool} {sc:Scope} {J:Loc} {O:B}
theorem K9 (hC:nV C C') (f:V) (args:List V) (O:B):a0 (fP q ⟨C,W,fns⟩ f args O) (fP q ⟨C',W,fns⟩ f args O):=by
 induction f using V.casesOn with
 |fn x=>exact a0.cond .rfl' (hC x args O)
 |_=>exact .rfl'
theorem QM (hC:nV C C') (H:qz I I') (x:Ex):a0 (eU ⟨C,W,fns⟩ I q sc J O x) (eU ⟨C',W,fns⟩ I' q sc J O x):=by
 have E:=fun a O=>H.e q sc a J O;induction x using Ex.casesOn with
 |tup es=>exact (xM E es O).bind fun _ _=>.rfl'
 |lst es=>exact (xM E es O).bind fun _ _=>.rfl'
 |bin l op r=>exact (E l O).bind fun _ O=>(E r O).bind fun _ _=>.rfl'
 |un op y=>exact (E y O).bind fun _ _=>.rfl'
 |boo op vs=>exact Ma E op vs O
 |lf t b o=>exact (H.t q sc t J O).bind fun _ O=>(E b O).cond (E o O)
 |cmp l ops cs=>exact (E l O).bind fun v O=>DO E ops cs v O
 |kh ps=>exact Qi E ps O
 |att o y=>exact (E o O).bind fun _ _=>.rfl'
 |kJ o lo hi=>exact (E o O).bind fun _ O=>(Bp E lo O).bind fun _ O=>(Bp E hi O).bind fun _ _=>.rfl'
 |sub o i=>exact (E o O).bind fun _ O=>(E i O).bind fun _ _=>.rfl'
 |k9 o m=>exact a0.cond .rfl' ((E o O).bind fun _ _=>.rfl')
 |kD o m y=>exact a0.cond .rfl' ((E o O).bind fun _ O=>a0.cond ((E y O).bind fun _ _=>.rfl') .rfl')
 |cal f as=>exact (E f O).bind fun v O=>(xM E as O).bind fun vs O=>K9 hC v vs O
 |kL ks vs=>exact (NA E ks vs O).bind fun _ _=>.rfl'
 |com bC y it bL aQ=>
  refine a0.cond ((E it O).bind fun v O=>?_) .rfl';generalize fk v O=zc;induction zc using aA with
  |none=>exact .rfl'
  |some k6=>exact (TA (fun a O=>H.e true aQ bC _ O) (fun a O=>D9 (fun e O=>H.t true aQ e _ O) .And bL O) k6.1 [] k6.2).bind fun _ _=>.rfl'
 |_=>exact .rfl'
theorem N7 (hC:nV C C') (H:qz I I') (a:Expr):a0 (iM ⟨C,W,fns⟩ I q sc a J O) (iM ⟨C',W,fns⟩ I' q sc a J O):=by
 unfold iM;generalize pS a=zc;induction zc using aA with
 |none=>exact .rfl'
 |some x=>exact QM hC H x
theorem H6 (H:qz I I') (a:Expr):a0 (stepT ⟨C,W,fns⟩ I q sc a J O) (stepT ⟨C',W,fns⟩ I' q sc a J O):=by
 have E:=fun a O=>H.e q sc a J O;have plain:a0 ((I.e q sc a J O).bind fun v O=>boolOf v O) ((I'.e q sc a J O).bind fun v O=>boolOf v O):=(E a O).bind fun _ _=>.rfl';induction a using Expr.casesOn with
 |UnaryOp op y _=>
  induction op using UnaryOp.casesOn with
  |Not=>exact (H.t q sc y J O).bind fun _ _=>.rfl'
  |_=>exact plain
 |BoolOp op vs _=>exact D9 (fun a O=>H.t q sc a J O) op vs O
 |IfExp t b o p=>exact .rfl'
 |Compare l ops cs _=>exact (E l O).bind fun v O=>(DO E ops cs v O).bind fun _ _=>.rfl'
 |_=>exact plain
theorem L2 {hv s5:Loc->B->RS} (H:∀J O,ch (hv J O) (s5 J O)) (loc:Str->Bool) (nm:Option Str) {r r':RS} (h:ch r r'):ch (o0 hv loc nm r) (o0 s5 loc nm r'):=by
 rcases h with rfl|rfl
 ·exact .stuck
 ·induction r' using RS.casesOn with
  |exc f J O=>
   induction nm using aA with
   |none=>
    show ch (vO (hv J O)) (vO (s5 J O));rcases H J O with h|h
    ·rw [h];exact .stuck
    ·rw [h];exact .rfl'
   |some n=>
    refine ch.cond ?_ .rfl';show ch (oF hv n f J O) (oF s5 n f J O);unfold oF;rcases H (putL n (.eV f) J) O with h|h
    ·rw [h];exact .stuck
    ·rw [h];exact .rfl'
  |_=>exact .rfl'
theorem Hc (H:qz I I') (s:Stmt):ch (jD ⟨C,W,fns⟩ I q sc s J O) (jD ⟨C',W,fns⟩ I' q sc s J O):=by
 have E:=fun a J O=>H.e q sc a J O;have X:=fun b J O=>uh (fun s J O=>H.x q sc s J O) b J O;unfold jD xQ;generalize pW s=zc;induction zc using aA with
 |none=>exact .rfl'
 |some s=>
 induction s using Sx.casesOn with
 |pass=>exact .rfl'
 |kG=>exact .rfl'
 |expr e=>exact ch.cond .rfl' ((E e J O).toS fun _ _=>.rfl')
 |ret e=>exact (E e J O).toS fun _ _=>.rfl'
 |ls y v=>exact ch.cond .rfl' (ch.cond ((E v J O).toS fun _ _=>.rfl') .rfl')
 |kB es v=>
  refine ch.cond .rfl' (ch.cond .rfl' ?_);generalize targetsOf es=zc;induction zc using aA with
  |none=>exact .rfl'
  |some xs=>exact ch.cond ((E v J O).toS fun _ _=>.rfl') .rfl'
 |lh o y v=>exact ch.cond .rfl' (ch.cond .rfl' ((E v J O).toS fun _ O=>(E o J O).toS fun _ _=>.rfl'))
 |aug y op v=>exact ch.cond (a0.toS .rfl' fun _ O=>(E v J O).toS fun _ _=>.rfl') .rfl'
 |iff t b o=>exact (H.t q sc t J O).toS fun _ O=>(X b J O).cond (X o J O)
 |kj t b=>exact ch.cond .rfl' (KL (fun J O=>H.t q sc t J O) (fun J O=>X b J O) W J O)
 |jW y it b=>
  refine ch.cond ((E it J O).toS fun v O=>?_) .rfl';show ch (gQ _ y v J O) (gQ _ y v J O);unfold gQ;generalize fk v O=zc;induction zc using aA with
  |none=>exact .rfl'
  |some k6=>exact K5 (fun J O=>X b J O) y k6.1 J k6.2
 |ku e=>exact ch.cond .rfl' ((E e J O).toS fun _ _=>.rfl')
 |j1 b c nm h0 hs=>exact ch.cond (L2 (fun J O=>uh (fun s J O=>H.x true sc s J O) (h0::hs) J O) (bU sc) nm (uh (fun s J O=>H.x false sc s J O) b J O)) .rfl'
theorem B9 (hC:nV C C') (W:Nat) (fns:Str->Bool):∀n,qz (ev ⟨C,W,fns⟩ n) (ev ⟨C',W,fns⟩ n)
 | 0=>⟨fun _ _ _ _ _=>.rfl',fun _ _ _ _ _=>.rfl',fun _ _ _ _ _=>.rfl'⟩
 |n+1=>by
  have ih:=B9 hC W fns n;exact ⟨fun _ _ a _ _=>N7 hC ih a,fun _ _ a _ _=>H6 (C:=C) (C':=C') (W:=W) (fns:=fns) ih a,fun _ _ s _ _=>Hc (C:=C) (C':=C') (W:=W) (fns:=fns) ih s⟩
theorem wV (hC:nV C C') (f:Fn) (args:List V) (O:B):a0 (dj ⟨C,W,fns⟩ f args O) (dj ⟨C',W,fns⟩ f args O):=by
 unfold dj;generalize eF f.params args f.h9=zc;induction zc using aA with
 |none=>exact .rfl'
 |some J=>
  dsimp only;rcases uh (fun s J O=>(B9 hC W fns 40).x false f.scope s J O) f.body J O with h|h
  ·rw [h];exact .stuck
  ·rw [h];exact .rfl'
theorem Ks {run sM:List V->B->R V} (H:∀a O,a0 (run a O) (sM a O)) (args:List V) (O:B):a0 (fN run args O) (fN sM args O):=by
 unfold fN;refine a0.cond ?_ ?_
 ·rcases H args [] with h|h
  ·rw [h];exact .stuck
  ·rw [h];exact .rfl'
 ·generalize lK args=zc;induction zc using aA with
  |none=>exact .rfl'
  |some k=>
   dsimp only;generalize az O k=zc;induction zc using aA with
   |none=>exact .rfl'
   |some o=>
    induction o using aZ.casesOn with
    |list l=>
     refine a0.cond ?_ .rfl';rcases H (args.map jN) [.list l] with h|h
     ·rw [h];exact .stuck
     ·rw [h];exact .rfl'
    |_=>exact .rfl'
theorem RG (hC:nV C C') (args:List V) (O:B):a0 (i5 C args O) (i5 C' args O):=by
 have el:∀script turn i O,a0 (iy C script turn i O) (iy C' script turn i O):=fun script turn i O=>by
  unfold iy;exact a0.bind .rfl' fun _ O=>a0.bind .rfl' fun _ O=>(hC _ _ O).quiet.bind fun _ O=>a0.bind .rfl' fun _ O=>a0.bind .rfl' fun _ O=>a0.bind .rfl' fun _ O=>a0.bind .rfl' fun _ O=>a0.bind .rfl' fun _ O=>(hC _ _ O).quiet
 have lp:∀script turn n i acc O,a0 (j5 C script turn n i acc O) (j5 C' script turn n i acc O):=fun script turn n=>by
  induction n with
  |zero=>intro i acc O;exact .rfl'
  |succ n ih=>intro i acc O;exact (el script turn i O).bind fun v O=>ih _ _ _
 rw [Af,Af];exact a0.aX fun p=>a0.aX fun d=>a0.aX fun t=>a0.cond (lp _ _ _ _ _ _) .rfl'
theorem OA {run sM:List V->B->R V} (H:∀a O,a0 (run a O) (sM a O)) (x:Str) (args:List V) (O:B):a0 (lg run x args O) (lg sM x args O):=by
 unfold lg;exact (H _ _).bind fun _ _=>.rfl'
theorem DU (P:lq) (W:Nat):∀n,nV (dA P W n) (dA P W (n+1))
 | 0=>fun _ _ _=>.stuck
 |n+1=>fun x args O=>by
  have ih:=DU P W n;have step:∀m,dA P W (m+1) x args O=bif seq x "Raised" then kO args O else bif seq x "_law_stack" then i5 (dA P W m) args O else match P.cls x with
   |some i=>(match P.fn i with
    |some f=>lg (dj ⟨dA P W m,W,P.names⟩ f) x args O
    |none=>.stuck)
   |none=>match P.fn x with
    |some f=>bif f.pure then fN (dj ⟨dA P W m,W,P.names⟩ f) args O else dj ⟨dA P W m,W,P.names⟩ f args O
    |none=>.stuck:=fun m=>rfl
  rw [step n,step (n+1)];refine a0.cond .rfl' (a0.cond (RG ih args O) ?_);generalize P.cls x=zc;induction zc using aA with
  |some i=>
   dsimp only;generalize P.fn i=zc;induction zc using aA with
   |none=>exact .rfl'
   |some f=>exact OA (fun a O=>wV ih f a O) x args O
  |none=>
   dsimp only;generalize P.fn x=zc;induction zc using aA with
   |none=>exact .rfl'
   |some f=>exact a0.cond (Ks (fun a O=>wV ih f a O) args O) (wV ih f args O)
theorem Gx (P:lq) (W:Nat) {n:Nat} {x:Str} {args:List V} {O:B} (h:dA P W n x args O≠ .stuck):∀k,dA P W (n+k) x args O=dA P W n x args O
 | 0=>rfl
 |k+1=>by
  have ih:=Gx P W h k;rcases DU P W (n+k) x args O with e|e
  ·rw [ih] at e;exact absurd e h
  ·rw [<- ih];exact e
end
inductive Oc where
 |txt (s:Str)
 |flt (f:aR)
noncomputable def Oc.at (o:Oc) (O:B):R V:=match o with
 |.txt s=>.ok (.str s) O
 |.flt f=>.exc f O
noncomputable def Oc.fits (o:Oc) (K:Nat):Prop:=match o with
 |.txt s=>sz s<=K/\Cl s
 |.flt f=>eM f
noncomputable def Oc.of (r:R V):Oc:=match r with
 |.ok (.str s) _=>.txt s
 |.exc f _=>.flt f
 |_=>.txt Str.empty
noncomputable def AF (O:B) (r:R V):R V:=match r with
 |.ok v _=>.ok v O
 |.exc f _=>.exc f O
 |.stuck=>.stuck
theorem zP {n:Nat} {x:Str} {args:List V} {f:Fn} (h1:∀O,CF (n+1) x args O=fN (dj (GF n) f) args O) (h2:bP 0 args=true) (O:B):CF (n+1) x args O=AF O (CF (n+1) x args []):=by
 have e:∀O,CF (n+1) x args O=iz (dj (GF n) f args []) O:=fun O=>by
  rw [h1];unfold fN;rw [h2];rfl
 rw [e O,e []];unfold iz;generalize dj (GF n) f args []=zc;induction zc using R.casesOn with
 |ok v σ'=>
  dsimp only [givenBack]
  (generalize dw 0 (fz 0 σ' v)=zc;induction zc using aN)<;>rfl
 |_=>rfl
theorem uD {n:Nat} {x:Str} {args:List V} {O:B} (h:CF n x args O≠ .stuck) (k:Nat):CF (n+k) x args O=CF n x args O:=Gx prog WW h k
theorem vE {m:Nat} {x:Str} {args:List V} {f:Fn} {K:Nat} (h1:∀n O,CF (n+1) x args O=fN (dj (GF n) f) args O) (h2:bP 0 args=true) (h:hJ K (CF (m+1) x args []) []):
 (∀n O,CF (n+(m+1)) x args O=(Oc.of (CF (m+1) x args [])).at O)/\(Oc.of (CF (m+1) x args [])).fits K:=by
 have ns:CF (m+1) x args []≠ .stuck:=by rcases h with ⟨s,e,_⟩|⟨f,e,_⟩<;>(rw [e];intro z;cases z)
 refine ⟨fun n O=>?_,?_⟩
 ·rw [show n+(m+1)=(n+m)+1 by exact Nat.le_antisymm (ae [_,_] [] [] (.le (.p (.v 0) (.p (.v 1) (.n 1))) (.p (.p (.v 0) (.v 1)) (.n 1))) rfl) (ae [_,_] [] [] (.le (.p (.p (.v 0) (.v 1)) (.n 1)) (.p (.v 0) (.p (.v 1) (.n 1)))) rfl),zP (h1 (n+m)) h2 O,show n+m+1=(m+1)+n by exact Nat.le_antisymm (ae [_,_] [] [] (.le (.p (.p (.v 0) (.v 1)) (.n 1)) (.p (.p (.v 1) (.n 1)) (.v 0))) rfl) (ae [_,_] [] [] (.le (.p (.p (.v 0) (.n 1)) (.v 1)) (.p (.p (.v 1) (.v 0)) (.n 1))) rfl),uD ns n];rcases h with ⟨s,e,_⟩|⟨f,e,_⟩<;>(rw [e];rfl)
 ·rcases h with ⟨s,e,k⟩|⟨f,e,k⟩<;>(rw [e];exact k)
noncomputable def fW (op t:Str):Oc:=Oc.of (CF 5 "unary" [.str op,.str t] [])
noncomputable def dq (op a b:Str):Oc:=Oc.of (CF 7 "binary" [.str op,.str a,.str b] [])
noncomputable def hO (t:Str):Oc:=Oc.of (CF 4 "as_number" [.str t] [])
theorem Ik {op t:Str} (hop:op= "!" \/ op= "-" \/ op= "~" \/ op= "+") (hx:sz t<=3400) (hc:Cl t):(∀n O,CF (n+5) "unary" [.str op,.str t] O=(fW op t).at O)/\(fW op t).fits (G (sz t)):=
 vE (m:=4) (f:=aP "unary") (fun n O=>by kernel_rfl) rfl (IJ 0 op t hop hx hc [])
theorem JS {t:Str} (hx:sz t<=3400) (hc:Cl t):(∀n O,CF (n+4) "as_number" [.str t] O=(hO t).at O)/\(hO t).fits (G (sz t)):=by
 refine sH (R6 0 t hx hc [] ) fun s h a b _=>?_;exact vE (m:=3) (f:=aP "as_number") (fun n O=>by kernel_rfl) rfl (.inl ⟨s,h,a,b⟩)
noncomputable def cr (t:Str):Option Bool:=match CF 4 "bool_of" [.str t] [] with
 |.ok (.bool b) _=>some b
 |_=>none
noncomputable def uW:Option Bool->V
 |some b=>.bool b
 |none=>.none
theorem FV {t:Str} (hx:sz t<=TL):∀n O,CF (n+4) "bool_of" [.str t] O=.ok (uW (cr t)) O:=fun n O=>by
 refine aw (wa 0 t hx [] ) fun v h hb=>?_;have ns:CF 4 "bool_of" [.str t] []≠ .stuck:=by rw [h];intro z;cases z
 have e:uW (cr t)=v:=by
  unfold cr;rw [show CF 4 "bool_of" [.str t] []=.ok v [] from h];rcases hb with rfl|⟨b,rfl⟩<;>rfl
 rw [show n+4=(n+3)+1 by exact Nat.le_antisymm (ae [_] [] [] (.le (.p (.v 0) (.n 4)) (.p (.p (.v 0) (.n 3)) (.n 1))) rfl) (ae [_] [] [] (.le (.p (.p (.v 0) (.n 3)) (.n 1)) (.p (.v 0) (.n 4))) rfl),zP (f:=aP "bool_of") (fun O=>by kernel_rfl) rfl O,show n+3+1=4+n by exact Nat.le_antisymm (ae [_] [] [] (.le (.p (.p (.v 0) (.n 3)) (.n 1)) (.p (.n 4) (.v 0))) rfl) (ae [_] [] [] (.le (.p (.n 4) (.v 0)) (.p (.p (.v 0) (.n 3)) (.n 1))) rfl),uD ns n,show CF 4 "bool_of" [.str t] []=.ok v [] from h,e];rfl
noncomputable def fc (t:Str):aR:=match CF 5 "need_bool" [.str t] [] with
 |.exc f _=>f
 |_=>⟨Str.empty,[]⟩
theorem mW {t:Str} (hx:sz t<=TL) (hc:Cl t):(∀b,cr t=some b->∀n O,CF (n+5) "need_bool" [.str t] O=.ok (.bool b) O)/\(cr t=none->(∀n O,CF (n+5) "need_bool" [.str t] O=.exc (fc t) O)/\eM (fc t)):=by
 have hv:=FV hx 0 [];have hb:tU (uW (cr t)):=by generalize cr t=zc;induction zc using aA with
  |none=>exact .inl rfl
  |some b=>exact .inr ⟨b,rfl⟩
 have key:=J5 0 t hx hc.asc [] _ hv hb;have up:∀n O,CF 5 "need_bool" [.str t] []≠ .stuck->CF (n+5) "need_bool" [.str t] O=AF O (CF 5 "need_bool" [.str t] []):=fun n O ns=>by
  rw [show n+5=(n+4)+1 by exact Nat.le_antisymm (ae [_] [] [] (.le (.p (.v 0) (.n 5)) (.p (.p (.v 0) (.n 4)) (.n 1))) rfl) (ae [_] [] [] (.le (.p (.p (.v 0) (.n 4)) (.n 1)) (.p (.v 0) (.n 5))) rfl),zP (f:=aP "need_bool") (fun O=>by kernel_rfl) rfl O,show n+4+1=5+n by exact Nat.le_antisymm (ae [_] [] [] (.le (.p (.p (.v 0) (.n 4)) (.n 1)) (.p (.n 5) (.v 0))) rfl) (ae [_] [] [] (.le (.p (.n 5) (.v 0)) (.p (.p (.v 0) (.n 4)) (.n 1))) rfl),uD ns n]
 rcases key with ⟨b,e1,e2⟩|⟨e1,f,e2,hf⟩
 ·refine ⟨fun b' wx n O=>?_,fun h=>?_⟩
  ·rw [wx] at e1;obtain rfl:=V.bool.inj e1;rw [up n O (by rw [e2];intro z;cases z),e2];rfl
  ·rw [h] at e1;cases e1
 ·refine ⟨fun b' wx n O=>?_,fun h=>⟨fun n O=>?_,?_⟩⟩
  ·rw [wx] at e1;cases e1
  ·rw [up n O (by rw [e2];intro z;cases z)];unfold fc;rw [e2];rfl
  ·unfold fc;rw [e2];exact hf
noncomputable def bA (b:Nat) (h:List aZ) (a_:Nat) (pc:Int) (tail:List aZ):B:=
 h++([.list [],.list [],.list [],.list [],.ns [("rows",.loc b),("ranges",.loc (b+1)),("names",.loc (b+2)),("sources",.loc (b+3)),("epoch",.int 0)],.inst "Code" (b+4),
  .ns [("script",.str ""),("back",.none),("is_proc",.bool false),("label",.str "")],.inst "Nest" (b+6),
  .ns [("code",.loc (b+5)),("nest",.loc (b+7)),("pc",.int pc),("stack",.loc a_),("slots",.loc (b+12)),("each",.dct []),("caught",.tup [.int 0,.str "",.none])],.inst "Act" (b+8),
  .list [],.list [.none],.list []]++tail)
noncomputable def Bs (b:Nat) (h:List aZ):Prop:=(b=0/\h=[])\/(b=1/\∃X,h=[.list X])
noncomputable abbrev sl (l:List Str):aZ:=.list (l.map .str)
theorem pF {O:B} {k:Nat} {l:List Str} {t:Str} (hk:az O k=some (sl (l++[t]))) (hl:l.length<=100000):bk "pop" (.loc k) [] O=.ok (.str t) (bu O k (sl l)):=by
 have e:bk "pop" (.loc k) [] O=aX (eB O k) (dN "pop" k [] O):=rfl;have e2:dN "pop" k [] O ((l++[t]).map V.str)=aX ((l++[t]).map V.str).getLast? (l6 k ((l++[t]).map V.str) O):=by kernel_rfl
 rw [e,j3 hk,e2,List.map_append,List.map_cons,List.map_nil,List.getLast?_append,List.getLast?_singleton];show l6 k (l.map V.str++[.str t]) O (.str t)=_;unfold l6;rw [List.dropLast_concat,cR (by simp;exact ae [_] [] [.le (.v 0) (.n 100000)] (.le (.v 0) (.n 1048575)) rfl hl)];rfl
theorem lA {O:B} {k:Nat} {l:List Str} {t:Str} (hk:az O k=some (sl l)) (hl:l.length<=100000):bk "append" (.loc k) [.str t] O=.ok .none (bu O k (sl (l++[t]))):=by
 have e:bk "append" (.loc k) [.str t] O=aX (eB O k) (dN "append" k [.str t] O):=rfl;have e2:dN "append" k [.str t] O (l.map V.str)=oV k (l.map V.str) (.str t) O:=by kernel_rfl
 rw [e,j3 hk,e2];unfold oV sl;rw [List.length_map,cR (by exact ae [_] [] [.le (.v 0) (.n 100000)] (.le (.v 0) (.n 1048576)) rfl hl),List.map_append];rfl
theorem DK {O:B} {k:Nat} {l:List V} (hk:az O k=some (.list l)):listAt O (.loc k)=some l:=tO hk
theorem kK {O:B} {k:Nat} {l:List V} (hk:az O k=some (.list l)) (hl:l.length<=1048576):cM (.builtin "len") [.loc k] O=.ok (.int l.length) O:=by
 have e:cM (.builtin "len") [.loc k] O=aX (eB O k) (zW O):=by kernel_rfl
 rw [e,j3 hk];unfold zW;rw [cR hl];rfl
theorem CX (n i:Nat):qB n (.int (i:Int))=some i:=by
 show (bif decide ((0:Int)<=i) then some (i:Int).toNat else none)=_;rw [decide_eq_true (by exact ae [_] [] [] (.aJ (.k 0) (.c (.v 0))) rfl)];simp
theorem qW {O:B} {k:Nat} {l:List V} {i:Nat} (hk:az O k=some (.list l)) (hl:l.length<=1048576):d9 (.loc k) (.int i) .none O=.ok (.loc O.length) (O++[.list (l.drop i)]):=by
 have e:d9 (.loc k) (.int i) .none O=aX (eB O k) (mV (.int i) .none O):=rfl;rw [e,j3 hk];unfold mV;rw [CX];show sg l O (i,l.length)=_;unfold sg;rw [cR hl,List.take_length];rfl
theorem AP {O:B} {k:Nat} {l:List V} {i:Nat} (hk:az O k=some (.list l)) (hl:l.length<=1048576):d9 (.loc k) .none (.int i) O=.ok (.loc O.length) (O++[.list (l.take i)]):=by
 have e:d9 (.loc k) .none (.int i) O=aX (eB O k) (mV .none (.int i) O):=rfl;rw [e,j3 hk];unfold mV;rw [CX];show sg l O (0,i)=_;unfold sg;rw [cR hl];rfl
section
variable {b:Nat} {h:List aZ} {rest:List Str}
noncomputable def tR (b:Nat) (h:List aZ) (rest:List Str) (o:Oc) (r:R V):Prop:=match o with
 |.txt s=>∃a_ tail,r=.ok .none (bA b h a_ 0 tail)/\((a_=b+13/\∃x,tail=[x])\/(a_=b+15/\∃x y z,tail=[x,y,z]))/\az tail (a_-(b+13))=some (sl (rest++[s]))
 |.flt f=>∃a_ tail,r=.exc f (bA b h a_ 0 tail)/\((a_=b+13/\∃x,tail=[x])\/(a_=b+15/\∃x y z,tail=[x,y,z]))/\az tail (a_-(b+13))=some (sl rest)
theorem Pn (n:Nat) (hb:Bs b h) (hr:rest.length<=90000) {op t:Str} (ho:∀n O,CF (n+5) "unary" [.str op,.str t] O=(fW op t).at O):tR b h rest (fW op t) (CF (n+6) "op_unary" [.none,.loc (b+9),.str op,.none] (bA b h (b+13) 0 [sl (rest++[t])])):=by
 refine fR (P:=tR b h rest (fW op t)) (f:=aP "op_unary") (J:=[("machine",.none),("act",.loc (b+9)),("a",.str op),("b",.none)]) (by kernel_rfl) (by kernel_rfl) ?_;rcases hb with ⟨rfl,rfl⟩|⟨rfl,X,rfl⟩
 all_goals
  refine Run.au (by kernel_rfl) (Run.bK (pF (l:=rest) (by rfl) (by lia)) ?_);generalize hu:fW op t=zc;induction zc using Oc.casesOn with
  |txt s=>exact Run.ok ((ho n _).trans (by rw [hu];rfl)) (Run.ok (lA (l:=rest) (by rfl) (by lia)) (Run.leaf ⟨_,_,rfl,.inl ⟨rfl,_,rfl⟩,rfl⟩))
  |flt f=>exact Run.exc ((ho n _).trans (by rw [hu];rfl)) (Run.leaf ⟨_,_,rfl,.inl ⟨rfl,_,rfl⟩,rfl⟩)
end
set_option genInjectivity true in
inductive Rw where
 |push (t:Str)|unary (op:Str)|binary (op:Str)|truth|number|pop|join (k:Nat)|jt (a:Nat)|jf (a:Nat)|jump (a:Nat)
set_option genInjectivity true in
inductive Ef where
 |push (s:Str)|nil|jump (a:Nat)|flt (f:aR)
noncomputable def Oc.ef:Oc->Ef
 |.txt s=>.push s
 |.flt f=>.flt f
noncomputable def aF:Rw->Nat
 |.push _=>0
 |.jump _=>0
 |.binary _=>2
 |.join k=>k
 |_=>1
noncomputable def aE:Rw->List Str->Ef
 |.push t,_=>.push t
 |.jump a,_=>.jump a
 |.unary op,[t]=>(fW op t).ef
 |.binary op,[a,b]=>(dq op a b).ef
 |.truth,[t]=>match cr t with
  |some b=>.push (tf b)
  |none=>.flt (fc t)
 |.number,[t]=>(hO t).ef
 |.join _,ts=>.push (Str.join Str.empty ts)
 |.jt a,[t]=>match cr t with
  |some true=>.jump a
  |some false=>.nil
  |none=>.flt (fc t)
 |.jf a,[t]=>match cr t with
  |some false=>.jump a
  |some true=>.nil
  |none=>.flt (fc t)
 |_,_=>.nil
noncomputable def iJ (b a_:Nat) (tail:List aZ) (L:List Str):Prop:=((a_=b+13/\∃x,tail=[x])\/(a_=b+15/\∃x y z,tail=[x,y,z]))/\az tail (a_-(b+13))=some (sl L)
noncomputable def cP (b:Nat) (h:List aZ) (rest:List Str) (e:Ef) (r:R V):Prop:=match e with
 |.push s=>∃a_ tail,r=.ok .none (bA b h a_ 0 tail)/\iJ b a_ tail (rest++[s])
 |.nil=>∃a_ tail,r=.ok .none (bA b h a_ 0 tail)/\iJ b a_ tail rest
 |.jump a=>∃a_ tail,r=.ok .none (bA b h a_ a tail)/\iJ b a_ tail rest
 |.flt f=>∃a_ tail,r=.exc f (bA b h a_ 0 tail)/\iJ b a_ tail rest
theorem tR.ef {b:Nat} {h:List aZ} {rest:List Str} {o:Oc} {r:R V} (x:tR b h rest o r):cP b h rest o.ef r:=by induction o using Oc.casesOn<;>exact x
section
variable {b:Nat} {h:List aZ} {rest:List Str}
theorem gM {L:List Str}:iJ b (b+13) [sl L] L:=⟨.inl ⟨rfl,_,rfl⟩,by rw [Nat.sub_self];rfl⟩
theorem tail3 {x y:aZ} {L:List Str}:iJ b (b+15) [x,y,sl L] L:=⟨.inr ⟨rfl,_,_,_,rfl⟩,by rw [show b+15-(b+13)=2 by exact Nat.le_antisymm (ae [_,_] [] [.e (.p (.v 0) (.p (.v 1) (.n 13))) (.p (.v 1) (.n 15))] (.le (.v 0) (.n 2)) rfl (Nat.sub_add_cancel (ae [_] [] [] (.le (.p (.v 0) (.n 13)) (.p (.v 0) (.n 15))) rfl))) (ae [_,_] [] [.f (.p (.v 0) (.p (.v 1) (.n 13))) (.p (.v 1) (.n 15))] (.le (.n 2) (.v 0)) rfl (Nat.sub_add_cancel (ae [_] [] [] (.le (.p (.v 0) (.n 13)) (.p (.v 0) (.n 15))) rfl)))];rfl⟩
theorem Nn (n:Nat) (hb:Bs b h) (hr:rest.length<=90000) (t:Str):cP b h rest (.push t) (CF (n+1) "op_push" [.none,.loc (b+9),.str t,.none] (bA b h (b+13) 0 [sl rest])):=by
 refine fR (P:=cP b h rest (.push t)) (f:=aP "op_push") (J:=[("machine",.none),("act",.loc (b+9)),("a",.str t),("b",.none)]) (by kernel_rfl) (by kernel_rfl) ?_;rcases hb with ⟨rfl,rfl⟩|⟨rfl,X,rfl⟩
 all_goals exact Run.au (by kernel_rfl) (Run.bK (lA (l:=rest) (by rfl) (by lia)) (Run.leaf ⟨_,_,rfl,gM⟩))
theorem M8 (n:Nat) (hb:Bs b h) (hr:rest.length<=90000) (t:Str):cP b h rest .nil (CF (n+1) "op_pop" [.none,.loc (b+9),.none,.none] (bA b h (b+13) 0 [sl (rest++[t])])):=by
 refine fR (P:=cP b h rest .nil) (f:=aP "op_pop") (J:=[("machine",.none),("act",.loc (b+9)),("a",.none),("b",.none)]) (by kernel_rfl) (by kernel_rfl) ?_;rcases hb with ⟨rfl,rfl⟩|⟨rfl,X,rfl⟩
 all_goals exact Run.bK (pF (l:=rest) (by rfl) (by lia)) (Run.leaf ⟨_,_,rfl,gM⟩)
theorem QQ (n:Nat) (hb:Bs b h) (hr:rest.length<=90000) {t:Str} (ho:∀n O,CF (n+4) "as_number" [.str t] O=(hO t).at O):cP b h rest (hO t).ef (CF (n+5) "op_number" [.none,.loc (b+9),.none,.none] (bA b h (b+13) 0 [sl (rest++[t])])):=by
 refine fR (P:=cP b h rest (hO t).ef) (f:=aP "op_number") (J:=[("machine",.none),("act",.loc (b+9)),("a",.none),("b",.none)]) (by kernel_rfl) (by kernel_rfl) ?_;rcases hb with ⟨rfl,rfl⟩|⟨rfl,X,rfl⟩
 all_goals
  refine Run.au (by kernel_rfl) (Run.bK (pF (l:=rest) (by rfl) (by lia)) ?_);generalize hu:hO t=zc;induction zc using Oc.casesOn with
  |txt s=>exact Run.ok ((ho n _).trans (by rw [hu];rfl)) (Run.ok (lA (l:=rest) (by rfl) (by lia)) (Run.leaf ⟨_,_,rfl,gM⟩))
  |flt f=>exact Run.exc ((ho n _).trans (by rw [hu];rfl)) (Run.leaf ⟨_,_,rfl,gM⟩)
theorem Px (n:Nat) (hb:Bs b h) (hr:rest.length<=90000) {t:Str} (hx:sz t<=TL) (hc:Cl t):cP b h rest (aE .truth [t]) (CF (n+6) "op_truth" [.none,.loc (b+9),.none,.none] (bA b h (b+13) 0 [sl (rest++[t])])):=by
 refine fR (P:=cP b h rest (aE .truth [t])) (f:=aP "op_truth") (J:=[("machine",.none),("act",.loc (b+9)),("a",.none),("b",.none)]) (by kernel_rfl) (by kernel_rfl) ?_;refine aK (mW hx hc ) fun h1 h2=>?_;have e:aE .truth [t]=(match cr t with|some b=>.push (tf b)|none=>.flt (fc t)):=rfl;rw [e];rcases hb with ⟨rfl,rfl⟩|⟨rfl,X,rfl⟩
 all_goals
  refine Run.au (by kernel_rfl) (Run.bK (pF (l:=rest) (by rfl) (by lia)) ?_);generalize hu:cr t=zc;induction zc using aA with
  |some v=>
   refine Run.ok (h1 v hu n _) ?_;induction v using aN with
   |true=>exact Run.au rfl (Run.bK (lA (l:=rest) (by rfl) (by lia)) (Run.leaf ⟨_,_,rfl,gM⟩))
   |false=>exact Run.ah rfl (Run.bK (lA (l:=rest) (by rfl) (by lia)) (Run.leaf ⟨_,_,rfl,gM⟩))
  |none=>exact Run.exc ((h2 hu).1 n _) (Run.leaf ⟨_,_,rfl,gM⟩)
theorem xS (n:Nat) (hb:Bs b h) (a:Nat) {L:List Str}:CF (n+1) "go" [.none,.loc (b+9),.int a] (bA b h (b+13) 0 [sl L])=.ok .none (bA b h (b+13) a [sl L]):=by
 refine fR (P:=fun r=>r=.ok .none (bA b h (b+13) a [sl L])) (f:=aP "go") (J:=[("machine",.none),("act",.loc (b+9)),("to",.int a)]) (by kernel_rfl) (by kernel_rfl) ?_;rcases hb with ⟨rfl,rfl⟩|⟨rfl,X,rfl⟩
 all_goals exact Run.P8 (decide_eq_false (by lia)) (Run.leaf rfl)
theorem PS (n:Nat) (hb:Bs b h) (a:Nat):cP b h rest (.jump a) (CF (n+2) "op_jump" [.none,.loc (b+9),.int a,.none] (bA b h (b+13) 0 [sl rest])):=by
 refine fR (P:=cP b h rest (.jump a)) (f:=aP "op_jump") (J:=[("machine",.none),("act",.loc (b+9)),("a",.int a),("b",.none)]) (by kernel_rfl) (by kernel_rfl) ?_;exact Run.ok (xS n hb a) (Run.leaf ⟨_,_,rfl,gM⟩)
theorem OU (n:Nat) (hb:Bs b h) (hr:rest.length<=90000) (a:Nat) {t:Str} (hx:sz t<=TL) (hc:Cl t):cP b h rest (aE (.jt a) [t]) (CF (n+6) "op_jump_true" [.none,.loc (b+9),.int a,.none] (bA b h (b+13) 0 [sl (rest++[t])])):=by
 refine fR (P:=cP b h rest (aE (.jt a) [t])) (f:=aP "op_jump_true") (J:=[("machine",.none),("act",.loc (b+9)),("a",.int a),("b",.none)]) (by kernel_rfl) (by kernel_rfl) ?_;refine aK (mW hx hc ) fun h1 h2=>?_;have e:aE (.jt a) [t]=(match cr t with|some true=>.jump a|some false=>.nil|none=>.flt (fc t)):=rfl;rw [e];have pp:∃σ',bk "pop" (.loc (b+13)) [] (bA b h (b+13) 0 [sl (rest++[t])])=.ok (.str t) σ'/\σ'=bA b h (b+13) 0 [sl rest]:=by
  rcases hb with ⟨rfl,rfl⟩|⟨rfl,X,rfl⟩<;>exact ⟨_,pF (l:=rest) (by rfl) (by lia),rfl⟩
 refine aw pp ?_;clear pp;intro σ' p1 p2;rw [p2] at p1;have gk:=xS (n+4) hb a (L:=rest);rcases hb with ⟨rfl,rfl⟩|⟨rfl,X,rfl⟩
 all_goals
  refine Run.ok p1 ?_;generalize hu:cr t=zc;induction zc using aA with
  |some v=>
   refine Run.ok (h1 v hu n _) ?_;induction v using aN with
   |true=>exact Run.au rfl (Run.ok gk (Run.leaf ⟨_,_,rfl,gM⟩))
   |false=>exact Run.ah rfl (Run.leaf ⟨_,_,rfl,gM⟩)
  |none=>exact Run.exc ((h2 hu).1 n _) (Run.leaf ⟨_,_,rfl,gM⟩)
theorem J3 (n:Nat) (hb:Bs b h) (hr:rest.length<=90000) (a:Nat) {t:Str} (hx:sz t<=TL) (hc:Cl t):cP b h rest (aE (.jf a) [t]) (CF (n+6) "op_jump_false" [.none,.loc (b+9),.int a,.none] (bA b h (b+13) 0 [sl (rest++[t])])):=by
 refine fR (P:=cP b h rest (aE (.jf a) [t])) (f:=aP "op_jump_false") (J:=[("machine",.none),("act",.loc (b+9)),("a",.int a),("b",.none)]) (by kernel_rfl) (by kernel_rfl) ?_;refine aK (mW hx hc ) fun h1 h2=>?_;have e:aE (.jf a) [t]=(match cr t with|some false=>.jump a|some true=>.nil|none=>.flt (fc t)):=rfl;rw [e];have pp:∃σ',bk "pop" (.loc (b+13)) [] (bA b h (b+13) 0 [sl (rest++[t])])=.ok (.str t) σ'/\σ'=bA b h (b+13) 0 [sl rest]:=by
  rcases hb with ⟨rfl,rfl⟩|⟨rfl,X,rfl⟩<;>exact ⟨_,pF (l:=rest) (by rfl) (by lia),rfl⟩
 refine aw pp ?_;clear pp;intro σ' p1 p2;rw [p2] at p1;have gk:=xS (n+4) hb a (L:=rest);rcases hb with ⟨rfl,rfl⟩|⟨rfl,X,rfl⟩
 all_goals
  refine Run.ok p1 ?_;generalize hu:cr t=zc;induction zc using aA with
  |some v=>
   refine Run.ok (h1 v hu n _) ?_;induction v using aN with
   |true=>exact Run.ah rfl (Run.leaf ⟨_,_,rfl,gM⟩)
   |false=>exact Run.au rfl (Run.ok gk (Run.leaf ⟨_,_,rfl,gM⟩))
  |none=>exact Run.exc ((h2 hu).1 n _) (Run.leaf ⟨_,_,rfl,gM⟩)
theorem PH {O:B} {k:Nat} {l:List V} {i:Int} {j:Nat} (hi:i=j) (hk:az O k=some (.list l)) (hl:l.length<=1048576):d9 (.loc k) (.int i) .none O=.ok (.loc O.length) (O++[.list (l.drop j)]):=by subst hi;exact qW hk hl
theorem Ok {O:B} {k:Nat} {l:List V} {i:Int} {j:Nat} (hi:i=j) (hk:az O k=some (.list l)) (hl:l.length<=1048576):d9 (.loc k) .none (.int i) O=.ok (.loc O.length) (O++[.list (l.take j)]):=by subst hi;exact AP hk hl
theorem DL (n:Nat) (hb:Bs b h) {ts:List Str} (hr:(rest++ts).length<=90000):CF (n+1) "taken" [.loc (b+9),.int ts.length] (bA b h (b+13) 0 [sl (rest++ts)])=.ok (.loc (b+14)) (bA b h (b+15) 0 [sl (rest++ts),sl ts,sl rest]):=by
 refine fR (P:=fun r=>r=.ok (.loc (b+14)) (bA b h (b+15) 0 [sl (rest++ts),sl ts,sl rest])) (f:=aP "taken") (J:=[("act",.loc (b+9)),("count",.int ts.length)]) (by kernel_rfl) (by kernel_rfl) ?_;have hl:((rest++ts).map V.str).length<=1048576:=by rw [List.length_map];exact ae [_] [] [.le (.v 0) (.n 90000)] (.le (.v 0) (.n 1048576)) rfl hr
 have hi:(((rest++ts).map V.str).length:Int)-(ts.length:Int)=(rest.length:Nat):=by rw [List.length_map,List.length_append];exact Int.le_antisymm (ae [_,_] [] [] (.aJ (.s (.c (.p (.v 0) (.v 1))) (.c (.v 1))) (.c (.v 0))) rfl) (ae [_,_] [] [] (.aJ (.c (.v 0)) (.s (.c (.p (.v 0) (.v 1))) (.c (.v 1)))) rfl)
 have d1:((rest++ts).map V.str).drop rest.length=ts.map V.str:=by rw [List.map_append,List.drop_append_of_le_length (by simp),List.drop_of_length_le (by simp)];rfl
 have d2:((rest++ts).map V.str).take rest.length=rest.map V.str:=by rw [List.map_append,List.take_append_of_le_length (by simp),List.take_of_length_le (by simp)]
 have cQ:cM (.builtin "len") [.loc (b+13)] (bA b h (b+13) 0 [sl (rest++ts)])=.ok (.int ((rest++ts).map V.str).length) (bA b h (b+13) 0 [sl (rest++ts)]):=by
  rcases hb with ⟨rfl,rfl⟩|⟨rfl,X,rfl⟩<;>exact kK rfl hl
 have Hi:d9 (.loc (b+13)) (.int ((((rest++ts).map V.str).length:Int)-(ts.length:Int))) .none (bA b h (b+13) 0 [sl (rest++ts)])=.ok (.loc (b+14)) (bA b h (b+13) 0 [sl (rest++ts),sl ts]):=by
  rcases hb with ⟨rfl,rfl⟩|⟨rfl,X,rfl⟩
  all_goals
   refine (PH (l:=(rest++ts).map V.str) hi rfl hl).trans ?_;rw [d1];rfl
 have sE:d9 (.loc (b+13)) .none (.int ((((rest++ts).map V.str).length:Int)-(ts.length:Int))) (bA b h (b+13) 0 [sl (rest++ts),sl ts])=.ok (.loc (b+15)) (bA b h (b+13) 0 [sl (rest++ts),sl ts,sl rest]):=by
  rcases hb with ⟨rfl,rfl⟩|⟨rfl,X,rfl⟩
  all_goals
   refine (Ok (l:=(rest++ts).map V.str) hi rfl hl).trans ?_;rw [d2];rfl
 rcases hb with ⟨rfl,rfl⟩|⟨rfl,X,rfl⟩
 all_goals exact Run.ok cQ (Run.ok Hi (Run.ok sE (Run.leaf rfl)))
theorem CP {O:B} {k:Nat} {ts:List Str} (hk:az O k=some (sl ts)) (hs:(ts.map (·.length)).sum<=1048576):bk "join" (.str Str.empty) [.loc k] O=.ok (.str (Str.join Str.empty ts)) O:=by
 have e:bk "join" (.str Str.empty) [.loc k] O=(match listAt O (.loc k) with
  |some l=>(match ft l with
   |some ts=>bif Nat.beq (Str.empty).cps.toList.length 0&&bd ((ts.map (·.length)).sum) then .ok (.str (Str.join Str.empty ts)) O else .stuck
   |none=>.stuck)
  |none=>.stuck):=by kernel_rfl
 rw [e,DK hk];dsimp only;rw [qU];dsimp only;rw [cR hs];rfl
theorem TQ (n:Nat) (hb:Bs b h) {ts:List Str} (hr:(rest++ts).length<=90000) (hs:(ts.map (·.length)).sum<=1048576):cP b h rest (aE (.join ts.length) ts) (CF (n+2) "op_join" [.none,.loc (b+9),.int ts.length,.none] (bA b h (b+13) 0 [sl (rest++ts)])):=by
 refine fR (P:=cP b h rest (aE (.join ts.length) ts)) (f:=aP "op_join") (J:=[("machine",.none),("act",.loc (b+9)),("a",.int ts.length),("b",.none)]) (by kernel_rfl) (by kernel_rfl) ?_;have ht:=DL n hb hr;have hj:bk "join" (.str Str.empty) [.loc (b+14)] (bA b h (b+15) 0 [sl (rest++ts),sl ts,sl rest])=.ok (.str (Str.join Str.empty ts)) (bA b h (b+15) 0 [sl (rest++ts),sl ts,sl rest]):=by
  rcases hb with ⟨rfl,rfl⟩|⟨rfl,X,rfl⟩<;>exact CP rfl hs
 have ha:bk "append" (.loc (b+15)) [.str (Str.join Str.empty ts)] (bA b h (b+15) 0 [sl (rest++ts),sl ts,sl rest])=.ok .none (bA b h (b+15) 0 [sl (rest++ts),sl ts,sl (rest++[Str.join Str.empty ts])]):=by
  rcases hb with ⟨rfl,rfl⟩|⟨rfl,X,rfl⟩<;>exact lA (l:=rest) rfl (by rw [List.length_append] at hr;lia)
 have e:aE (.join ts.length) ts=.push (Str.join Str.empty ts):=by unfold aE;rfl
 rw [e];refine Run.ok ht ?_;rcases hb with ⟨rfl,rfl⟩|⟨rfl,X,rfl⟩
 all_goals exact Run.au (by kernel_rfl) (Run.au (by kernel_rfl) (Run.ok hj (Run.ok ha (Run.leaf ⟨_,_,rfl,tail3⟩))))
theorem Je (n:Nat) (hb:Bs b h) {op x y:Str} (hr:rest.length<=80000) (ho:∀n O,CF (n+7) "binary" [.str op,.str x,.str y] O=(dq op x y).at O):cP b h rest (dq op x y).ef (CF (n+8) "op_binary" [.none,.loc (b+9),.str op,.none] (bA b h (b+13) 0 [sl (rest++[x,y])])):=by
 refine fR (P:=cP b h rest (dq op x y).ef) (f:=aP "op_binary") (J:=[("machine",.none),("act",.loc (b+9)),("a",.str op),("b",.none)]) (by kernel_rfl) (by kernel_rfl) ?_;have ht:CF (n+7) "taken" [.loc (b+9),.int 2] (bA b h (b+13) 0 [sl (rest++[x,y])])=.ok (.loc (b+14)) (bA b h (b+15) 0 [sl (rest++[x,y]),sl [x,y],sl rest]):=DL (n+6) hb (ts:=[x,y]) (by simp;exact ae [_] [] [.le (.v 0) (.n 80000)] (.le (.v 0) (.n 89998)) rfl hr);have ha:∀s,bk "append" (.loc (b+15)) [.str s] (bA b h (b+15) 0 [sl (rest++[x,y]),sl [x,y],sl rest])=.ok .none (bA b h (b+15) 0 [sl (rest++[x,y]),sl [x,y],sl (rest++[s])]):=fun s=>by
  rcases hb with ⟨rfl,rfl⟩|⟨rfl,X,rfl⟩<;>exact lA (l:=rest) rfl (by lia)
 refine Run.ok ht ?_;rcases hb with ⟨rfl,rfl⟩|⟨rfl,X,rfl⟩
 all_goals
  refine Run.au (by kernel_rfl) ?_;generalize hu:dq op x y=zc;induction zc using Oc.casesOn with
  |txt s=>exact Run.ok ((ho n _).trans (by rw [hu];rfl)) (Run.bK (ha s) (Run.leaf ⟨_,_,rfl,tail3⟩))
  |flt f=>exact Run.exc ((ho n _).trans (by rw [hu];rfl)) (Run.leaf ⟨_,_,rfl,tail3⟩)
end
noncomputable def md (k:Nat) (r:R V) (O:B):R V:=match r with
 |.ok v σ'=>og k σ' O fun O=>givenBack 1 v σ' O
 |.exc f σ'=>og k σ' O fun O=>.exc f O
 |.stuck=>.stuck
theorem rG {n:Nat} {x:Str} {args:List V} {f:Fn} {O:B} {J:Loc} {k:Nat} {l:List V} {P:R V->Prop} (h1:CF (n+1) x args O=fN (dj (GF n) f) args O) (h2:bP 0 args=false) (h3:lK args=some k)
 (h4:az O k=some (.list l)) (h5:bP 0 l=true) (h6:args.all (iU k)=true) (hb:eF f.params (args.map jN) f.h9=some J)
 (h:Run (g5 (GF n) 40 false f.scope f.body J [.list l]) (fun r=>P (md k (dS r) O))):P (CF (n+1) x args O):=by
 rw [h1];unfold fN;rw [h2,h3];dsimp only [cond_false];simp only [h4,h5,h6,Bool.true_and,cond_true];rw [xj hb];exact h
theorem oz {α:Type}:∀ {l:List α} {k:Nat} {a:α},az l k=some a->bu l k a=l
 | [],k,a,h=>by induction k using cz<;>exact al h
 |b::r,0,a,h=>by obtain rfl:=Option.some.inj h;rfl
 |b::r,k+1,a,h=>by
  show b::bu r k a=_;rw [oz (l:=r) (k:=k) h]
noncomputable def rv:Rw->V
 |.push t=>.tup [.str "push",.str t,.none]
 |.unary op=>.tup [.str "unary",.str op,.none]
 |.binary op=>.tup [.str "binary",.str op,.none]
 |.truth=>.tup [.str "truth",.none,.none]
 |.number=>.tup [.str "number",.none,.none]
 |.pop=>.tup [.str "pop",.none,.none]
 |.join k=>.tup [.str "join",.int k,.none]
 |.jt a=>.tup [.str "jump_true",.int a,.none]
 |.jf a=>.tup [.str "jump_false",.int a,.none]
 |.jump a=>.tup [.str "jump",.int a,.none]
theorem nz (r:Rw):dw 0 (rv r)=true:=by induction r using Rw.casesOn<;>rfl
noncomputable def lF (f:aR):V:=.tup [.int 1,.str f.val,.tup (f.ec.map .str)]
noncomputable def lw (rest:List Str):Ef->V
 |.push s=>.tup [.lst ((rest++[s]).map .str),.int 0,.none]
 |.nil=>.tup [.lst (rest.map .str),.int 0,.none]
 |.jump a=>.tup [.lst (rest.map .str),.int a,.none]
 |.flt f=>.tup [.lst (rest.map .str),.int 0,lF f]
noncomputable def lb:Rw->List Str->Prop
 |.push _,ts=>ts=[]
 |.jump _,ts=>ts=[]
 |.unary op,ts=>∃t,ts=[t]/\∀n O,CF (n+5) "unary" [.str op,.str t] O=(fW op t).at O
 |.binary op,ts=>∃a b,ts=[a,b]/\∀n O,CF (n+7) "binary" [.str op,.str a,.str b] O=(dq op a b).at O
 |.truth,ts=>∃t,ts=[t]/\sz t<=TL/\Cl t
 |.number,ts=>∃t,ts=[t]/\∀n O,CF (n+4) "as_number" [.str t] O=(hO t).at O
 |.pop,ts=>∃t,ts=[t]
 |.join k,ts=>ts.length=k/\(ts.map (·.length)).sum<=1048576
 |.jt _,ts=>∃t,ts=[t]/\sz t<=TL/\Cl t
 |.jf _,ts=>∃t,ts=[t]/\sz t<=TL/\Cl t
noncomputable def KQ:List (V×V):=[(.str "push",.fn "op_push"),(.str "pop",.fn "op_pop"),(.str "unary",.fn "op_unary"),(.str "binary",.fn "op_binary"),(.str "truth",.fn "op_truth"),(.str "number",.fn "op_number"),(.str "join",.fn "op_join"),(.str "jump",.fn "op_jump"),(.str "jump_true",.fn "op_jump_true"),(.str "jump_false",.fn "op_jump_false")]
theorem Qc (n:Nat) (O:B):CF (n+1) "_law_ops" [] O=.ok (.dct KQ) O:=by kernel_rfl
noncomputable def stC (b:Nat) (h:List aZ):B:=h++[.list [],.list [],.list [],.list [],.ns [("rows",.loc b),("ranges",.loc (b+1)),("names",.loc (b+2)),("sources",.loc (b+3)),("epoch",.int 0)],.inst "Code" (b+4)]
noncomputable def stN (b:Nat) (h:List aZ):B:=stC b h++[.ns [("script",.str ""),("back",.none),("is_proc",.bool false),("label",.str "")],.inst "Nest" (b+6)]
section
variable {b:Nat} {h:List aZ}
theorem SM (n:Nat) (hb:Bs b h):CF (n+1) "Code" [.loc b,.loc (b+1),.loc (b+2),.loc (b+3),.int 0] (h++[.list [],.list [],.list [],.list []])=.ok (.loc (b+5)) (stC b h):=by
 rcases hb with ⟨rfl,rfl⟩|⟨rfl,X,rfl⟩<;>kernel_rfl
theorem Kc (n:Nat) (hb:Bs b h):CF (n+1) "Nest" [.str ""] (stC b h)=.ok (.loc (b+7)) (stN b h):=by
 rcases hb with ⟨rfl,rfl⟩|⟨rfl,X,rfl⟩<;>kernel_rfl
theorem LG (n:Nat) (hb:Bs b h):CF (n+1) "Act" [.loc (b+5),.loc (b+7)] (stN b h)=.ok (.loc (b+9)) (bA b h (b+10) 0 []):=by
 rcases hb with ⟨rfl,rfl⟩|⟨rfl,X,rfl⟩<;>kernel_rfl
theorem RH (hb:Bs b h) {a:V} {L:List Str} (ha:listAt (bA b h (b+10) 0 []) a=some (L.map .str)) (hl:L.length<=100000):cM (.type "list") [a] (bA b h (b+10) 0 [])=.ok (.loc (b+13)) (bA b h (b+10) 0 [sl L]):=by
 have e:cM (.type "list") [a] (bA b h (b+10) 0 [])=aX (listAt (bA b h (b+10) 0 []) a) (Ao (bA b h (b+10) 0 [])):=by kernel_rfl
 rw [e,tA ha];unfold Ao;rw [List.length_map,cR (by exact ae [_] [] [.le (.v 0) (.n 100000)] (.le (.v 0) (.n 1048576)) rfl hl)];rcases hb with ⟨rfl,rfl⟩|⟨rfl,X,rfl⟩<;>rfl
end
section
variable {b:Nat} {h:List aZ} {rest ts:List Str}
@[elab_as_elim] theorem Bs.two {motive:(b:Nat)->(h:List aZ)->Prop} {b:Nat} {h:List aZ} (hb:Bs b h) (q0:motive 0 []) (q1:∀X,motive 1 [.list X]):motive b h:=by
 rcases hb with ⟨rfl,rfl⟩|⟨rfl,X,rfl⟩
 ·exact q0
 ·exact q1 X
theorem Run.vW {t:T} {P:RS->Prop} {r:R V} {v:V} {O:B} (hr:r=.ok v O) (e:T.hd t=r) (h:Run (T.nx t v O) P):Run t P:=Run.ok (e.trans hr) h
inductive wk (b:Nat) (h:List aZ) (rest:List Str) (e:Ef) (J aH:Loc) (O:B):Prop
 |mk (a_:Nat) (pc:Int) (tail:List aZ) (L:List Str):aH=J->O=bA b h a_ pc tail->iJ b a_ tail L->.tup [.lst (L.map .str),.int pc,.none]=lw rest e->wk b h rest e J aH O
theorem cP.two {e:Ef} {r:R V} (x:cP b h rest e r) {t:T} {P:RS->Prop} {J:Loc} {kn:Loc->B->T} (hk:∀aH O,wk b h rest e J aH O->Run (kn aH O) P) (e1:T.hd t=r)
 (e2:∀a_ pc tail,kn J (bA b h a_ pc tail)=T.nx t .none (bA b h a_ pc tail))
 (e3:∀f a_ tail,e=.flt f->iJ b a_ tail rest->Run (T.ne t f (bA b h a_ 0 tail)) P):Run t P:=by
 have ok:∀(a_:Nat) (pc:Int) (tail:List aZ) (L:List Str),r=.ok .none (bA b h a_ pc tail)->iJ b a_ tail L->.tup [.lst (L.map .str),.int pc,.none]=lw rest e->Run t P:=
  fun a_ pc tail L h1 h2 h3=>Run.ok (e1.trans h1) (Run.cast (hk _ _ ⟨a_,pc,tail,L,rfl,rfl,h2,h3⟩) (e2 _ _ _))
 induction e using Ef.casesOn with
 |push s=>refine b_ x ?_;clear x;intro a_ tail h1 h2;exact ok a_ 0 tail _ h1 h2 rfl
 |nil=>refine b_ x ?_;clear x;intro a_ tail h1 h2;exact ok a_ 0 tail _ h1 h2 rfl
 |jump a=>refine b_ x ?_;clear x;intro a_ tail h1 h2;exact ok a_ a tail _ h1 h2 rfl
 |flt f=>refine b_ x ?_;clear x;intro a_ tail h1 h2;exact Run.exc (e1.trans h1) (e3 _ _ _ rfl h2)
inductive wY (b:Nat) (h:List aZ) (rest:List Str) (e:Ef) (r:R V):Prop
 |mk (a_:Nat) (pc:Int) (tail:List aZ) (L:List Str) (w:V):r=.ok (.tup [.loc a_,.int pc,w]) (bA b h a_ pc tail)->iJ b a_ tail L->.tup [.lst (L.map .str),.int pc,w]=lw rest e->wY b h rest e r
theorem eJ {e:Ef} {a_:Nat} {tail:List aZ} {f:aR} (he:e=.flt f) (ht:iJ b a_ tail rest):wY b h rest e (.ok (.tup [.loc a_,.int 0,.tup [.int 1,.str f.val,.tup (f.ec.map .str)]]) (bA b h a_ 0 tail)):=⟨_,_,_,_,_,rfl,ht,by rw [he];rfl⟩
theorem Gf (n:Nat) (hb:Bs b h) (r:Rw) {a:V} (hr:(rest++ts).length<=80000) (ha:listAt (bA b h (b+10) 0 []) a=some ((rest++ts).map .str)) (hf:lb r ts):
 Run (g5 (GF (n+9)) 40 false (aP "_law_done").scope (aP "_law_done").body [("row",rv r),("stack",a)] h) (fun q=>wY b h rest (aE r ts) (dS q)):=by
 have hl:rest.length<=80000:=by rw [List.length_append] at hr;exact ae [_,_] [] [.le (.p (.v 0) (.v 1)) (.n 80000)] (.le (.v 0) (.n 80000)) rfl hr
 refine Run.cY (([("row",rv r),("stack",a),("play",.loc (b+9))]:Loc)) (bA b h (b+10) 0 []) (fun kn hk=>?_) ?_
 ·have h1:=SM (n+8) hb;have h2:=Kc (n+8) hb;have h3:=LG (n+8) hb;have q:=hk;exact Run.vW h1 (hb.two (by kernel_rfl) fun _=>by kernel_rfl) (Run.vW h2 (hb.two (by kernel_rfl) fun _=>by kernel_rfl) (Run.vW h3 (hb.two (by kernel_rfl) fun _=>by kernel_rfl) (Run.cast q (hb.two rfl fun _=>rfl))))
 refine Run.cY (([("row",rv r),("stack",a),("play",.loc (b+9))]:Loc)) (bA b h (b+13) 0 [sl (rest++ts)]) (fun kn hk=>?_) ?_
 ·have h1:=RH hb ha (by exact ae [_] [] [.le (.v 0) (.n 80000)] (.le (.v 0) (.n 100000)) rfl hr);have q:=hk;exact Run.vW h1 (hb.two rfl fun _=>rfl) (Run.cast q (hb.two rfl fun _=>rfl))
 refine Run.stmt (wk b h rest (aE r ts) ([("row",rv r),("stack",a),("play",.loc (b+9))]:Loc)) (fun kn hk=>?_) ?_
 ·have i9:=Qc (n+8) (bA b h (b+13) 0 [sl (rest++ts)]);induction r using Rw.casesOn with
  |push t=>
   obtain rfl:ts=[]:=hf;rw [List.append_nil] at i9 ⊢;exact Run.ok i9 (cP.two (Nn (n+8) hb (by exact ae [_] [] [.le (.v 0) (.n 80000)] (.le (.v 0) (.n 90000)) rfl hl) t (rest:=rest)) hk (hb.two rfl fun _=>rfl) (fun _ _ _=>hb.two rfl fun _=>rfl) (fun _ _ _ he=>hb.two (fun ht=>Run.leaf (eJ he ht)) fun _ ht=>Run.leaf (eJ he ht)))
  |jump x=>
   obtain rfl:ts=[]:=hf;rw [List.append_nil] at i9 ⊢;exact Run.ok i9 (cP.two (PS (n+7) hb x (rest:=rest)) hk (hb.two rfl fun _=>rfl) (fun _ _ _=>hb.two rfl fun _=>rfl) (fun _ _ _ he=>hb.two (fun ht=>Run.leaf (eJ he ht)) fun _ ht=>Run.leaf (eJ he ht)))
  |pop=>
   refine aB hf ?_;clear hf;rintro t rfl;exact Run.ok i9 (cP.two (M8 (n+8) hb (by exact ae [_] [] [.le (.v 0) (.n 80000)] (.le (.v 0) (.n 90000)) rfl hl) t (rest:=rest)) hk (hb.two rfl fun _=>rfl) (fun _ _ _=>hb.two rfl fun _=>rfl) (fun _ _ _ he=>hb.two (fun ht=>Run.leaf (eJ he ht)) fun _ ht=>Run.leaf (eJ he ht)))
  |unary op=>
   refine aw hf ?_;clear hf;rintro t rfl ho;exact Run.ok i9 (cP.two ((Pn (n+3) hb (by exact ae [_] [] [.le (.v 0) (.n 80000)] (.le (.v 0) (.n 90000)) rfl hl) ho (rest:=rest)).ef) hk (hb.two rfl fun _=>rfl) (fun _ _ _=>hb.two rfl fun _=>rfl) (fun _ _ _ he=>hb.two (fun ht=>Run.leaf (eJ he ht)) fun _ ht=>Run.leaf (eJ he ht)))
  |number=>
   refine aw hf ?_;clear hf;rintro t rfl ho;exact Run.ok i9 (cP.two (QQ (n+4) hb (by exact ae [_] [] [.le (.v 0) (.n 80000)] (.le (.v 0) (.n 90000)) rfl hl) ho (rest:=rest)) hk (hb.two rfl fun _=>rfl) (fun _ _ _=>hb.two rfl fun _=>rfl) (fun _ _ _ he=>hb.two (fun ht=>Run.leaf (eJ he ht)) fun _ ht=>Run.leaf (eJ he ht)))
  |truth=>
   refine gR hf ?_;clear hf;rintro t rfl hx hc;exact Run.ok i9 (cP.two (Px (n+3) hb (by exact ae [_] [] [.le (.v 0) (.n 80000)] (.le (.v 0) (.n 90000)) rfl hl) hx hc (rest:=rest)) hk (hb.two rfl fun _=>rfl) (fun _ _ _=>hb.two rfl fun _=>rfl) (fun _ _ _ he=>hb.two (fun ht=>Run.leaf (eJ he ht)) fun _ ht=>Run.leaf (eJ he ht)))
  |jt x=>
   refine gR hf ?_;clear hf;rintro t rfl hx hc;exact Run.ok i9 (cP.two (OU (n+3) hb (by exact ae [_] [] [.le (.v 0) (.n 80000)] (.le (.v 0) (.n 90000)) rfl hl) x hx hc (rest:=rest)) hk (hb.two rfl fun _=>rfl) (fun _ _ _=>hb.two rfl fun _=>rfl) (fun _ _ _ he=>hb.two (fun ht=>Run.leaf (eJ he ht)) fun _ ht=>Run.leaf (eJ he ht)))
  |jf x=>
   refine gR hf ?_;clear hf;rintro t rfl hx hc;exact Run.ok i9 (cP.two (J3 (n+3) hb (by exact ae [_] [] [.le (.v 0) (.n 80000)] (.le (.v 0) (.n 90000)) rfl hl) x hx hc (rest:=rest)) hk (hb.two rfl fun _=>rfl) (fun _ _ _=>hb.two rfl fun _=>rfl) (fun _ _ _ he=>hb.two (fun ht=>Run.leaf (eJ he ht)) fun _ ht=>Run.leaf (eJ he ht)))
  |join k=>
   refine aK hf ?_;clear hf;rintro rfl hs;exact Run.ok i9 (cP.two (TQ (n+7) hb (ts:=ts) (by exact ae [_] [] [.le (.v 0) (.n 80000)] (.le (.v 0) (.n 90000)) rfl hr) hs (rest:=rest)) hk (hb.two rfl fun _=>rfl) (fun _ _ _=>hb.two rfl fun _=>rfl) (fun _ _ _ he=>hb.two (fun ht=>Run.leaf (eJ he ht)) fun _ ht=>Run.leaf (eJ he ht)))
  |binary op=>
   refine b_ hf ?_;clear hf;rintro x y rfl ho;exact Run.ok i9 (cP.two (Je (n+1) hb (by exact ae [_] [] [.le (.v 0) (.n 80000)] (.le (.v 0) (.n 80000)) rfl hl) ho (rest:=rest)) hk (hb.two rfl fun _=>rfl) (fun _ _ _=>hb.two rfl fun _=>rfl) (fun _ _ _ he=>hb.two (fun ht=>Run.leaf (eJ he ht)) fun _ ht=>Run.leaf (eJ he ht)))
 rintro _ _ ⟨a_,pc,tail,L,rfl,rfl,h2,h3⟩
 revert h2
 exact hb.two (fun h2=>Run.leaf ⟨_,_,_,_,_,rfl,h2,h3⟩) (fun _ h2=>Run.leaf ⟨_,_,_,_,_,rfl,h2,h3⟩)
end
theorem Run.mono {t:T} {P Q:RS->Prop} (h:Run t P) (k:∀r,P r->Q r):Run t Q:=k _ h
section
variable {b:Nat} {h:List aZ} {rest ts:List Str}
theorem Eo {e:Ef} {L:List Str} {pc:Int} {w:V} (h:(V.tup [.lst (L.map .str),.int pc,w])=lw rest e):w=.none\/∃f,w=lF f:=by
 have k:∀ {a b x c d y:V},V.tup [a,b,x]=.tup [c,d,y]->x=y:=fun q=>(List.cons.inj (List.cons.inj (List.cons.inj (V.tup.inj q)).2).2).1;induction e using Ef.casesOn<;>first|exact .inl (k h)|exact .inr ⟨_,k h⟩
theorem IA {w:V} (h:w=.none\/∃f,w=lF f):dw 0 w=true:=by
 rcases h with rfl|⟨f,rfl⟩
 ·rfl
 ·show (true&&(true&&(bP 0 (f.ec.map .str)&&true)))=true;rw [ic];rfl
theorem DB (hb:Bs b h) {a_:Nat} {pc:Int} {tail:List aZ} {L:List Str} {w:V} (ht:iJ b a_ tail L) (hw:w=.none\/∃f,w=lF f):fz b (bA b h a_ pc tail) (.tup [.loc a_,.int pc,w])=.tup [.lst (L.map .str),.int pc,w]:=by
 have ew:gj b (bA b h a_ pc tail) w=w:=by rcases hw with rfl|⟨f,rfl⟩<;>rfl
 have el:gj b (bA b h a_ pc tail) (.loc a_)=.lst (L.map .str):=by
  refine aK ht ?_;clear ht;intro h1 h2;rcases hb with ⟨rfl,rfl⟩|⟨rfl,X,rfl⟩<;>rcases h1 with ⟨rfl,x,rfl⟩|⟨rfl,x,y,z,rfl⟩
  all_goals
   obtain rfl:=Option.some.inj h2;rfl
 show V.tup [gj b _ (.loc a_),gj b _ (.int pc),gj b _ w]=_;rw [el,ew];rfl
theorem ya {L:List Str} {pc:Int} {w:V} (hw:w=.none\/∃f,w=lF f):dw 0 (.tup [.lst (L.map .str),.int pc,w])=true:=by
 show (bP 0 (L.map .str)&&(true&&(dw 0 w&&true)))=true;rw [ic,IA hw];rfl
theorem GJ (n:Nat) (r:Rw) (hr:(rest++ts).length<=80000) (hf:lb r ts) (O:B):CF (n+10) "_law_done" [rv r,.lst ((rest++ts).map .str)] O=.ok (lw rest (aE r ts)) O:=by
 have cO:bP 0 [rv r,.lst ((rest++ts).map .str)]=true:=by
  show (dw 0 (rv r)&&(bP 0 ((rest++ts).map .str)&&true))=true;rw [nz,ic];rfl
 refine bH (P:=fun q=>q=.ok (lw rest (aE r ts)) O) (f:=aP "_law_done") (J:=[("row",rv r),("stack",.lst ((rest++ts).map .str))]) (by kernel_rfl) cO (by kernel_rfl) ?_;refine (Gf n (.inl ⟨rfl,rfl⟩) r hr (by rfl) hf).mono fun q hq=>?_;obtain ⟨a_,pc,tail,L,w,h1,h2,h3⟩:=hq;have hw:=Eo h3;show iz (dS q) O=_;rw [h1];show (bif dw 0 (fz 0 (bA 0 [] a_ pc tail) (.tup [.loc a_,.int pc,w])) then R.ok (fz 0 (bA 0 [] a_ pc tail) (.tup [.loc a_,.int pc,w])) O else .stuck)=_;rw [DB (.inl ⟨rfl,rfl⟩) h2 hw,ya hw,h3];rfl
theorem Q_ (n:Nat) (r:Rw) (hr:(rest++ts).length<=80000) (hf:lb r ts) (O:B) (k:Nat) (hk:az O k=some (sl (rest++ts))):CF (n+10) "_law_done" [rv r,.loc k] O=.ok (lw rest (aE r ts)) O:=by
 have cO:bP 0 [rv r,.loc k]=false:=by
  show (dw 0 (rv r)&&(Nat.blt k 0&&true))=false;rw [nz];rfl
 have qJ:lK [rv r,.loc k]=some k:=by induction r using Rw.casesOn<;>rfl
 have ii:[rv r,.loc k].all (iU k)=true:=by
  show (iU k (rv r)&&(Nat.beq k k&&true))=true;rw [Nat.beq_refl];induction r using Rw.casesOn<;>rfl
 have rx:[rv r,V.loc k].map jN=[rv r,.loc 0]:=by induction r using Rw.casesOn<;>rfl
 refine rG (P:=fun q=>q=.ok (lw rest (aE r ts)) O) (f:=aP "_law_done") (J:=[("row",rv r),("stack",.loc 0)]) (l:=(rest++ts).map .str) (by kernel_rfl) cO qJ hk (ic _) ii (by rw [rx];kernel_rfl) ?_;refine (Gf n (.inr ⟨rfl,_,rfl⟩) r hr (by rfl) hf).mono fun q hq=>?_;obtain ⟨a_,pc,tail,L,w,h1,h2,h3⟩:=hq;have hw:=Eo h3;show md k (dS q) O=_;rw [h1];show (bif bP 0 ((rest++ts).map .str) then (bif dw 0 (fz 1 (bA 1 [sl (rest++ts)] a_ pc tail) (.tup [.loc a_,.int pc,w])) then R.ok (fz 1 (bA 1 [sl (rest++ts)] a_ pc tail) (.tup [.loc a_,.int pc,w])) (bu O k (sl (rest++ts))) else .stuck) else .stuck)=_;rw [ic,DB (.inr ⟨rfl,_,rfl⟩) h2 hw,ya hw,h3,oz hk];rfl
end
theorem Run.call {P:RS->Prop} {m:Nat} {x:Str} {args:List V} {O σ':B} {v:V} {k:V->B->T} {ke:aR->B->T} (h:CF m x args O=.ok v σ') (hk:Run (k v σ') P):Run (.el (fP false (GF m) (.fn x) args O) k ke) P:=Run.bK h hk
theorem Run.lG {P:RS->Prop} {m:Nat} {x:Str} {args:List V} {O σ':B} {f:aR} {k:V->B->T} {ke:aR->B->T} (h:CF m x args O=.exc f σ') (hk:Run (ke f σ') P):Run (.el (fP false (GF m) (.fn x) args O) k ke) P:=Run.PT h hk
noncomputable def keep (r:Rw) (st:List Str):List Str:=st.take (st.length-aF r)
noncomputable def a9 (r:Rw) (st:List Str):List Str:=st.drop (st.length-aF r)
theorem yr (r:Rw) (st:List Str):keep r st++a9 r st=st:=List.take_append_drop _ _
structure kM where
 st:List Str
 gone:Nat
 fault:Option aR
noncomputable def kH (r:Rw) (st:List Str) (k:List Str->kM):kM:=match aE r (a9 r st) with
 |.push s=>k (keep r st++[s])
 |.nil=>k (keep r st)
 |.jump a=>⟨keep r st,a,none⟩
 |.flt f=>⟨keep r st,0,some f⟩
noncomputable def runN:List Rw->List Str->kM
 | [],st=>⟨st,0,none⟩
 |r::rs,st=>kH r st (runN rs)
theorem mE {r:Rw} {rs:List Rw} {st:List Str}:runN (r::rs) st=kH r st (runN rs):=rfl
noncomputable def rF:List Rw->List Str->Prop
 | [],_=>True
 |r::rs,st=>st.length<=70000/\lb r (a9 r st)/\(match aE r (a9 r st) with
  |.push s=>rF rs (keep r st++[s])
  |.nil=>rF rs (keep r st)
  |.jump a=>1<=a
  |.flt _=>True)
noncomputable def qT:Option aR->V
 |some f=>lF f
 |none=>.none
noncomputable def dK (x:kM):V:=.tup [.lst (x.st.map .str),.int x.gone,qT x.fault]
theorem TJ (x:kM):dw 0 (dK x)=true:=ya (by generalize x.fault=zc;induction zc using aA with
 |none=>exact .inl rfl
 |some f=>exact .inr ⟨f,rfl⟩)
noncomputable def rE (st:List Str):Loc:=[("rows",.loc 0),("stack",.lst (st.map .str))]
noncomputable def jg (st:List Str) (x g f:V):Loc:=[("rows",.loc 0),("stack",.lst (st.map .str)),("row",x),("gone",g),("fault",f)]
noncomputable def xJ (res:kM) (r:RS):Prop:=(∃J,r=.fin (.ret (dK res)) J [.dead])\/(res.gone=0/\res.fault=none/\(r=.fin .next (rE res.st) [.dead]\/∃x g f,r=.fin .next (jg res.st x g f) [.dead]))
theorem J2 (n:Nat) {bv:Loc->B->RS}
 (Q9:∀(r:Rw) (st:List Str) (J:Loc),(J=rE st\/∃x g f,J=jg st x g f)->st.length<=70000->lb r (a9 r st)->(match aE r (a9 r st) with
  |.push s=>∃x g f,bv (putL "row" (rv r) J) [.dead]=.fin .next (jg (keep r st++[s]) x g f) [.dead]
  |.nil=>∃x g f,bv (putL "row" (rv r) J) [.dead]=.fin .next (jg (keep r st) x g f) [.dead]
  |.jump a=>1<=a->∃aH,bv (putL "row" (rv r) J) [.dead]=.fin (.ret (dK ⟨keep r st,a,none⟩)) aH [.dead]
  |.flt f=>∃aH,bv (putL "row" (rv r) J) [.dead]=.fin (.ret (dK ⟨keep r st,0,some f⟩)) aH [.dead])):
 ∀(rs:List Rw) (st:List Str) (J:Loc),(J=rE st\/∃x g f,J=jg st x g f)->rF rs st->xJ (runN rs st) (dH bv "row" (rs.map rv) J [.dead]):=by
 intro rs;induction rs with
 |nil=>
  intro st J bw _;rcases bw with rfl|⟨x,g,f,rfl⟩
  ·exact .inr ⟨rfl,rfl,.inl rfl⟩
  ·exact .inr ⟨rfl,rfl,.inr ⟨x,g,f,rfl⟩⟩
 |cons r rs ih=>
  intro st J bw hs;refine fw hs ?_;clear hs;intro h1 h2 h3;have hb:=Q9 r st J bw h1 h2;rw [List.map_cons,lR,mE];unfold kH;generalize he:aE r (a9 r st)=zc;induction zc using Ef.casesOn with
  |push s=>
   rw [he] at hb h3;refine xL hb ?_;clear hb;intro x g f e;rw [e];exact ih _ _ (.inr ⟨x,g,f,rfl⟩) h3
  |nil=>
   rw [he] at hb h3;refine xL hb ?_;clear hb;intro x g f e;rw [e];exact ih _ _ (.inr ⟨x,g,f,rfl⟩) h3
  |jump a=>
   rw [he] at hb h3;refine aB (hb h3 ) fun aH e=>?_;rw [e];exact .inl ⟨aH,rfl⟩
  |flt f=>
   rw [he] at hb;refine aB hb ?_;clear hb;intro aH e;rw [e];exact .inl ⟨aH,rfl⟩
theorem Ej (n:Nat) (rs:List Rw) (st:List Str) (hs:rF rs st) (O:B) (k:Nat) (hk:az O k=some (.list (rs.map rv))):CF (n+11) "_law_run" [.loc k,.lst (st.map .str)] O=.ok (dK (runN rs st)) (bu O k .dead):=by
 have OQ:bP 0 (rs.map rv)=true:=by
  clear hk hs;induction rs with
  |nil=>rfl
  |cons r rs ih=>rw [List.map_cons,zi,nz,ih];rfl
 have cO:bP 0 [.loc k,.lst (st.map .str)]=false:=rfl;have ii:[V.loc k,.lst (st.map .str)].all (iU k)=true:=by
  show (Nat.beq k k&&(bP 0 (st.map .str)&&true))=true;rw [Nat.beq_refl,ic];rfl
 refine rG (P:=fun q=>q=.ok (dK (runN rs st)) (bu O k .dead)) (f:=aP "_law_run") (J:=rE st) (l:=rs.map rv) (by kernel_rfl) cO rfl hk OQ ii (by kernel_rfl) ?_;have fin:∀(J:Loc),md k (dS (.fin (.ret (dK (runN rs st))) J [.dead])) O=.ok (dK (runN rs st)) (bu O k .dead):=fun J=>by
  have ef:fz 1 [.dead] (dK (runN rs st))=dK (runN rs st):=by
   show V.tup [gj 1 [.dead] (.lst _),gj 1 [.dead] (.int _),gj 1 [.dead] (qT (runN rs st).fault)]=_;have:gj 1 [.dead] (qT (runN rs st).fault)=qT (runN rs st).fault:=by (generalize (runN rs st).fault=zc;induction zc using aA)<;>rfl
   rw [this];rfl
  show (bif dw 0 (fz 1 [.dead] (dK (runN rs st))) then R.ok (fz 1 [.dead] (dK (runN rs st))) (bu O k .dead) else .stuck)=_;rw [ef,TJ];rfl
 refine Run.gH (xJ (runN rs st)) ?_ ?_
 ·show xJ (runN rs st) (dH _ "row" (rs.map rv) (rE st) [.dead]);refine J2 n (fun r st J bw h1 h2=>?_) rs st _ (.inl rfl) hs;have hd:=GJ (rest:=keep r st) (ts:=a9 r st) n r (by rw [yr];exact ae [_] [] [.le (.v 0) (.n 70000)] (.le (.v 0) (.n 80000)) rfl h1) h2 [.dead];rw [yr] at hd;generalize he:aE r (a9 r st)=zc;induction zc using Ef.casesOn with
  |push s=>
   rw [he] at hd;rcases bw with rfl|⟨x,g,f,rfl⟩
   all_goals exact ⟨rv r,.int 0,.none,ez (P:=fun q=>q=.fin .next (jg (keep r st++[s]) (rv r) (.int 0) .none) [.dead]) (Run.call hd (Run.ah rfl (Run.ah rfl (Run.ah rfl (Run.leaf rfl)))))⟩
  |nil=>
   rw [he] at hd;rcases bw with rfl|⟨x,g,f,rfl⟩
   all_goals exact ⟨rv r,.int 0,.none,ez (P:=fun q=>q=.fin .next (jg (keep r st) (rv r) (.int 0) .none) [.dead]) (Run.call hd (Run.ah rfl (Run.ah rfl (Run.ah rfl (Run.leaf rfl)))))⟩
  |jump a=>
   rw [he] at hd;intro ha;rcases bw with rfl|⟨x,g,f,rfl⟩
   all_goals exact ⟨jg (keep r st) (rv r) (.int a) .none,ez (P:=fun q=>q=.fin (.ret (dK ⟨keep r st,a,none⟩)) (jg (keep r st) (rv r) (.int a) .none) [.dead]) (Run.call hd (Run.au (show ((a:Int) !=0)=true by simp;lia) (Run.au rfl (Run.leaf rfl))))⟩
  |flt f=>
   rw [he] at hd;rcases bw with rfl|⟨x,g,f',rfl⟩
   all_goals exact ⟨jg (keep r st) (rv r) (.int 0) (lF f),ez (P:=fun q=>q=.fin (.ret (dK ⟨keep r st,0,some f⟩)) (jg (keep r st) (rv r) (.int 0) (lF f)) [.dead]) (Run.call hd (Run.ah rfl (Run.au rfl (Run.au rfl (Run.leaf rfl)))))⟩
 ·rintro r (⟨J,rfl⟩|⟨h1,h2,rfl|⟨x,g,f,rfl⟩⟩)
  ·exact Run.pC rfl (Run.leaf (fin _))
  ·have e:dK (runN rs st)=.tup [.lst ((runN rs st).st.map .str),.int 0,.none]:=by unfold dK;rw [h1,h2];rfl
   rw [e] at fin ⊢;exact Run.next rfl (Run.leaf (fin _))
  ·have e:dK (runN rs st)=.tup [.lst ((runN rs st).st.map .str),.int 0,.none]:=by unfold dK;rw [h1,h2];rfl
   rw [e] at fin ⊢;exact Run.next rfl (Run.leaf (fin _))
noncomputable def aV:List Rw->List Str
 | []=>[]
 |.push t::r=>t::aV r
 |_::r=>aV r
theorem zJ (l:List Rw):(aV l).length<=l.length:=by
 induction l with
 |nil=>exact Nat.le_refl _
 |cons x r ih=>
  induction x using Rw.casesOn with
  |push t=>exact Nat.succ_le_succ ih
  |_=>exact Nat.le_succ_of_le ih
noncomputable def jC (op:Str):Bool:=(nS op [.str "**",.str "<<"]).getD false
noncomputable def cD (ts:List Str):Str:=Str.join Str.empty ts
noncomputable def eS:Rw->List Str->Bool
 |.binary op,ts=>bif jC op then (match ts with
  | [a,b]=>decide (30<sz a)||decide (2<sz b)
  |ts=>decide (1000<sz (cD ts))) else decide (1000<sz (cD ts))
 |.unary _,ts=>decide (1000<sz (cD ts))
 |.number,ts=>decide (1000<sz (cD ts))
 |_,_=>false
theorem lW (n:Nat) (r:Rw) (O:B):CF (n+1) "_law_many" [rv r] O=.ok (.int (aF r)) O:=by
 induction r using Rw.casesOn<;>kernel_rfl
theorem lM (rs:List Rw):bP 0 (rs.map rv)=true:=by
 induction rs with
 |nil=>rfl
 |cons r rs ih=>rw [List.map_cons,zi,nz,ih];rfl
theorem Az {Γ:Ctx} {I:bQ} {sc aQ:Scope} {x:Str} {it bC:Expr} {bL:List Expr} {J:Loc} {O σ1 σ2 c_:B} {v:V} {l out:List V} (ii:oy aQ x=true) (zF:I.e false sc it J O=.ok v σ1) (hl:fk v σ1=some (l,σ2))
 (hc:cV (fun a O=>I.e true aQ bC [(x,a)] O) (fun a O=>eR (fun e O=>I.t true aQ e [(x,a)] O) .And bL O) l [] σ2=.ok out c_):eU Γ I false sc J O (.com bC x it bL aQ)=.ok (.loc c_.length) (c_++[.list out]):=by
 unfold eU;dsimp only;rw [ii,zF];show (match fk v σ1 with
  |some (l,O)=>(cV (fun a O=>I.e true aQ bC [(x,a)] O) (fun a O=>eR (fun e O=>I.t true aQ e [(x,a)] O) .And bL O) l [] O).bind fun r O=>newObj O (.list r)
  |none=>.stuck)=_
 rw [hl];dsimp only;rw [hc];rfl
theorem OG {Γ:Ctx} {I:bQ} {sc aQ:Scope} {x:Str} {it bC:Expr} {bL:List Expr} {J:Loc} {O σ1 σ2 c_:B} {v:V} {l out:List V} {p p':Pos} (ii:oy aQ x=true) (zF:I.e false sc it J O=.ok v σ1) (hl:fk v σ1=some (l,σ2))
 (hc:cV (fun a O=>I.e true aQ bC [(x,a)] O) (fun a O=>eR (fun e O=>I.t true aQ e [(x,a)] O) .And bL O) l [] σ2=.ok out c_):iM Γ I false sc (.ListComp bC [⟨.Name x p,it,bL,0⟩] aQ p') J O=.ok (.loc c_.length) (c_++[.list out]):=Az (Γ:=Γ) ii zF hl hc
noncomputable def oj:Rw->Bool
 |.push _=>true
 |_=>false
theorem MD {e:V->B->R V} {t:V->B->R Bool} {O:B} (ht:∀r,t (rv r) O=.ok (oj r) O) (he:∀x,e (rv (.push x)) O=.ok (.str x) O):∀(rs:List Rw) (acc:List V),acc.length+rs.length<=100000->cV e t (rs.map rv) acc O=.ok (acc++(aV rs).map .str) O:=by
 intro rs;induction rs with
 |nil=>intro acc _;rw [show (aV []).map V.str=[] from rfl,List.append_nil];rfl
 |cons r rs ih=>
  intro acc h;rw [List.length_cons] at h;rw [List.map_cons,sV,ht r];induction r using Rw.casesOn with
  |push x=>
   show (quiet (e (rv (.push x)) O)).bind (fun v O=>bif bd acc.length then cV e t (rs.map rv) (acc++[v]) O else .stuck)=_;rw [he x];show (bif bd acc.length then cV e t (rs.map rv) (acc++[.str x]) O else .stuck)=_;rw [cR (by exact ae [_,_] [] [.le (.p (.v 0) (.p (.v 1) (.n 1))) (.n 100000)] (.le (.v 0) (.n 1048576)) rfl h)];show cV e t (rs.map rv) (acc++[.str x]) O=_;rw [ih _ (by simp;exact ae [_,_] [] [.le (.p (.v 0) (.p (.v 1) (.n 1))) (.n 100000)] (.le (.p (.p (.v 0) (.n 1)) (.v 1)) (.n 100000)) rfl h),List.append_assoc];rfl
  |_=>exact ih acc (by lia)
theorem Ra {e:V->B->R V} {t:V->B->R Bool} {O:B} (ht:∀a,t a O=.ok true O) (he:∀x,e (.str x) O=.ok (rv (.push x)) O):∀(l:List Str) (acc:List V),acc.length+l.length<=100000->cV e t (l.map .str) acc O=.ok (acc++l.map fun x=>rv (.push x)) O:=by
 intro l;induction l with
 |nil=>intro acc _;rw [show ([]:List Str).map (fun x=>rv (.push x))=[] from rfl,List.append_nil];rfl
 |cons x l ih=>
  intro acc h;rw [List.length_cons] at h;rw [List.map_cons,sV,ht];show (quiet (e (.str x) O)).bind (fun v O=>bif bd acc.length then cV e t (l.map .str) (acc++[v]) O else .stuck)=_;rw [he x];show (bif bd acc.length then cV e t (l.map .str) (acc++[rv (.push x)]) O else .stuck)=_;rw [cR (by exact ae [_,_] [] [.le (.p (.v 0) (.p (.v 1) (.n 1))) (.n 100000)] (.le (.v 0) (.n 1048576)) rfl h)];show cV e t (l.map .str) (acc++[rv (.push x)]) O=_;rw [ih _ (by simp;exact ae [_,_] [] [.le (.p (.v 0) (.p (.v 1) (.n 1))) (.n 100000)] (.le (.p (.p (.v 0) (.n 1)) (.v 1)) (.n 100000)) rfl h),List.append_assoc];rfl
theorem Sd (n:Nat) (r:Rw) (ts:List Str) (hm:ts.length=aF r) (tX:aF r<=100) (hu:∀op,r=.unary op->jC op=false) (hs:(ts.map (·.length)).sum<=1000000) (cZ:sz (cD ts)<=1000000) (nG:∀t∈ts,sz t<=TL) (O:B) (k:Nat) (hk:az O k=some (sl ts)):
 CF (n+1) "_law_is_long" [rv r,.loc k] O=.ok (.bool (eS r ts)) O:=by
 have qJ:lK [rv r,.loc k]=some k:=by induction r using Rw.casesOn<;>rfl
 have ii:[rv r,.loc k].all (iU k)=true:=by
  show (iU k (rv r)&&(Nat.beq k k&&true))=true;rw [Nat.beq_refl];induction r using Rw.casesOn<;>rfl
 have rx:[rv r,V.loc k].map jN=[rv r,.loc 0]:=by induction r using Rw.casesOn<;>rfl
 have cO:bP 0 [rv r,.loc k]=false:=by
  show (dw 0 (rv r)&&(Nat.blt k 0&&true))=false;rw [nz];rfl
 refine rG (P:=fun q=>q=.ok (.bool (eS r ts)) O) (f:=aP "_law_is_long") (J:=[("row",rv r),("texts",.loc 0)]) (l:=ts.map .str) (by kernel_rfl) cO qJ hk (ic _) ii (by rw [rx];kernel_rfl) ?_;have fin:∀(c:Bool) (tl:List aZ) (J:Loc),md k (dS (.fin (.ret (.bool c)) J (sl ts::tl))) O=.ok (.bool c) O:=fun c tl J=>by
  show (bif bP 0 (ts.map .str) then R.ok (V.bool c) (bu O k (sl ts)) else .stuck)=_;rw [ic,oz hk];rfl
 have hj:∀tl:List aZ,bk "join" (.str Str.empty) [.loc 0] (sl ts::tl)=.ok (.str (cD ts)) (sl ts::tl):=fun tl=>CP rfl (by exact ae [_] [] [.le (.v 0) (.n 1000000)] (.le (.v 0) (.n 1048576)) rfl hs);have hl:∀O,cM (.builtin "len") [.str (cD ts)] O=.ok (.int (sz (cD ts))) O:=fun O=>by
  show (bif bd (cD ts).length then R.ok (V.int ((cD ts).length:Int)) O else .stuck)=_;rw [eY,cR (by exact ae [_] [] [.le (.v 0) (.n 1000000)] (.le (.v 0) (.n 1048576)) rfl cZ)];rfl
 have xP:∀c:Bool,decide (((sz (cD ts):Nat):Int)>1000)=decide (1000<sz (cD ts)):=fun _=>by
  by_cases h:1000<sz (cD ts)
  ·rw [decide_eq_true h,decide_eq_true (by exact ae [_] [] [.lt (.n 1000) (.v 0)] (.aY (.k 1000) (.c (.v 0))) rfl h)]
  ·rw [decide_eq_false h,decide_eq_false (by exact fun zz=>Nat.lt_irrefl 0 (ae [_] [] [.le (.v 0) (.n 1000),.aY (.k 1000) (.c (.v 0))] (.lt (.n 0) (.n 0)) rfl (Nat.le_of_not_lt h) zz))]
 have qQ:∀(t:Str) (O:B),t∈ts->cM (.builtin "len") [.str t] O=.ok (.int (sz t)) O:=fun t O ht=>len_str (nG t ht) O;induction r using Rw.casesOn with
 |binary op=>
  obtain ⟨a,b,rfl⟩:∃a b,ts=[a,b]:=by
   match ts,hm with
   | [a,b],_=>exact ⟨a,b,rfl⟩
  have e:eS (.binary op) [a,b]=bif jC op then decide (30<sz a)||decide (2<sz b) else decide (1000<sz (cD [a,b])):=rfl
  rw [e];refine Run.au (by kernel_rfl) (Run.ok (v:=.bool (jC op)) (O:=[sl [a,b],.list [.str "**",.str "<<"]]) (by kernel_rfl) ?_);generalize hp:jC op=zc;induction zc using aN with
  |true=>
   refine Run.au rfl (Run.au rfl (Run.ok (v:=.str a) (O:=[sl [a,b],.list [.str "**",.str "<<"]]) (by rfl) (Run.ok (qQ a _ (by simp)) (Run.br (fun h=>?_) (fun h=>?_)))))
   ·have h:=of_decide_eq_true h;refine Run.leaf ((fin true _ _).trans ?_);show R.ok (V.bool true) O=R.ok (V.bool (decide (30<sz a)||decide (2<sz b))) O;rw [decide_eq_true (show 30<sz a by lia)];rfl
   ·have h:=of_decide_eq_false h;refine Run.ok (v:=.str b) (O:=[sl [a,b],.list [.str "**",.str "<<"]]) (by rfl) (Run.ok (qQ b _ (by simp)) (Run.leaf ((fin _ _ _).trans ?_)));have:decide (((sz b:Nat):Int)>2)=(decide (30<sz a)||decide (2<sz b)):=by
     rw [decide_eq_false (show ¬ 30<sz a by lia)];by_cases h2:2<sz b
     ·rw [decide_eq_true h2,decide_eq_true (by exact ae [_] [] [.lt (.n 2) (.v 0)] (.aY (.k 2) (.c (.v 0))) rfl h2)];rfl
     ·rw [decide_eq_false h2,decide_eq_false (by exact fun zz=>Nat.lt_irrefl 0 (ae [_] [] [.le (.v 0) (.n 2),.aY (.k 2) (.c (.v 0))] (.lt (.n 0) (.n 0)) rfl (Nat.le_of_not_lt h2) zz))];rfl
    show R.ok (V.bool _) O=R.ok (V.bool (decide (30<sz a)||decide (2<sz b))) O;rw [<- this]
  |false=>
   refine Run.ah rfl (Run.ah rfl (Run.ok (v:=.bool true) (O:=[sl [a,b],.list [.str "**",.str "<<"],.list [.str "unary",.str "binary",.str "number"]]) (by kernel_rfl) (Run.au rfl (Run.au (by kernel_rfl) (Run.ok (hj _) (Run.ok (hl _) (Run.leaf ((fin _ _ _).trans ?_))))))));show R.ok (V.bool _) O=R.ok (V.bool (decide (1000<sz (cD [a,b])))) O;rw [<- xP true]
 |unary op=>
  refine Run.ah (by kernel_rfl) (Run.ah rfl (Run.ok (v:=.bool true) (O:=[sl ts,.list [.str "unary",.str "binary",.str "number"]]) (by kernel_rfl) (Run.au rfl (Run.au (by kernel_rfl) (Run.ok (hj _) (Run.ok (hl _) (Run.leaf ((fin _ _ _).trans ?_))))))));rw [xP true];rfl
 |number=>
  refine Run.ah (by kernel_rfl) (Run.ah rfl (Run.ok (v:=.bool true) (O:=[sl ts,.list [.str "unary",.str "binary",.str "number"]]) (by kernel_rfl) (Run.au rfl (Run.au (by kernel_rfl) (Run.ok (hj _) (Run.ok (hl _) (Run.leaf ((fin _ _ _).trans ?_))))))));rw [xP true];rfl
 |_=>
  refine Run.ah (by kernel_rfl) (Run.ah rfl (Run.ok (v:=.bool false) (O:=[sl ts,.list [.str "unary",.str "binary",.str "number"]]) (by kernel_rfl) (Run.ah rfl (Run.leaf (fin false _ _)))))
structure jF (r:Rw) (ts:List Str):Prop where
 fit:lb r ts
 few:aF r<=100
 un:∀op,r=.unary op->jC op=false
 sum:(ts.map (·.length)).sum<=1000000
 join:sz (cD ts)<=1000000
 each:∀t∈ts,sz t<=TL
 far:∀a,aE r ts=.jump a->1<=a
noncomputable def aU (out:List Rw) (r:Rw):List Rw:=out.drop (out.length-aF r)
noncomputable def b0 (out:List Rw) (r:Rw):List Rw:=out.take (out.length-aF r)
noncomputable def fj:Ef->List Rw
 |.push s=>[.push s]
 |.nil=>[]
 |.jump a=>[.jump a]
 |.flt _=>[]
noncomputable def lJ:Ef->Bool
 |.flt _=>true
 |_=>false
noncomputable def gE (out:List Rw) (floor:Nat) (r:Rw):Bool:=
 !(decide (aF r=0)||decide (out.length<floor+aF r))&&(!decide ((aV (aU out r)).length<aF r)&& !(lJ (aE r (aV (aU out r)))||eS r (aV (aU out r))))
noncomputable def cw (out:List Rw) (floor:Nat) (r:Rw):List Rw:=bif gE out floor r then b0 out r++fj (aE r (aV (aU out r))) else out++[r]
noncomputable def tQ (out:List Rw) (floor:Nat) (r:Rw):Prop:=aF r≠0->floor+aF r<=out.length->(aV (aU out r)).length=aF r->jF r (aV (aU out r))
theorem sW (out:List Rw) (r:Rw):(aV (aU out r)).length<=aF r:=Nat.le_trans (zJ _) (by unfold aU;rw [List.length_drop];omega)
noncomputable def E0 (floor:Nat) (r:Rw):Loc:=[("out",.loc 0),("floor",.int floor),("row",rv r),("many",.int (aF r))]
theorem gp {O:B} {i j:Nat} {l m:List V} (hi:listAt O (.loc i)=some l) (hj:listAt O (.loc j)=some m) (h:l.length+m.length<=1048576):ct .Add (.loc i) (.loc j) O=.ok (.loc O.length) (O++[.list (l++m)]):=by
 have e:ct .Add (.loc i) (.loc j) O=aX (both (listAt O (.loc i)) (listAt O (.loc j))) (FZ .Add O):=rfl;rw [e,hi,hj];show (bif true&&bd (l.length+m.length) then newObj O (.list (l++m)) else .stuck)=_;rw [cR h];rfl
noncomputable def C4 (floor:Nat) (r:Rw):Loc:=[("out",.loc 0),("floor",.int floor),("row",rv r),("many",.int (aF r)),("texts",.loc 2)]
noncomputable def Qq (floor:Nat) (r:Rw) (L:List Str) (g:V):Loc:=[("out",.loc 0),("floor",.int floor),("row",rv r),("many",.int (aF r)),("texts",.loc 2),("stack",.lst (L.map .str)),("gone",g),("fault",.none),("kept",.loc 3)]
noncomputable def KA (b:List Stmt):Expr:=match b.getLast? with
 |some (.Return (some (.BinOp _ _ e _)) _)=>e
 |_=>.Constant .none 0 ⟨0,0,0,0⟩
noncomputable def Nf:Expr:=KA (aP "_law_due").body
theorem Ht (n:Nat) (out:List Rw) (floor:Nat) (r:Rw) (ho:out.length<=1000) (hf:tQ out floor r) (O:B) (k:Nat) (hk:az O k=some (.list (out.map rv))):CF (n+11) "_law_due" [.loc k,.int floor,rv r] O=.ok (.lst ((cw out floor r).map rv)) O:=by
 have qJ:lK [.loc k,.int floor,rv r]=some k:=by induction r using Rw.casesOn<;>rfl
 have ii:[V.loc k,.int floor,rv r].all (iU k)=true:=by
  show (Nat.beq k k&&(true&&(iU k (rv r)&&true)))=true;rw [Nat.beq_refl];induction r using Rw.casesOn<;>rfl
 have rx:[V.loc k,.int floor,rv r].map jN=[.loc 0,.int floor,rv r]:=by induction r using Rw.casesOn<;>rfl
 have cO:bP 0 [.loc k,.int floor,rv r]=false:=rfl;refine rG (P:=fun q=>q=.ok (.lst ((cw out floor r).map rv)) O) (f:=aP "_law_due") (J:=[("out",.loc 0),("floor",.int floor),("row",rv r)]) (l:=out.map rv) (by kernel_rfl) cO qJ hk (lM _) ii (by rw [rx];kernel_rfl) ?_;have hL:(out.map rv).length<=1048576:=by rw [List.length_map];exact ae [_] [] [.le (.v 0) (.n 1000)] (.le (.v 0) (.n 1048576)) rfl ho
 refine Run.cY (E0 floor r) ([.list (out.map rv)]) (fun kn hk=>Run.call (lW (n+9) r _) hk) ?_;have cQ:∀tl,cM (.builtin "len") [.loc 0] (.list (out.map rv)::tl)=.ok (.int (out.map rv).length) (.list (out.map rv)::tl):=fun tl=>kK rfl hL;have fin:∀(l:List Rw) (tl:List aZ) (j:Nat) (J:Loc),1<=j->az (.list (out.map rv)::tl) j=some (.list (l.map rv))->l=cw out floor r->md k (dS (.fin (.ret (.loc j)) J (.list (out.map rv)::tl))) O=.ok (.lst ((cw out floor r).map rv)) O:=fun l tl j J h1 hj hl=>by
  have ef:fz 1 (.list (out.map rv)::tl) (.loc j)=.lst ((cw out floor r).map rv):=by
   show (bif Nat.blt j 1 then V.loc j else match az (.list (out.map rv)::tl) j with
    |some (.list l)=>.lst l
    |_=>.loc j)=_
   rw [hj,show Nat.blt j 1=false by induction j using cz with|zero=>lia|succ j=>rfl,hl];rfl
  show (bif bP 0 (out.map rv) then (bif dw 0 (fz 1 (.list (out.map rv)::tl) (.loc j)) then R.ok (fz 1 (.list (out.map rv)::tl) (.loc j)) (bu O k (.list (out.map rv))) else .stuck) else .stuck)=_;rw [ef,lM,oz hk];show (bif bP 0 ((cw out floor r).map rv) then _ else _)=_;rw [lM];rfl
 have nK:gE out floor r=false->∀(tl:List aZ) (j i:Nat) (J:Loc),j=i+1->1<=i->az (.list (out.map rv)::tl) j=some (.list ((out++[r]).map rv))->md k (dS (.fin (.ret (.loc j)) J (.list (out.map rv)::tl))) O=.ok (.lst ((cw out floor r).map rv)) O:=fun h tl j i J h1 h2 h3=>fin _ tl j J (by exact ae [_,_] [] [.f (.v 0) (.p (.v 1) (.n 1))] (.le (.n 1) (.v 0)) rfl h1) h3 (by unfold cw;rw [h];rfl);refine Run.stmt (fun J O=>J=E0 floor r/\O=[.list (out.map rv)]/\(decide (aF r=0)||decide (out.length<floor+aF r))=false) (fun kn hk=>?_) ?_
 ·refine Run.br (fun h=>?_) (fun h=>?_)
  ·have h:aF r=0:=by have h:((aF r:Int)==0)=true:=h;simp at h;exact h
   refine Run.au rfl (Run.bK (gp (l:=out.map rv) (m:=[rv r]) rfl rfl (by simp;exact ae [_] [] [.le (.v 0) (.n 1000)] (.le (.v 0) (.n 1048575)) rfl ho)) (Run.leaf (nK ?_ _ 2 1 _ rfl (Nat.le_refl _) ?_)))
   ·unfold gE;rw [decide_eq_true h];rfl
   ·rw [List.map_append];rfl
  ·have h:aF r≠0:=by have h:((aF r:Int)==0)=false:=h;simp at h;exact h
   refine Run.ok (cQ []) (Run.br (fun h2=>?_) (fun h2=>?_))
   ·have h2:=of_decide_eq_true h2;rw [List.length_map] at h2;refine Run.au rfl (Run.bK (gp (l:=out.map rv) (m:=[rv r]) rfl rfl (by simp;exact ae [_] [] [.le (.v 0) (.n 1000)] (.le (.v 0) (.n 1048575)) rfl ho)) (Run.leaf (nK ?_ _ 2 1 _ rfl (Nat.le_refl _) ?_)))
    ·unfold gE;rw [decide_eq_true (show out.length<floor+aF r by lia),Bool.or_true];rfl
    ·rw [List.map_append];rfl
   ·have h2:=of_decide_eq_false h2;rw [List.length_map] at h2;refine Run.ah rfl (hk _ _ ⟨rfl,rfl,?_⟩);rw [decide_eq_false h,decide_eq_false (by lia)];rfl
 rintro _ _ ⟨rfl,rfl,c1⟩;have rT:aF r≠0/\floor+aF r<=out.length:=by simp at c1;exact c1
 have li:(((out.map rv).length:Int)-(aF r:Int))=((out.length-aF r:Nat):Int):=by rw [List.length_map];exact Int.le_antisymm (ae [_,_,_] [] [.f (.p (.v 2) (.v 1)) (.v 0)] (.aJ (.s (.c (.v 0)) (.c (.v 1))) (.c (.v 2))) rfl (Nat.sub_add_cancel (ae [_,_,_] [] [.le (.p (.v 2) (.v 0)) (.v 1)] (.le (.v 0) (.v 1)) rfl rT.2))) (ae [_,_,_] [] [.e (.p (.v 0) (.v 2)) (.v 1)] (.aJ (.c (.v 0)) (.s (.c (.v 1)) (.c (.v 2)))) rfl (Nat.sub_add_cancel (ae [_,_,_] [] [.le (.p (.v 2) (.v 0)) (.v 1)] (.le (.v 0) (.v 1)) rfl rT.2)))
 refine Run.cY (C4 floor r) ([.list (out.map rv),.dead,sl (aV (aU out r))]) (fun kn hk=>?_) ?_
 ·have mc:d9 (.loc 0) (.int (((out.map rv).length:Int)-(aF r:Int))) .none [.list (out.map rv)]=.ok (.loc 1) [.list (out.map rv),.list ((aU out r).map rv)]:=by
   rw [li,qW (l:=out.map rv) rfl hL,<- List.map_drop];rfl
  refine Run.bK (v:=.loc 2) (O:=[.list (out.map rv),.dead,sl (aV (aU out r))]) (Az (v:=.loc 1) (σ1:=[.list (out.map rv),.list ((aU out r).map rv)]) (σ2:=[.list (out.map rv),.dead]) (c_:=[.list (out.map rv),.dead]) (l:=(aU out r).map rv) (out:=(aV (aU out r)).map .str) (by kernel_rfl) (OT (Run.bK (cQ []) (Run.bK mc (Run.leaf rfl)))) rfl ?_) hk;refine (MD (fun r=>?_) (fun x=>?_) (aU out r) [] ?_).trans rfl
  ·induction r using Rw.casesOn<;>kernel_rfl
  ·rfl
  ·unfold aU;rw [List.length_drop];show 0+_<=_;exact ae [_,_] [] [.le (.v 1) (.n 1000),.le (.v 0) (.v 1)] (.le (.p (.n 0) (.v 0)) (.n 100000)) rfl ho (Nat.sub_le _ _)
 have IM:cM (.builtin "len") [.loc 2] [.list (out.map rv),.dead,sl (aV (aU out r))]=.ok (.int ((aV (aU out r)).map V.str).length) [.list (out.map rv),.dead,sl (aV (aU out r))]:=kK rfl (by have:=sW out r;rw [List.length_map];exact ae [_,_,_,_] [] [.le (.v 1) (.n 1048576),.jf (.s (.c (.v 1)) (.c (.v 2))) (.c (.v 3)),.le (.v 0) (.v 2)] (.le (.v 0) (.n 1048576)) rfl hL li this);refine Run.stmt (fun J O=>J=C4 floor r/\O=[.list (out.map rv),.dead,sl (aV (aU out r))]/\(aV (aU out r)).length=aF r) (fun kn hk=>?_) ?_
 ·refine Run.ok IM (Run.br (fun h=>?_) (fun h=>?_))
  ·have h:=of_decide_eq_true h;rw [List.length_map] at h;refine Run.bK (gp (l:=out.map rv) (m:=[rv r]) rfl rfl (by simp;exact ae [_] [] [.le (.v 0) (.n 1000)] (.le (.v 0) (.n 1048575)) rfl ho)) (Run.leaf (nK ?_ _ 4 3 _ rfl (by exact ae [] [] [] (.le (.n 1) (.n 3)) rfl) ?_))
   ·unfold gE;rw [c1,decide_eq_true (show (aV (aU out r)).length<aF r by lia)];rfl
   ·rw [List.map_append];rfl
  ·have h:=of_decide_eq_false h;rw [List.length_map] at h;have:=sW out r;exact hk _ _ ⟨rfl,rfl,by lia⟩
 rintro _ _ ⟨rfl,rfl,c2⟩;have sn:=hf rT.1 rT.2 c2;have lH:=Q_ (rest:=[]) (ts:=aV (aU out r)) n r (by simp;have:=sW out r;exact ae [_,_,_,_] [] [.le (.v 1) (.n 1000),.le (.p (.v 2) (.v 3)) (.v 1),.e (.v 0) (.v 3)] (.le (.v 0) (.n 80000)) rfl ho rT.2 c2) sn.fit [.list (out.map rv),.dead,sl (aV (aU out r))] 2 rfl;have x7:=Sd (n+9) r _ c2 sn.few sn.un sn.sum sn.join sn.each [.list (out.map rv),.dead,sl (aV (aU out r))] 2 rfl;have sE:d9 (.loc 0) .none (.int (((out.map rv).length:Int)-(aF r:Int))) [.list (out.map rv),.dead,sl (aV (aU out r))]=.ok (.loc 3) [.list (out.map rv),.dead,sl (aV (aU out r)),.list ((b0 out r).map rv)]:=by
  rw [li,AP (l:=out.map rv) rfl hL,<- List.map_take];rfl
 have eA:gE out floor r= !(lJ (aE r (aV (aU out r)))||eS r (aV (aU out r))):=by
  unfold gE;rw [c1,decide_eq_false (show ¬(aV (aU out r)).length<aF r by exact fun zz=>Nat.lt_irrefl 0 (ae [_,_] [] [.f (.v 0) (.v 1),.lt (.v 0) (.v 1)] (.lt (.n 0) (.n 0)) rfl c2 zz))];rfl
 have eQ:(b0 out r).length<=1000:=by unfold b0;rw [List.length_take];lia
 have Em:∀(L:List Str) (g:V),L.length<=100->iM (GF (n+10)) (ev (GF (n+10)) 37) false (aP "_law_due").scope Nf (Qq floor r L g) [.list (out.map rv),.dead,sl (aV (aU out r)),.list ((b0 out r).map rv)]=.ok (.loc 4) [.list (out.map rv),.dead,sl (aV (aU out r)),.list ((b0 out r).map rv),.list (L.map fun x=>rv (.push x))]:=fun L g hg=>by
  refine OG (v:=.lst (L.map .str)) (σ1:=[.list (out.map rv),.dead,sl (aV (aU out r)),.list ((b0 out r).map rv)]) (σ2:=[.list (out.map rv),.dead,sl (aV (aU out r)),.list ((b0 out r).map rv)]) (c_:=[.list (out.map rv),.dead,sl (aV (aU out r)),.list ((b0 out r).map rv)]) (l:=L.map .str) (out:=L.map fun x=>rv (.push x)) (by kernel_rfl) rfl rfl ?_;refine (Ra (fun a=>?_) (fun x=>?_) L [] ?_).trans rfl
  ·rfl
  ·rfl
  ·show 0+_<=_;exact ae [_] [] [.le (.v 0) (.n 100)] (.le (.p (.n 0) (.v 0)) (.n 100000)) rfl hg
 generalize he:aE r (aV (aU out r))=zc;induction zc using Ef.casesOn with
 |flt f=>
  rw [he] at lH eA;refine Run.call lH (Run.au rfl (Run.au rfl (Run.bK (gp (l:=out.map rv) (m:=[rv r]) rfl rfl (by simp;exact ae [_] [] [.le (.v 0) (.n 1000)] (.le (.v 0) (.n 1048575)) rfl ho)) (Run.leaf (nK eA _ 4 3 _ rfl (by exact ae [] [] [] (.le (.n 1) (.n 3)) rfl) ?_)))));rw [List.map_append];rfl
 |push s=>
  rw [he] at lH eA;refine Run.call lH (Run.ah rfl (Run.call x7 ?_));generalize hl:eS r (aV (aU out r))=zc;induction zc using aN with
  |true=>
   rw [hl] at eA;refine Run.au rfl (Run.au rfl (Run.bK (gp (l:=out.map rv) (m:=[rv r]) rfl rfl (by simp;exact ae [_] [] [.le (.v 0) (.n 1000)] (.le (.v 0) (.n 1048575)) rfl ho)) (Run.leaf (nK eA _ 4 3 _ rfl (by exact ae [] [] [] (.le (.n 1) (.n 3)) rfl) ?_))));rw [List.map_append];rfl
  |false=>
   rw [hl] at eA;refine Run.ah rfl (Run.ah rfl (Run.ok (cQ _) (Run.ok sE (Run.ah rfl ?_))));refine Run.ok (v:=.loc 4) (O:=[.list (out.map rv),.dead,sl (aV (aU out r)),.list ((b0 out r).map rv),.list [rv (.push s)]]) (Em [s] (.int 0) (by simp)) (Run.bK (gp (l:=(b0 out r).map rv) (m:=[rv (.push s)]) rfl rfl (by simp;exact ae [_] [] [.le (.v 0) (.n 1000)] (.le (.v 0) (.n 1048575)) rfl eQ)) (Run.leaf (fin _ _ 5 _ (by exact ae [] [] [] (.le (.n 1) (.n 5)) rfl) ?_ rfl)));unfold cw;rw [eA,he];show _=some (aZ.list ((b0 out r++[Rw.push s]).map rv));rw [List.map_append];rfl
 |nil=>
  rw [he] at lH eA;refine Run.call lH (Run.ah rfl (Run.call x7 ?_));generalize hl:eS r (aV (aU out r))=zc;induction zc using aN with
  |true=>
   rw [hl] at eA;refine Run.au rfl (Run.au rfl (Run.bK (gp (l:=out.map rv) (m:=[rv r]) rfl rfl (by simp;exact ae [_] [] [.le (.v 0) (.n 1000)] (.le (.v 0) (.n 1048575)) rfl ho)) (Run.leaf (nK eA _ 4 3 _ rfl (by exact ae [] [] [] (.le (.n 1) (.n 3)) rfl) ?_))));rw [List.map_append];rfl
  |false=>
   rw [hl] at eA;refine Run.ah rfl (Run.ah rfl (Run.ok (cQ _) (Run.ok sE (Run.ah rfl ?_))));refine Run.ok (v:=.loc 4) (O:=[.list (out.map rv),.dead,sl (aV (aU out r)),.list ((b0 out r).map rv),.list []]) (Em [] (.int 0) (by decide)) (Run.bK (gp (l:=(b0 out r).map rv) (m:=[]) rfl rfl (by simp;exact ae [_] [] [.le (.v 0) (.n 1000)] (.le (.v 0) (.n 1048576)) rfl eQ)) (Run.leaf (fin _ _ 5 _ (by exact ae [] [] [] (.le (.n 1) (.n 5)) rfl) ?_ rfl)));unfold cw;rw [eA,he];show _=some (aZ.list ((b0 out r++[]).map rv));rw [List.map_append];rfl
 |jump a=>
  have ha:=sn.far a he;rw [he] at lH eA;refine Run.call lH (Run.ah rfl (Run.call x7 ?_));generalize hl:eS r (aV (aU out r))=zc;induction zc using aN with
  |true=>
   rw [hl] at eA;refine Run.au rfl (Run.au rfl (Run.bK (gp (l:=out.map rv) (m:=[rv r]) rfl rfl (by simp;exact ae [_] [] [.le (.v 0) (.n 1000)] (.le (.v 0) (.n 1048575)) rfl ho)) (Run.leaf (nK eA _ 4 3 _ rfl (by exact ae [] [] [] (.le (.n 1) (.n 3)) rfl) ?_))));rw [List.map_append];rfl
  |false=>
   rw [hl] at eA;refine Run.ah rfl (Run.ah rfl (Run.ok (cQ _) (Run.ok sE (Run.au (show ((a:Int) !=0)=true by simp;exact fun zz=>Nat.lt_irrefl 0 (ae [_] [] [.le (.n 1) (.v 0),.e (.v 0) (.n 0)] (.lt (.n 0) (.n 0)) rfl ha zz)) ?_))));refine Run.bK (gp (l:=(b0 out r).map rv) (m:=[rv (.jump a)]) rfl rfl (by simp;exact ae [_] [] [.le (.v 0) (.n 1000)] (.le (.v 0) (.n 1048575)) rfl eQ)) (Run.leaf (fin _ _ 5 _ (by exact ae [] [] [] (.le (.n 1) (.n 5)) rfl) ?_ rfl));unfold cw;rw [eA,he];show _=some (aZ.list ((b0 out r++[Rw.jump a]).map rv));rw [List.map_append];rfl
theorem Il (n:Nat) (r:Rw) (O:B):CF (n+1) "wanted" [rv r] O=.ok (.int (aF r)) O:=by
 induction r using Rw.casesOn<;>kernel_rfl
noncomputable def iQ (out:List Rw) (floor:Nat) (r:Rw):V:=bif decide (out.length<floor+aF r)||decide ((aV (aU out r)).length<aF r) then .none else .lst ((aV (aU out r)).map .str)
noncomputable def sd (floor c a:Nat):Loc:=[("rows",.loc 0),("floor",.int floor),("count",.int c),("at",.int a),("texts",.loc 1)]
noncomputable def jS (floor c a:Nat) (x:V):Loc:=[("rows",.loc 0),("floor",.int floor),("count",.int c),("at",.int a),("texts",.loc 1),("row",x)]
noncomputable def jy (out:List Rw) (acc:List Str):B:=[.list (out.map rv),sl acc,.dead]
noncomputable def ut (out tl:List Rw) (floor c a:Nat) (acc:List Str) (r:RS):Prop:=((aV tl).length<tl.length/\∃x l,r=.fin (.ret .none) (jS floor c a x) (jy out l))\/((aV tl).length=tl.length/\(r=.fin .next (sd floor c a) (jy out (acc++aV tl))\/∃x,r=.fin .next (jS floor c a x) (jy out (acc++aV tl))))
theorem H8 {bv:Loc->B->RS} {out:List Rw} {floor c a:Nat}
 (h1:∀t J acc,(J=sd floor c a\/∃x,J=jS floor c a x)->acc.length<=1000->bv (putL "row" (rv (.push t)) J) (jy out acc)=.fin .next (jS floor c a (rv (.push t))) (jy out (acc++[t])))
 (h2:∀r J acc,oj r=false->(J=sd floor c a\/∃x,J=jS floor c a x)->bv (putL "row" (rv r) J) (jy out acc)=.fin (.ret .none) (jS floor c a (rv r)) (jy out acc)):
 ∀(tl:List Rw) (J:Loc) (acc:List Str),(J=sd floor c a\/∃x,J=jS floor c a x)->acc.length+tl.length<=1000->ut out tl floor c a acc (dH bv "row" (tl.map rv) J (jy out acc)):=by
 intro tl;induction tl with
 |nil=>
  intro J acc bw hl;refine .inr ⟨rfl,?_⟩;rw [show acc++aV []=acc from List.append_nil _];rcases bw with rfl|⟨x,rfl⟩
  ·exact .inl rfl
  ·exact .inr ⟨x,rfl⟩
 |cons r tl pl=>
  intro J acc bw hl;rw [List.length_cons] at hl;rw [List.map_cons,lR];generalize hp:oj r=zc;induction zc using aN with
  |true=>
   obtain ⟨t,rfl⟩:∃t,r=.push t:=by induction r using Rw.casesOn<;>first|exact ⟨_,rfl⟩|exact ff hp
   rw [h1 t J acc bw (by exact ae [_,_] [] [.le (.p (.v 0) (.p (.v 1) (.n 1))) (.n 1000)] (.le (.v 0) (.n 1000)) rfl hl)];have ih:=pl (jS floor c a (rv (.push t))) (acc++[t]) (.inr ⟨_,rfl⟩) (by simp;exact ae [_,_] [] [.le (.p (.v 0) (.p (.v 1) (.n 1))) (.n 1000)] (.le (.p (.p (.v 0) (.n 1)) (.v 1)) (.n 1000)) rfl hl);show ut out (.push t::tl) floor c a acc (dH bv "row" (tl.map rv) _ _);rcases ih with ⟨g,x,l,e⟩|⟨g,e⟩
   ·exact .inl ⟨by show (aV tl).length+1<tl.length+1;exact ae [_,_] [] [.lt (.v 0) (.v 1)] (.lt (.p (.v 0) (.n 1)) (.p (.v 1) (.n 1))) rfl g,x,l,e⟩
   ·refine .inr ⟨by show (aV tl).length+1=tl.length+1;exact Nat.le_antisymm (ae [_,_] [] [.e (.v 0) (.v 1)] (.le (.p (.v 0) (.n 1)) (.p (.v 1) (.n 1))) rfl g) (ae [_,_] [] [.f (.v 1) (.v 0)] (.le (.p (.v 0) (.n 1)) (.p (.v 1) (.n 1))) rfl g),?_⟩;rw [show acc++aV (.push t::tl)=acc++[t]++aV tl by rw [List.append_assoc];rfl];exact e
  |false=>
   rw [h2 r J acc hp bw];refine .inl ⟨?_,_,_,rfl⟩;have e:aV (r::tl)=aV tl:=by induction r using Rw.casesOn<;>first|rfl|cases hp
   rw [e];have:=zJ tl;show _<tl.length+1;exact ae [_,_] [] [.le (.v 0) (.v 1)] (.lt (.v 0) (.p (.v 1) (.n 1))) rfl this
theorem OZ (n:Nat) (out:List Rw) (floor:Nat) (r:Rw) (ho:out.length<=1000) (hm:aF r≠0) (O:B) (k:Nat) (hk:az O k=some (.list (out.map rv))):CF (n+1) "pushed" [.loc k,.int floor,.int (aF r)] O=.ok (iQ out floor r) O:=by
 have ii:[V.loc k,.int floor,.int (aF r)].all (iU k)=true:=by
  show (Nat.beq k k&&(true&&(true&&true)))=true;rw [Nat.beq_refl];rfl
 refine rG (P:=fun q=>q=.ok (iQ out floor r) O) (f:=aP "pushed") (J:=[("rows",.loc 0),("floor",.int floor),("count",.int (aF r))]) (l:=out.map rv) (by kernel_rfl) rfl rfl hk (lM _) ii (by kernel_rfl) ?_;have hL:(out.map rv).length<=1048576:=by rw [List.length_map];exact ae [_] [] [.le (.v 0) (.n 1000)] (.le (.v 0) (.n 1048576)) rfl ho
 have cQ:∀tl,cM (.builtin "len") [.loc 0] (.list (out.map rv)::tl)=.ok (.int (out.map rv).length) (.list (out.map rv)::tl):=fun tl=>kK rfl hL;have C0:∀(tl:List aZ) (J:Loc),md k (dS (.fin (.ret .none) J (.list (out.map rv)::tl))) O=.ok .none O:=fun tl J=>by
  show (bif bP 0 (out.map rv) then R.ok V.none (bu O k (.list (out.map rv))) else .stuck)=_;rw [lM,oz hk];rfl
 have E4:∀(l:List Str) (tl:List aZ) (J:Loc),md k (dS (.fin (.ret (.loc 1)) J (.list (out.map rv)::sl l::tl))) O=.ok (.lst (l.map .str)) O:=fun l tl J=>by
  show (bif bP 0 (out.map rv) then (bif bP 0 (l.map .str) then R.ok (V.lst (l.map .str)) (bu O k (.list (out.map rv))) else .stuck) else .stuck)=_;rw [lM,oz hk,ic];rfl
 refine Run.ok (cQ []) (Run.br (fun h=>?_) (fun h=>?_))
 ·have h:=of_decide_eq_true h;rw [List.length_map] at h;refine Run.leaf ((C0 _ _).trans ?_);unfold iQ;rw [decide_eq_true (show out.length<floor+aF r by lia)];rfl
 ·have h:=of_decide_eq_false h;rw [List.length_map] at h;have li:(((out.map rv).length:Int)-(aF r:Int))=((out.length-aF r:Nat):Int):=by rw [List.length_map];lia
  have mc:d9 (.loc 0) (.int (((out.map rv).length:Int)-(aF r:Int))) .none [.list (out.map rv),.list []]=.ok (.loc 2) [.list (out.map rv),.list [],.list ((aU out r).map rv)]:=by
   rw [li,qW (l:=out.map rv) rfl hL,<- List.map_drop];rfl
  refine Run.ok mc ?_;have nG:(aU out r).length=aF r:=by unfold aU;rw [List.length_drop];lia
  have hv:iQ out floor r=bif decide ((aV (aU out r)).length<aF r) then .none else .lst ((aV (aU out r)).map .str):=by
   unfold iQ;rw [decide_eq_false (show ¬out.length<floor+aF r by lia)];rfl
  rw [li];refine Run.gH (ut out (aU out r) floor (aF r) (out.length-aF r) []) ?_ ?_
  ·show ut _ _ _ _ _ _ (dH _ "row" ((aU out r).map rv) (sd floor (aF r) (out.length-aF r)) (jy out []));refine H8 (fun t J acc bw ha=>?_) (fun x J acc hx bw=>?_) (aU out r) _ [] (.inl rfl) (by show 0+_<=_;lia)
   ·rcases bw with rfl|⟨y,rfl⟩
    all_goals exact ez (P:=fun q=>q=.fin .next (jS floor (aF r) (out.length-aF r) (rv (.push t))) (jy out (acc++[t]))) (Run.ah rfl (Run.au (by kernel_rfl) (Run.bK (lA (l:=acc) rfl (by lia)) (Run.leaf rfl))))
   ·rcases bw with rfl|⟨y,rfl⟩
    all_goals
     refine ez (P:=fun q=>q=.fin (.ret .none) (jS floor (aF r) (out.length-aF r) (rv x)) (jy out acc)) ?_;induction x using Rw.casesOn with
     |push t=>cases hx
     |_=>exact Run.au (by kernel_rfl) (Run.leaf rfl)
  ·rintro q (⟨g,x,l,rfl⟩|⟨g,rfl|⟨x,rfl⟩⟩)
   ·refine Run.pC rfl (Run.leaf ((C0 _ _).trans ?_));rw [hv,decide_eq_true (by exact ae [_,_,_] [] [.e (.v 2) (.v 1),.lt (.v 0) (.v 2)] (.lt (.v 0) (.v 1)) rfl nG g)];rfl
   ·refine Run.next rfl (Run.leaf ((E4 _ _ _).trans ?_));rw [hv,decide_eq_false (by exact fun zz=>Nat.lt_irrefl 0 (ae [_,_,_] [] [.f (.v 0) (.v 1),.f (.v 2) (.v 0),.lt (.v 2) (.v 1)] (.lt (.n 0) (.n 0)) rfl nG g zz))];rfl
   ·refine Run.next rfl (Run.leaf ((E4 _ _ _).trans ?_));rw [hv,decide_eq_false (by exact fun zz=>Nat.lt_irrefl 0 (ae [_,_,_] [] [.f (.v 0) (.v 1),.f (.v 2) (.v 0),.lt (.v 2) (.v 1)] (.lt (.n 0) (.n 0)) rfl nG g zz))];rfl
theorem Fe {O:B} {ts:List Str} (hs:(ts.map (·.length)).sum<=1048576):bk "join" (.str Str.empty) [.lst (ts.map .str)] O=.ok (.str (cD ts)) O:=by
 have e:bk "join" (.str Str.empty) [.lst (ts.map .str)] O=(match ft (ts.map .str) with
  |some ts=>bif Nat.beq (Str.empty).cps.toList.length 0&&bd ((ts.map (·.length)).sum) then .ok (.str (Str.join Str.empty ts)) O else .stuck
  |none=>.stuck):=by kernel_rfl
 rw [e,qU];dsimp only;rw [cR hs];rfl
theorem zk (m:Nat):decide ((m:Int)>1000)=decide (1000<m):=by
 by_cases h:1000<m
 ·rw [decide_eq_true h,decide_eq_true (by exact ae [_] [] [.lt (.n 1000) (.v 0)] (.aY (.k 1000) (.c (.v 0))) rfl h)]
 ·rw [decide_eq_false h,decide_eq_false (by exact fun zz=>Nat.lt_irrefl 0 (ae [_] [] [.le (.v 0) (.n 1000),.aY (.k 1000) (.c (.v 0))] (.lt (.n 0) (.n 0)) rfl (Nat.le_of_not_lt h) zz))]
noncomputable def sX:Rw->V
 |.unary op=>.str op
 |.binary op=>.str op
 |_=>.none
noncomputable def Tz:Rw->Bool
 |.unary _=>true
 |.binary _=>true
 |.number=>true
 |_=>false
theorem MM (n:Nat) (r:Rw) (ts:List Str) (hm:ts.length=aF r) (hr:Tz r=true) (sn:jF r ts) (O:B):CF (n+1) "is_large" [sX r,.lst (ts.map .str)] O=.ok (.bool (eS r ts)) O:=by
 have cO:bP 0 [sX r,.lst (ts.map .str)]=true:=by
  show (dw 0 (sX r)&&(bP 0 (ts.map .str)&&true))=true;rw [ic];induction r using Rw.casesOn<;>rfl
 refine bH (P:=fun q=>q=.ok (.bool (eS r ts)) O) (f:=aP "is_large") (J:=[("op",sX r),("texts",.lst (ts.map .str))]) (by kernel_rfl) cO (by kernel_rfl) ?_;have hj:bk "join" (.str Str.empty) [.lst (ts.map .str)] []=.ok (.str (cD ts)) []:=Fe (Nat.le_trans sn.sum (by decide));have hl:cM (.builtin "len") [.str (cD ts)] []=.ok (.int (sz (cD ts))) []:=by
  show (bif bd (cD ts).length then R.ok (V.int ((cD ts).length:Int)) [] else .stuck)=_;have:=sn.join;rw [eY,cR (by exact ae [_] [] [.le (.v 0) (.n 1000000)] (.le (.v 0) (.n 1048576)) rfl this)];rfl
 have qQ:∀(t:Str),t∈ts->cM (.builtin "len") [.str t] []=.ok (.int (sz t)) []:=fun t ht=>len_str (sn.each t ht) [];induction r using Rw.casesOn with
 |unary op=>
  refine Run.ah (sn.un op rfl) (Run.au (by kernel_rfl) (Run.ok hj (Run.ok hl (Run.leaf ?_))));show R.ok (V.bool (decide (((sz (cD ts):Nat):Int)>1000))) O=.ok (.bool (decide (1000<sz (cD ts)))) O;rw [zk]
 |number=>
  refine Run.ah rfl (Run.au (by kernel_rfl) (Run.ok hj (Run.ok hl (Run.leaf ?_))));show R.ok (V.bool (decide (((sz (cD ts):Nat):Int)>1000))) O=.ok (.bool (decide (1000<sz (cD ts)))) O;rw [zk]
 |binary op=>
  obtain ⟨a,b,rfl⟩:∃a b,ts=[a,b]:=by
   match ts,hm with
   | [a,b],_=>exact ⟨a,b,rfl⟩
  have e:eS (.binary op) [a,b]=bif jC op then decide (30<sz a)||decide (2<sz b) else decide (1000<sz (cD [a,b])):=rfl
  rw [e];generalize hp:jC op=zc;induction zc using aN with
  |true=>
   refine Run.au hp (Run.ok (v:=.str a) (O:=[]) (by rfl) (Run.ok (qQ a (by simp)) (Run.br (fun h=>?_) (fun h=>?_))))
   ·have h:=of_decide_eq_true h;refine Run.leaf ?_;show R.ok (V.bool true) O=R.ok (V.bool (decide (30<sz a)||decide (2<sz b))) O;rw [decide_eq_true (show 30<sz a by omega)];rfl
   ·have h:=of_decide_eq_false h;refine Run.ok (v:=.str b) (O:=[]) (by rfl) (Run.ok (qQ b (by simp)) (Run.leaf ?_));show R.ok (V.bool (decide (((sz b:Nat):Int)>2))) O=R.ok (V.bool (decide (30<sz a)||decide (2<sz b))) O;rw [decide_eq_false (show ¬ 30<sz a by omega)];by_cases h2:2<sz b
    ·rw [decide_eq_true h2,decide_eq_true (by exact ae [_] [] [.lt (.n 2) (.v 0)] (.aY (.k 2) (.c (.v 0))) rfl h2)];rfl
    ·rw [decide_eq_false h2,decide_eq_false (by exact fun zz=>Nat.lt_irrefl 0 (ae [_] [] [.le (.v 0) (.n 2),.aY (.k 2) (.c (.v 0))] (.lt (.n 0) (.n 0)) rfl (Nat.le_of_not_lt h2) zz))];rfl
  |false=>
   refine Run.ah hp (Run.au (by kernel_rfl) (Run.ok hj (Run.ok hl (Run.leaf ?_))));show R.ok (V.bool (decide (((sz (cD [a,b]):Nat):Int)>1000))) O=.ok (.bool (decide (1000<sz (cD [a,b])))) O;rw [zk]
 |_=>exact ff hr
noncomputable def GB (e:Ef) (q:R V) (O:B):Prop:=match e with
 |.push s=>q=.ok (.str s) O
 |.flt f=>q=.exc f O
 |_=>False
noncomputable def DM:Rw->Bool
 |.unary _=>true
 |.binary _=>true
 |.number=>true
 |.truth=>true
 |.join _=>true
 |_=>false
theorem RY (n:Nat) (r:Rw) (ts:List Str) (hr:DM r=true) (sn:jF r ts) (O:B):GB (aE r ts) (CF (n+8) "value_of" [rv r,.lst (ts.map .str)] O) O:=by
 have cO:bP 0 [rv r,.lst (ts.map .str)]=true:=by
  show (dw 0 (rv r)&&(bP 0 (ts.map .str)&&true))=true;rw [ic,nz];rfl
 refine bH (P:=fun q=>GB (aE r ts) q O) (f:=aP "value_of") (J:=[("row",rv r),("texts",.lst (ts.map .str))]) (by kernel_rfl) cO (by kernel_rfl) ?_;have hf:=sn.fit;induction r using Rw.casesOn with
 |unary op=>
  refine aw hf ?_;clear hf;rintro t rfl ho;refine Run.au (by kernel_rfl) (Run.ok (v:=.str t) (O:=[]) (by rfl) ?_);have e:aE (.unary op) [t]=(fW op t).ef:=rfl;rw [e];generalize hu:fW op t=zc;induction zc using Oc.casesOn with
  |txt s=>have h:=(ho (n+2) []);rw [hu] at h;exact Run.call (v:=.str s) (σ':=[]) h (Run.leaf rfl)
  |flt f=>have h:=(ho (n+2) []);rw [hu] at h;exact Run.lG (f:=f) (σ':=[]) h (Run.leaf rfl)
 |binary op=>
  refine b_ hf ?_;clear hf;rintro x y rfl ho;refine Run.ah (by kernel_rfl) (Run.au (by kernel_rfl) (Run.ok (v:=.str x) (O:=[]) (by rfl) (Run.ok (v:=.str y) (O:=[]) (by rfl) ?_)));have e:aE (.binary op) [x,y]=(dq op x y).ef:=rfl;rw [e];generalize hu:dq op x y=zc;induction zc using Oc.casesOn with
  |txt s=>have h:=(ho n []);rw [hu] at h;exact Run.call (v:=.str s) (σ':=[]) h (Run.leaf rfl)
  |flt f=>have h:=(ho n []);rw [hu] at h;exact Run.lG (f:=f) (σ':=[]) h (Run.leaf rfl)
 |truth=>
  refine gR hf ?_;clear hf;rintro t rfl hx hc;refine aK (mW hx hc ) fun h1 h2=>?_;refine Run.ah (by kernel_rfl) (Run.ah (by kernel_rfl) (Run.au (by kernel_rfl) (Run.ok (v:=.str t) (O:=[]) (by rfl) ?_)));have e:aE .truth [t]=(match cr t with|some b=>.push (tf b)|none=>.flt (fc t)):=rfl;rw [e];generalize hu:cr t=zc;induction zc using aA with
  |some v=>
   refine Run.call (h1 v hu (n+2) _) ?_;induction v using aN with
   |true=>exact Run.au rfl (Run.leaf rfl)
   |false=>exact Run.ah rfl (Run.leaf rfl)
  |none=>exact Run.lG ((h2 hu).1 (n+2) _) (Run.leaf rfl)
 |number=>
  refine aw hf ?_;clear hf;rintro t rfl ho;refine Run.ah (by kernel_rfl) (Run.ah (by kernel_rfl) (Run.ah (by kernel_rfl) (Run.au (by kernel_rfl) (Run.ok (v:=.str t) (O:=[]) (by rfl) ?_))));have e:aE .number [t]=(hO t).ef:=rfl;rw [e];generalize hu:hO t=zc;induction zc using Oc.casesOn with
  |txt s=>have h:=(ho (n+3) []);rw [hu] at h;exact Run.call (v:=.str s) (σ':=[]) h (Run.leaf rfl)
  |flt f=>have h:=(ho (n+3) []);rw [hu] at h;exact Run.lG (f:=f) (σ':=[]) h (Run.leaf rfl)
 |join k=>
  refine aK hf ?_;clear hf;rintro rfl hs;have e:aE (.join ts.length) ts=.push (cD ts):=by unfold aE;rfl
  rw [e];exact Run.ah (by kernel_rfl) (Run.ah (by kernel_rfl) (Run.ah (by kernel_rfl) (Run.ah (by kernel_rfl) (Run.au (by kernel_rfl) (Run.ok (Fe (ts:=ts) hs) (Run.leaf rfl))))))
 |_=>exact ff hr
noncomputable def hY (r:Rw) (ts:List Str):V:=bif lJ (aE r ts)||eS r ts then .none else .lst ((fj (aE r ts)).map rv)
theorem db {l:List Rw} {tl:List aZ} {J:Loc} {O:B} {j:Nat} (h:az tl j=some (.list (l.map rv))):iz (dS (.fin (.ret (.loc j)) J tl)) O=.ok (.lst (l.map rv)) O:=by
 have ef:fz 0 tl (.loc j)=.lst (l.map rv):=by
  show (bif Nat.blt j 0 then V.loc j else match az tl j with
   |some (.list l)=>.lst l
   |_=>.loc j)=_
  rw [h];rfl
 show (bif dw 0 (fz 0 tl (.loc j)) then R.ok (fz 0 tl (.loc j)) O else .stuck)=_;rw [ef];show (bif bP 0 (l.map rv) then R.ok (V.lst (l.map rv)) O else .stuck)=_;rw [lM];rfl
theorem Q6 (n:Nat) (r:Rw) (ts:List Str) (hm:ts.length=aF r) (h0:aF r≠0) (sn:jF r ts) (O:B):CF (n+9) "reckoned" [rv r,.lst (ts.map .str)] O=.ok (hY r ts) O:=by
 have cO:bP 0 [rv r,.lst (ts.map .str)]=true:=by
  show (dw 0 (rv r)&&(bP 0 (ts.map .str)&&true))=true;rw [ic,nz];rfl
 refine bH (P:=fun q=>q=.ok (hY r ts) O) (f:=aP "reckoned") (J:=[("row",rv r),("texts",.lst (ts.map .str))]) (by kernel_rfl) cO (by kernel_rfl) ?_;have jf:∀(r:Rw),(∃t,ts=[t]/\sz t<=TL/\Cl t)->∃t,ts=[t]/\∀O,CF (n+8) "bool_of" [.str t] O=.ok (uW (cr t)) O:=fun r ⟨t,e,hx,_⟩=>⟨t,e,fun O=>FV hx (n+4) O⟩
 have fin:∀ {e:Ef} {tl:List aZ} {J:Loc} {j:Nat},aE r ts=e->lJ e=false->eS r ts=false->az tl j=some (.list ((fj e).map rv))->iz (dS (.fin (.ret (.loc j)) J tl)) O=.ok (hY r ts) O:=fun he h1 h2 h3=>by
  rw [db h3];unfold hY;rw [he,h1,h2];rfl
 have jO:(lJ (aE r ts)||eS r ts)=true->R.ok V.none O=.ok (hY r ts) O:=fun h=>by
  unfold hY;rw [h];rfl
 have hv:=RY n r ts;have hg:=MM (n+7) r ts hm;have tail:∀ {k:V->B->T} {ke:aR->B->T},DM r=true->eS r ts=false->(∀s,aE r ts=.push s->Run (k (.str s) []) fun q=>iz (dS q) O=.ok (hY r ts) O)->(∀f,aE r ts=.flt f->Run (ke f []) fun q=>iz (dS q) O=.ok (hY r ts) O)->Run (.el (fP false (GF (n+8)) (.fn "value_of") [rv r,.lst (ts.map .str)] []) k ke) fun q=>iz (dS q) O=.ok (hY r ts) O:=fun h1 h2 h3 h4=>by
  have hv:=hv h1 sn [];generalize he:aE r ts=zc;induction zc using Ef.casesOn with
  |push s=>rw [he] at hv;exact Run.call hv (h3 s he)
  |flt f=>rw [he] at hv;exact Run.lG hv (h4 f he)
  |_=>rw [he] at hv;cases hv
 induction r using Rw.casesOn with
 |push t=>exact absurd rfl h0
 |jump a=>exact absurd rfl h0
 |pop=>exact Run.au (by kernel_rfl) (Run.leaf (fin (e:=.nil) (by unfold aE;rfl) rfl rfl rfl))
 |jt a=>
  refine aw (jf (.jt a) sn.fit ) ?_;rintro t rfl hb;refine Run.ah (by kernel_rfl) (Run.au (by kernel_rfl) (Run.ok (v:=.str t) (O:=[]) (by rfl) (Run.call (hb []) ?_)));have e:aE (.jt a) [t]=(match cr t with|some true=>.jump a|some false=>.nil|none=>.flt (fc t)):=rfl;generalize hu:cr t=zc;induction zc using aA with
  |none=>rw [hu] at e;exact Run.au rfl (Run.leaf (jO (by rw [e];rfl)))
  |some b=>
   rw [hu] at e;induction b using aN with
   |true=>exact Run.ah rfl (Run.au (by kernel_rfl) (Run.leaf (fin e rfl rfl rfl)))
   |false=>exact Run.ah rfl (Run.ah (by kernel_rfl) (Run.leaf (fin e rfl rfl rfl)))
 |jf a=>
  refine aw (jf (.jf a) sn.fit ) ?_;rintro t rfl hb;refine Run.ah (by kernel_rfl) (Run.au (by kernel_rfl) (Run.ok (v:=.str t) (O:=[]) (by rfl) (Run.call (hb []) ?_)));have e:aE (.jf a) [t]=(match cr t with|some false=>.jump a|some true=>.nil|none=>.flt (fc t)):=rfl;generalize hu:cr t=zc;induction zc using aA with
  |none=>rw [hu] at e;exact Run.au rfl (Run.leaf (jO (by rw [e];rfl)))
  |some b=>
   rw [hu] at e;induction b using aN with
   |true=>exact Run.ah rfl (Run.ah (by kernel_rfl) (Run.leaf (fin e rfl rfl rfl)))
   |false=>exact Run.ah rfl (Run.au (by kernel_rfl) (Run.leaf (fin e rfl rfl rfl)))
 |truth=>
  exact Run.ah (by kernel_rfl) (Run.ah (by kernel_rfl) (Run.ah (by kernel_rfl) (Run.ah rfl (tail rfl rfl (fun s hs=>Run.leaf (fin hs rfl rfl rfl)) (fun f hf=>Run.leaf (jO (by rw [hf];rfl)))))))
 |join k=>
  exact Run.ah (by kernel_rfl) (Run.ah (by kernel_rfl) (Run.ah (by kernel_rfl) (Run.ah rfl (tail rfl rfl (fun s hs=>Run.leaf (fin hs rfl rfl rfl)) (fun f hf=>Run.leaf (jO (by rw [hf];rfl)))))))
 |number=>
  refine Run.ah (by kernel_rfl) (Run.ah (by kernel_rfl) (Run.au (by kernel_rfl) (Run.call (hg rfl sn []) ?_)));generalize hl:eS .number ts=zc;induction zc using aN with
  |true=>exact Run.au rfl (Run.au rfl (Run.leaf (jO (by rw [hl,Bool.or_true]))))
  |false=>exact Run.ah rfl (Run.ah rfl (tail rfl hl (fun s hs=>Run.leaf (fin hs rfl hl rfl)) (fun f hf=>Run.leaf (jO (by rw [hf];rfl)))))
 |unary op=>
  refine Run.ah (by kernel_rfl) (Run.ah (by kernel_rfl) (Run.au (by kernel_rfl) (Run.call (hg rfl sn []) ?_)));generalize hl:eS (.unary op) ts=zc;induction zc using aN with
  |true=>exact Run.au rfl (Run.au rfl (Run.leaf (jO (by rw [hl,Bool.or_true]))))
  |false=>exact Run.ah rfl (Run.ah rfl (tail rfl hl (fun s hs=>Run.leaf (fin hs rfl hl rfl)) (fun f hf=>Run.leaf (jO (by rw [hf];rfl)))))
 |binary op=>
  refine Run.ah (by kernel_rfl) (Run.ah (by kernel_rfl) (Run.au (by kernel_rfl) (Run.call (hg rfl sn []) ?_)));generalize hl:eS (.binary op) ts=zc;induction zc using aN with
  |true=>exact Run.au rfl (Run.au rfl (Run.leaf (jO (by rw [hl,Bool.or_true]))))
  |false=>exact Run.ah rfl (Run.ah rfl (tail rfl hl (fun s hs=>Run.leaf (fin hs rfl hl rfl)) (fun f hf=>Run.leaf (jO (by rw [hf];rfl)))))
theorem vA {α:Type}:∀ {l:List α} {k:Nat} {a b:α},az l k=some a->az (bu l k b) k=some b
 | [],k,a,b,h=>by induction k using cz<;>exact al h
 |x::r,0,a,b,h=>rfl
 |x::r,k+1,a,b,h=>vA (l:=r) (k:=k) h
theorem Ab {α:Type}:∀ {l:List α} {k:Nat} {a b:α},bu (bu l k a) k b=bu l k b
 | [],k,a,b=>by induction k using cz<;>rfl
 |x::r,0,a,b=>rfl
 |x::r,k+1,a,b=>by
  show x::bu (bu r k a) k b=x::bu r k b;rw [Ab]
theorem wZ {O:B} {k:Nat} {l:List V} {v:V} (hk:az O k=some (.list l)) (hl:l.length<=1048576):bk "append" (.loc k) [v] O=.ok .none (bu O k (.list (l++[v]))):=by
 have e:bk "append" (.loc k) [v] O=aX (eB O k) (dN "append" k [v] O):=rfl;have e2:dN "append" k [v] O l=oV k l v O:=by kernel_rfl
 rw [e,j3 hk,e2];unfold oV;rw [cR hl];rfl
theorem Ti {O:B} {k:Nat} {l m:List V} (hk:az O k=some (.list l)) (hl:l.length+m.length<=1048576):bk "extend" (.loc k) [.lst m] O=.ok .none (bu O k (.list (l++m))):=by
 have e:bk "extend" (.loc k) [.lst m] O=aX (eB O k) (dN "extend" k [.lst m] O):=rfl;have e2:dN "extend" k [.lst m] O l=vT k l (.lst m) O m:=by kernel_rfl
 rw [e,j3 hk,e2];unfold vT;rw [cR hl];rfl
theorem QC {O:B} {k:Nat} {l:List V} {v:V} (hk:az O k=some (.list (l++[v]))) (hl:l.length<=1000000):bk "pop" (.loc k) [] O=.ok v (bu O k (.list l)):=by
 have e:bk "pop" (.loc k) [] O=aX (eB O k) (dN "pop" k [] O):=rfl;have e2:dN "pop" k [] O (l++[v])=aX (l++[v]).getLast? (l6 k (l++[v]) O):=by kernel_rfl
 rw [e,j3 hk,e2,List.getLast?_append,List.getLast?_singleton];show l6 k (l++[v]) O v=_;unfold l6;rw [List.dropLast_concat,cR (by simp;exact ae [_] [] [.le (.v 0) (.n 1000000)] (.le (.v 0) (.n 1048575)) rfl hl)];rfl
theorem uz {O:B} {k:Nat} {l:List V} (hk:az O k=some (.list l)):jk "append" (.loc k) O=true:=by
 show ((eB O k).isSome&&(seq "append" "append" || seq "append" "extend"))=true;rw [tO hk];kernel_rfl
theorem JM {O:B} {k:Nat} {l:List V} (hk:az O k=some (.list l)):jk "extend" (.loc k) O=true:=by
 show ((eB O k).isSome&&(seq "extend" "append" || seq "extend" "extend"))=true;rw [tO hk];kernel_rfl
noncomputable def lL (k floor:Nat) (r:Rw) (t m:V):Loc:=[("out",.loc k),("floor",.int floor),("row",rv r),("count",.int (aF r)),("texts",t),("made",m)]
noncomputable def ka (k floor:Nat) (r:Rw) (t m x:V):Loc:=[("out",.loc k),("floor",.int floor),("row",rv r),("count",.int (aF r)),("texts",t),("made",m),("text",x)]
theorem Qx {bv:Loc->B->RS} {O:B} {k floor:Nat} {r:Rw} {t m:V}
 (h:∀x J (l:List V) v,(J=lL k floor r t m\/∃y,J=ka k floor r t m y)->l.length<=1000->bv (putL "text" x J) (bu O k (.list (l++[v])))=.fin .next (ka k floor r t m x) (bu O k (.list l))):
 ∀(ts:List V) (J:Loc) (kept tl:List V),tl.length=ts.length->(kept++tl).length<=1000->(J=lL k floor r t m\/∃y,J=ka k floor r t m y)->
  ∃aH,dH bv "text" ts J (bu O k (.list (kept++tl)))=.fin .next aH (bu O k (.list kept))/\(aH=lL k floor r t m\/∃y,aH=ka k floor r t m y):=by
 intro ts;induction ts with
 |nil=>
  intro J kept tl e _ bw;obtain rfl:=List.eq_nil_of_length_eq_zero e;rw [List.append_nil];exact ⟨J,rfl,bw⟩
 |cons x ts ih=>
  intro J kept tl e hl bw;obtain ⟨l,v,rfl⟩:∃l v,tl=l++[v]:=by
   have cj:tl≠[]:=by rintro rfl;cases e
   exact ⟨tl.dropLast,tl.getLast cj,(List.dropLast_concat_getLast cj).symm⟩
  rw [lR,<- List.append_assoc,h x J (kept++l) v bw (by simp at hl ⊢;exact ae [_,_] [] [.le (.p (.v 0) (.p (.v 1) (.n 1))) (.n 1000)] (.le (.p (.v 0) (.v 1)) (.n 1000)) rfl hl)];exact ih _ kept l (by simp at e;exact e) (by simp at hl ⊢;exact ae [_,_] [] [.le (.p (.v 0) (.p (.v 1) (.n 1))) (.n 1000)] (.le (.p (.v 0) (.v 1)) (.n 1000)) rfl hl) (.inr ⟨x,rfl⟩)
theorem QB {bv:Loc->B->RS} {O τ:B} {k floor:Nat} {r:Rw} {t m:V}
 (h:∀x J (l:List V) v,(J=lL k floor r t m\/∃y,J=ka k floor r t m y)->l.length<=1000->bv (putL "text" x J) (bu O k (.list (l++[v])))=.fin .next (ka k floor r t m x) (bu O k (.list l)))
 (ts:List V) (kept tl:List V) (e1:tl.length=ts.length) (e2:(kept++tl).length<=1000) (Hw:τ=bu O k (.list (kept++tl))):
  ∃aH,dH bv "text" ts (lL k floor r t m) τ=.fin .next aH (bu O k (.list kept))/\(aH=lL k floor r t m\/∃y,aH=ka k floor r t m y):=by
 subst Hw;exact Qx h ts _ kept tl e1 e2 (.inl rfl)
theorem Cg (e:Ef):(fj e).length<=1:=by induction e using Ef.casesOn<;>exact Nat.le_of_ble_eq_true rfl
theorem GY {out:List Rw} {floor:Nat} {r:Rw} (h:(decide (out.length<floor+aF r)||decide ((aV (aU out r)).length<aF r))=true):iQ out floor r=.none:=by
 unfold iQ;rw [h];rfl
theorem Ji {out:List Rw} {floor:Nat} {r:Rw} (h:(decide (out.length<floor+aF r)||decide ((aV (aU out r)).length<aF r))=false):iQ out floor r=.lst ((aV (aU out r)).map .str):=by
 unfold iQ;rw [h];rfl
theorem Ru (n:Nat) (out:List Rw) (floor:Nat) (r:Rw) (ho:out.length<=1000) (hf:tQ out floor r) (O:B) (k:Nat) (hk:az O k=some (.list (out.map rv))):CF (n+10) "folded" [.loc k,.int floor,rv r] O=.ok .none (bu O k (.list ((cw out floor r).map rv))):=by
 refine fR (P:=fun q=>q=.ok .none (bu O k (.list ((cw out floor r).map rv)))) (f:=aP "folded") (J:=[("out",.loc k),("floor",.int floor),("row",rv r)]) (by kernel_rfl) (by kernel_rfl) ?_;have hL:(out.map rv).length<=1000:=by rw [List.length_map];exact ae [_] [] [.le (.v 0) (.n 1000)] (.le (.v 0) (.n 1000)) rfl ho
 refine Run.stmt (fun J τ=>J=([("out",.loc k),("floor",.int floor),("row",rv r),("count",.int (aF r))]:Loc)/\O=τ) (fun kn hk=>Run.call (Il (n+8) r _) (hk _ _ ⟨rfl,rfl⟩)) ?_;rintro _ _ ⟨rfl,rfl⟩;have app:gE out floor r=false->bk "append" (.loc k) [rv r] O=.ok .none (bu O k (.list ((cw out floor r).map rv))):=fun h=>by
  rw [wZ hk (by exact ae [_] [] [.le (.v 0) (.n 1000)] (.le (.v 0) (.n 1048576)) rfl hL)];unfold cw;rw [h];show _=R.ok V.none (bu O k (.list ((out++[r]).map rv)));rw [List.map_append];rfl
 refine Run.stmt (fun J τ=>(J=([("out",.loc k),("floor",.int floor),("row",rv r),("count",.int (aF r)),("texts",bif decide (aF r=0) then .none else iQ out floor r)]:Loc))/\O=τ) (fun kn pN=>?_) ?_
 ·refine Run.br (fun h=>?_) (fun h=>?_)
  ·have h:=of_decide_eq_true h;have h:aF r≠0:=by lia
   rw [decide_eq_false h] at pN;exact Run.call (OZ (n+8) out floor r ho h O k hk) (pN _ _ ⟨rfl,rfl⟩)
  ·have h:=of_decide_eq_false h;have h:aF r=0:=by lia
   rw [decide_eq_true h] at pN;exact pN _ _ ⟨rfl,rfl⟩
 rintro _ _ ⟨rfl,rfl⟩;by_cases h1:(decide (aF r=0)||decide (out.length<floor+aF r)||decide ((aV (aU out r)).length<aF r))=true
 ·have hn:(bif decide (aF r=0) then V.none else iQ out floor r)=.none:=by
   generalize h0:decide (aF r=0)=zc;induction zc using aN with
   |true=>rfl
   |false=>rw [h0] at h1;exact GY h1
  have wd:gE out floor r=false:=by
   unfold gE;rw [<- Bool.and_assoc,<- Bool.not_or,h1];rfl
  rw [hn];exact Run.ah rfl (Run.au rfl (Run.au (uz hk) (Run.ok (app wd) (Run.leaf rfl))))
 ·have h1:(decide (aF r=0)||decide (out.length<floor+aF r)||decide ((aV (aU out r)).length<aF r))=false:=by simpa using h1
  have h0:decide (aF r=0)=false:=by
   generalize e:decide (aF r=0)=zc;induction zc using aN with
   |true=>rw [e] at h1;cases h1
   |false=>rfl
  have hp:(decide (out.length<floor+aF r)||decide ((aV (aU out r)).length<aF r))=false:=by rw [h0] at h1;exact h1
  have hn:(bif decide (aF r=0) then V.none else iQ out floor r)=.lst ((aV (aU out r)).map .str):=by rw [h0];exact Ji hp
  rw [hn];have D6:aF r≠0:=of_decide_eq_false h0;have hc:floor+aF r<=out.length/\aF r<=(aV (aU out r)).length:=by simpa using hp
  have cQ:(aV (aU out r)).length=aF r:=Nat.le_antisymm (sW out r) hc.2;have sn:=hf D6 hc.1 cQ;have hr:=Q6 n r _ cQ D6 sn O;have Ec:gE out floor r= !(lJ (aE r (aV (aU out r)))||eS r (aV (aU out r))):=by
   unfold gE;rw [<- Bool.and_assoc,<- Bool.not_or,h1];rfl
  refine Run.au rfl (Run.call hr ?_);generalize hx:(lJ (aE r (aV (aU out r)))||eS r (aV (aU out r)))=zc;induction zc using aN with
  |true=>
   have:hY r (aV (aU out r))=.none:=by unfold hY;rw [hx];rfl
   rw [this];exact Run.au rfl (Run.au (uz hk) (Run.ok (app (by rw [Ec,hx];rfl)) (Run.leaf rfl)))
  |false=>
   have:hY r (aV (aU out r))=.lst ((fj (aE r (aV (aU out r)))).map rv):=by unfold hY;rw [hx];rfl
   rw [this];have Jn:cw out floor r=b0 out r++fj (aE r (aV (aU out r))):=by unfold cw;rw [Ec,hx];rfl
   have CI:out.map rv=(b0 out r).map rv++(aU out r).map rv:=by
    rw [<- List.map_append];unfold b0 aU;rw [List.take_append_drop]
   have nG:(aU out r).length=aF r:=by unfold aU;rw [List.length_drop];lia
   have eQ:(b0 out r).length<=1000:=by unfold b0;rw [List.length_take];lia
   have Mr:O=bu O k (.list ((b0 out r).map rv++(aU out r).map rv)):=by rw [<- CI];exact (oz hk).symm
   refine Run.ah rfl (Run.gH (fun q=>∃aH,q=.fin .next aH (bu O k (.list ((b0 out r).map rv)))/\(aH=lL k floor r (.lst ((aV (aU out r)).map .str)) (.lst ((fj (aE r (aV (aU out r)))).map rv))\/∃y,aH=ka k floor r (.lst ((aV (aU out r)).map .str)) (.lst ((fj (aE r (aV (aU out r)))).map rv)) y)) ?_ ?_)
   ·show ∃aH,dH _ "text" ((aV (aU out r)).map .str) (lL k floor r _ _) O=_/\_;have e1:((aU out r).map rv).length=((aV (aU out r)).map V.str).length:=by rw [List.length_map,List.length_map,nG,cQ]
    have e2:((b0 out r).map rv++(aU out r).map rv).length<=1000:=by rw [<- CI];exact hL
    refine QB (fun x J l v bw hl=>?_) _ _ _ e1 e2 Mr;rcases bw with rfl|⟨y,rfl⟩
    all_goals exact ez (P:=fun q=>q=.fin .next (ka k floor r _ _ x) (bu O k (.list l))) (Run.ok (QC (vA hk) (by lia)) (Run.leaf (by rw [Ab];rfl)))
   ·rintro q ⟨aH,rfl,bw⟩;have hx:bk "extend" (.loc k) [.lst ((fj (aE r (aV (aU out r)))).map rv)] (bu O k (.list ((b0 out r).map rv)))=.ok .none (bu O k (.list ((cw out floor r).map rv))):=by
     have hb:((b0 out r).map rv).length+((fj (aE r (aV (aU out r)))).map rv).length<=1048576:=by
      have:=Cg (aE r (aV (aU out r)));rw [List.length_map,List.length_map];exact ae [_,_] [] [.le (.v 0) (.n 1000),.le (.v 1) (.n 1)] (.le (.p (.v 0) (.v 1)) (.n 1048576)) rfl eQ this
     rw [Ti (vA hk) hb,Ab,Jn,List.map_append]
    rcases bw with rfl|⟨y,rfl⟩
    all_goals exact Run.next rfl (Run.au (JM (vA hk)) (Run.ok hx (Run.leaf rfl)))
theorem jR {a b:Int} {O:B} (h:0<b) (h2:b<=1000000):ct .FloorDiv (.int a) (.int b) O=.ok (.int (a.fdiv b)) O:=by
 have hd:Builtin.divisionGoesByPylong a b=false:=by
  unfold Builtin.divisionGoesByPylong;have:(if (b==0)=true then 0 else b.natAbs.log2 / 30+1)<=300:=by
   rw [if_neg (by simp;exact fun zz=>Nat.lt_irrefl 0 (ae [] [_] [.aY (.k 0) (.w 0),.ie (.w 0) (.k 0)] (.lt (.n 0) (.n 0)) rfl h zz))];have:b.natAbs.log2<20:=(Nat.log2_lt (by lia)).mpr (by lia);lia
  simp only [Bool.and_eq_false_imp,decide_eq_true_eq];intro q;exact absurd q (by exact fun zz=>Nat.lt_irrefl 0 (ae [_] [] [.le (.v 0) (.n 300),.lt (.n 300) (.v 0)] (.lt (.n 0) (.n 0)) rfl this q))
 show aX (bif b !=0&& !Builtin.divisionGoesByPylong a b then some (a.fdiv b) else none) (ja O)=_;rw [hd,show (b !=0)=true by simp;exact fun zz=>Nat.lt_irrefl 0 (ae [] [_] [.aY (.k 0) (.w 0),.ie (.w 0) (.k 0)] (.lt (.n 0) (.n 0)) rfl h zz)];rfl
theorem eW {a b:Int} {O:B} (h:0<b):ct .Mod (.int a) (.int b) O=.ok (.int (a.fmod b)) O:=by
 show aX (bif b !=0 then some (a.fmod b) else none) (ja O)=_;rw [show (b !=0)=true by simp;exact fun zz=>Nat.lt_irrefl 0 (ae [] [_] [.aY (.k 0) (.w 0),.ie (.w 0) (.k 0)] (.lt (.n 0) (.n 0)) rfl h zz)];rfl
theorem fB {a b:Int} (h:0<b):0<=a.fmod b/\a.fmod b<b:=by
 rw [Int.fmod_eq_emod_of_nonneg _ (by exact ae [] [_] [.aY (.k 0) (.w 0)] (.aJ (.k 0) (.w 0)) rfl h)];exact ⟨Int.emod_nonneg _ (by exact fun zz=>Nat.lt_irrefl 0 (ae [] [_] [.aY (.k 0) (.w 0),.ie (.w 0) (.k 0)] (.lt (.n 0) (.n 0)) rfl h zz)),Int.emod_lt_of_pos _ h⟩
theorem wK {i:Int} {n:Nat} (h0:0<=i) (h1:i<n) (h2:n<=1048576):idx i n=some i.toNat:=by
 unfold idx;rw [decide_eq_true h0,decide_eq_true h1,decide_eq_true h2];rfl
theorem qm {α:Type}:∀ {l:List α} {i:Nat} {a:α},az l i=some a->a∈l
 | [],i,a,h=>by induction i using cz<;>exact al h
 |b::r,0,a,h=>by obtain rfl:=Option.some.inj h;exact .head _
 |b::r,i+1,a,h=>.tail _ (qm (l:=r) (i:=i) h)
theorem vg {α β:Type} {f:α->β}:∀ {l:List α} {i:Nat} {b:β},az (l.map f) i=some b->∃a,az l i=some a/\b=f a
 | [],i,b,h=>by induction i using cz<;>exact al h
 |x::r,0,b,h=>by obtain rfl:=Option.some.inj h;exact ⟨x,rfl,rfl⟩
 |x::r,i+1,b,h=>vg (l:=r) (i:=i) h
theorem BP {O:B} {k:Nat} {l:List V} (hk:az O k=some (.list l)) {i:Int} (h0:0<=i) (h1:i<l.length) (h2:l.length<=1048576):∃v,fK (.loc k) (.int i) O=.ok v O/\az l i.toNat=some v:=by
 refine aB (o7 l i.toNat (by exact ae [_,_] [_] [.aY (.w 0) (.c (.v 1)),.ie (.c (.v 0)) (.w 0)] (.lt (.v 0) (.v 1)) rfl h1 (Int.toNat_of_nonneg (ae [] [_] [.aJ (.k 0) (.w 0)] (.aJ (.k 0) (.w 0)) rfl h0))) ) fun v hv=>?_;refine ⟨v,?_,hv⟩;have e:fK (.loc k) (.int i) O=aX (eB O k) (gn i id O):=rfl;rw [e,j3 hk];unfold gn qs;rw [wK h0 h1 h2];exact tA hv
theorem mZ {O:B} {k:Nat} {ts:List Str} (hk:az O k=some (sl ts)) {i:Int} (h0:0<=i) (h1:i<ts.length) (h2:ts.length<=1048576):∃t∈ts,fK (.loc k) (.int i) O=.ok (.str t) O:=by
 refine aw (BP hk h0 (by rw [List.length_map];exact h1) (by rw [List.length_map];exact h2) ) fun v e hv=>?_;refine aw (vg hv ) ?_;rintro t ht rfl;exact ⟨t,qm ht,e⟩
theorem N4 {O:B} {l:List V} {i:Int} (h0:0<=i) (h1:i<l.length) (h2:l.length<=1048576):∃v,fK (.lst l) (.int i) O=.ok v O/\az l i.toNat=some v:=by
 refine aB (o7 l i.toNat (by exact ae [_,_] [_] [.aY (.w 0) (.c (.v 1)),.ie (.c (.v 0)) (.w 0)] (.lt (.v 0) (.v 1)) rfl h1 (Int.toNat_of_nonneg (ae [] [_] [.aJ (.k 0) (.w 0)] (.aJ (.k 0) (.w 0)) rfl h0))) ) fun v hv=>?_;refine ⟨v,?_,hv⟩;have e:fK (.lst l) (.int i) O=gn i id O l:=rfl;rw [e];unfold gn qs;rw [wK h0 h1 h2];exact tA hv
theorem Dy {O:B} {x:Str} {i:Int} (h0:0<=i) (h1:i<sz x) (h2:sz x<=1048576):∃c∈x.cps.toList,fK (.str x) (.int i) O=.ok (.str ⟨#[c]⟩) O:=by
 refine aB (o7 x.cps.toList i.toNat (by unfold sz at h1;exact ae [_,_] [_] [.aY (.w 0) (.c (.v 1)),.ie (.c (.v 0)) (.w 0)] (.lt (.v 0) (.v 1)) rfl h1 (Int.toNat_of_nonneg (ae [] [_] [.aJ (.k 0) (.w 0)] (.aJ (.k 0) (.w 0)) rfl h0))) ) fun v hv=>?_;refine ⟨v,qm hv,?_⟩;have e:fK (.str x) (.int i) O=gn i vP O x.cps.toList:=rfl;rw [e];unfold gn qs;rw [wK (n:=x.cps.toList.length) h0 h1 h2];exact tA hv
theorem xo (n:Nat) (ns:List Int) (p:Int) (h0:0<=p) (hl:ns.length<=1000) (O:B):∃c:Int,CF (n+1) "_law_cell" [.lst (ns.map .int),.int p] O=.ok (.int c) O:=by
 have hb:∀l:List Int,bP 0 (l.map .int)=true:=fun l=>by
  induction l with
  |nil=>rfl
  |cons a l ih=>exact ih
 have cO:bP 0 [.lst (ns.map .int),.int p]=true:=by
  show (bP 0 (ns.map .int)&&(true&&true))=true;rw [hb];rfl
 refine bH (P:=fun q=>∃c:Int,q=.ok (.int c) O) (f:=aP "_law_cell") (J:=[("script",.lst (ns.map .int)),("place",.int p)]) (by kernel_rfl) cO (by kernel_rfl) ?_;have cQ:cM (.builtin "len") [.lst (ns.map V.int)] []=.ok (.int (ns.map V.int).length) []:=by
  show (bif bd (ns.map V.int).length then R.ok (V.int (ns.map V.int).length) ([]:B) else .stuck)=_;rw [cR (by rw [List.length_map];exact ae [_] [] [.le (.v 0) (.n 1000)] (.le (.v 0) (.n 1048576)) rfl hl)];rfl
 refine Run.ok cQ (Run.br (fun h=>?_) (fun h=>?_))
 ·have h:=of_decide_eq_true h;refine aw (N4 (O:=[]) h0 h (by rw [List.length_map];exact ae [_] [] [.le (.v 0) (.n 1000)] (.le (.v 0) (.n 1048576)) rfl hl) ) fun v e hv=>?_;refine aw (vg hv ) ?_;rintro c _ rfl;exact Run.ok e (Run.leaf ⟨c,rfl⟩)
 ·exact Run.leaf ⟨0,rfl⟩
noncomputable def dF:List Str:=["0","1","-1","7","12","-30"," 5 ","0x1F","007","0b101","-0o17","2147483648","true","of","o","","a b","x","{","a {b 7} 12","1_0","-","N"]
theorem gX (n:Nat) (p:Int) (O:B):∃t∈dF,CF (n+1) "_law_text" [.int p] O=.ok (.str t) O:=by
 refine bH (P:=fun q=>∃t∈dF,q=.ok (.str t) O) (f:=aP "_law_text") (J:=[("pick",.int p)]) (by kernel_rfl) (by kernel_rfl) (by kernel_rfl) ?_;refine Run.ok (v:=.loc 2) (O:=[sl (dF.take 15),sl (dF.drop 15),sl dF]) (by kernel_rfl) ?_;refine Run.ok (v:=.int 23) (O:=[sl (dF.take 15),sl (dF.drop 15),sl dF]) (by kernel_rfl) ?_;refine Run.bK (eW (a:=p) (by decide)) ?_;have hm:=fB (a:=p) (b:=23) (by decide);refine aw (mZ (O:=[sl (dF.take 15),sl (dF.drop 15),sl dF]) (k:=2) (ts:=dF) rfl hm.1 hm.2 (by decide) ) fun t ht e=>?_;exact Run.ok e (Run.leaf ⟨t,ht,rfl⟩)
noncomputable def oR:Str:= "00000000000000000000"
noncomputable def vl (x:Str):List Str:=["2","0","1","-1","-7","0x1F",x,"0" ++ x,"x",""]
theorem Bk (n:Nat) (p:Int) (O:B):∃t,CF (n+1) "_law_base" [.int p] O=.ok (.str t) O/\sz t<=31/\Cl t:=by
 refine bH (P:=fun q=>∃t,q=.ok (.str t) O/\sz t<=31/\Cl t) (f:=aP "_law_base") (J:=[("pick",.int p)]) (by kernel_rfl) (by kernel_rfl) (by kernel_rfl) ?_;have hm:=fB (a:=p) (b:=1000000000) (by decide);refine aB (Int.eq_ofNat_of_zero_le hm.1 ) fun j hj=>?_;have hi:(1000000000+p.fmod 1000000000:Int)=Int.ofNat (1000000000+j):=by rw [hj];rfl
 have hn:=zB (1000000000+j) 10 (by decide) (by lia);have G9:cM (.type "str") [.int (1000000000+p.fmod 1000000000)] []=.ok (.str (fh (Int.ofNat (1000000000+j)))) []:=by
  rw [hi];exact vj (L:=10) (by show (1000000000+j:Nat)<=16 ^ 10;lia) (by decide) []
 have hx:sz (oR++fh (Int.ofNat (1000000000+j)))<=30/\Cl (oR++fh (Int.ofNat (1000000000+j))):=by
  refine ⟨?_,sQ (lx (by decide)) hn.2⟩;rw [s7];have:sz oR=20:=by decide
  exact ae [_,_] [] [.le (.v 1) (.n 10),.e (.v 0) (.n 20)] (.le (.p (.v 0) (.v 1)) (.n 30)) rfl hn.1 this
 refine Run.ok (v:=.str oR) (O:=[]) (by kernel_rfl) ?_;refine Run.ok (v:=.int 1000000000) (O:=[]) (by kernel_rfl) ?_;refine Run.ok (v:=.int 1000000000) (O:=[]) (by kernel_rfl) ?_;refine Run.bK (eW (a:=p) (by decide)) ?_;generalize hX:oR++fh (Int.ofNat (1000000000+j))=X at hx;have Rf:ct .Add (.str oR) (.str (fh (Int.ofNat (1000000000+j)))) []=.ok (.str X) []:=by
  rw [<- hX];exact l9 (by rw [eY];decide) (by rw [eY];exact ae [_] [] [.le (.v 0) (.n 10)] (.le (.v 0) (.n 50000)) rfl hn.1) []
 have HO:ct .Add (.str "0") (.str X) []=.ok (.str ("0" ++ X)) []:=l9 (by rw [eY];decide) (by rw [eY];exact ae [_] [] [.le (.v 0) (.n 30)] (.le (.v 0) (.n 50000)) rfl hx.1) [];refine Run.ok G9 (Run.ok Rf ?_);refine Run.ok HO ?_;refine Run.ok (v:=.int 10) (O:=[sl (vl X)]) (by kernel_rfl) ?_;refine Run.bK (eW (a:=p) (by decide)) ?_;have hm:=fB (a:=p) (b:=10) (by decide);refine aw (mZ (O:=[sl (vl X)]) (k:=0) (ts:=vl X) rfl hm.1 hm.2 (by show (10:Nat)<=_;decide) ) fun t ht e=>?_;refine Run.ok e (Run.leaf ⟨t,rfl,?_⟩);unfold vl at ht;simp only [List.mem_cons,List.not_mem_nil,or_false] at ht;have hz:sz ("0" : Str)=1:=by decide
 have h0:sz ("0" ++ X)<=31/\Cl ("0" ++ X):=⟨(by rw [s7];exact ae [_,_] [] [.le (.v 1) (.n 30),.e (.v 0) (.n 1)] (.le (.p (.v 0) (.v 1)) (.n 31)) rfl hx.1 hz),sQ (lx (by decide)) hx.2⟩
 rcases ht with rfl|rfl|rfl|rfl|rfl|rfl|rfl|rfl|rfl|rfl
 case inr.inr.inr.inr.inr.inr.inl=>exact ⟨by exact ae [_] [] [.le (.v 0) (.n 30)] (.le (.v 0) (.n 31)) rfl hx.1,hx.2⟩
 case inr.inr.inr.inr.inr.inr.inr.inl=>exact h0
 all_goals exact ⟨by decide,lx (by decide)⟩
noncomputable def kf:List Str:=["0","1","2","4","-1","-2","003"," 3","268435456","x",""]
noncomputable def kQ:List Str:=["0","1","64","99","100","-1","2147483648","x","03"]
theorem CR (n:Nat) (p:Int) (O:B):(∃t∈kf,CF (n+1) "_law_second" [.str "**",.int p] O=.ok (.str t) O)/\∃t∈kQ,CF (n+1) "_law_second" [.str "<<",.int p] O=.ok (.str t) O:=by
 constructor
 ·refine bH (P:=fun q=>∃t∈kf,q=.ok (.str t) O) (f:=aP "_law_second") (J:=[("op",.str "**"),("pick",.int p)]) (by kernel_rfl) (by kernel_rfl) (by kernel_rfl) ?_;refine Run.au (by kernel_rfl) (Run.ok (v:=.int 11) (O:=[sl kf]) (by kernel_rfl) (Run.bK (eW (a:=p) (by decide)) ?_));have hm:=fB (a:=p) (b:=11) (by decide);refine aw (mZ (O:=[sl kf]) (k:=0) (ts:=kf) rfl hm.1 hm.2 (by decide) ) fun t ht e=>?_;exact Run.ok e (Run.leaf ⟨t,ht,rfl⟩)
 ·refine bH (P:=fun q=>∃t∈kQ,q=.ok (.str t) O) (f:=aP "_law_second") (J:=[("op",.str "<<"),("pick",.int p)]) (by kernel_rfl) (by kernel_rfl) (by kernel_rfl) ?_;refine Run.ah (by kernel_rfl) (Run.ok (v:=.int 9) (O:=[sl kQ]) (by kernel_rfl) (Run.bK (eW (a:=p) (by decide)) ?_));have hm:=fB (a:=p) (b:=9) (by decide);refine aw (mZ (O:=[sl kQ]) (k:=0) (ts:=kQ) rfl hm.1 hm.2 (by decide) ) fun t ht e=>?_;exact Run.ok e (Run.leaf ⟨t,ht,rfl⟩)
theorem Pg {b:Int} {e E M K:Nat} (hb:b.natAbs<2 ^ M) (he:e<=E) (h:M*E<=4*K):(b ^ e).natAbs<=16 ^ K:=by
 rw [Int.natAbs_pow]
 calc b.natAbs ^ e<=(2 ^ M) ^ e:=Nat.pow_le_pow_left (Nat.le_of_lt hb) e
  _=2 ^ (M*e):=by rw [<- Nat.pow_mul]
  _<=2 ^ (4*K):=Nat.pow_le_pow_right (by decide) (Nat.le_trans (Nat.mul_le_mul_left _ he) h)
  _=16 ^ K:=by rw [Nat.pow_mul]
theorem G6 (n:Nat) (b e:Int) {E M K:Nat} (hb:b.natAbs<2 ^ M) (he:e<=E\/2 ^ 28<=e) (hK:M*E<=4*K) (hB:M*E<=100000) (O:B):gS K (CF (n+3) "power" [.int b,.int e] O) O:=by
 refine bH (P:=fun q=>gS K q O) (f:=aP "power") (J:=[("base",.int b),("exponent",.int e)]) (by kernel_rfl) (by kernel_rfl) (by kernel_rfl) ?_;have small:∀i:Int,i.natAbs<=1->i.natAbs<=16 ^ K:=fun i hi=>Nat.le_trans hi (Nat.pow_pos (by decide));have tail:b≠0->b≠1->b≠ -1->Run (g5 (GF (n+2)) 40 false (aP "power").scope ((aP "power").body.drop 4) [("base",.int b),("exponent",.int e)] []) (fun r=>gS K (iz (dS r) O) O):=by
  intro _ _ _;refine Run.br (fun h=>Run.leaf (.inl ⟨0,rfl,small 0 (by decide)⟩)) (fun h=>?_);have h:=of_decide_eq_false h;refine Run.ok (v:=.int 268435456) (O:=[]) (by kernel_rfl) (Run.br (fun h2=>?_) (fun h2=>?_))
  ·exact Run.ok (SW n "exponent too large" []) (Run.leaf (.inr ⟨_,rfl,nu (by decide+kernel) (by decide+kernel)⟩))
  ·have h2:=of_decide_eq_false h2;have he':e<=E:=he.elim id (fun q=>by
    have:(2:Int) ^ 28=268435456:=by decide
    lia)
   have hp:ct .Pow (.int b) (.int e) []=.ok (.int (b ^ e.toNat)) []:=by
    have h1:=intBits_le hb;have h4:(Builtin.Int.intBits b:Int)*e<=100000:=by
     calc (Builtin.Int.intBits b:Int)*e<=(M:Int)*e:=Int.mul_le_mul_of_nonneg_right (by exact ae [_,_] [] [.le (.v 0) (.v 1)] (.aJ (.c (.v 0)) (.c (.v 1))) rfl h1) (by lia)
      _<=(M:Int)*E:=Int.mul_le_mul_of_nonneg_left he' (by exact ae [_] [] [] (.aJ (.k 0) (.c (.v 0))) rfl)
      _<=100000:=by
       rw [<- Int.natCast_mul];generalize M*E=z at hB;exact ae [_] [] [.le (.v 0) (.n 100000)] (.aJ (.c (.v 0)) (.k 100000)) rfl hB
    show aX (bif decide (0<=e)&&decide ((Builtin.Int.intBits b:Int)*e<=100000) then some (b ^ e.toNat) else none) (ja ([]:B))=_;rw [decide_eq_true (by lia),decide_eq_true h4];rfl
   exact Run.ok hp (Run.leaf (.inl ⟨_,rfl,Pg hb (by lia) hK⟩))
 refine Run.br (fun h=>Run.leaf (.inl ⟨1,rfl,small 1 (by decide)⟩)) (fun h0=>?_);refine Run.br (fun h=>?_) (fun h=>?_)
 ·have rp:b=0:=by simpa using h
  subst rp;refine Run.br (fun h2=>?_) (fun h2=>?_)
  ·refine Run.au rfl (Run.ok (k7 n "exponentiation of zero by negative power" ["ARITH","DOMAIN","exponentiation of zero by negative power"] []) (Run.leaf (.inr ⟨_,rfl,nu (by decide+kernel) (by decide+kernel)⟩)))
  ·exact Run.ah rfl (Run.au rfl (Run.au rfl (Run.leaf (.inl ⟨0,rfl,small 0 (by decide)⟩))))
 ·have rp:b≠0:=by simpa using h
  refine Run.ah rfl (Run.ah h (Run.br (fun h2=>?_) (fun h2=>?_)))
  ·exact Run.au rfl (Run.leaf (.inl ⟨b,rfl,by
    have:b=1:=by simpa using h2
    subst this;exact small 1 (by decide)⟩))
  ·refine Run.ah rfl (Run.br (fun h3=>?_) (fun h3=>?_))
   ·have hm:ct .Mod (.int e) (.int 2) []=.ok (.int (e.fmod 2)) []:=by kernel_rfl
    refine Run.ok hm (Run.br (fun _=>?_) (fun _=>?_))
    ·exact Run.leaf (.inl ⟨1,rfl,small 1 (by decide)⟩)
    ·exact Run.leaf (.inl ⟨-1,rfl,small (-1) (by decide)⟩)
   ·exact (tail rp (by simpa using h2) (by simpa using h3)).cast (by kernel_rfl)
theorem Hb (n:Nat) (a c:Int) {M K:Nat} (ha:a.natAbs<2 ^ M) (hc:c<=100\/2 ^ 31<=c) (hK:M+100<=4*K) (hM:M<=1000) (O:B):gS K (CF (n+4) "shifted_left" [.int a,.int c] O) O:=by
 refine bH (P:=fun q=>gS K q O) (f:=aP "shifted_left") (J:=[("number",.int a),("count",.int c)]) (by kernel_rfl) (by kernel_rfl) (by kernel_rfl) ?_;rcases FX n c [] with ⟨h0,h⟩|⟨_,f,h,hf⟩
 ·have h0:=of_decide_eq_true h0;refine Run.ok h (Run.br (fun h1=>Run.leaf (.inl ⟨0,rfl,Nat.zero_le _⟩)) (fun h1=>?_));refine Run.ok (v:=.int 2147483648) (O:=[]) (by kernel_rfl) (Run.br (fun h2=>?_) (fun h2=>?_))
  ·exact Run.ok (k7 (n+1) "integer value too large to represent" ["ARITH","IOVERFLOW","integer value too large to represent"] []) (Run.leaf (.inr ⟨_,rfl,nu (by decide+kernel) (by decide+kernel)⟩))
  ·have h2:=of_decide_eq_false h2;have pL:c<=100:=hc.elim id (fun q=>by
    have:(2:Int) ^ 31=2147483648:=by decide
    lia)
   have hp:ct .LShift (.int a) (.int c) []=.ok (.int (a*2 ^ c.toNat)) []:=by
    have h1:=intBits_le ha;show aX (bif decide (0<=c)&&decide ((Builtin.Int.intBits a:Int)+c<=100000) then some (a*2 ^ c.toNat) else none) (ja ([]:B))=_;rw [decide_eq_true h0,decide_eq_true (by exact ae [_,_] [_] [.le (.v 1) (.n 1000),.aJ (.w 0) (.k 100),.le (.v 0) (.v 1)] (.aJ (.p (.c (.v 0)) (.w 0)) (.k 100000)) rfl hM pL h1)];rfl
   refine Run.ok hp (Run.leaf (.inl ⟨_,rfl,?_⟩));rw [Int.natAbs_mul,Int.natAbs_pow]
   calc a.natAbs*(2:Int).natAbs ^ c.toNat<=2 ^ M*2 ^ 100:=Nat.mul_le_mul (Nat.le_of_lt ha) (Nat.pow_le_pow_right (by decide) (by exact ae [_] [_] [.aJ (.w 0) (.k 100),.ie (.c (.v 0)) (.w 0)] (.le (.v 0) (.n 100)) rfl pL (Int.toNat_of_nonneg (ae [] [_] [.aJ (.k 0) (.w 0)] (.aJ (.k 0) (.w 0)) rfl h0))))
    _=2 ^ (M+100):=by rw [<- Nat.pow_add]
    _<=2 ^ (4*K):=Nat.pow_le_pow_right (by decide) hK
    _=16 ^ K:=by rw [Nat.pow_mul]
 ·exact Run.exc h (Run.leaf (.inr ⟨f,rfl,hf⟩))
theorem Ib (n:Nat) (l r:Int) {E M K:Nat} (hl:l.natAbs<2 ^ M) (hr:r<=E\/2 ^ 28<=r) (hK:M*E<=4*K) (hB:M*E<=100000) (O:B):gS K (CF (n+5) "arithmetic" [.str "**",.int l,.int r] O) O:=by
 refine bH (P:=fun q=>gS K q O) (f:=aP "arithmetic") (J:=[("op",.str "**"),("left",.int l),("right",.int r)]) (by kernel_rfl) (by kernel_rfl) (by kernel_rfl) ?_;refine Run.ah rfl (Run.ah rfl (Run.ah rfl (Run.ah rfl (Run.ah rfl (Run.au rfl ?_)))));rcases G6 (n+1) l r hl hr hK hB [] with ⟨i,h,hi⟩|⟨f,h,hf⟩
 ·exact Run.ok h (Run.leaf (.inl ⟨i,rfl,hi⟩))
 ·exact Run.exc h (Run.leaf (.inr ⟨f,rfl,hf⟩))
theorem I1 (n:Nat) (l r:Int) {M K:Nat} (hl:l.natAbs<2 ^ M) (hr:r<=100\/2 ^ 31<=r) (hK:M+100<=4*K) (hM:M<=1000) (O:B):gS K (CF (n+5) "arithmetic" [.str "<<",.int l,.int r] O) O:=by
 refine bH (P:=fun q=>gS K q O) (f:=aP "arithmetic") (J:=[("op",.str "<<"),("left",.int l),("right",.int r)]) (by kernel_rfl) (by kernel_rfl) (by kernel_rfl) ?_;refine Run.ah rfl (Run.ah rfl (Run.ah rfl (Run.ah rfl (Run.ah rfl (Run.ah rfl (Run.au rfl ?_))))));rcases Hb n l r hl hr hK hM [] with ⟨i,h,hi⟩|⟨f,h,hf⟩
 ·exact Run.ok h (Run.leaf (.inl ⟨i,rfl,hi⟩))
 ·exact Run.exc h (Run.leaf (.inr ⟨f,rfl,hf⟩))
theorem Fy {n:Nat} {x:Str} {v:V} (h:CF (n+4) "whole_of" [.str x] []=.ok v []):CF (n+2+3) "whole_of" [.str x] []=.ok v []:=by
 have ns:CF (n+4) "whole_of" [.str x] []≠ .stuck:=by rw [h];intro z;cases z
 rw [show n+2+3=(n+4)+1 by exact Nat.le_antisymm (ae [_] [] [] (.le (.p (.p (.v 0) (.n 2)) (.n 3)) (.p (.p (.v 0) (.n 4)) (.n 1))) rfl) (ae [_] [] [] (.le (.p (.p (.v 0) (.n 4)) (.n 1)) (.p (.p (.v 0) (.n 2)) (.n 3))) rfl),uD ns 1,h]
noncomputable def uH:List Str:=jz++(["**","<<"]:List Str)
theorem RD:∀op∈uH,op.length<=10/\cU op:=by
 intro op h;unfold uH jz at h;simp only [List.cons_append,List.nil_append,List.mem_cons,List.not_mem_nil,or_false] at h;rcases h with rfl|rfl|rfl|rfl|rfl|rfl|rfl|rfl|rfl|rfl|rfl
 all_goals exact ⟨by decide+kernel,bZ (by decide+kernel)⟩
theorem wU (n:Nat) (op a b:Str) (hop:op∈uH) (ha:sz a<=TL) (hb:sz b<=TL) (xT:Cl a) (tN:Cl b) {K:Nat} (hK:K<=3400)
 (J8:∀l r:Int,CF (n+4) "whole_of" [.str a] []=.ok (.int l) []->CF (n+4) "whole_of" [.str b] []=.ok (.int r) []->l.natAbs<16 ^ sz a->r.natAbs<16 ^ sz b->gS K (CF (n+6) "arithmetic" [.str op,.int l,.int r] []) []) (O:B):
 hJ (G K) (CF (n+7) "binary" [.str op,.str a,.str b] O) O:=by
 refine bH (P:=fun r=>hJ (G K) r O) (f:=aP "binary") (J:=[("op",.str op),("a",.str a),("b",.str b)]) (by kernel_rfl) (by kernel_rfl) (by kernel_rfl) ?_;refine aK (RD op hop ) fun o1 o2=>?_;refine aw (nP (n+1) a ha [] ) fun va DZ gB=>?_;refine aw (nP (n+1) b hb [] ) fun vb GD BR=>?_;have fa:=p_ (n+1+1) op a o1 o2 ha xT.asc [] (Fy DZ) gB;have fb:=p_ (n+1+1) op b o1 o2 hb tN.asc [] (Fy GD) BR;have key:Run (g5 (GF (n+6)) 40 false (aP "binary").scope ((aP "binary").body.drop 3) [("op",.str op),("a",.str a),("b",.str b)] []) (fun r=>hJ (G K) (iz (dS r) O) O):=by
  rcases fa with ⟨l,rfl,h1⟩|⟨rfl,f,h1,hf⟩
  ·rcases fb with ⟨r,rfl,h2⟩|⟨rfl,f,h2,hf⟩
   ·have e1:l.natAbs<16 ^ sz a:=by rcases gB with h|⟨j,h,k⟩<;>cases h;exact k
    have e2:r.natAbs<16 ^ sz b:=by rcases BR with h|⟨j,h,k⟩<;>cases h;exact k
    rcases J8 l r DZ GD e1 e2 with ⟨i,h3,hi⟩|⟨f,h3,hf⟩
    ·exact Run.call h1 (Run.call h2 (Run.call h3 (Run.ok (vj hi hK []) (Run.leaf (.inl ⟨_,rfl,sY hi⟩)))))
    ·exact Run.call h1 (Run.call h2 (Run.lG h3 (Run.leaf (.inr ⟨f,rfl,hf⟩))))
   ·exact Run.call h1 (Run.lG h2 (Run.leaf (.inr ⟨f,rfl,hf⟩)))
  ·exact Run.lG h1 (Run.leaf (.inr ⟨f,rfl,hf⟩))
 unfold uH jz at hop;simp only [List.cons_append,List.nil_append,List.mem_cons,List.not_mem_nil,or_false] at hop;rcases hop with rfl|rfl|rfl|rfl|rfl|rfl|rfl|rfl|rfl|rfl|rfl
 all_goals exact Run.ah rfl (Run.ah rfl (Run.ah rfl (key.cast (by kernel_rfl))))
noncomputable def qh (x:Str):Prop:=∀c∈x.cps.toList,c=97
theorem S7 (n:Nat) (x:Str) (hx:sz x<=TL) (h0:0<sz x) (ha:qh x) (O:B):CF (n+2) "digits_value" [.str x,.int 10] O=.ok .none O:=by
 refine bH (P:=fun r=>r=.ok .none O) (f:=aP "digits_value") (J:=[("text",.str x),("base",.int 10)]) (by kernel_rfl) (by kernel_rfl) (by kernel_rfl) ?_;obtain ⟨t,ht⟩:∃t,x.cps.toList=97::t:=by
  unfold sz at h0;unfold qh at ha
  match h:x.cps.toList with
  | []=>rw [h] at h0;cases h0
  |c::t=>rw [h] at ha;exact ⟨t,by rw [ha c (.head _)]⟩
 have he:(x.cps.toList==("" : Str).cps.toList)=false:=by rw [ht];rfl
 refine Run.ah he (Run.gH (fun q=>∃J,q=.fin (.ret .none) J []) ?_ ?_)
 ·rw [DG,ht,List.map_cons,lR];refine ⟨[("text",.str x),("base",.int 10),("value",.int 0),("c",.str ⟨#[97]⟩),("n",.int 10)],?_⟩;have hb:∀ {bv:Loc->B->RS} {g:Loc->B->RS},bv (putL "c" (.str ⟨#[97]⟩) [("text",.str x),("base",.int 10),("value",.int 0)]) []=.fin (.ret .none) [("text",.str x),("base",.int 10),("value",.int 0),("c",.str ⟨#[97]⟩),("n",.int 10)] []->
   (bv (putL "c" (.str ⟨#[97]⟩) [("text",.str x),("base",.int 10),("value",.int 0)]) []).bind g=.fin (.ret .none) [("text",.str x),("base",.int 10),("value",.int 0),("c",.str ⟨#[97]⟩),("n",.int 10)] []:=fun h=>by rw [h];rfl
  refine hb (ez (P:=fun q=>q=.fin (.ret .none) [("text",.str x),("base",.int 10),("value",.int 0),("c",.str ⟨#[97]⟩),("n",.int 10)] []) ?_);exact Run.call (EQ n 97 []) (Run.ah rfl (Run.au rfl (Run.au rfl (Run.leaf rfl))))
 ·rintro q ⟨J,rfl⟩;exact Run.pC rfl (Run.leaf rfl)
theorem Kp (n:Nat) (x:Str) (hx:sz x<=TL) (h0:0<sz x) (ha:qh x) (hs:Txt.slice x (some 0) (some (sz x))=x) (O:B):CF (n+3) "whole_of" [.str x] O=.ok .none O:=by
 refine bH (P:=fun r=>r=.ok .none O) (f:=aP "whole_of") (J:=[("text",.str x)]) (by kernel_rfl) (by kernel_rfl) (by kernel_rfl) ?_;have cL:sz x<=10000:=hx;have it:∀(i:Int),0<=i->i<sz x->fK (.str x) (.int i) []=.ok (.str ⟨#[97]⟩) []:=fun i h1 h2=>by
  refine aw (item_str (x:=x) (i:=i) h1 h2 hx [] ) fun c hc hi=>?_;rw [ha c (qm hc)] at hi;exact hi
 have nb:∀m,CF (m+1) "is_blank" [.str ⟨#[97]⟩] []=.ok (.bool false) []:=fun m=>(jH m ⟨#[97]⟩ []).trans rfl;refine Run.cY (W1 x 0 (sz x)) ([]) (fun kn hk=>Run.ok (len_str hx []) hk) ?_;refine Run.cY (W1 x 0 (sz x)) ([]) (fun kn hk=>Run.next (F4 (n:=99999) (dO (Run.au (decide_eq_true (by lia)) (Run.ok (it 0 (by exact ae [] [] [] (.aJ (.k 0) (.k 0)) rfl) (by exact ae [_] [] [.lt (.n 0) (.v 0)] (.aY (.k 0) (.c (.v 0))) rfl h0)) (Run.call (nb (n+1)) (Run.ah rfl (Run.leaf rfl))))))) hk) ?_;refine Run.cY (W1 x 0 (sz x)) ([]) (fun kn hk=>Run.next (F4 (n:=99999) (dO (Run.au (decide_eq_true (by lia)) (Run.ok (it (sz x-1) (by exact ae [_] [] [.lt (.n 0) (.v 0)] (.aJ (.k 0) (.s (.c (.v 0)) (.k 1))) rfl h0) (by exact ae [_] [] [] (.aY (.s (.c (.v 0)) (.k 1)) (.c (.v 0))) rfl)) (Run.call (nb (n+1)) (Run.ah rfl (Run.leaf rfl))))))) hk) ?_;refine Run.cY (W2 x 0 (sz x) false []) ([]) (fun kn hk=>hk) ?_;refine Run.cY (W2 x 0 (sz x) false []) ([]) (fun kn hk=>Run.au (decide_eq_true (by lia)) (Run.ok (it 0 (by exact ae [] [] [] (.aJ (.k 0) (.k 0)) rfl) (by exact ae [_] [] [.lt (.n 0) (.v 0)] (.aY (.k 0) (.c (.v 0))) rfl h0)) (Run.ah (by kernel_rfl) (Run.ah rfl hk)))) ?_;refine Run.cY (W2 x 0 (sz x) false [("base",.int 0)]) ([]) (fun kn hk=>hk) ?_;refine Run.cY (W2 x 0 (sz x) false [("base",.int 0)]) ([]) (fun kn hk=>?_) ?_
 ·refine Run.br (fun h=>?_) (fun h=>Run.ah rfl hk);exact Run.ok (it 0 (by exact ae [] [] [] (.aJ (.k 0) (.k 0)) rfl) (by exact ae [_] [] [.lt (.n 0) (.v 0)] (.aY (.k 0) (.c (.v 0))) rfl h0)) (Run.ah (by kernel_rfl) (Run.ah rfl hk))
 refine Run.cY (W2 x 0 (sz x) false [("base",.int 0),("value",.none)]) ([]) (fun kn hk=>?_) ?_
 ·have hd:=S7 n x hx h0 ha [];refine Run.ah rfl (Run.ok ((qk hx []).trans (by rw [hs])) (Run.call hd hk))
 exact Run.au rfl (Run.leaf rfl)
noncomputable def wt (s:List Str):Nat:=(s.map sz).sum
theorem HK:wt []=0:=rfl
theorem pq (t:Str) (s:List Str):wt (t::s)=sz t+wt s:=by unfold wt;rw [List.map_cons,List.sum_cons]
theorem Ff (a b:List Str):wt (a++b)=wt a+wt b:=by unfold wt;rw [List.map_append,List.sum_append]
theorem eN (t:Str):wt [t]=sz t:=by rw [pq,HK];rfl
theorem O4 {t:Str}:∀ {s:List Str},t∈s->sz t<=wt s:=by
 intro s;induction s with
 |nil=>intro h;exact absurd h List.not_mem_nil
 |cons a s ih=>
  intro h;rw [pq];cases h with
  |head=>exact ae [_,_] [] [] (.le (.v 0) (.p (.v 0) (.v 1))) rfl
  |tail _ h=>have:=ih h;exact ae [_,_,_] [] [.le (.v 0) (.v 2)] (.le (.v 0) (.p (.v 1) (.v 2))) rfl this
theorem Db (s:List Str):(s.map (·.length)).sum=wt s:=by
 unfold wt
 congr 1
theorem Tb (x:Str):x++Str.empty=x:=by
 show (⟨x.cps++ #[]⟩:Str)=x;rw [Array.append_empty]
theorem xx:∀ts:List Str,(∀t∈ts,Cl t)->sz (cD ts)=wt ts/\Cl (cD ts)
 | [],_=>⟨rfl,fun c hc=>by cases hc⟩
 | [x],h=>⟨by rw [eN];rfl,h x (.head _)⟩
 |x::y::r,h=>by
  have ih:=xx (y::r) fun t ht=>h t (.tail _ ht);have e:cD (x::y::r)=x++cD (y::r):=by
   show x++Str.empty++Str.join Str.empty (y::r)=_;rw [Tb];rfl
  rw [e,pq,s7,ih.1];exact ⟨rfl,sQ (h x (.head _)) ih.2⟩
theorem SN (x:Str):Txt.slice x (some 0) (some ((sz x:Nat):Int))=x:=by
 have h:(Builtin.Str.strSliceIndices (some 0) (some ((sz x:Nat):Int)) 1 x.length).length=x.length:=by
  rw [eY];unfold Builtin.Str.strSliceIndices;generalize sz x=n;have e1:¬((0:Int)<0):=by decide
  have e2:¬((n:Int)<0):=by exact fun zz=>Nat.lt_irrefl 0 (ae [_] [] [.aY (.c (.v 0)) (.k 0)] (.lt (.n 0) (.n 0)) rfl zz)
  dsimp only;rw [if_neg e1,if_neg e2];simp only [show ((1:Int)>0) from by decide,if_true];rw [show max 0 (min (0:Int) n)=0 by lia,show max 0 (min (n:Int) n)=n by lia];unfold sliceRange;rw [List.length_map,List.length_range];simp only [show ((1:Int)>0) from by decide,if_true]
  split<;>lia
 unfold Txt.slice;rw [if_pos (by rw [h];simp)]
noncomputable def aT (k:Nat):Str:=Txt.mul "a" (k:Int)
theorem IV (n:Nat):∀(acc:Array Nat),((List.replicate n (#[97]:Array Nat)).foldl (· ++ ·) acc).toList=acc.toList++List.replicate n 97:=by
 induction n with
 |zero=>intro acc;simp
 |succ n ih=>
  intro acc;rw [List.replicate_succ,List.foldl_cons,ih,Array.toList_append,List.append_assoc];rfl
theorem Cu (k:Nat) (hk:2<=k):(aT k).cps.toList=List.replicate k 97:=by
 unfold aT Txt.mul;rw [if_neg (by exact fun zz=>Nat.lt_irrefl 0 (ae [_] [] [.le (.n 2) (.v 0),.aY (.c (.v 0)) (.k 1)] (.lt (.n 0) (.n 0)) rfl hk zz)),if_neg]
 ·show ((List.replicate (k:Int).toNat ("a" : Str).cps).foldl (· ++ ·) #[]).toList=_;rw [show ("a" : Str).cps= #[97] by kernel_rfl,IV];simp
 ·have:(("a" : Str).length==0)=false:=by kernel_rfl
  rw [this];simp;exact fun zz=>Nat.lt_irrefl 0 (ae [_] [] [.le (.n 2) (.v 0),.ie (.c (.v 0)) (.k 1)] (.lt (.n 0) (.n 0)) rfl hk zz)
theorem qI (k:Nat) (hk:2<=k):sz (aT k)=k/\Cl (aT k)/\qh (aT k):=by
 have h:qh (aT k):=fun c hc=>by rw [Cu k hk] at hc;exact (List.mem_replicate.mp hc).2
 refine ⟨by unfold sz;rw [Cu k hk,List.length_replicate],fun c hc=>by rw [h c hc];decide,h⟩
theorem hJ.vY {b:Bool} {O:B}:hJ 1 (.ok (.str (tf b)) O) O:=.inl ⟨_,rfl,Nat.le_of_eq (pf b).1,(pf b).2⟩
theorem RO (n:Nat) (op x:Str) (hop:op= "!" \/ op= "-" \/ op= "~" \/ op= "+") (hx:sz x<=TL) (hc:Cl x) (hw:CF (n+3) "whole_of" [.str x] []=.ok .none []) (O:B):hJ 1 (CF (n+5) "unary" [.str op,.str x] O) O:=by
 refine bH (P:=fun r=>hJ 1 r O) (f:=aP "unary") (J:=[("op",.str op),("a",.str x)]) (by kernel_rfl) (by kernel_rfl) (by kernel_rfl) ?_;have fault:∀op:Str,op.length<=10->cU op->∃f,CF (n+4) "operand" [.str op,.str x] []=.exc f []/\eM f:=fun op h1 h2=>by
  rcases p_ n op x h1 h2 hx hc.asc [] hw (.inl rfl) with ⟨i,h,_⟩|⟨_,f,h,hf⟩
  ·exact V.noConfusion h
  ·exact ⟨f,h,hf⟩
 rcases hop with rfl|rfl|rfl|rfl
 ·refine Run.au rfl ?_;refine aw (wa n x hx [] ) fun b hb xl=>?_;refine Run.ok hb ?_;rcases xl with rfl|⟨b,rfl⟩
  ·refine aw (yY (n+1) "!" x (by decide+kernel) (bZ (by decide+kernel)) hx hc.asc ) fun f hf mo=>?_;exact Run.au rfl (Run.ok hf (Run.leaf (.inr ⟨f,rfl,mo⟩)))
  ·exact Run.ah rfl (Run.ok (rD (n+3) (!b) []) (Run.leaf .vY))
 ·refine aw (fault "-" (by decide+kernel) (bZ (by decide+kernel)) ) fun f h hf=>?_;exact Run.ah rfl (Run.exc h (Run.leaf (.inr ⟨f,rfl,hf⟩)))
 ·refine aw (fault "~" (by decide+kernel) (bZ (by decide+kernel)) ) fun f h hf=>?_;exact Run.ah rfl (Run.exc h (Run.leaf (.inr ⟨f,rfl,hf⟩)))
 ·refine aw (fault "+" (by decide+kernel) (bZ (by decide+kernel)) ) fun f h hf=>?_;exact Run.ah rfl (Run.exc h (Run.leaf (.inr ⟨f,rfl,hf⟩)))
noncomputable def ia:List Str:=["-","+","~","!"]
theorem A8 {op:Str} (h:op∈ia):op= "!" \/ op= "-" \/ op= "~" \/ op= "+" := by
 unfold ia at h;simp only [List.mem_cons,List.not_mem_nil,or_false] at h;rcases h with h|h|h|h
 ·exact .inr (.inl h)
 ·exact .inr (.inr (.inr h))
 ·exact .inr (.inr (.inl h))
 ·exact .inl h
theorem N2 (op:Str) (hop:op∈ia) (k:Nat) (hk:2<=k) (pd:k<=2000):(∀n O,CF (n+5) "unary" [.str op,.str (aT k)] O=(fW op (aT k)).at O)/\(fW op (aT k)).fits 1:=by
 refine fw (qI k hk ) fun h1 h2 h3=>?_;have h4:sz (aT k)<=TL:=by rw [h1];show k<=10000;exact ae [_] [] [.le (.v 0) (.n 2000)] (.le (.v 0) (.n 10000)) rfl pd
 exact vE (m:=4) (f:=aP "unary") (fun n O=>by kernel_rfl) rfl (RO 0 op (aT k) (A8 hop) h4 h2 (Kp 0 (aT k) h4 (by exact ae [_,_] [] [.le (.n 2) (.v 1),.f (.v 0) (.v 1)] (.lt (.n 0) (.v 0)) rfl hk h1) h3 (SN _) []) [])
theorem td {op a b:Str} {K:Nat} (h:hJ K (CF 7 "binary" [.str op,.str a,.str b] []) []):(∀n O,CF (n+7) "binary" [.str op,.str a,.str b] O=(dq op a b).at O)/\(dq op a b).fits K:=
 vE (m:=6) (f:=aP "binary") (fun n O=>by kernel_rfl) rfl h
theorem Sr {op a b:Str} (hop:op∈jz) (h:sz a+sz b<=2200) (ha:Cl a) (hb:Cl b):(∀n O,CF (n+7) "binary" [.str op,.str a,.str b] O=(dq op a b).at O)/\(dq op a b).fits (G (sz a+sz b+1)):=
 td (wU 0 op a b (List.mem_append_left _ hop) (by show _<=10000;exact ae [_,_] [] [.le (.p (.v 0) (.v 1)) (.n 2200)] (.le (.v 0) (.n 10000)) rfl h) (by show _<=10000;exact ae [_,_] [] [.le (.p (.v 1) (.v 0)) (.n 2200)] (.le (.v 0) (.n 10000)) rfl h) ha hb (by exact ae [_,_] [] [.le (.p (.v 0) (.v 1)) (.n 2200)] (.le (.p (.p (.v 0) (.v 1)) (.n 1)) (.n 3400)) rfl h) (fun l r _ _ hl hr=>QH 1 op hop l r hl hr h []) [])
noncomputable def mr:List Str:=ru++ki++(["in","ni"]:List Str)
theorem sP {op a b:Str} (hop:op∈mr) (h:sz a+sz b<=9000) (hb:Cl b):(∀n O,CF (n+7) "binary" [.str op,.str a,.str b] O=(dq op a b).at O)/\(dq op a b).fits 1:=by
 refine td ?_;unfold mr at hop;rcases List.mem_append.mp hop with hop|hop
 ·rcases List.mem_append.mp hop with hop|hop
  ·refine aB (Jv 0 op a b hop (by show _<=10000;exact ae [_,_] [] [.le (.p (.v 0) (.v 1)) (.n 9000)] (.le (.v 0) (.n 10000)) rfl h) (by show _<=10000;exact ae [_,_] [] [.le (.p (.v 1) (.v 0)) (.n 9000)] (.le (.v 0) (.n 10000)) rfl h) [] ) fun t e=>?_;rw [e];exact .vY
  ·refine aB (Rj 0 op a b hop [] ) fun t e=>?_;rw [e];exact .vY
 ·exact Td 0 op a b (by simpa using hop) (by exact ae [_,_] [] [.le (.p (.v 1) (.v 0)) (.n 9000)] (.le (.v 0) (.n 9000)) rfl h) hb []
noncomputable def nU (E:Int) (L:Int) (t:Str):Prop:=∀r:Int,CF 4 "whole_of" [.str t] []=.ok (.int r) []->r<=E\/L<=r
theorem sZ {E L:Int} {ts:List Str} (h:(ts.all fun t=>match CF 4 "whole_of" [.str t] [] with
 |.ok (.int r) _=>decide (r<=E)||decide (L<=r)
 |_=>true)=true):∀t∈ts,nU E L t:=fun t ht r e=>by
 have h:=List.all_eq_true.mp h t ht;rw [e] at h
 simpa using h
theorem BE:∀t∈kf,nU 4 (2 ^ 28) t:=sZ (by kernel_rfl)
theorem Df:∀t∈kQ,nU 100 (2 ^ 31) t:=sZ (by kernel_rfl)
theorem Se:∀t∈dF,nU 31 (2 ^ 28) t:=sZ (by kernel_rfl)
theorem H2:∀t∈dF,nU 100 (2 ^ 31) t:=sZ (by kernel_rfl)
theorem BL (k:Nat):(16:Nat) ^ k=2 ^ (4*k):=by rw [Nat.pow_mul]
theorem xq {a b:Str} {E A K:Nat} (ha:sz a<=A) (hb:sz b<=TL) (ca:Cl a) (cb:Cl b) (he:nU E (2 ^ 28) b) (hA:A<=1000) (hK:A*E<=K) (h1:K<=3400):(∀n O,CF (n+7) "binary" [.str "**",.str a,.str b] O=(dq "**" a b).at O)/\(dq "**" a b).fits (G K):=
 td (wU 0 "**" a b (by decide+kernel) (by show _<=10000;exact ae [_,_] [] [.le (.v 0) (.v 1),.le (.v 1) (.n 1000)] (.le (.v 0) (.n 10000)) rfl ha hA) hb ca cb h1 (fun l r _ hr hl _=>Ib 1 l r (M:=4*A) (E:=E) (by rw [<- BL];exact Nat.lt_of_lt_of_le hl (Nat.pow_le_pow_right (by decide) ha)) (he r hr) (by rw [Nat.mul_assoc];exact ae [_,_] [] [.x 4 (.le (.v 0) (.v 1))] (.le (.m 4 (.v 0)) (.m 4 (.v 1))) rfl hK) (by rw [Nat.mul_assoc];exact ae [_,_] [] [.x 4 (.le (.v 0) (.v 1)),.x 4 (.le (.v 1) (.n 3400))] (.le (.m 4 (.v 0)) (.n 100000)) rfl hK h1) []) [])
theorem ye {a b:Str} {A K:Nat} (ha:sz a<=A) (hb:sz b<=TL) (ca:Cl a) (cb:Cl b) (he:nU 100 (2 ^ 31) b) (hA:A<=200) (hK:A+25<=K) (h1:K<=3400):(∀n O,CF (n+7) "binary" [.str "<<",.str a,.str b] O=(dq "<<" a b).at O)/\(dq "<<" a b).fits (G K):=
 td (wU 0 "<<" a b (by decide+kernel) (by show _<=10000;exact ae [_,_] [] [.le (.v 0) (.v 1),.le (.v 1) (.n 200)] (.le (.v 0) (.n 10000)) rfl ha hA) hb ca cb h1 (fun l r _ hr hl _=>I1 1 l r (M:=4*A) (by rw [<- BL];exact Nat.lt_of_lt_of_le hl (Nat.pow_le_pow_right (by decide) ha)) (he r hr) (by exact ae [_,_] [] [.x 4 (.le (.p (.v 0) (.n 25)) (.v 1))] (.le (.p (.m 4 (.v 0)) (.n 100)) (.m 4 (.v 1))) rfl hK) (by exact ae [_] [] [.x 4 (.le (.v 0) (.n 200))] (.le (.m 4 (.v 0)) (.n 1000)) rfl hA) []) [])
noncomputable def Ef.fits (e:Ef) (K:Nat):Prop:=match e with
 |.push v=>sz v<=K/\Cl v
 |.nil=>True
 |.jump a=>1<=a
 |.flt f=>eM f
theorem Oc.rR {o:Oc} {K:Nat} (h:o.fits K):o.ef.fits K:=by induction o using Oc.casesOn<;>exact h
theorem Ef.fits.mono {e:Ef} {K K':Nat} (h:e.fits K) (k:K<=K'):e.fits K':=by
 induction e using Ef.casesOn with
 |push v=>exact ⟨Nat.le_trans h.1 k,h.2⟩
 |_=>exact h
noncomputable def qA {o:Oc} {a:Nat} (h:o.ef=.jump a):False:=by induction o using Oc.casesOn<;>cases h
theorem iY {r:Rw} {ts:List Str} (hf:lb r ts) (hm:aF r<=100) (hu:∀op,r=.unary op->jC op=false) (hc:∀t∈ts,Cl t) (hw:wt ts<=3000) (hj:∀a,aE r ts=.jump a->1<=a):jF r ts:=
 ⟨hf,hm,hu,by rw [Db];exact ae [_] [] [.le (.v 0) (.n 3000)] (.le (.v 0) (.n 1000000)) rfl hw,by rw [(xx ts hc).1];exact ae [_] [] [.le (.v 0) (.n 3000)] (.le (.v 0) (.n 1000000)) rfl hw,fun t ht=>by have:=O4 ht;show _<=10000;exact ae [_,_] [] [.le (.v 1) (.n 3000),.le (.v 0) (.v 1)] (.le (.v 0) (.n 10000)) rfl hw this,hj⟩
theorem iO {ts:List Str} (h:ts.length=1):∃t,ts=[t]:=by
 match ts,h with
 | [t],_=>exact ⟨t,rfl⟩
theorem By {ts:List Str} (h:ts.length=2):∃a b,ts=[a,b]:=by
 match ts,h with
 | [a,b],_=>exact ⟨a,b,rfl⟩
noncomputable def Ord:Rw->Prop
 |.push t=>t∈dF
 |.unary op=>op∈ia
 |.binary op=>op∈jz++mr
 |.truth=>True
 |.number=>True
 |.pop=>True
 |.join k=>1<=k/\k<=4
 |.jt a=>1<=a
 |.jf a=>1<=a
 |.jump _=>False
theorem eu:∀t∈dF,sz t<=10/\Cl t:=by
 have h:(dF.all fun t=>decide (sz t<=10)&&t.cps.toList.all (fun c=>decide (c<128)&&c !=92))=true:=by kernel_rfl
 intro t ht;have h:=List.all_eq_true.mp h t ht;rw [Bool.and_eq_true] at h;exact ⟨of_decide_eq_true h.1,lx h.2⟩
theorem DP:∀op∈ia,jC op=false:=by
 have h:(ia.all fun op=>jC op==false)=true:=by kernel_rfl
 intro op ho
 simpa using List.all_eq_true.mp h op ho
theorem Rn (b:Bool) {K:Nat} (h:1<=K):(Ef.push (tf b)).fits K:=⟨by rw [(pf b).1];exact h,(pf b).2⟩
theorem s6 (r:Rw) (h:Ord r) (ts:List Str) (hl:ts.length=aF r) (hc:∀t∈ts,Cl t) (hw:wt ts<=2150):jF r ts/\(aE r ts).fits (wt ts+wt ts / 4+10):=by
 induction r using Rw.casesOn with
 |push t=>
  have:ts=[]:=List.eq_nil_of_length_eq_zero hl;subst this;have ht:=eu t h;exact ⟨iY rfl (Nat.zero_le _) (fun _ e=>by exact Rw.noConfusion e) hc (by exact ae [_] [] [.le (.v 0) (.n 2150)] (.le (.v 0) (.n 3000)) rfl hw) (fun a e=>by cases e),⟨by exact ae [_,_,_] [] [.le (.v 0) (.n 10)] (.le (.v 0) (.p (.p (.v 1) (.v 2)) (.n 10))) rfl ht.1,ht.2⟩⟩
 |unary op=>
  refine aB (iO hl ) ?_;rintro t rfl;rw [eN] at hw ⊢;refine aK (Ik (A8 h) (by exact ae [_] [] [.le (.v 0) (.n 2150)] (.le (.v 0) (.n 3400)) rfl hw) (hc t (.head _)) ) fun h1 h2=>?_;have e:aE (.unary op) [t]=(fW op t).ef:=rfl;refine ⟨iY ⟨t,rfl,h1⟩ (by show 1<=100;decide) (fun eD e=>by obtain rfl:=Rw.unary.inj e;exact DP op h) hc (by rw [eN];exact ae [_] [] [.le (.v 0) (.n 2150)] (.le (.v 0) (.n 3000)) rfl hw) (fun a q=>(qA (e▸q)).elim),?_⟩;rw [e];exact (Oc.rR h2).mono (by show sz t+sz t / 4+2<=_;exact ae [_,_] [] [] (.le (.p (.p (.v 0) (.v 1)) (.n 2)) (.p (.p (.v 0) (.v 1)) (.n 10))) rfl)
 |binary op=>
  refine eO (By hl ) ?_;rintro a b rfl;have e:aE (.binary op) [a,b]=(dq op a b).ef:=rfl;have ew:wt [a,b]=sz a+sz b:=by rw [pq,eN]
  have xT:=hc a (.head _);have tN:=hc b (.tail _ (.head _));have key:(∀n O,CF (n+7) "binary" [.str op,.str a,.str b] O=(dq op a b).at O)/\(dq op a b).fits (G (sz a+sz b+1)):=by
   rcases List.mem_append.mp h with h|h
   ·exact Sr h (by exact ae [_,_,_] [] [.le (.v 2) (.n 2150),.f (.v 2) (.p (.v 0) (.v 1))] (.le (.p (.v 0) (.v 1)) (.n 2200)) rfl hw ew) xT tN
   ·refine aK (sP h (by exact ae [_,_,_] [] [.le (.v 2) (.n 2150),.f (.v 2) (.p (.v 0) (.v 1))] (.le (.p (.v 0) (.v 1)) (.n 9000)) rfl hw ew) tN (a:=a) ) fun h1 h2=>?_;refine ⟨h1,?_⟩;generalize ho:dq op a b=zc;induction zc using Oc.casesOn with
    |txt s=>rw [ho] at h2;exact ⟨Nat.le_trans h2.1 (by show 1<=sz a+sz b+1+(sz a+sz b+1) / 4+2;exact ae [_,_,_] [] [] (.le (.n 1) (.p (.p (.p (.p (.v 0) (.v 1)) (.n 1)) (.v 2)) (.n 2))) rfl),h2.2⟩
    |flt f=>rw [ho] at h2;exact h2
  refine ⟨iY ⟨a,b,rfl,key.1⟩ (by show 2<=100;decide) (fun _ e=>by exact Rw.noConfusion e) hc (by exact ae [_] [] [.le (.v 0) (.n 2150)] (.le (.v 0) (.n 3000)) rfl hw) (fun x q=>(qA (e▸q)).elim),?_⟩;rw [e,ew];exact (Oc.rR key.2).mono (by show sz a+sz b+1+(sz a+sz b+1) / 4+2<=_;lia)
 |truth=>
  refine aB (iO hl ) ?_;rintro t rfl;rw [eN] at hw ⊢;have hx:sz t<=TL:=by show _<=10000;exact ae [_] [] [.le (.v 0) (.n 2150)] (.le (.v 0) (.n 10000)) rfl hw
  have mO:=hc t (.head _);have e:aE .truth [t]=(match cr t with|some b=>.push (tf b)|none=>.flt (fc t)):=rfl;refine ⟨iY ⟨t,rfl,hx,mO⟩ (by show 1<=100;decide) (fun _ e=>by exact Rw.noConfusion e) hc (by rw [eN];exact ae [_] [] [.le (.v 0) (.n 2150)] (.le (.v 0) (.n 3000)) rfl hw) (fun x q=>?_),?_⟩
  ·rw [e] at q;(generalize hb:cr t=zc;induction zc using aA)<;>rw [hb] at q<;>cases q
  ·rw [e];generalize hb:cr t=zc;induction zc using aA with
   |some b=>exact Rn b (by exact ae [_,_] [] [] (.le (.n 1) (.p (.p (.v 0) (.v 1)) (.n 10))) rfl)
   |none=>exact ((mW hx mO).2 hb).2
 |number=>
  refine aB (iO hl ) ?_;rintro t rfl;rw [eN] at hw ⊢;refine aK (JS (t:=t) (by exact ae [_] [] [.le (.v 0) (.n 2150)] (.le (.v 0) (.n 3400)) rfl hw) (hc t (.head _)) ) fun h1 h2=>?_;have e:aE .number [t]=(hO t).ef:=rfl;refine ⟨iY ⟨t,rfl,h1⟩ (by show 1<=100;decide) (fun _ e=>by exact Rw.noConfusion e) hc (by rw [eN];exact ae [_] [] [.le (.v 0) (.n 2150)] (.le (.v 0) (.n 3000)) rfl hw) (fun a q=>(qA (e▸q)).elim),?_⟩;rw [e];exact (Oc.rR h2).mono (by show sz t+sz t / 4+2<=_;exact ae [_,_] [] [] (.le (.p (.p (.v 0) (.v 1)) (.n 2)) (.p (.p (.v 0) (.v 1)) (.n 10))) rfl)
 |pop=>
  refine aB (iO hl ) ?_;rintro t rfl;have e:aE .pop [t]=.nil:=by unfold aE;rfl
  exact ⟨iY ⟨t,rfl⟩ (by show 1<=100;decide) (fun _ e=>by exact Rw.noConfusion e) hc (by exact ae [_] [] [.le (.v 0) (.n 2150)] (.le (.v 0) (.n 3000)) rfl hw) (fun a q=>by rw [e] at q;exact Ef.noConfusion q),by rw [e];trivial⟩
 |join k=>
  have e:aE (.join k) ts=.push (cD ts):=by unfold aE;rfl
  have hj:=xx ts hc;refine ⟨iY ⟨hl,by rw [Db];exact ae [_] [] [.le (.v 0) (.n 2150)] (.le (.v 0) (.n 1048576)) rfl hw⟩ (by show k<=100;have:=h.2;exact ae [_] [] [.le (.v 0) (.n 4)] (.le (.v 0) (.n 100)) rfl this) (fun _ e=>by exact Rw.noConfusion e) hc (by exact ae [_] [] [.le (.v 0) (.n 2150)] (.le (.v 0) (.n 3000)) rfl hw) (fun a q=>by rw [e] at q;exact Ef.noConfusion q),?_⟩;rw [e];exact ⟨by rw [hj.1];exact ae [_,_] [] [] (.le (.v 0) (.p (.p (.v 0) (.v 1)) (.n 10))) rfl,hj.2⟩
 |jt a=>
  refine aB (iO hl ) ?_;rintro t rfl;rw [eN] at hw ⊢;have hx:sz t<=TL:=by show _<=10000;exact ae [_] [] [.le (.v 0) (.n 2150)] (.le (.v 0) (.n 10000)) rfl hw
  have mO:=hc t (.head _);have e:aE (.jt a) [t]=(match cr t with|some true=>.jump a|some false=>.nil|none=>.flt (fc t)):=rfl;refine ⟨iY ⟨t,rfl,hx,mO⟩ (by show 1<=100;decide) (fun _ e=>by exact Rw.noConfusion e) hc (by rw [eN];exact ae [_] [] [.le (.v 0) (.n 2150)] (.le (.v 0) (.n 3000)) rfl hw) (fun x q=>?_),?_⟩
  ·rw [e] at q;generalize hb:cr t=zc;induction zc using aA with
   |none=>rw [hb] at q;cases q
   |some b=>rw [hb] at q;induction b using aN<;>cases q;exact h
  ·rw [e];generalize hb:cr t=zc;induction zc using aA with
   |some b=>induction b using aN<;>first|trivial|exact h
   |none=>exact ((mW hx mO).2 hb).2
 |jf a=>
  refine aB (iO hl ) ?_;rintro t rfl;rw [eN] at hw ⊢;have hx:sz t<=TL:=by show _<=10000;exact ae [_] [] [.le (.v 0) (.n 2150)] (.le (.v 0) (.n 10000)) rfl hw
  have mO:=hc t (.head _);have e:aE (.jf a) [t]=(match cr t with|some false=>.jump a|some true=>.nil|none=>.flt (fc t)):=rfl;refine ⟨iY ⟨t,rfl,hx,mO⟩ (by show 1<=100;decide) (fun _ e=>by exact Rw.noConfusion e) hc (by rw [eN];exact ae [_] [] [.le (.v 0) (.n 2150)] (.le (.v 0) (.n 3000)) rfl hw) (fun x q=>?_),?_⟩
  ·rw [e] at q;generalize hb:cr t=zc;induction zc using aA with
   |none=>rw [hb] at q;cases q
   |some b=>rw [hb] at q;induction b using aN<;>cases q;exact h
  ·rw [e];generalize hb:cr t=zc;induction zc using aA with
   |some b=>induction b using aN<;>first|exact h|trivial
   |none=>exact ((mW hx mO).2 hb).2
 |jump a=>exact h.elim
noncomputable abbrev dE:=List Str->Prop
structure qa (Q Q':dE) (r:Rw):Prop where
 sK:∀s,Q s->aF r<=s.length->jF r (a9 r s)
 flt:∀s,Q s->aF r<=s.length->∀f,aE r (a9 r s)=.flt f->eM f
 push:∀s,Q s->aF r<=s.length->∀v,aE r (a9 r s)=.push v->Q' (keep r s++[v])
 pop:∀s,Q s->aF r<=s.length->aE r (a9 r s)=.nil->Q' (keep r s)
 nil:Q' []
noncomputable def Good (bR:Nat):dE:=fun s=>wt s<=bR/\∀t∈s,Cl t
noncomputable def j' (H:Nat):dE:=fun s=>s.length<=H/\∀t∈s,t∈dF
theorem yi {r:Rw} {s:List Str} (h:aF r<=s.length):(a9 r s).length=aF r:=by unfold a9;rw [List.length_drop];lia
theorem H1 {r:Rw} {s:List Str} (h:aF r<=s.length):(keep r s).length=s.length-aF r:=by unfold keep;rw [List.length_take];lia
theorem Oo {r:Rw} {s:List Str} {t:Str} (h:t∈a9 r s):t∈s:=List.mem_of_mem_drop h
theorem wl {r:Rw} {s:List Str} {t:Str} (h:t∈keep r s):t∈s:=List.mem_of_mem_take h
theorem Ny (r:Rw) (s:List Str):wt (keep r s)+wt (a9 r s)=wt s:=by rw [<- Ff,yr]
theorem D5 (bR:Nat):Good bR []:=⟨Nat.zero_le _,fun t ht=>by cases ht⟩
theorem KU {bR:Nat} {s:List Str} {v:Str} (h1:wt s+sz v<=bR) (h2:∀t∈s,Cl t) (h3:Cl v):Good bR (s++[v]):=
 ⟨by rw [Ff,eN];exact h1,fun t ht=>by
  rcases List.mem_append.mp ht with h|h
  ·exact h2 t h
  ·rw [List.mem_singleton] at h;subst h;exact h3⟩
theorem t_ {Q:dE} {B':Nat} {r:Rw} (h:∀s,Q s->aF r<=s.length->jF r (a9 r s)/\∃K,(aE r (a9 r s)).fits K/\wt (keep r s)+K<=B'/\∀t∈keep r s,Cl t):qa Q (Good B') r where
 sK:=fun s hs hl=>(h s hs hl).1
 flt:=fun s hs hl f e=>by obtain ⟨_,K,h1,_⟩:=h s hs hl;rw [e] at h1;exact h1
 push:=fun s hs hl v e=>by
  obtain ⟨_,K,h1,h2,h3⟩:=h s hs hl;rw [e] at h1;exact KU (Nat.le_trans (Nat.add_le_add_left h1.1 _) h2) h3 h1.2
 pop:=fun s hs hl e=>by
  obtain ⟨_,K,h1,h2,h3⟩:=h s hs hl;exact ⟨by exact ae [_,_,_] [] [.le (.p (.v 0) (.v 2)) (.v 1)] (.le (.v 0) (.v 1)) rfl h2,h3⟩
 nil:=D5 _
theorem GQ {bR B':Nat} {r:Rw} (h:Ord r) (hB:bR<=2150) (UC:bR+bR / 4+10<=B'):qa (Good bR) (Good B') r:=t_ fun s hs hl=>by
 have hw:=Ny r s;refine aK (s6 r h (a9 r s) (yi hl) (fun t ht=>hs.2 t (Oo ht)) (by have:=hs.1;exact ae [_,_,_,_] [] [.le (.v 1) (.n 2150),.e (.p (.v 2) (.v 0)) (.v 3),.le (.v 3) (.v 1)] (.le (.v 0) (.n 2150)) rfl hB hw this) ) fun h1 h2=>?_;have:=hs.1;exact ⟨h1,_,h2,by lia,fun t ht=>hs.2 t (wl ht)⟩
noncomputable def gW:Rw->Nat
 |.pop=>0
 |.jt _=>0
 |.jf _=>0
 |.jump _=>0
 |_=>1
noncomputable def lO:Rw->Prop
 |.push t=>cU t
 |.unary op=>cU op
 |.binary op=>cU op
 |_=>True
noncomputable def oM:Rw->Bool
 |.jump _=>true
 |_=>false
inductive gG (H:Nat) (Qe:dE) (de:Nat):Nat->dE->List Rw->Prop
 |nil {d:Nat} {Q:dE}:d<=de->(∀s,Q s->Qe s)->gG H Qe de d Q []
 |cons {d:Nat} {Q Q':dE} {r:Rw} {rs:List Rw}:aF r<=d->d<=H->oM r=false->lO r->(∀s,j' H s->Q s)->(∀s,Q s->∀t∈s,Cl t)->qa Q Q' r->gG H Qe de (d-aF r+gW r) Q' rs->gG H Qe de d Q (r::rs)
noncomputable def BB:Nat->Nat
 | 0=>100
 | 1=>460
 | 2=>620
 | 3=>790
 | 4=>1000
 | 5=>1260
 | 6=>1590
 |_=>2000
theorem bb:∀j,j<7->BB j+160<=BB (j+1)/\BB j+BB j / 4+10<=BB (j+1)/\10*(5+j)+400<=BB (j+1)/\BB j<=1600/\10*(5+j)<=BB j:=by decide
theorem lD {H bR:Nat} (h:10*H<=bR):∀s,j' H s->Good bR s:=fun s hs=>by
 refine ⟨?_,fun t ht=>(eu t (hs.2 t ht)).2⟩;have:∀s:List Str,(∀t∈s,t∈dF)->wt s<=10*s.length:=fun s=>by
  induction s with
  |nil=>intro _;exact Nat.le_refl _
  |cons a s ih=>
   intro h;have h1:=(eu a (h a (.head _))).1;have h2:=ih fun t ht=>h t (.tail _ ht);rw [pq,List.length_cons];exact ae [_,_,_] [] [.le (.v 0) (.n 10),.le (.v 1) (.m 10 (.v 2))] (.le (.p (.v 0) (.v 1)) (.m 10 (.p (.v 2) (.n 1)))) rfl h1 h2
 have h1:=this s hs.2;have:=hs.1;have:10*s.length<=10*H:=Nat.mul_le_mul_left _ hs.1;exact ae [_,_,_,_] [] [.le (.m 10 (.v 2)) (.v 1),.le (.v 0) (.m 10 (.v 3)),.le (.m 10 (.v 3)) (.m 10 (.v 2))] (.le (.v 0) (.v 1)) rfl h h1 this
theorem j8 {H:Nat} {s t:List Str} (h:j' H (s++t)):j' H s:=⟨by have:=h.1;rw [List.length_append] at this;exact ae [_,_,_] [] [.le (.p (.v 0) (.v 2)) (.v 1)] (.le (.v 0) (.v 1)) rfl this,fun x hx=>h.2 x (List.mem_append_left _ hx)⟩
theorem sD (H:Nat):j' H []:=⟨Nat.zero_le _,fun t ht=>by cases ht⟩
theorem t4 {bR:Nat}:∀s,Good bR s->∀t∈s,Cl t:=fun s h=>h.2
theorem tn:∀op∈ia++(jz++mr),cU op:=by
 have h:((ia++(jz++mr)).all fun op=>op.cps.toList.all (fun c=>decide (c<128)))=true:=by kernel_rfl
 intro op ho;exact bZ (List.all_eq_true.mp h op ho)
theorem GV {r:Rw} (h:Ord r):lO r:=by
 induction r using Rw.casesOn with
 |push t=>exact (eu t h).2.asc
 |unary op=>exact tn op (List.mem_append_left _ h)
 |binary op=>exact tn op (List.mem_append_right _ h)
 |_=>trivial
theorem N1 {r:Rw} (h:Ord r):oM r=false:=by
 induction r using Rw.casesOn with
 |jump a=>exact h.elim
 |_=>rfl
theorem Ke (r:Rw):gW r<=1:=by induction r using Rw.casesOn<;>exact Nat.le_of_ble_eq_true rfl
theorem Ic {j d:Nat} (hj:j<7) (hd:d<=3+j) {r:Rw} (h:Ord r) (hm:aF r<=d):gG (5+j) (Good (BB (j+1))) (4+j) d (Good (BB j)) [r]:=by
 refine nr (bb j hj ) fun h1 h2 h3 h4 h5=>?_;have:=Ke r;exact .cons hm (by exact ae [_,_] [] [.le (.v 0) (.p (.n 3) (.v 1))] (.le (.v 0) (.p (.n 5) (.v 1))) rfl hd) (N1 h) (GV h) (lD h5) t4 (GQ h (by exact ae [_] [] [.le (.v 0) (.n 1600)] (.le (.v 0) (.n 2150)) rfl h4) h2) (.nil (by exact ae [_,_,_,_,_] [] [.le (.v 3) (.p (.n 3) (.v 2)),.le (.v 1) (.n 1),.e (.p (.v 0) (.v 4)) (.v 3)] (.le (.p (.v 0) (.v 1)) (.p (.n 4) (.v 2))) rfl hd this (Nat.sub_add_cancel (ae [_,_] [] [.le (.v 0) (.v 1)] (.le (.v 0) (.v 1)) rfl hm))) fun s hs=>hs)
theorem iB {r:Rw} {s ts:List Str} (h:ts.length=aF r):a9 r (s++ts)=ts/\keep r (s++ts)=s:=by
 have e:(s++ts).length-aF r=s.length:=by rw [List.length_append];exact Nat.le_antisymm (ae [_,_,_,_] [] [.e (.v 2) (.v 3),.e (.p (.v 0) (.v 3)) (.p (.v 1) (.v 2))] (.le (.v 0) (.v 1)) rfl h (Nat.sub_add_cancel (ae [_,_,_] [] [.f (.v 2) (.v 0)] (.le (.v 0) (.p (.v 1) (.v 2))) rfl h))) (ae [_,_,_,_] [] [.f (.v 2) (.v 3),.f (.p (.v 1) (.v 3)) (.p (.v 0) (.v 2))] (.le (.v 0) (.v 1)) rfl h (Nat.sub_add_cancel (ae [_,_,_] [] [.f (.v 2) (.v 0)] (.le (.v 0) (.p (.v 1) (.v 2))) rfl h)))
 unfold a9 keep;rw [e];exact ⟨by rw [List.drop_append_of_le_length (Nat.le_refl _),List.drop_length];rfl,by rw [List.take_append_of_le_length (Nat.le_refl _),List.take_length]⟩
theorem uG {Q Q':dE} {t:Str} (hc:∀s,Q s->Q' (s++[t])) (hn:Q' []):qa Q Q' (.push t) where
 sK:=fun s _ _=>by
  have e:a9 (.push t) s=[]:=by unfold a9;exact List.drop_length
  rw [e];exact iY rfl (Nat.zero_le _) (fun _ e=>by exact Rw.noConfusion e) (fun t ht=>by cases ht) (Nat.zero_le _) (fun a e=>by cases e)
 flt:=fun s _ _ f e=>by
  have e':aE (.push t) (a9 (.push t) s)=.push t:=by unfold aE;rfl
  rw [e'] at e;exact Ef.noConfusion e
 push:=fun s hs _ v e=>by
  have e':aE (.push t) (a9 (.push t) s)=.push t:=by unfold aE;rfl
  have:keep (.push t) s=s:=by unfold keep;exact List.take_length
  rw [this];rw [e'] at e;obtain rfl:=Ef.push.inj e;exact hc s hs
 pop:=fun s _ _ e=>by
  have e':aE (.push t) (a9 (.push t) s)=.push t:=by unfold aE;rfl
  rw [e'] at e;exact Ef.noConfusion e
 nil:=hn
theorem pE {s:List Str} (h:1<=s.length):∃s1 x,s=s1++[x]:=by
 have cj:s≠[]:=by rintro rfl;cases h
 exact ⟨s.dropLast,s.getLast cj,(List.dropLast_concat_getLast cj).symm⟩
noncomputable def On (Q0:dE) (H:Nat) (ts:List Str):dE:=fun s=>(∃s0,s=s0++ts/\Q0 s0)\/j' H s
theorem wG {bR H:Nat} {ts:List Str} (h:∀t∈ts,Cl t):∀s,On (Good bR) H ts s->∀t∈s,Cl t:=by
 rintro s (⟨s0,rfl,h0⟩|h0) t ht
 ·rcases List.mem_append.mp ht with q|q
  ·exact h0.2 t q
  ·exact h t q
 ·exact (eu t (h0.2 t ht)).2
noncomputable def AB (Q0:dE) (H:Nat) (a b:Str):dE:=fun s=>(∃s0,s=s0++[a,b]/\Q0 s0)\/(∃s0,s=s0++[b]/\j' H s0)\/j' H s
theorem Nh {bR H:Nat} {a b:Str} (ha:Cl a) (hb:Cl b):∀s,AB (Good bR) H a b s->∀t∈s,Cl t:=by
 rintro s (⟨s0,rfl,h0⟩|⟨s0,rfl,h0⟩|h0) t ht
 ·rcases List.mem_append.mp ht with q|q
  ·exact h0.2 t q
  ·simp only [List.mem_cons,List.not_mem_nil,or_false] at q;rcases q with rfl|rfl
   ·exact ha
   ·exact hb
 ·rcases List.mem_append.mp ht with q|q
  ·exact (eu t (h0.2 t q)).2
  ·rw [List.mem_singleton] at q;subst q;exact hb
 ·exact (eu t (h0.2 t ht)).2
noncomputable def ux (op a b:Str) (K:Nat):Prop:=jF (.binary op) [a,b]/\(aE (.binary op) [a,b]).fits K
theorem Al {j d:Nat} (hj:j<7) (hd:d<=3+j) {op a b:Str} (ho:cU op) (ha:Cl a) (hb:Cl b) (h1:ux op a b 160) (h2:∀x∈dF,ux op x b 160) (h3:∀x∈dF,∀y∈dF,ux op x y 400):
 gG (5+j) (Good (BB (j+1))) (4+j) d (Good (BB j)) [.push a,.push b,.binary op]:=by
 refine nr (bb j hj ) fun b1 b2 b3 b4 b5=>?_;have rg:=lD b5;refine .cons (Q':=On (Good (BB j)) (5+j) [a]) (Nat.zero_le _) (by exact ae [_,_] [] [.le (.v 0) (.p (.n 3) (.v 1))] (.le (.v 0) (.p (.n 5) (.v 1))) rfl hd) rfl ha.asc rg t4 (uG (fun s hs=>.inl ⟨s,rfl,hs⟩) (.inr (sD _))) ?_;refine .cons (Q':=AB (Good (BB j)) (5+j) a b) (Nat.zero_le _) (by show d-0+1<=5+j;exact ae [_,_,_] [] [.le (.v 2) (.p (.n 3) (.v 1)),.e (.p (.v 0) (.n 0)) (.v 2)] (.le (.p (.v 0) (.n 1)) (.p (.n 5) (.v 1))) rfl hd (Nat.sub_add_cancel (ae [_] [] [] (.le (.n 0) (.v 0)) rfl))) rfl hb.asc (fun s h=>.inr h) (wG fun t ht=>by rw [List.mem_singleton] at ht;subst ht;exact ha) (uG ?_ (.inr (.inr (sD _)))) ?_
 ·rintro s (⟨s0,rfl,h0⟩|h0)
  ·exact .inl ⟨s0,by rw [List.append_assoc];rfl,h0⟩
  ·exact .inr (.inl ⟨s,rfl,h0⟩)
 refine .cons (Q':=Good (BB (j+1))) (by show 2<=d-0+1-0+1;exact ae [_,_] [] [.f (.p (.v 0) (.n 0)) (.p (.v 1) (.n 1))] (.le (.n 2) (.p (.v 0) (.n 1))) rfl (Nat.sub_add_cancel (ae [_] [] [] (.le (.n 0) (.p (.v 0) (.n 1))) rfl))) (by show d-0+1-0+1<=5+j;exact ae [_,_,_,_] [] [.le (.v 2) (.p (.n 3) (.v 1)),.e (.p (.v 0) (.n 0)) (.p (.v 3) (.n 1)),.e (.p (.v 3) (.n 0)) (.v 2)] (.le (.p (.v 0) (.n 1)) (.p (.n 5) (.v 1))) rfl hd (Nat.sub_add_cancel (ae [_] [] [] (.le (.n 0) (.p (.v 0) (.n 1))) rfl)) (Nat.sub_add_cancel (ae [_] [] [] (.le (.n 0) (.v 0)) rfl))) rfl ho (fun s h=>.inr (.inr h)) (Nh ha hb) (t_ ?_) (.nil (by show d-0+1-0+1-2+1<=4+j;lia) fun s hs=>hs);rintro s (⟨s0,rfl,h0⟩|⟨s0,rfl,h0⟩|h0) hl
 ·refine aK (iB (r:=.binary op) (s:=s0) (ts:=[a,b]) rfl ) fun e1 e2=>?_;rw [e1,e2];exact ⟨h1.1,160,h1.2,by have:=h0.1;exact ae [_,_,_] [] [.le (.p (.v 2) (.n 160)) (.v 1),.le (.v 0) (.v 2)] (.le (.p (.v 0) (.n 160)) (.v 1)) rfl b1 this,h0.2⟩
 ·refine eO (pE (s:=s0) (by rw [List.length_append] at hl;have hl:2<=s0.length+1:=hl;exact ae [_] [] [.le (.n 2) (.p (.v 0) (.n 1))] (.le (.n 1) (.v 0)) rfl hl) ) ?_;rintro s1 x rfl;refine aK (iB (r:=.binary op) (s:=s1) (ts:=[x,b]) rfl ) fun e1 e2=>?_;rw [List.append_assoc,show [x]++[b]=[x,b] from rfl,e1,e2];have hx:=h2 x (h0.2 x (by simp));have hg:=rg s1 (j8 h0);have hw:wt s1<=10*(5+j):=(lD (Nat.le_refl _) s1 (j8 h0)).1;exact ⟨hx.1,160,hx.2,by exact ae [_,_,_] [] [.le (.p (.m 10 (.p (.n 5) (.v 2))) (.n 400)) (.v 1),.le (.v 0) (.m 10 (.p (.n 5) (.v 2)))] (.le (.p (.v 0) (.n 160)) (.v 1)) rfl b3 hw,hg.2⟩
 ·refine eO (pE (s:=s) (by have hl:2<=s.length:=hl;exact ae [_] [] [.le (.n 2) (.v 0)] (.le (.n 1) (.v 0)) rfl hl) ) ?_;rintro s1 y rfl;refine eO (pE (s:=s1) (by rw [List.length_append] at hl;have hl:2<=s1.length+1:=hl;exact ae [_] [] [.le (.n 2) (.p (.v 0) (.n 1))] (.le (.n 1) (.v 0)) rfl hl) ) ?_;rintro s2 x rfl;refine aK (iB (r:=.binary op) (s:=s2) (ts:=[x,y]) rfl ) fun e1 e2=>?_;rw [List.append_assoc,show [x]++[y]=[x,y] from rfl,e1,e2];have hx:=h3 x (h0.2 x (by simp)) y (h0.2 y (by simp));have hg:=rg s2 (j8 (j8 h0));have hw:wt s2<=10*(5+j):=(lD (Nat.le_refl _) s2 (j8 (j8 h0))).1;exact ⟨hx.1,400,hx.2,by exact ae [_,_,_] [] [.le (.p (.m 10 (.p (.n 5) (.v 2))) (.n 400)) (.v 1),.le (.v 0) (.m 10 (.p (.n 5) (.v 2)))] (.le (.p (.v 0) (.n 400)) (.v 1)) rfl b3 hw,hg.2⟩
theorem kA {op a b:Str} {K K':Nat} (h:(∀n O,CF (n+7) "binary" [.str op,.str a,.str b] O=(dq op a b).at O)/\(dq op a b).fits K') (hK:K'<=K) (hw:sz a+sz b<=3000) (ha:Cl a) (hb:Cl b):ux op a b K:=by
 have e:aE (.binary op) [a,b]=(dq op a b).ef:=rfl;refine ⟨iY ⟨a,b,rfl,h.1⟩ (by show 2<=100;decide) (fun _ e=>by exact Rw.noConfusion e) (fun t ht=>?_) (by rw [pq,eN];exact hw) (fun x q=>(qA (e▸q)).elim),?_⟩
 ·simp only [List.mem_cons,List.not_mem_nil,or_false] at ht;rcases ht with rfl|rfl
  ·exact ha
  ·exact hb
 ·rw [e];exact (Oc.rR h.2).mono hK
theorem FD {t:Str} (h:aE .number [t]=.nil):False:=by
 have e:aE .number [t]=(hO t).ef:=rfl;rw [e] at h
 (generalize hu:hO t=zc;induction zc using Oc.casesOn)<;>rw [hu] at h<;>cases h
theorem Bi:∀t∈kf++kQ,sz t<=10/\Cl t:=by
 have h:((kf++kQ).all fun t=>decide (sz t<=10)&&t.cps.toList.all (fun c=>decide (c<128)&&c !=92))=true:=by kernel_rfl
 intro t ht;have h:=List.all_eq_true.mp h t ht;rw [Bool.and_eq_true] at h;exact ⟨of_decide_eq_true h.1,lx h.2⟩
theorem Sn {j d:Nat} (hj:j<7) (hd:d<=3+j) {a b:Str} (ha:sz a<=31) (ca:Cl a) (hb:b∈kf):gG (5+j) (Good (BB (j+1))) (4+j) d (Good (BB j)) [.push a,.push b,.binary "**"]:=by
 refine aK (Bi b (List.mem_append_left _ hb) ) fun b1 b2=>?_;have tl:sz b<=TL:=by show _<=10000;exact ae [_] [] [.le (.v 0) (.n 10)] (.le (.v 0) (.n 10000)) rfl b1
 refine Al hj hd (bZ (by decide+kernel)) ca b2 ?_ (fun x hx=>?_) (fun x hx y hy=>?_)
 ·exact kA (xq (A:=31) (K:=124) (E:=4) ha tl ca b2 (BE b hb) (by decide) (by decide) (by decide)) (by decide) (by exact ae [_,_] [] [.le (.v 0) (.n 31),.le (.v 1) (.n 10)] (.le (.p (.v 0) (.v 1)) (.n 3000)) rfl ha b1) ca b2
 ·refine aK (eu x hx ) fun x1 x2=>?_;exact kA (xq (A:=31) (K:=124) (E:=4) (by exact ae [_] [] [.le (.v 0) (.n 10)] (.le (.v 0) (.n 31)) rfl x1) tl x2 b2 (BE b hb) (by decide) (by decide) (by decide)) (by decide) (by exact ae [_,_] [] [.le (.v 1) (.n 10),.le (.v 0) (.n 10)] (.le (.p (.v 0) (.v 1)) (.n 3000)) rfl b1 x1) x2 b2
 ·refine aK (eu x hx ) fun x1 x2=>?_;refine aK (eu y hy ) fun y1 y2=>?_;exact kA (xq (A:=10) (K:=310) (E:=31) x1 (by show _<=10000;exact ae [_] [] [.le (.v 0) (.n 10)] (.le (.v 0) (.n 10000)) rfl y1) x2 y2 (Se y hy) (by decide) (by decide) (by decide)) (by decide) (by exact ae [_,_] [] [.le (.v 0) (.n 10),.le (.v 1) (.n 10)] (.le (.p (.v 0) (.v 1)) (.n 3000)) rfl x1 y1) x2 y2
theorem Mm {j d:Nat} (hj:j<7) (hd:d<=3+j) {a b:Str} (ha:sz a<=31) (ca:Cl a) (hb:b∈kQ):gG (5+j) (Good (BB (j+1))) (4+j) d (Good (BB j)) [.push a,.push b,.binary "<<"]:=by
 refine aK (Bi b (List.mem_append_right _ hb) ) fun b1 b2=>?_;have tl:sz b<=TL:=by show _<=10000;exact ae [_] [] [.le (.v 0) (.n 10)] (.le (.v 0) (.n 10000)) rfl b1
 refine Al hj hd (bZ (by decide+kernel)) ca b2 ?_ (fun x hx=>?_) (fun x hx y hy=>?_)
 ·exact kA (ye (A:=31) (K:=56) ha tl ca b2 (Df b hb) (by decide) (by decide) (by decide)) (by decide) (by exact ae [_,_] [] [.le (.v 0) (.n 31),.le (.v 1) (.n 10)] (.le (.p (.v 0) (.v 1)) (.n 3000)) rfl ha b1) ca b2
 ·refine aK (eu x hx ) fun x1 x2=>?_;exact kA (ye (A:=31) (K:=56) (by exact ae [_] [] [.le (.v 0) (.n 10)] (.le (.v 0) (.n 31)) rfl x1) tl x2 b2 (Df b hb) (by decide) (by decide) (by decide)) (by decide) (by exact ae [_,_] [] [.le (.v 1) (.n 10),.le (.v 0) (.n 10)] (.le (.p (.v 0) (.v 1)) (.n 3000)) rfl b1 x1) x2 b2
 ·refine aK (eu x hx ) fun x1 x2=>?_;refine aK (eu y hy ) fun y1 y2=>?_;exact kA (ye (A:=10) (K:=35) x1 (by show _<=10000;exact ae [_] [] [.le (.v 0) (.n 10)] (.le (.v 0) (.n 10000)) rfl y1) x2 y2 (H2 y hy) (by decide) (by decide) (by decide)) (by decide) (by exact ae [_,_] [] [.le (.v 0) (.n 10),.le (.v 1) (.n 10)] (.le (.p (.v 0) (.v 1)) (.n 3000)) rfl x1 y1) x2 y2
theorem LO {j d:Nat} (hj:j<7) (hd:d<=3+j) {op:Str} (ho:op∈ki) {m n:Nat} (hm:2<=m) (hn:2<=n) (h:m+n<=2000):gG (5+j) (Good (BB (j+1))) (4+j) d (Good (BB j)) [.push (aT m),.push (aT n),.binary op]:=by
 have sS:op∈mr:=List.mem_append_left _ (List.mem_append_right _ ho);refine fw (qI m hm ) fun m1 m2 _=>?_;refine fw (qI n hn ) fun n1 n2 _=>?_;refine Al hj hd (tn op (List.mem_append_right _ (List.mem_append_right _ sS))) m2 n2 ?_ (fun x hx=>?_) (fun x hx y hy=>?_)
 ·exact kA (sP sS (by exact ae [_,_,_,_] [] [.le (.p (.v 2) (.v 3)) (.n 2000),.e (.v 0) (.v 2),.e (.v 1) (.v 3)] (.le (.p (.v 0) (.v 1)) (.n 9000)) rfl h m1 n1) n2) (by decide) (by exact ae [_,_,_,_] [] [.le (.p (.v 2) (.v 3)) (.n 2000),.e (.v 0) (.v 2),.e (.v 1) (.v 3)] (.le (.p (.v 0) (.v 1)) (.n 3000)) rfl h m1 n1) m2 n2
 ·refine aK (eu x hx ) fun x1 x2=>?_;exact kA (sP sS (by exact ae [_,_,_,_] [] [.le (.p (.v 2) (.v 3)) (.n 2000),.e (.v 1) (.v 3),.le (.v 0) (.n 10)] (.le (.p (.v 0) (.v 1)) (.n 9000)) rfl h n1 x1) n2) (by decide) (by exact ae [_,_,_,_] [] [.le (.p (.v 2) (.v 3)) (.n 2000),.e (.v 1) (.v 3),.le (.v 0) (.n 10)] (.le (.p (.v 0) (.v 1)) (.n 3000)) rfl h n1 x1) x2 n2
 ·refine aK (eu x hx ) fun x1 x2=>?_;refine aK (eu y hy ) fun y1 y2=>?_;exact kA (sP sS (by exact ae [_,_] [] [.le (.v 0) (.n 10),.le (.v 1) (.n 10)] (.le (.p (.v 0) (.v 1)) (.n 9000)) rfl x1 y1) y2) (by decide) (by exact ae [_,_] [] [.le (.v 0) (.n 10),.le (.v 1) (.n 10)] (.le (.p (.v 0) (.v 1)) (.n 3000)) rfl x1 y1) x2 y2
theorem SH {j d:Nat} (hj:j<7) (hd:d<=3+j) {op:Str} (ho:op∈ia) {k:Nat} (hk:2<=k) (pd:k<=2000):gG (5+j) (Good (BB (j+1))) (4+j) d (Good (BB j)) [.push (aT k),.unary op]:=by
 refine nr (bb j hj ) fun b1 b2 b3 b4 b5=>?_;refine fw (qI k hk ) fun k1 k2 _=>?_;have rg:=lD b5;refine .cons (Q':=On (Good (BB j)) (5+j) [aT k]) (Nat.zero_le _) (by exact ae [_,_] [] [.le (.v 0) (.p (.n 3) (.v 1))] (.le (.v 0) (.p (.n 5) (.v 1))) rfl hd) rfl k2.asc rg t4 (uG (fun s hs=>.inl ⟨s,rfl,hs⟩) (.inr (sD _))) ?_;refine .cons (Q':=Good (BB (j+1))) (by show 1<=d-0+1;exact ae [_] [] [] (.le (.n 1) (.p (.v 0) (.n 1))) rfl) (by show d-0+1<=5+j;exact ae [_,_,_] [] [.le (.v 2) (.p (.n 3) (.v 1)),.e (.p (.v 0) (.n 0)) (.v 2)] (.le (.p (.v 0) (.n 1)) (.p (.n 5) (.v 1))) rfl hd (Nat.sub_add_cancel (ae [_] [] [] (.le (.n 0) (.v 0)) rfl))) rfl (tn op (List.mem_append_left _ ho)) (fun s h=>.inr h) (wG fun t ht=>by rw [List.mem_singleton] at ht;subst ht;exact k2) (t_ ?_) (.nil (by show d-0+1-1+1<=4+j;exact ae [_,_,_,_] [] [.le (.v 2) (.p (.n 3) (.v 1)),.e (.p (.v 0) (.n 1)) (.p (.v 3) (.n 1)),.e (.p (.v 3) (.n 0)) (.v 2)] (.le (.p (.v 0) (.n 1)) (.p (.n 4) (.v 1))) rfl hd (Nat.sub_add_cancel (ae [_] [] [] (.le (.n 1) (.p (.v 0) (.n 1))) rfl)) (Nat.sub_add_cancel (ae [_] [] [] (.le (.n 0) (.v 0)) rfl))) fun s hs=>hs);rintro s (⟨s0,rfl,h0⟩|h0) hl
 ·refine aK (iB (r:=.unary op) (s:=s0) (ts:=[aT k]) rfl ) fun e1 e2=>?_;rw [e1,e2];refine aK (N2 op ho k hk pd ) fun u1 u2=>?_;have e:aE (.unary op) [aT k]=(fW op (aT k)).ef:=rfl;refine ⟨iY ⟨_,rfl,u1⟩ (by show 1<=100;decide) (fun eD e=>by obtain rfl:=Rw.unary.inj e;exact DP op ho) (fun t ht=>by rw [List.mem_singleton] at ht;subst ht;exact k2) (by rw [eN];exact ae [_,_] [] [.le (.v 1) (.n 2000),.e (.v 0) (.v 1)] (.le (.v 0) (.n 3000)) rfl pd k1) (fun a q=>(qA (e▸q)).elim),1,?_,by have:=h0.1;exact ae [_,_,_,_] [] [.le (.p (.p (.v 2) (.v 3)) (.n 10)) (.v 1),.le (.v 0) (.v 2)] (.le (.p (.v 0) (.n 1)) (.v 1)) rfl b2 this,h0.2⟩;rw [e];exact Oc.rR u2
 ·refine eO (pE (s:=s) hl ) ?_;rintro s1 x rfl;refine aK (iB (r:=.unary op) (s:=s1) (ts:=[x]) rfl ) fun e1 e2=>?_;rw [e1,e2];refine aK (eu x (h0.2 x (by simp)) ) fun x1 x2=>?_;refine aK (s6 (.unary op) ho [x] rfl (fun t ht=>by rw [List.mem_singleton] at ht;subst ht;exact x2) (by rw [eN];exact ae [_] [] [.le (.v 0) (.n 10)] (.le (.v 0) (.n 2150)) rfl x1) ) fun o1 o2=>?_;have hg:=rg s1 (j8 h0);have hw:wt s1<=10*(5+j):=(lD (Nat.le_refl _) s1 (j8 h0)).1;exact ⟨o1,_,o2,by rw [eN];lia,hg.2⟩
noncomputable def Top (bR K:Nat):dE:=fun s=>s=[]\/∃s0 v,s=s0++[v]/\Good bR s0/\sz v<=K/\Cl v
theorem Rz {j d:Nat} (hj:j<7) (hd:d<=3+j) {k:Nat} (hk:2<=k) (pd:k<=1100):gG (5+j) (Good (BB (j+1))) (4+j) d (Good (BB j)) [.push (aT k),.number,.pop]:=by
 refine nr (bb j hj ) fun b1 b2 b3 b4 b5=>?_;refine fw (qI k hk ) fun k1 k2 _=>?_;have rg:=lD b5;have nk:∀(s0:List Str) (t:Str),sz t<=1100->Cl t->jF .number [t]/\(aE .number [t]).fits 1500:=fun s0 t h1 h2=>by
  refine aK (s6 .number trivial [t] rfl (fun t' ht=>by rw [List.mem_singleton] at ht;subst ht;exact h2) (by rw [eN];exact ae [_] [] [.le (.v 0) (.n 1100)] (.le (.v 0) (.n 2150)) rfl h1) ) fun o1 o2=>?_;exact ⟨o1,o2.mono (by rw [eN];lia)⟩
 have two:∀s,On (Good (BB j)) (5+j) [aT k] s->1<=s.length->∃s0 t,s=s0++[t]/\Good (BB j) s0/\sz t<=1100/\Cl t:=by
  rintro s (⟨s0,rfl,h0⟩|h0) hl
  ·exact ⟨s0,_,rfl,h0,by exact ae [_,_] [] [.le (.v 1) (.n 1100),.e (.v 0) (.v 1)] (.le (.v 0) (.n 1100)) rfl pd k1,k2⟩
  ·refine eO (pE (s:=s) hl ) ?_;rintro s1 x rfl;refine aK (eu x (h0.2 x (by simp)) ) fun x1 x2=>?_;exact ⟨s1,x,rfl,rg s1 (j8 h0),by exact ae [_] [] [.le (.v 0) (.n 10)] (.le (.v 0) (.n 1100)) rfl x1,x2⟩
 refine .cons (Q':=On (Good (BB j)) (5+j) [aT k]) (Nat.zero_le _) (by exact ae [_,_] [] [.le (.v 0) (.p (.n 3) (.v 1))] (.le (.v 0) (.p (.n 5) (.v 1))) rfl hd) rfl k2.asc rg t4 (uG (fun s hs=>.inl ⟨s,rfl,hs⟩) (.inr (sD _))) ?_;refine .cons (Q':=Top (BB j) 1500) (by show 1<=d-0+1;exact ae [_] [] [] (.le (.n 1) (.p (.v 0) (.n 1))) rfl) (by show d-0+1<=5+j;exact ae [_,_,_] [] [.le (.v 2) (.p (.n 3) (.v 1)),.e (.p (.v 0) (.n 0)) (.v 2)] (.le (.p (.v 0) (.n 1)) (.p (.n 5) (.v 1))) rfl hd (Nat.sub_add_cancel (ae [_] [] [] (.le (.n 0) (.v 0)) rfl))) rfl trivial (fun s h=>.inr h) (wG fun t ht=>by rw [List.mem_singleton] at ht;subst ht;exact k2) ?_ ?_
 ·constructor
  ·intro s hs hl;refine oP (two s hs hl ) ?_;rintro s0 t rfl h1 h2 h3;rw [(iB (r:=.number) (s:=s0) (ts:=[t]) rfl).1];exact (nk s0 t h2 h3).1
  ·intro s hs hl f e;refine oP (two s hs hl ) ?_;rintro s0 t rfl h1 h2 h3;rw [(iB (r:=.number) (s:=s0) (ts:=[t]) rfl).1] at e;have h:=(nk s0 t h2 h3).2;rw [e] at h;exact h
  ·intro s hs hl v e;refine oP (two s hs hl ) ?_;rintro s0 t rfl h1 h2 h3;rw [(iB (r:=.number) (s:=s0) (ts:=[t]) rfl).1] at e;rw [(iB (r:=.number) (s:=s0) (ts:=[t]) rfl).2];have h:=(nk s0 t h2 h3).2;rw [e] at h;exact .inr ⟨s0,v,rfl,h1,h.1,h.2⟩
  ·intro s hs hl e;refine oP (two s hs hl ) ?_;rintro s0 t rfl h1 h2 h3;rw [(iB (r:=.number) (s:=s0) (ts:=[t]) rfl).1] at e;exact (FD e).elim
  ·exact .inl rfl
 refine .cons (Q':=Good (BB (j+1))) (by show 1<=d-0+1-1+1;exact ae [_] [] [] (.le (.n 1) (.p (.v 0) (.n 1))) rfl) (by show d-0+1-1+1<=5+j;exact ae [_,_,_,_] [] [.le (.v 2) (.p (.n 3) (.v 1)),.e (.p (.v 0) (.n 1)) (.p (.v 3) (.n 1)),.e (.p (.v 3) (.n 0)) (.v 2)] (.le (.p (.v 0) (.n 1)) (.p (.n 5) (.v 1))) rfl hd (Nat.sub_add_cancel (ae [_] [] [] (.le (.n 1) (.p (.v 0) (.n 1))) rfl)) (Nat.sub_add_cancel (ae [_] [] [] (.le (.n 0) (.v 0)) rfl))) rfl trivial ?_ ?_ (t_ ?_) (.nil (by show d-0+1-1+1-1+0<=4+j;lia) fun s hs=>hs)
 ·intro s hs;by_cases hl:1<=s.length
  ·refine eO (pE (s:=s) hl ) ?_;rintro s1 x rfl;refine aK (eu x (hs.2 x (by simp)) ) fun x1 x2=>?_;exact .inr ⟨s1,x,rfl,rg s1 (j8 hs),by exact ae [_] [] [.le (.v 0) (.n 10)] (.le (.v 0) (.n 1500)) rfl x1,x2⟩
  ·exact .inl (List.eq_nil_of_length_eq_zero (by exact Nat.le_antisymm (ae [_] [] [.lt (.v 0) (.n 1)] (.le (.v 0) (.n 0)) rfl (Nat.lt_of_not_le hl)) (ae [_] [] [] (.le (.n 0) (.v 0)) rfl)))
 ·rintro s (rfl|⟨s0,v,rfl,h1,h2,h3⟩) t ht
  ·cases ht
  ·rcases List.mem_append.mp ht with q|q
   ·exact h1.2 t q
   ·rw [List.mem_singleton] at q;subst q;exact h3
 ·rintro s (rfl|⟨s0,v,rfl,h1,h2,h3⟩) hl
  ·exact absurd hl (by show ¬(1<=0);decide)
  ·refine aK (iB (r:=.pop) (s:=s0) (ts:=[v]) rfl ) fun e1 e2=>?_;rw [e1,e2];refine aK (s6 .pop trivial [v] rfl (fun t' ht=>by rw [List.mem_singleton] at ht;subst ht;exact h3) (by rw [eN];exact ae [_] [] [.le (.v 0) (.n 1500)] (.le (.v 0) (.n 2150)) rfl h2) ) fun o1 o2=>?_;refine ⟨o1,0,?_,by have:=h1.1;exact ae [_,_,_,_] [] [.le (.p (.p (.v 2) (.v 3)) (.n 10)) (.v 1),.le (.v 0) (.v 2)] (.le (.p (.v 0) (.n 0)) (.v 1)) rfl b2 this,h1.2⟩;have e:aE .pop [v]=.nil:=by unfold aE;rfl
   rw [e];trivial
theorem yd {i:Int} {k:Nat} (hi:i=(k:Int)) (hk:k<=2000) (O:B):ct .Mult (.str "a") (.int i) O=.ok (.str (aT k)) O:=by
 subst hi;have hl:("a" : Str).length=1:=by kernel_rfl
 show (bif true&&decide (0<=(k:Int))&&decide ((k:Int)<=1000000)&&decide (("a" : Str).length<=16)&&bd (("a" : Str).length*(k:Int).toNat) then R.ok (V.str (Txt.mul "a" (k:Int))) O else .stuck)=_;rw [hl,decide_eq_true (by exact ae [_] [] [] (.aJ (.k 0) (.c (.v 0))) rfl),decide_eq_true (by exact ae [_] [] [.le (.v 0) (.n 2000)] (.aJ (.c (.v 0)) (.k 1000000)) rfl hk),cR (by exact ae [_,_] [] [.le (.v 1) (.n 2000),.ie (.c (.v 0)) (.c (.v 1))] (.le (.m 1 (.v 0)) (.n 1048576)) rfl hk (Int.toNat_of_nonneg (ae [_] [] [] (.aJ (.k 0) (.c (.v 0))) rfl)))];rfl
noncomputable def tT (aq:List Rw):Prop:=(∃op∈ki,∃m n,2<=m/\2<=n/\m+n<=2000/\aq=[.push (aT m),.push (aT n),.binary op])\/(∃op∈ia,∃k,2<=k/\k<=1100/\aq=[.push (aT k),.unary op])\/(∃k,2<=k/\k<=1100/\aq=[.push (aT k),.number,.pop])
theorem Ow (n:Nat) (p:Int) (O:B):∃aq,CF (n+1) "_law_long" [.int p] O=.ok (.lst (aq.map rv)) O/\tT aq:=by
 refine bH (P:=fun q=>∃aq:List Rw,q=.ok (.lst (aq.map rv)) O/\tT aq) (f:=aP "_law_long") (J:=[("pick",.int p)]) (by kernel_rfl) (by kernel_rfl) (by kernel_rfl) ?_;have hm:=fB (a:=p) (b:=4) (by decide);have hs:=fB (a:=p.fdiv 4) (b:=3) (by decide);have h6:=fB (a:=p.fdiv 12) (b:=6) (by decide);have h4:=fB (a:=p.fdiv 12) (b:=4) (by decide);refine aB (Int.eq_ofNat_of_zero_le hm.1 ) fun k hk=>?_;have qe:k<4:=by exact ae [_] [_] [.aY (.w 0) (.k 4),.jf (.w 0) (.c (.v 0))] (.lt (.v 0) (.n 4)) rfl hm.2 hk
 refine Run.bK (eW (a:=p) (by decide)) (Run.bK (jR (a:=p) (by decide) (by decide)) (Run.bK (eW (by decide)) ?_));refine Run.br (fun h=>?_) (fun h=>?_)
 ·refine Run.ok (yd (k:=500) rfl (by decide) _) (Run.ok (yd (k:=499+k) (by exact Int.le_antisymm (ae [_] [_] [.ie (.w 0) (.c (.v 0))] (.aJ (.s (.p (.k 999) (.w 0)) (.k 500)) (.c (.p (.n 499) (.v 0)))) rfl hk) (ae [_] [_] [.jf (.w 0) (.c (.v 0))] (.aJ (.c (.p (.n 499) (.v 0))) (.s (.p (.k 999) (.w 0)) (.k 500))) rfl hk)) (by exact ae [_] [] [.lt (.v 0) (.n 4)] (.le (.p (.n 499) (.v 0)) (.n 2000)) rfl qe) _) (Run.bK (jR (a:=p) (by decide) (by decide)) (Run.bK (eW (by decide)) ?_)));refine aw (mZ (O:=[sl ki,.list [rv (.push (aT 500)),rv (.push (aT (499+k)))]]) (k:=0) (ts:=ki) rfl h6.1 h6.2 (by decide) ) fun op ho e=>?_;refine Run.ok e (Run.bK (gp (l:=[rv (.push (aT 500)),rv (.push (aT (499+k)))]) (m:=[rv (.binary op)]) rfl rfl (by simp)) (Run.leaf ⟨[.push (aT 500),.push (aT (499+k)),.binary op],db rfl,.inl ⟨op,ho,500,499+k,by exact ae [] [] [] (.le (.n 2) (.n 500)) rfl,by exact ae [_] [] [] (.le (.n 2) (.p (.n 499) (.v 0))) rfl,by exact ae [_] [] [.lt (.v 0) (.n 4)] (.le (.p (.n 500) (.p (.n 499) (.v 0))) (.n 2000)) rfl qe,rfl⟩⟩))
 ·refine Run.ok (yd (k:=999+k) (by exact Int.le_antisymm (ae [_] [_] [.ie (.w 0) (.c (.v 0))] (.aJ (.p (.k 999) (.w 0)) (.c (.p (.n 999) (.v 0)))) rfl hk) (ae [_] [_] [.jf (.w 0) (.c (.v 0))] (.aJ (.c (.p (.n 999) (.v 0))) (.p (.k 999) (.w 0))) rfl hk)) (by exact ae [_] [] [.lt (.v 0) (.n 4)] (.le (.p (.n 999) (.v 0)) (.n 2000)) rfl qe) _) (Run.br (fun h1=>?_) (fun h1=>?_))
  ·refine Run.bK (jR (a:=p) (by decide) (by decide)) (Run.bK (eW (by decide)) ?_);refine aw (Dy (O:=[.list [rv (.push (aT (999+k)))]]) (x:= "!-~+") h4.1 h4.2 (by decide) ) fun c hc e=>?_;have ho:(⟨#[c]⟩:Str)∈ia:=by
    have h:(("!-~+" : Str).cps.toList.all fun c=>ia.any fun o=>o.cps.toList==[c])=true:=by kernel_rfl
    have h:=List.all_eq_true.mp h c hc;refine aw (List.any_eq_true.mp h ) fun o h1 h2=>?_;have h2:o.cps.toList=[c]:=by simpa using h2
    have h3:o=⟨#[c]⟩:=by
     induction o using Str.casesOn with
     |mk cps=>exact congrArg Str.mk (Array.toList_inj.mp (by rw [h2]))
    rw [<- h3];exact h1
   refine Run.ok e (Run.bK (gp (l:=[rv (.push (aT (999+k)))]) (m:=[rv (.unary ⟨#[c]⟩)]) rfl rfl (by simp)) (Run.leaf ⟨[.push (aT (999+k)),.unary ⟨#[c]⟩],db rfl,.inr (.inl ⟨_,ho,999+k,by exact ae [_] [] [] (.le (.n 2) (.p (.n 999) (.v 0))) rfl,by exact ae [_] [] [.lt (.v 0) (.n 4)] (.le (.p (.n 999) (.v 0)) (.n 1100)) rfl qe,rfl⟩)⟩))
  ·exact Run.bK (gp (l:=[rv (.push (aT (999+k)))]) (m:=[rv .number,rv .pop]) rfl rfl (by simp)) (Run.leaf ⟨[.push (aT (999+k)),.number,.pop],db rfl,.inr (.inr ⟨999+k,by exact ae [_] [] [] (.le (.n 2) (.p (.n 999) (.v 0))) rfl,by exact ae [_] [] [.lt (.v 0) (.n 4)] (.le (.p (.n 999) (.v 0)) (.n 1100)) rfl qe,rfl⟩)⟩)
theorem Lh {j d:Nat} (hj:j<7) (hd:d<=3+j) {aq:List Rw} (h:tT aq):gG (5+j) (Good (BB (j+1))) (4+j) d (Good (BB j)) aq:=by
 rcases h with ⟨op,ho,m,n,h1,h2,h3,rfl⟩|⟨op,ho,k,h1,h2,rfl⟩|⟨k,h1,h2,rfl⟩
 ·exact LO hj hd ho h1 h2 h3
 ·exact SH hj hd ho h1 (by exact ae [_] [] [.le (.v 0) (.n 1100)] (.le (.v 0) (.n 2000)) rfl h2)
 ·exact Rz hj hd h1 h2
noncomputable def fZ:List Str:=["+","/","==","in","-","%","<=","lt","*",">>","!=","ni","&","|","^","<",">",">=","eq","ne","gt","le","ge"]
theorem Dm:∀op∈fZ,op∈jz++mr:=by
 have h:(fZ.all fun op=>(jz++mr).any fun o=>o.cps.toList==op.cps.toList)=true:=by kernel_rfl
 intro op ho;refine aw (List.any_eq_true.mp (List.all_eq_true.mp h op ho) ) fun o h1 h2=>?_;have h2:o.cps.toList=op.cps.toList:=by simpa using h2
 have h3:o=op:=by
  induction o using Str.casesOn with
  |mk a=>induction op using Str.casesOn with
   |mk b=>exact congrArg Str.mk (Array.toList_inj.mp h2)
 rw [<- h3];exact h1
theorem Om {x:Str} {ts:List Str} (h:(x.cps.toList.all fun c=>ts.any fun o=>o.cps.toList==[c])=true):∀c∈x.cps.toList,(⟨#[c]⟩:Str)∈ts:=fun c hc=>by
 refine aw (List.any_eq_true.mp (List.all_eq_true.mp h c hc) ) fun o h1 h2=>?_;have h2:o.cps.toList=[c]:=by simpa using h2
 have h3:o=⟨#[c]⟩:=by
  induction o using Str.casesOn with
  |mk cps=>exact congrArg Str.mk (Array.toList_inj.mp (by rw [h2]))
 rw [<- h3];exact h1
noncomputable def DY (d:Nat) (aq:List Rw):Prop:=aq.length<=3/\∀j,j<7->d<=3+j->gG (5+j) (Good (BB (j+1))) (4+j) d (Good (BB j)) aq
theorem d8 {d:Nat} {r:Rw} (h:Ord r) (hm:aF r<=d):DY d [r]:=⟨by simp,fun _ hj hd=>Ic hj hd h hm⟩
theorem MJ {aq:List Rw} (h:tT aq):aq.length<=3:=by
 rcases h with ⟨op,_,m,n,_,_,_,rfl⟩|⟨op,_,k,_,_,rfl⟩|⟨k,_,_,rfl⟩<;>simp
noncomputable abbrev dm (d:Nat) (O:B) (q:R V):Prop:=∃aq:List Rw,q=.ok (.lst (aq.map rv)) O/\DY d aq
section
variable (n:Nat) (p:Int) (d:Nat) (O:B)
theorem Hu:dm d O (CF (n+2) "_law_piece" [.int 0,.int p,.int d] O):=by
 refine bH (P:=dm d O) (f:=aP "_law_piece") (J:=[("kind",.int 0),("pick",.int p),("depth",.int d)]) (by kernel_rfl) (by kernel_rfl) (by kernel_rfl) ?_;refine Run.ah rfl (Run.ah rfl (Run.ok (v:=.bool false) (O:=[.list [.int 4,.int 5]]) (by kernel_rfl) (Run.ah rfl (Run.ah rfl ?_))));refine Run.ah rfl (Run.ah rfl ?_);refine aw (gX n p [.list [.int 4,.int 5]] ) fun t ht e=>?_;exact Run.call e (Run.leaf ⟨[.push t],db rfl,d8 ht (Nat.zero_le _)⟩)
theorem R0:dm d O (CF (n+2) "_law_piece" [.int 1,.int p,.int d] O):=by
 refine bH (P:=dm d O) (f:=aP "_law_piece") (J:=[("kind",.int 1),("pick",.int p),("depth",.int d)]) (by kernel_rfl) (by kernel_rfl) (by kernel_rfl) ?_;refine Run.ah rfl (Run.ah rfl (Run.ok (v:=.bool false) (O:=[.list [.int 4,.int 5]]) (by kernel_rfl) (Run.ah rfl (Run.ah rfl ?_))));refine Run.ah rfl (Run.ah rfl ?_);refine aw (gX n p [.list [.int 4,.int 5]] ) fun t ht e=>?_;exact Run.call e (Run.leaf ⟨[.push t],db rfl,d8 ht (Nat.zero_le _)⟩)
theorem Jw:dm d O (CF (n+2) "_law_piece" [.int 2,.int p,.int d] O):=by
 refine bH (P:=dm d O) (f:=aP "_law_piece") (J:=[("kind",.int 2),("pick",.int p),("depth",.int d)]) (by kernel_rfl) (by kernel_rfl) (by kernel_rfl) ?_;refine Run.ah rfl (Run.ah rfl (Run.ok (v:=.bool false) (O:=[.list [.int 4,.int 5]]) (by kernel_rfl) (Run.ah rfl (Run.ah rfl ?_))));refine Run.ah rfl (Run.ah rfl ?_);refine aw (gX n p [.list [.int 4,.int 5]] ) fun t ht e=>?_;exact Run.call e (Run.leaf ⟨[.push t],db rfl,d8 ht (Nat.zero_le _)⟩)
theorem JW:dm d O (CF (n+2) "_law_piece" [.int 3,.int p,.int d] O):=by
 refine bH (P:=dm d O) (f:=aP "_law_piece") (J:=[("kind",.int 3),("pick",.int p),("depth",.int d)]) (by kernel_rfl) (by kernel_rfl) (by kernel_rfl) ?_;refine Run.ah rfl (Run.ah rfl (Run.ok (v:=.bool false) (O:=[.list [.int 4,.int 5]]) (by kernel_rfl) (Run.ah rfl (Run.ah rfl ?_))));refine Run.au rfl (Run.br (fun h=>?_) (fun h=>?_))
 ·have h:=of_decide_eq_true h;refine Run.au rfl ?_;have hm:=fB (a:=p) (b:=4) (by decide);refine Run.au rfl (Run.bK (eW (a:=p) (by decide)) ?_);refine aw (Dy (O:=[.list [.int 4,.int 5]]) (x:= "-+~!") hm.1 hm.2 (by decide) ) fun c hc e=>?_;exact Run.ok e (Run.leaf ⟨[.unary ⟨#[c]⟩],db rfl,d8 (r:=.unary ⟨#[c]⟩) (Om (x:= "-+~!") (ts:=ia) (by kernel_rfl) c hc) (by show 1<=d;lia)⟩)
 ·refine Run.ah rfl ?_;refine aw (gX n p [.list [.int 4,.int 5]] ) fun t ht e=>?_;exact Run.call e (Run.leaf ⟨[.push t],db rfl,d8 ht (Nat.zero_le _)⟩)
theorem KY:dm d O (CF (n+2) "_law_piece" [.int 4,.int p,.int d] O):=by
 refine bH (P:=dm d O) (f:=aP "_law_piece") (J:=[("kind",.int 4),("pick",.int p),("depth",.int d)]) (by kernel_rfl) (by kernel_rfl) (by kernel_rfl) ?_;refine Run.ah rfl (Run.ah rfl (Run.ok (v:=.bool true) (O:=[.list [.int 4,.int 5]]) (by kernel_rfl) (Run.au rfl (Run.br (fun h=>?_) (fun h=>?_)))))
 ·have h:=of_decide_eq_true h;have hm:=fB (a:=p) (b:=23) (by decide);refine Run.au rfl (Run.ok (v:=.loc 3) (O:=[.list [.int 4,.int 5],sl (fZ.take 18),sl (fZ.drop 18),sl fZ]) (by kernel_rfl) (Run.bK (eW (a:=p) (by decide)) ?_));refine aw (mZ (O:=[.list [.int 4,.int 5],sl (fZ.take 18),sl (fZ.drop 18),sl fZ]) (k:=3) (ts:=fZ) rfl hm.1 hm.2 (by decide) ) fun op ho e=>?_;exact Run.ok e (Run.leaf ⟨[.binary op],db rfl,d8 (r:=.binary op) (Dm op ho) (by show 2<=d;lia)⟩)
 ·refine Run.ah rfl (Run.au rfl (Run.br (fun h1=>?_) (fun h1=>?_)))
  ·refine Run.au rfl (Run.ah rfl (Run.ok (v:=.bool false) (O:=[.list [.int 4,.int 5],.list [.int 6,.int 7,.int 9]]) (by kernel_rfl) (Run.ah rfl (Run.ah rfl (Run.ah rfl ?_)))));refine aw (gX n p [.list [.int 4,.int 5],.list [.int 6,.int 7,.int 9]] ) fun t ht e=>?_;exact Run.call e (Run.leaf ⟨[.push t],db rfl,d8 ht (Nat.zero_le _)⟩)
  ·refine Run.ah rfl ?_;refine aw (gX n p [.list [.int 4,.int 5]] ) fun t ht e=>?_;exact Run.call e (Run.leaf ⟨[.push t],db rfl,d8 ht (Nat.zero_le _)⟩)
theorem JG:dm d O (CF (n+2) "_law_piece" [.int 5,.int p,.int d] O):=by
 refine bH (P:=dm d O) (f:=aP "_law_piece") (J:=[("kind",.int 5),("pick",.int p),("depth",.int d)]) (by kernel_rfl) (by kernel_rfl) (by kernel_rfl) ?_;refine Run.ah rfl (Run.ah rfl (Run.ok (v:=.bool true) (O:=[.list [.int 4,.int 5]]) (by kernel_rfl) (Run.au rfl (Run.br (fun h=>?_) (fun h=>?_)))))
 ·have h:=of_decide_eq_true h;have hm:=fB (a:=p) (b:=23) (by decide);refine Run.au rfl (Run.ok (v:=.loc 3) (O:=[.list [.int 4,.int 5],sl (fZ.take 18),sl (fZ.drop 18),sl fZ]) (by kernel_rfl) (Run.bK (eW (a:=p) (by decide)) ?_));refine aw (mZ (O:=[.list [.int 4,.int 5],sl (fZ.take 18),sl (fZ.drop 18),sl fZ]) (k:=3) (ts:=fZ) rfl hm.1 hm.2 (by decide) ) fun op ho e=>?_;exact Run.ok e (Run.leaf ⟨[.binary op],db rfl,d8 (r:=.binary op) (Dm op ho) (by show 2<=d;lia)⟩)
 ·refine Run.ah rfl (Run.au rfl (Run.br (fun h1=>?_) (fun h1=>?_)))
  ·refine Run.au rfl (Run.ah rfl (Run.ok (v:=.bool false) (O:=[.list [.int 4,.int 5],.list [.int 6,.int 7,.int 9]]) (by kernel_rfl) (Run.ah rfl (Run.ah rfl (Run.ah rfl ?_)))));refine aw (gX n p [.list [.int 4,.int 5],.list [.int 6,.int 7,.int 9]] ) fun t ht e=>?_;exact Run.call e (Run.leaf ⟨[.push t],db rfl,d8 ht (Nat.zero_le _)⟩)
  ·refine Run.ah rfl ?_;refine aw (gX n p [.list [.int 4,.int 5]] ) fun t ht e=>?_;exact Run.call e (Run.leaf ⟨[.push t],db rfl,d8 ht (Nat.zero_le _)⟩)
theorem KW:dm d O (CF (n+2) "_law_piece" [.int 6,.int p,.int d] O):=by
 refine bH (P:=dm d O) (f:=aP "_law_piece") (J:=[("kind",.int 6),("pick",.int p),("depth",.int d)]) (by kernel_rfl) (by kernel_rfl) (by kernel_rfl) ?_;refine Run.ah rfl (Run.ah rfl (Run.ok (v:=.bool false) (O:=[.list [.int 4,.int 5]]) (by kernel_rfl) (Run.ah rfl (Run.ah rfl ?_))));refine Run.au rfl (Run.br (fun h=>?_) (fun h=>?_))
 ·have h:=of_decide_eq_true h;refine Run.au rfl ?_;refine Run.ah rfl (Run.ok (v:=.bool true) (O:=[.list [.int 4,.int 5],.list [.int 6,.int 7,.int 9]]) (by kernel_rfl) (Run.au rfl ?_));exact Run.leaf ⟨[.truth],db rfl,d8 (r:=.truth) trivial (by show 1<=d;lia)⟩
 ·refine Run.ah rfl ?_;refine aw (gX n p [.list [.int 4,.int 5]] ) fun t ht e=>?_;exact Run.call e (Run.leaf ⟨[.push t],db rfl,d8 ht (Nat.zero_le _)⟩)
theorem NB:dm d O (CF (n+2) "_law_piece" [.int 7,.int p,.int d] O):=by
 refine bH (P:=dm d O) (f:=aP "_law_piece") (J:=[("kind",.int 7),("pick",.int p),("depth",.int d)]) (by kernel_rfl) (by kernel_rfl) (by kernel_rfl) ?_;refine Run.ah rfl (Run.ah rfl (Run.ok (v:=.bool false) (O:=[.list [.int 4,.int 5]]) (by kernel_rfl) (Run.ah rfl (Run.ah rfl ?_))));refine Run.au rfl (Run.br (fun h=>?_) (fun h=>?_))
 ·have h:=of_decide_eq_true h;refine Run.au rfl ?_;refine Run.ah rfl (Run.ok (v:=.bool true) (O:=[.list [.int 4,.int 5],.list [.int 6,.int 7,.int 9]]) (by kernel_rfl) (Run.au rfl ?_));exact Run.leaf ⟨[.number],db rfl,d8 (r:=.number) trivial (by show 1<=d;lia)⟩
 ·refine Run.ah rfl ?_;refine aw (gX n p [.list [.int 4,.int 5]] ) fun t ht e=>?_;exact Run.call e (Run.leaf ⟨[.push t],db rfl,d8 ht (Nat.zero_le _)⟩)
theorem HV:dm d O (CF (n+2) "_law_piece" [.int 8,.int p,.int d] O):=by
 refine bH (P:=dm d O) (f:=aP "_law_piece") (J:=[("kind",.int 8),("pick",.int p),("depth",.int d)]) (by kernel_rfl) (by kernel_rfl) (by kernel_rfl) ?_;refine Run.ah rfl (Run.ah rfl (Run.ok (v:=.bool false) (O:=[.list [.int 4,.int 5]]) (by kernel_rfl) (Run.ah rfl (Run.ah rfl ?_))));refine Run.au rfl (Run.br (fun h=>?_) (fun h=>?_))
 ·have h:=of_decide_eq_true h;refine Run.au rfl ?_;have hm:=fB (a:=p) (b:=4) (by decide);refine aB (Int.eq_ofNat_of_zero_le hm.1 ) fun i hi=>?_;refine Run.ah rfl (Run.ok (v:=.bool false) (O:=[.list [.int 4,.int 5],.list [.int 6,.int 7,.int 9]]) (by kernel_rfl) (Run.ah rfl (Run.au rfl (Run.bK (eW (a:=p) (by decide)) ?_))));have e:cM (.builtin "min") [.int d,.int (1+p.fmod 4)] [.list [.int 4,.int 5],.list [.int 6,.int 7,.int 9]]=.ok (.int (min d (1+i):Nat)) [.list [.int 4,.int 5],.list [.int 6,.int 7,.int 9]]:=by
   show R.ok (V.int (bif decide (1+p.fmod 4<(d:Int)) then 1+p.fmod 4 else (d:Int))) _=_;rw [hi];by_cases q:1+i<d
   ·rw [decide_eq_true (by exact ae [_,_] [] [.lt (.p (.n 1) (.v 0)) (.v 1)] (.aY (.p (.k 1) (.c (.v 0))) (.c (.v 1))) rfl q),Nat.min_eq_right (by exact ae [_,_] [] [.lt (.p (.n 1) (.v 0)) (.v 1)] (.le (.p (.n 1) (.v 0)) (.v 1)) rfl q)];rfl
   ·rw [decide_eq_false (by exact fun zz=>Nat.lt_irrefl 0 (ae [_,_] [] [.le (.v 0) (.p (.n 1) (.v 1)),.aY (.p (.k 1) (.c (.v 1))) (.c (.v 0))] (.lt (.n 0) (.n 0)) rfl (Nat.le_of_not_lt q) zz)),Nat.min_eq_left (by exact ae [_,_] [] [.le (.v 0) (.p (.n 1) (.v 1))] (.le (.v 0) (.p (.n 1) (.v 1))) rfl (Nat.le_of_not_lt q))];rfl
  exact Run.ok e (Run.leaf ⟨[.join (min d (1+i))],db rfl,d8 (r:=.join (min d (1+i))) ⟨by omega,by omega⟩ (by show min d (1+i)<=d;omega)⟩)
 ·refine Run.ah rfl ?_;refine aw (gX n p [.list [.int 4,.int 5]] ) fun t ht e=>?_;exact Run.call e (Run.leaf ⟨[.push t],db rfl,d8 ht (Nat.zero_le _)⟩)
theorem Ml:dm d O (CF (n+2) "_law_piece" [.int 9,.int p,.int d] O):=by
 refine bH (P:=dm d O) (f:=aP "_law_piece") (J:=[("kind",.int 9),("pick",.int p),("depth",.int d)]) (by kernel_rfl) (by kernel_rfl) (by kernel_rfl) ?_;refine Run.ah rfl (Run.ah rfl (Run.ok (v:=.bool false) (O:=[.list [.int 4,.int 5]]) (by kernel_rfl) (Run.ah rfl (Run.ah rfl ?_))));refine Run.au rfl (Run.br (fun h=>?_) (fun h=>?_))
 ·have h:=of_decide_eq_true h;refine Run.au rfl ?_;refine Run.ah rfl (Run.ok (v:=.bool true) (O:=[.list [.int 4,.int 5],.list [.int 6,.int 7,.int 9]]) (by kernel_rfl) (Run.au rfl ?_));exact Run.leaf ⟨[.pop],db rfl,d8 (r:=.pop) trivial (by show 1<=d;lia)⟩
 ·refine Run.ah rfl ?_;refine aw (gX n p [.list [.int 4,.int 5]] ) fun t ht e=>?_;exact Run.call e (Run.leaf ⟨[.push t],db rfl,d8 ht (Nat.zero_le _)⟩)
theorem Iv:dm d O (CF (n+2) "_law_piece" [.int 10,.int p,.int d] O):=by
 refine bH (P:=dm d O) (f:=aP "_law_piece") (J:=[("kind",.int 10),("pick",.int p),("depth",.int d)]) (by kernel_rfl) (by kernel_rfl) (by kernel_rfl) ?_;refine Run.ah rfl (Run.ah rfl (Run.ok (v:=.bool false) (O:=[.list [.int 4,.int 5]]) (by kernel_rfl) (Run.ah rfl (Run.ah rfl ?_))));refine Run.au rfl (Run.br (fun h=>?_) (fun h=>?_))
 ·have h:=of_decide_eq_true h;refine Run.au rfl ?_;have hm:=fB (a:=p) (b:=2) (by decide);have h5:=fB (a:=p.fdiv 2) (b:=5) (by decide);refine aB (Int.eq_ofNat_of_zero_le h5.1 ) fun i hi=>?_;refine Run.ah rfl (Run.ok (v:=.bool false) (O:=[.list [.int 4,.int 5],.list [.int 6,.int 7,.int 9]]) (by kernel_rfl) (Run.ah rfl (Run.ah rfl (Run.au rfl (Run.bK (eW (a:=p) (by decide)) ?_)))));rcases (show p.fmod 2=0\/p.fmod 2=1 by lia) with e0|e0
  ·rw [e0];refine Run.ok (v:=.str "jump_true") (O:=[.list [.int 4,.int 5],.list [.int 6,.int 7,.int 9],sl ["jump_true","jump_false"]]) (by kernel_rfl) (Run.bK (jR (a:=p) (by decide) (by decide)) (Run.bK (eW (by decide)) ?_));rw [hi];exact Run.leaf ⟨[.jt (1+i)],db rfl,d8 (r:=.jt (1+i)) (by show 1<=1+i;exact ae [_] [] [] (.le (.n 1) (.p (.n 1) (.v 0))) rfl) (by show 1<=d;lia)⟩
  ·rw [e0];refine Run.ok (v:=.str "jump_false") (O:=[.list [.int 4,.int 5],.list [.int 6,.int 7,.int 9],sl ["jump_true","jump_false"]]) (by kernel_rfl) (Run.bK (jR (a:=p) (by decide) (by decide)) (Run.bK (eW (by decide)) ?_));rw [hi];exact Run.leaf ⟨[.jf (1+i)],db rfl,d8 (r:=.jf (1+i)) (by show 1<=1+i;exact ae [_] [] [] (.le (.n 1) (.p (.n 1) (.v 0))) rfl) (by show 1<=d;lia)⟩
 ·refine Run.ah rfl ?_;refine aw (gX n p [.list [.int 4,.int 5]] ) fun t ht e=>?_;exact Run.call e (Run.leaf ⟨[.push t],db rfl,d8 ht (Nat.zero_le _)⟩)
theorem Nk:dm d O (CF (n+2) "_law_piece" [.int 11,.int p,.int d] O):=by
 refine bH (P:=dm d O) (f:=aP "_law_piece") (J:=[("kind",.int 11),("pick",.int p),("depth",.int d)]) (by kernel_rfl) (by kernel_rfl) (by kernel_rfl) ?_;have hm:=fB (a:=p) (b:=2) (by decide);refine Run.au rfl (Run.bK (eW (a:=p) (by decide)) ?_);rcases (show p.fmod 2=0\/p.fmod 2=1 by lia) with e0|e0
 ·rw [e0];refine Run.ok (v:=.str "**") (O:=[sl ["**","<<"]]) (by kernel_rfl) (Run.bK (jR (a:=p) (by decide) (by decide)) ?_);refine gR (Bk n (p.fdiv 2) [sl ["**","<<"]] ) fun b hb b1 b2=>?_;refine Run.call hb (Run.bK (jR (a:=p) (by decide) (by decide)) ?_);refine aw ((CR n (p.fdiv 20+p) [sl ["**","<<"]]).1 ) fun t ht e=>?_;exact Run.call e (Run.bK (gp (l:=[rv (.push b),rv (.push t)]) (m:=[rv (.binary "**")]) rfl rfl (by simp)) (Run.leaf ⟨[.push b,.push t,.binary "**"],db rfl,⟨by simp,fun _ hj hd=>Sn hj hd b1 b2 ht⟩⟩))
 ·rw [e0];refine Run.ok (v:=.str "<<") (O:=[sl ["**","<<"]]) (by kernel_rfl) (Run.bK (jR (a:=p) (by decide) (by decide)) ?_);refine gR (Bk n (p.fdiv 2) [sl ["**","<<"]] ) fun b hb b1 b2=>?_;refine Run.call hb (Run.bK (jR (a:=p) (by decide) (by decide)) ?_);refine aw ((CR n (p.fdiv 20+p) [sl ["**","<<"]]).2 ) fun t ht e=>?_;exact Run.call e (Run.bK (gp (l:=[rv (.push b),rv (.push t)]) (m:=[rv (.binary "<<")]) rfl rfl (by simp)) (Run.leaf ⟨[.push b,.push t,.binary "<<"],db rfl,⟨by simp,fun _ hj hd=>Mm hj hd b1 b2 ht⟩⟩))
theorem O3:dm d O (CF (n+2) "_law_piece" [.int 12,.int p,.int d] O):=by
 refine bH (P:=dm d O) (f:=aP "_law_piece") (J:=[("kind",.int 12),("pick",.int p),("depth",.int d)]) (by kernel_rfl) (by kernel_rfl) (by kernel_rfl) ?_;refine aw (Ow n p [] ) fun aq e hr=>?_;exact Run.ah rfl (Run.au rfl (Run.call e (Run.leaf ⟨aq,(by show (bif bP 0 (aq.map rv) then R.ok (V.lst (aq.map rv)) O else .stuck)=_;rw [lM];rfl),⟨MJ hr,fun _ hj hd=>Lh hj hd hr⟩⟩)))
theorem O1 (k:Int) (h0:0<=k) (h1:k<13):dm d O (CF (n+2) "_law_piece" [.int k,.int p,.int d] O):=by
 rcases (show k=0\/k=1\/k=2\/k=3\/k=4\/k=5\/k=6\/k=7\/k=8\/k=9\/k=10\/k=11\/k=12 by lia) with rfl|rfl|rfl|rfl|rfl|rfl|rfl|rfl|rfl|rfl|rfl|rfl|rfl
 ·exact Hu n p d O
 ·exact R0 n p d O
 ·exact Jw n p d O
 ·exact JW n p d O
 ·exact KY n p d O
 ·exact JG n p d O
 ·exact KW n p d O
 ·exact NB n p d O
 ·exact HV n p d O
 ·exact Ml n p d O
 ·exact Iv n p d O
 ·exact Nk n p d O
 ·exact O3 n p d O
end
noncomputable def cm:List Rw->List Str->Option (List Str)
 | [],st=>some st
 |r::rs,st=>match aE r (a9 r st) with
  |.push v=>cm rs (keep r st++[v])
  |.nil=>cm rs (keep r st)
  |_=>none
theorem jJ {r:Rw} {rs:List Rw} {st:List Str}:cm (r::rs) st=match aE r (a9 r st) with
 |.push v=>cm rs (keep r st++[v])
 |.nil=>cm rs (keep r st)
 |_=>none:=rfl
theorem pV:∀(a b:List Rw) (st:List Str),cm (a++b) st=(cm a st).bind (cm b)
 | [],b,st=>rfl
 |r::a,b,st=>by
  rw [List.cons_append,jJ,jJ];generalize aE r (a9 r st)=zc;induction zc using Ef.casesOn with
  |push v=>exact pV a b _
  |nil=>exact pV a b _
  |_=>rfl
theorem pB:∀(a b:List Rw) (st s:List Str),cm a st=some s->runN (a++b) st=runN b s
 | [],b,st,s,h=>by obtain rfl:=Option.some.inj h;rfl
 |r::a,b,st,s,h=>by
  rw [jJ] at h;rw [List.cons_append,mE];unfold kH;generalize he:aE r (a9 r st)=zc;induction zc using Ef.casesOn with
  |push v=>rw [he] at h;exact pB a b _ s h
  |nil=>rw [he] at h;exact pB a b _ s h
  |jump _=>rw [he] at h;exact al h
  |flt _=>rw [he] at h;exact al h
theorem rC:∀(a b:List Rw) (st:List Str),cm a st=none->runN (a++b) st=runN a st
 | [],b,st,h=>by exact al h.symm
 |r::a,b,st,h=>by
  rw [jJ] at h;rw [List.cons_append,mE,mE];unfold kH;generalize he:aE r (a9 r st)=zc;induction zc using Ef.casesOn with
  |push v=>rw [he] at h;exact rC a b _ h
  |nil=>rw [he] at h;exact rC a b _ h
  |jump _=>rfl
  |flt _=>rfl
noncomputable def fq:List Rw->List Str->Prop
 | [],_=>True
 |r::rs,st=>lb r (a9 r st)/\(match aE r (a9 r st) with
  |.push s=>fq rs (keep r st++[s])
  |.nil=>fq rs (keep r st)
  |.jump a=>1<=a
  |.flt _=>True)
theorem qG {r:Rw} {rs:List Rw} {st:List Str}:fq (r::rs) st=(lb r (a9 r st)/\(match aE r (a9 r st) with
 |.push s=>fq rs (keep r st++[s])
 |.nil=>fq rs (keep r st)
 |.jump a=>1<=a
 |.flt _=>True)):=rfl
theorem qH:∀(a b:List Rw) (st:List Str),fq (a++b) st↔fq a st/\∀s,cm a st=some s->fq b s:=by
 intro a b;induction a with
 |nil=>exact fun st=>⟨fun h=>⟨trivial,fun s e=>by obtain rfl:=Option.some.inj e;exact h⟩,fun h=>h.2 st rfl⟩
 |cons r a ih=>
  intro st;rw [List.cons_append,qG,qG,jJ];generalize he:aE r (a9 r st)=zc;induction zc using Ef.casesOn with
  |push v=>
   have:=ih (keep r st++[v]);constructor
   ·rintro ⟨h1,h2⟩;exact ⟨⟨h1,(this.mp h2).1⟩,(this.mp h2).2⟩
   ·rintro ⟨⟨h1,h2⟩,h3⟩;exact ⟨h1,this.mpr ⟨h2,h3⟩⟩
  |nil=>
   have:=ih (keep r st);constructor
   ·rintro ⟨h1,h2⟩;exact ⟨⟨h1,(this.mp h2).1⟩,(this.mp h2).2⟩
   ·rintro ⟨⟨h1,h2⟩,h3⟩;exact ⟨h1,this.mpr ⟨h2,h3⟩⟩
  |jump x=>exact ⟨fun h=>⟨h,fun s e=>by exact al e⟩,fun h=>h.1⟩
  |flt x=>exact ⟨fun h=>⟨h,fun s e=>by exact al e⟩,fun h=>h.1⟩
theorem Ii (r:Rw) (st:List Str):(keep r st).length<=st.length:=by unfold keep;rw [List.length_take];omega
theorem F7:∀(rs:List Rw) (st:List Str),fq rs st->st.length+rs.length<=70000->rF rs st:=by
 intro rs;induction rs with
 |nil=>exact fun _ _ _=>trivial
 |cons r rs ih=>
  intro st h hl;rw [List.length_cons] at hl;have hk:=Ii r st;refine aK h ?_;clear h;intro h1 h2;refine ⟨by exact ae [_,_] [] [.le (.p (.v 0) (.p (.v 1) (.n 1))) (.n 70000)] (.le (.v 0) (.n 70000)) rfl hl,h1,?_⟩;generalize he:aE r (a9 r st)=zc;induction zc using Ef.casesOn with
  |push v=>rw [he] at h2;exact ih _ h2 (by rw [List.length_append];show (keep r st).length+1+_<=_;exact ae [_,_,_] [] [.le (.p (.v 2) (.p (.v 1) (.n 1))) (.n 70000),.le (.v 0) (.v 2)] (.le (.p (.p (.v 0) (.n 1)) (.v 1)) (.n 70000)) rfl hl hk)
  |nil=>rw [he] at h2;exact ih _ h2 (by exact ae [_,_,_] [] [.le (.p (.v 2) (.p (.v 1) (.n 1))) (.n 70000),.le (.v 0) (.v 2)] (.le (.p (.v 0) (.v 1)) (.n 70000)) rfl hl hk)
  |jump a=>rw [he] at h2;exact h2
  |flt f=>trivial
theorem AA:∀(ts:List Str) (s:List Str),cm (ts.map .push) s=some (s++ts)
 | [],s=>by rw [List.append_nil];rfl
 |t::ts,s=>by
  have e:aE (.push t) (a9 (.push t) s)=.push t:=by unfold aE;rfl
  have ek:keep (.push t) s=s:=by unfold keep;exact List.take_length
  rw [List.map_cons,jJ,e];show cm (ts.map .push) (keep (.push t) s++[t])=_;rw [ek,AA ts,List.append_assoc];rfl
theorem E_:∀ts:List Str,aV (ts.map .push)=ts
 | []=>rfl
 |t::ts=>by
  show t::aV (ts.map .push)=_;rw [E_ ts]
noncomputable def pY (x:kM):Prop:=(∀t∈x.st,cU t)/\∀f,x.fault=some f->eM f
structure En where
 at_:Nat
 place:Nat
 height:Nat
noncomputable def zn (h:Nat) (st:List Str):Prop:=st.length=h/\∀t∈st,t∈dF
structure JQ (aq out:List Rw) (floor depth:Nat) (Q:dE) (e:En):Prop where
 lz:e.at_<=aq.length
 pl:e.place<=floor
 len:out.length+e.at_<=aq.length+e.place
 run:∀st,runN (aq.drop e.at_) st=runN (out.drop e.place) st
 go:∀st,cm (aq.drop e.at_) st=cm (out.drop e.place) st
 safe:∀st,zn e.height st->fq (aq.drop e.at_) st/\fq (out.drop e.place) st/\pY (runN (aq.drop e.at_) st)/\∀s,cm (aq.drop e.at_) st=some s->Q s/\s.length=depth
 o4:e.height<=20
structure Inv (aq out:List Rw) (entries:List En) (floor depth:Nat) (Q:dE):Prop where
 en:∀e∈entries,JQ aq out floor depth Q e
 tr:∃A ts,out=A++ts.map .push/\floor<=A.length/\Q ts/\(A.length=floor\/∃A' x,A=A'++[x]/\oj x=false)
 asc:∀r∈out,lO r
 ol:out.length<=aq.length
theorem Inv.fl {aq out:List Rw} {entries:List En} {floor depth:Nat} {Q:dE} (h:Inv aq out entries floor depth Q):floor<=out.length:=by
 refine i_ h.tr ?_;rintro A ts rfl h1 _;rw [List.length_append];exact ae [_,_,_] [] [.le (.v 0) (.v 1)] (.le (.v 0) (.p (.v 1) (.v 2))) rfl h1
theorem IK {aq out:List Rw} {entries:List En} {floor depth H:Nat} {Q:dE} (h:Inv aq out entries floor depth Q) (hH:H<=20) (hd:depth<=H) (hq:∀s,j' H s->Q s):
 Inv aq out (entries++[⟨aq.length,out.length,depth⟩]) out.length depth Q where
 en:=fun e he=>by
  rcases List.mem_append.mp he with he|he
  ·have x:=h.en e he;exact ⟨x.lz,Nat.le_trans x.pl h.fl,x.len,x.run,x.go,x.safe,x.o4⟩
  ·rw [List.mem_singleton] at he;subst he;refine ⟨Nat.le_refl _,Nat.le_refl _,by show out.length+aq.length<=aq.length+out.length;exact ae [_,_] [] [] (.le (.p (.v 0) (.v 1)) (.p (.v 1) (.v 0))) rfl,fun st=>?_,fun st=>?_,fun st hs=>?_,by show depth<=20;exact ae [_,_] [] [.le (.v 1) (.n 20),.le (.v 0) (.v 1)] (.le (.v 0) (.n 20)) rfl hH hd⟩
   ·show runN (aq.drop aq.length) st=runN (out.drop out.length) st;rw [List.drop_length,List.drop_length]
   ·show cm (aq.drop aq.length) st=cm (out.drop out.length) st;rw [List.drop_length,List.drop_length]
   ·show fq (aq.drop aq.length) st/\fq (out.drop out.length) st/\pY (runN (aq.drop aq.length) st)/\∀s,cm (aq.drop aq.length) st=some s->Q s/\s.length=depth;rw [List.drop_length,List.drop_length];refine ⟨trivial,trivial,⟨fun t ht=>(eu t (hs.2 t ht)).2.asc,fun f e=>by exact al e⟩,fun s e=>?_⟩;obtain rfl:=Option.some.inj e;exact ⟨hq st ⟨by rw [hs.1];exact hd,hs.2⟩,hs.1⟩
 tr:=⟨out,[],by rw [show ([]:List Str).map Rw.push=[] from rfl,List.append_nil],Nat.le_refl _,hq [] (sD H),.inl rfl⟩
 asc:=h.asc
 ol:=h.ol
theorem RC {r:Rw} {ts:List Str} (hl:ts.length=aF r) (hj:oM r=false):(∀v,aE r ts=.push v->gW r=1)/\(aE r ts=.nil->gW r=0):=by
 induction r using Rw.casesOn with
 |jump a=>cases hj
 |push t=>
  refine ⟨fun v _=>rfl,fun e=>?_⟩;have e':aE (.push t) ts=.push t:=by unfold aE;rfl
  rw [e'] at e;exact Ef.noConfusion e
 |join k=>
  refine ⟨fun v _=>rfl,fun e=>?_⟩;have e':aE (.join k) ts=.push (Str.join Str.empty ts):=by unfold aE;rfl
  rw [e'] at e;exact Ef.noConfusion e
 |unary op=>
  refine aB (iO hl ) ?_;rintro t rfl;refine ⟨fun v _=>rfl,fun e=>?_⟩;have e':aE (.unary op) [t]=(fW op t).ef:=rfl;rw [e'] at e;(generalize hu:fW op t=zc;induction zc using Oc.casesOn)<;>rw [hu] at e<;>cases e
 |binary op=>
  refine eO (By hl ) ?_;rintro a b rfl;refine ⟨fun v _=>rfl,fun e=>?_⟩;have e':aE (.binary op) [a,b]=(dq op a b).ef:=rfl;rw [e'] at e;(generalize hu:dq op a b=zc;induction zc using Oc.casesOn)<;>rw [hu] at e<;>cases e
 |number=>
  refine aB (iO hl ) ?_;rintro t rfl;exact ⟨fun v _=>rfl,fun e=>(FD e).elim⟩
 |truth=>
  refine aB (iO hl ) ?_;rintro t rfl;refine ⟨fun v _=>rfl,fun e=>?_⟩;have e':aE .truth [t]=(match cr t with|some b=>.push (tf b)|none=>.flt (fc t)):=rfl;rw [e'] at e;(generalize hu:cr t=zc;induction zc using aA)<;>rw [hu] at e<;>cases e
 |pop=>
  refine aB (iO hl ) ?_;rintro t rfl;have e':aE .pop [t]=.nil:=by unfold aE;rfl
  refine ⟨fun v e=>?_,fun _=>rfl⟩;rw [e'] at e;exact Ef.noConfusion e
 |jt a=>
  refine aB (iO hl ) ?_;rintro t rfl;refine ⟨fun v e=>?_,fun _=>rfl⟩;have e':aE (.jt a) [t]=(match cr t with|some true=>.jump a|some false=>.nil|none=>.flt (fc t)):=rfl;rw [e'] at e;generalize hu:cr t=zc;induction zc using aA with
  |none=>rw [hu] at e;cases e
  |some b=>rw [hu] at e;induction b using aN<;>cases e
 |jf a=>
  refine aB (iO hl ) ?_;rintro t rfl;refine ⟨fun v e=>?_,fun _=>rfl⟩;have e':aE (.jf a) [t]=(match cr t with|some false=>.jump a|some true=>.nil|none=>.flt (fc t)):=rfl;rw [e'] at e;generalize hu:cr t=zc;induction zc using aA with
  |none=>rw [hu] at e;cases e
  |some b=>rw [hu] at e;induction b using aN<;>cases e
theorem pZ {α:Type} {l:List α} {x:α} {k:Nat} (h:k<=l.length):(l++[x]).drop k=l.drop k++[x]:=List.drop_append_of_le_length h
theorem qj {α:Type} {l m:List α} {k:Nat} (h:k<=l.length):(l++m).drop k=l.drop k++m:=List.drop_append_of_le_length h
theorem xr {X Y:List Rw} (h1:∀st,runN X st=runN Y st) (h2:∀st,cm X st=cm Y st) (R S:List Rw) (h3:∀st s,cm Y st=some s->runN R s=runN S s/\cm R s=cm S s):
 (∀st,runN (X++R) st=runN (Y++S) st)/\∀st,cm (X++R) st=cm (Y++S) st:=by
 constructor
 ·intro st;generalize e:cm Y st=zc;induction zc using aA with
  |some s=>rw [pB Y S st s e,pB X R st s (by rw [h2,e])];exact (h3 st s e).1
  |none=>rw [rC Y S st e,rC X R st (by rw [h2,e])];exact h1 st
 ·intro st;rw [pV,pV,h2];generalize e:cm Y st=zc;induction zc using aA with
  |some s=>exact (h3 st s e).2
  |none=>rfl
theorem EA {out A:List Rw} {ts:List Str} {floor:Nat} {r:Rw} (ho:out=A++ts.map .push) (hA:A.length=floor\/∃A' x,A=A'++[x]/\oj x=false) (h1:floor+aF r<=out.length) (h2:aF r<=(aV (aU out r)).length):
 aF r<=ts.length/\aU out r=(a9 r ts).map .push/\b0 out r=A++(keep r ts).map .push/\aV (aU out r)=a9 r ts:=by
 have hl:out.length=A.length+ts.length:=by rw [ho,List.length_append,List.length_map]
 have key:aF r<=ts.length:=by
  rcases Nat.lt_or_ge ts.length (aF r) with h|h
  ·exfalso;rcases hA with hA|⟨A',x,rfl,hx⟩
   ·exact Nat.lt_irrefl 0 (ae [_,_,_,_,_] [] [.le (.p (.v 0) (.v 1)) (.v 2),.e (.v 2) (.p (.v 3) (.v 4)),.lt (.v 4) (.v 1),.e (.v 3) (.v 0)] (.lt (.n 0) (.n 0)) rfl h1 hl h hA)
   ·rw [List.length_append] at hl;have hl:out.length=A'.length+1+ts.length:=hl;obtain ⟨k,hk⟩:∃k,A'.length=(out.length-aF r)+k:=⟨A'.length-(out.length-aF r),by exact Nat.le_antisymm (ae [_,_,_] [] [.f (.p (.v 2) (.v 1)) (.v 0)] (.le (.v 0) (.p (.v 1) (.v 2))) rfl (Nat.sub_add_cancel (ae [_,_,_,_,_] [] [.lt (.v 2) (.v 3),.e (.v 4) (.p (.p (.v 1) (.n 1)) (.v 2)),.e (.p (.v 0) (.v 3)) (.v 4)] (.le (.v 0) (.v 1)) rfl h hl (Nat.sub_add_cancel (ae [_,_,_] [] [.le (.p (.v 2) (.v 0)) (.v 1)] (.le (.v 0) (.v 1)) rfl h1))))) (ae [_,_,_] [] [.e (.p (.v 1) (.v 0)) (.v 2)] (.le (.p (.v 0) (.v 1)) (.v 2)) rfl (Nat.sub_add_cancel (ae [_,_,_,_,_] [] [.lt (.v 2) (.v 3),.e (.v 4) (.p (.p (.v 1) (.n 1)) (.v 2)),.e (.p (.v 0) (.v 3)) (.v 4)] (.le (.v 0) (.v 1)) rfl h hl (Nat.sub_add_cancel (ae [_,_,_] [] [.le (.p (.v 2) (.v 0)) (.v 1)] (.le (.v 0) (.v 1)) rfl h1)))))⟩
    have e:aU out r=A'.drop (out.length-aF r)++x::ts.map .push:=by
     have iP:out=A'++(x::ts.map .push):=by rw [ho,List.append_assoc];rfl
     have GC:out.length-aF r<=A'.length:=by exact ae [_,_,_] [] [.f (.v 1) (.p (.v 0) (.v 2))] (.le (.v 0) (.v 1)) rfl hk
     unfold aU;generalize out.length-aF r=m at GC ⊢;rw [iP,qj GC]
    have hp:∀l:List Rw,aV (l++x::ts.map .push)=aV (l++ts.map .push):=fun l=>by
     induction l with
     |nil=>induction x using Rw.casesOn<;>first|rfl|cases hx
     |cons a l ih=>induction a using Rw.casesOn<;>simp only [List.cons_append,aV,ih]
    rw [e,hp] at h2;have h3:=zJ (A'.drop (out.length-aF r)++ts.map .push);rw [List.length_append,List.length_drop,List.length_map] at h3;exact Nat.lt_irrefl 0 (ae [_,_,_,_,_,_,_] [] [.le (.v 0) (.v 1),.f (.v 2) (.p (.p (.v 3) (.n 1)) (.v 4)),.le (.v 1) (.p (.v 5) (.v 4)),.f (.p (.v 6) (.v 0)) (.v 2),.e (.p (.v 5) (.v 6)) (.v 3)] (.lt (.n 0) (.n 0)) rfl h2 hl h3 (Nat.sub_add_cancel (ae [_,_,_] [] [.le (.p (.v 2) (.v 0)) (.v 1)] (.le (.v 0) (.v 1)) rfl h1)) (Nat.sub_add_cancel (ae [_,_,_] [] [.f (.v 1) (.p (.v 0) (.v 2))] (.le (.v 0) (.v 1)) rfl hk)))
  ·exact h
 have e1:out.length-aF r=A.length+(ts.length-aF r):=by exact Nat.le_antisymm (ae [_,_,_,_,_,_] [] [.e (.v 3) (.p (.v 1) (.v 4)),.e (.p (.v 0) (.v 5)) (.v 3),.f (.p (.v 2) (.v 5)) (.v 4)] (.le (.v 0) (.p (.v 1) (.v 2))) rfl hl (Nat.sub_add_cancel (ae [_,_,_] [] [.le (.p (.v 2) (.v 0)) (.v 1)] (.le (.v 0) (.v 1)) rfl h1)) (Nat.sub_add_cancel (ae [_,_] [] [.le (.v 0) (.v 1)] (.le (.v 0) (.v 1)) rfl key))) (ae [_,_,_,_,_,_] [] [.f (.v 3) (.p (.v 0) (.v 4)),.f (.p (.v 2) (.v 5)) (.v 3),.e (.p (.v 1) (.v 5)) (.v 4)] (.le (.p (.v 0) (.v 1)) (.v 2)) rfl hl (Nat.sub_add_cancel (ae [_,_,_] [] [.le (.p (.v 2) (.v 0)) (.v 1)] (.le (.v 0) (.v 1)) rfl h1)) (Nat.sub_add_cancel (ae [_,_] [] [.le (.v 0) (.v 1)] (.le (.v 0) (.v 1)) rfl key)))
 have e2:aU out r=(a9 r ts).map .push:=by
  unfold aU a9;rw [e1,ho,<- List.drop_drop,List.drop_left,List.map_drop]
 refine ⟨key,e2,?_,by rw [e2,E_]⟩;unfold b0 keep;rw [e1,ho,List.take_length_add_append,List.map_take]
theorem Pw {out:List Rw} {floor:Nat} {Q Q':dE} {r:Rw} (tr:∃A ts,out=A++ts.map .push/\floor<=A.length/\Q ts/\(A.length=floor\/∃A' x,A=A'++[x]/\oj x=false)) (hr:qa Q Q' r):tQ out floor r:=fun h0 h1 h2=>by
 refine oP tr ?_;clear tr;intro A ts ho hf hq hA;refine mx (EA ho hA h1 (Nat.le_of_eq h2.symm) ) fun k1 _ _ k4=>?_;rw [k4];exact hr.sK ts hq k1
theorem IN {out:List Rw} {floor:Nat} {r:Rw} (h:gE out floor r=true):aF r≠0/\floor+aF r<=out.length/\aF r<=(aV (aU out r)).length/\lJ (aE r (aV (aU out r)))=false:=by
 unfold gE at h;simp only [Bool.and_eq_true,Bool.not_eq_true',Bool.or_eq_false_iff,decide_eq_false_iff_not] at h;exact ⟨h.1.1,by exact ae [_,_,_] [] [.le (.p (.v 0) (.v 1)) (.v 2)] (.le (.p (.v 0) (.v 1)) (.v 2)) rfl (Nat.le_of_not_lt h.1.2),by exact ae [_,_] [] [.le (.v 0) (.v 1)] (.le (.v 0) (.v 1)) rfl (Nat.le_of_not_lt h.2.1),h.2.2.1⟩
theorem NR (v:Str) (s:List Str):runN [.push v] s=⟨s++[v],0,none⟩:=by
 have e:aE (.push v) (a9 (.push v) s)=.push v:=by unfold aE;rfl
 have ek:keep (.push v) s=s:=by unfold keep;exact List.take_length
 rw [mE];unfold kH;rw [e,ek];rfl
theorem Kg (v:Str) (s:List Str):cm [.push v] s=some (s++[v]):=by
 have e:aE (.push v) (a9 (.push v) s)=.push v:=by unfold aE;rfl
 have ek:keep (.push v) s=s:=by unfold keep;exact List.take_length
 rw [jJ,e,ek];rfl
theorem QE (a:Nat) (s:List Str):runN [.jump a] s=⟨s,a,none⟩:=by
 have e:aE (.jump a) (a9 (.jump a) s)=.jump a:=by unfold aE;rfl
 have ek:keep (.jump a) s=s:=by unfold keep;exact List.take_length
 rw [mE];unfold kH;rw [e,ek]
theorem GR (a:Nat) (s:List Str):cm [.jump a] s=none:=by
 have e:aE (.jump a) (a9 (.jump a) s)=.jump a:=by unfold aE;rfl
 rw [jJ,e]
theorem SQ {aq out:List Rw} {entries:List En} {floor depth:Nat} {Q Q':dE} {r:Rw} (h:Inv aq out entries floor depth Q) (hr:qa Q Q' r) (hm:aF r<=depth) (ha:lO r) (hj:oM r=false)
 (hc:∀s,Q s->∀t∈s,Cl t) (pL:∀s,Q' s->∀t∈s,Cl t):Inv (aq++[r]) (cw out floor r) entries floor (depth-aF r+gW r) Q':=by
 obtain ⟨A,ts,ho,zr,hq,hA⟩:=h.tr;have BD:∀e∈entries,∀st,zn e.height st->fq ((aq++[r]).drop e.at_) st/\pY (runN ((aq++[r]).drop e.at_) st)/\∀s,cm ((aq++[r]).drop e.at_) st=some s->Q' s/\s.length=depth-aF r+gW r:=fun e he st iT=>by
  have x:=h.en e he;refine mx (x.safe st iT ) fun s1 _ s3 s4=>?_;rw [pZ x.lz];have one:∀s,cm (aq.drop e.at_) st=some s->fq [r] s/\pY (runN [r] s)/\∀s',cm [r] s=some s'->Q' s'/\s'.length=depth-aF r+gW r:=fun s hs=>by
   refine aK (s4 s hs ) fun q1 q2=>?_;have i':aF r<=s.length:=by exact ae [_,_,_] [] [.le (.v 0) (.v 2),.f (.v 1) (.v 2)] (.le (.v 0) (.v 1)) rfl hm q2
   have sn:=hr.sK s q1 i';refine aK (RC (yi i') hj ) fun p1 p2=>?_;have kl:=H1 i';rw [qG,mE,jJ];unfold kH;generalize he:aE r (a9 r s)=zc;induction zc using Ef.casesOn with
   |push v=>
    have q':=hr.push s q1 i' v he;refine ⟨⟨sn.fit,trivial⟩,⟨fun t ht=>(pL _ q' t ht).asc,fun f e=>by exact al e⟩,fun s' e=>?_⟩;obtain rfl:=Option.some.inj e;exact ⟨q',by rw [List.length_append,kl,p1 v he,q2];rfl⟩
   |nil=>
    have q':=hr.pop s q1 i' he;refine ⟨⟨sn.fit,trivial⟩,⟨fun t ht=>(pL _ q' t ht).asc,fun f e=>by exact al e⟩,fun s' e=>?_⟩;obtain rfl:=Option.some.inj e;exact ⟨q',by rw [kl,p2 he,q2];rfl⟩
   |jump a=>exact ⟨⟨sn.fit,sn.far a he⟩,⟨fun t ht=>(hc s q1 t (wl ht)).asc,fun f e=>by exact al e⟩,fun s' e=>by exact al e⟩
   |flt f=>exact ⟨⟨sn.fit,trivial⟩,⟨fun t ht=>(hc s q1 t (wl ht)).asc,fun f' e=>by obtain rfl:=Option.some.inj e;exact hr.flt s q1 i' f he⟩,fun s' e=>by exact al e⟩
  refine ⟨(qH _ _ _).mpr ⟨s1,fun s hs=>(one s hs).1⟩,?_,fun s' jB=>?_⟩
  ·generalize hg:cm (aq.drop e.at_) st=zc;induction zc using aA with
   |some s=>rw [pB _ _ st s hg];exact (one s hg).2.1
   |none=>rw [rC _ _ st hg];exact s3
  ·rw [pV] at jB;generalize hg:cm (aq.drop e.at_) st=zc;induction zc using aA with
   |some s=>rw [hg] at jB;exact (one s hg).2.2 s' jB
   |none=>rw [hg] at jB;exact al jB
 generalize eA:gE out floor r=zc;induction zc using aN with
 |false=>
  have hd:cw out floor r=out++[r]:=by unfold cw;rw [eA];rfl
  rw [hd];refine ⟨fun e he=>?_,?_,fun x hx=>?_,by simp;exact h.ol⟩
  ·have x:=h.en e he;have jP:e.place<=out.length:=Nat.le_trans x.pl h.fl;refine aK (xr x.run x.go [r] [r] fun _ _ _=>⟨rfl,rfl⟩ ) fun g1 g2=>?_;rw [<- pZ x.lz,<- pZ jP] at g1 g2;refine ⟨by rw [List.length_append];have:=x.lz;exact ae [_,_,_] [] [.le (.v 0) (.v 1)] (.le (.v 0) (.p (.v 1) (.v 2))) rfl this,x.pl,by simp only [List.length_append,List.length_cons,List.length_nil];have:=x.len;exact ae [_,_,_,_] [] [.le (.p (.v 0) (.v 1)) (.p (.v 2) (.v 3))] (.le (.p (.p (.v 0) (.p (.n 0) (.n 1))) (.v 1)) (.p (.p (.v 2) (.p (.n 0) (.n 1))) (.v 3))) rfl this,g1,g2,fun st iT=>?_,x.o4⟩;refine fw (BD e he st iT ) fun a1 a2 a3=>?_;refine ⟨a1,?_,a2,a3⟩;rw [pZ jP];rw [pZ x.lz] at a1;have b1:=(qH _ _ _).mp a1;exact (qH _ _ _).mpr ⟨(x.safe st iT).2.1,fun s hs=>b1.2 s (by rw [x.go];exact hs)⟩
  ·generalize hp:oj r=zc;induction zc using aN with
   |true=>
    obtain ⟨t,rfl⟩:∃t,r=.push t:=by induction r using Rw.casesOn<;>first|exact ⟨_,rfl⟩|exact ff hp
    have e:aE (.push t) (a9 (.push t) ts)=.push t:=by unfold aE;rfl
    have ek:keep (.push t) ts=ts:=by unfold keep;exact List.take_length
    have q':=hr.push ts hq (Nat.zero_le _) t e;rw [ek] at q';exact ⟨A,ts++[t],by rw [ho,List.map_append,List.append_assoc];rfl,zr,q',hA⟩
   |false=>exact ⟨out++[r],[],by rw [show ([]:List Str).map Rw.push=[] from rfl,List.append_nil],by rw [List.length_append];have:=h.fl;exact ae [_,_,_] [] [.le (.v 0) (.v 1)] (.le (.v 0) (.p (.v 1) (.v 2))) rfl this,hr.nil,.inr ⟨out,r,rfl,hp⟩⟩
  ·rcases List.mem_append.mp hx with q|q
   ·exact h.asc x q
   ·rw [List.mem_singleton] at q;subst q;exact ha
 |true=>
  refine mx (IN eA ) fun f0 f1 f2 f3=>?_;refine mx (EA ho hA f1 f2 ) fun k1 k2 k3 k4=>?_;rw [k4] at f3;have hd:cw out floor r=b0 out r++fj (aE r (a9 r ts)):=by unfold cw;rw [eA,k4];rfl
  rw [hd];have ek:out=b0 out r++(a9 r ts).map .push:=by rw [<- k2];unfold b0 aU;exact (List.take_append_drop _ _).symm
  have eQ:(b0 out r).length=out.length-aF r:=by unfold b0;rw [List.length_take];lia
  have ml:=Cg (aE r (a9 r ts));have sn:=hr.sK ts hq k1;have tl:=yi k1;have same:∀s,runN ((a9 r ts).map .push++[r]) s=runN (fj (aE r (a9 r ts))) s/\cm ((a9 r ts).map .push++[r]) s=cm (fj (aE r (a9 r ts))) s/\fq (fj (aE r (a9 r ts))) s:=fun s=>by
   have g:=AA (a9 r ts) s;refine aK (iB (r:=r) (s:=s) (ts:=a9 r ts) tl ) fun c1 c2=>?_;rw [pB _ _ s _ g,pV,g];show runN [r] (s++a9 r ts)=_/\cm [r] (s++a9 r ts)=_/\_;rw [mE,jJ];unfold kH;rw [c1,c2];generalize he:aE r (a9 r ts)=zc;induction zc using Ef.casesOn with
   |push v=>
    have e:aE (.push v) (a9 (.push v) s)=.push v:=by unfold aE;rfl
    have ek:keep (.push v) s=s:=by unfold keep;exact List.take_length
    have et:a9 (.push v) s=[]:=by unfold a9;exact List.drop_length
    refine ⟨?_,?_,?_⟩
    ·exact (NR v s).symm
    ·exact (Kg v s).symm
    ·show fq [.push v] s;rw [qG,e];exact ⟨et,trivial⟩
   |nil=>exact ⟨rfl,rfl,trivial⟩
   |jump a=>
    have e:aE (.jump a) (a9 (.jump a) s)=.jump a:=by unfold aE;rfl
    have ek:keep (.jump a) s=s:=by unfold keep;exact List.take_length
    have et:a9 (.jump a) s=[]:=by unfold a9;exact List.drop_length
    refine ⟨?_,?_,?_⟩
    ·exact (QE a s).symm
    ·exact (GR a s).symm
    ·show fq [.jump a] s;rw [qG,e];exact ⟨et,sn.far a he⟩
   |flt f=>rw [he] at f3;cases f3
  refine ⟨fun e he=>?_,?_,fun x hx=>?_,by have:=h.ol;simp only [List.length_append,List.length_cons,List.length_nil];exact ae [_,_,_,_,_,_] [] [.e (.v 0) (.v 3),.le (.v 1) (.n 1),.le (.v 4) (.v 2),.e (.p (.v 3) (.v 5)) (.v 4)] (.le (.p (.v 0) (.v 1)) (.p (.v 2) (.p (.n 0) (.n 1)))) rfl eQ ml this (Nat.sub_add_cancel (ae [_,_,_] [] [.le (.p (.v 2) (.v 0)) (.v 1)] (.le (.v 0) (.v 1)) rfl f1))⟩
  ·have x:=h.en e he;have jP:e.place<=(b0 out r).length:=by have:=x.pl;exact ae [_,_,_,_,_,_] [] [.le (.p (.v 2) (.v 3)) (.v 4),.f (.v 1) (.v 5),.le (.v 0) (.v 2),.f (.p (.v 5) (.v 3)) (.v 4)] (.le (.v 0) (.v 1)) rfl f1 eQ this (Nat.sub_add_cancel (ae [_,_,_] [] [.le (.p (.v 2) (.v 0)) (.v 1)] (.le (.v 0) (.v 1)) rfl f1))
   have eo:out.drop e.place=(b0 out r).drop e.place++(a9 r ts).map .push:=by
    have:=congrArg (List.drop e.place) ek;rw [qj jP] at this;exact this
   have g:(∀st,runN ((aq++[r]).drop e.at_) st=runN ((b0 out r).drop e.place++fj (aE r (a9 r ts))) st)/\∀st,cm ((aq++[r]).drop e.at_) st=cm ((b0 out r).drop e.place++fj (aE r (a9 r ts))) st:=by
    have a:=xr x.run x.go [r] [r] fun _ _ _=>⟨rfl,rfl⟩
    rw [eo,<- pZ x.lz,List.append_assoc] at a;have b:=xr (X:=(b0 out r).drop e.place) (Y:=(b0 out r).drop e.place) (fun _=>rfl) (fun _=>rfl) ((a9 r ts).map .push++[r]) (fj (aE r (a9 r ts))) fun _ s _=>⟨(same s).1,(same s).2.1⟩
    exact ⟨fun st=>(a.1 st).trans (b.1 st),fun st=>(a.2 st).trans (b.2 st)⟩
   refine ⟨by rw [List.length_append];have:=x.lz;exact ae [_,_,_] [] [.le (.v 0) (.v 1)] (.le (.v 0) (.p (.v 1) (.v 2))) rfl this,x.pl,by simp only [List.length_append,List.length_cons,List.length_nil];have:=x.len;exact ae [_,_,_,_,_,_,_,_] [] [.e (.v 0) (.v 5),.le (.v 1) (.n 1),.le (.p (.v 6) (.v 2)) (.p (.v 3) (.v 4)),.e (.p (.v 5) (.v 7)) (.v 6)] (.le (.p (.p (.v 0) (.v 1)) (.v 2)) (.p (.p (.v 3) (.p (.n 0) (.n 1))) (.v 4))) rfl eQ ml this (Nat.sub_add_cancel (ae [_,_,_] [] [.le (.p (.v 2) (.v 0)) (.v 1)] (.le (.v 0) (.v 1)) rfl f1)),fun st=>by rw [qj jP];exact g.1 st,fun st=>by rw [qj jP];exact g.2 st,fun st iT=>?_,x.o4⟩;refine fw (BD e he st iT ) fun a1 a2 a3=>?_;refine ⟨a1,?_,a2,a3⟩;rw [qj jP];have so:=(x.safe st iT).2.1;rw [eo] at so;exact (qH _ _ _).mpr ⟨((qH _ _ _).mp so).1,fun s _=>(same s).2.2⟩
  ·generalize he:aE r (a9 r ts)=zc;induction zc using Ef.casesOn with
   |push v=>
    refine ⟨A,keep r ts++[v],?_,zr,hr.push ts hq k1 v he,hA⟩;rw [k3,List.map_append,List.append_assoc];rfl
   |nil=>
    refine ⟨A,keep r ts,?_,zr,hr.pop ts hq k1 he,hA⟩;rw [k3];exact List.append_nil _
   |jump a=>
    refine ⟨b0 out r++[.jump a],[],?_,by rw [List.length_append];exact ae [_,_,_,_,_,_] [] [.le (.p (.v 0) (.v 3)) (.v 4),.f (.v 1) (.v 5),.f (.p (.v 5) (.v 3)) (.v 4)] (.le (.v 0) (.p (.v 1) (.v 2))) rfl f1 eQ (Nat.sub_add_cancel (ae [_,_,_] [] [.le (.p (.v 2) (.v 0)) (.v 1)] (.le (.v 0) (.v 1)) rfl f1)),hr.nil,.inr ⟨b0 out r,.jump a,rfl,rfl⟩⟩;rw [show ([]:List Str).map Rw.push=[] from rfl,List.append_nil];rfl
   |flt f=>rw [he] at f3;cases f3
  ·rcases List.mem_append.mp hx with q|q
   ·exact h.asc x (List.mem_of_mem_take q)
   ·generalize he:aE r (a9 r ts)=zc;induction zc using Ef.casesOn with
    |push v=>
     rw [he] at q;rw [show fj (.push v)=[Rw.push v] from rfl,List.mem_singleton] at q;subst q;exact (pL _ (hr.push ts hq k1 v he) v (by simp)).asc
    |nil=>rw [he] at q;cases q
    |jump a=>
     rw [he] at q;rw [show fj (.jump a)=[Rw.jump a] from rfl,List.mem_singleton] at q;subst q;trivial
    |flt f=>rw [he] at q;cases q
noncomputable def iK (n:Nat) (v:V):Prop:=∃d,fe n v=some d/\PyData.canLay0 d=true
noncomputable def pj (n:Nat) (l:List V):Prop:=∃ds,BQ n l=some ds/\PyData.canLayAll0 ds=true
theorem BK {x:Str} (h:cU x):PyData.strOk x=true:=by
 unfold PyData.strOk;rw [<- Array.all_toList];exact List.all_eq_true.mpr fun c hc=>decide_eq_true (Nat.lt_trans (h c hc) (by decide))
theorem fT {x:Str} (n:Nat) (h:cU x):iK n (.str x):=by
 refine ⟨.str x,?_,BK h⟩;induction n using cz<;>(show (bif PyData.strOk x then some (PyData.str x) else none)=_;rw [BK h];rfl)
theorem pu (n:Nat) (i:Int):iK n (.int i):=⟨.int i,by induction n using cz<;>rfl,rfl⟩
theorem gP (n:Nat):iK n .none:=⟨.none,by induction n using cz<;>rfl,rfl⟩
theorem ig (n:Nat):pj n []:=⟨[],by induction n using cz<;>rfl,rfl⟩
theorem cy {n:Nat} {v:V} {l:List V} (h1:iK n v) (h2:pj n l):pj n (v::l):=by
 refine aw h1 ?_;clear h1;intro d e1 c1;refine aw h2 ?_;clear h2;intro ds e2 c2;refine ⟨d::ds,?_,?_⟩
 ·show cJ (fe n v) (fun d=>cJ (BQ n l) fun ds=>some (d::ds))=_;rw [e1,e2];rfl
 ·rw [PyData.canLayAll0,c1,c2];rfl
theorem ik {n:Nat} {l:List V} (h:pj n l):iK (n+1) (.tup l):=by
 refine aw h ?_;clear h;intro ds e c;exact ⟨.tuple ds,by show (g4 (fe n) l).map PyData.tuple=_;rw [show g4 (fe n) l=some ds from e];rfl,by rw [PyData.canLay0];exact c⟩
theorem Bg {n:Nat} {l:List V} (h:pj n l):iK (n+1) (.lst l):=by
 refine aw h ?_;clear h;intro ds e c;exact ⟨.list ds,by show (g4 (fe n) l).map PyData.list=_;rw [show g4 (fe n) l=some ds from e];rfl,by rw [PyData.canLay0];exact c⟩
theorem tG {α:Type} {n:Nat} {f:α->V}:∀ {l:List α},(∀a∈l,iK n (f a))->pj n (l.map f)
 | [],_=>ig n
 |a::l,h=>cy (h a (.head _)) (tG fun b hb=>h b (.tail _ hb))
theorem De {v:V} (h:iK 8 v):rq v v=some true:=by
 refine aw h ?_;clear h;intro d e c;unfold rq;rw [e];show some (PyData.eqv d d)=_;rw [SeqAt.eqv_refl d c]
theorem NS {r:Rw} (h:lO r):iK 7 (rv r):=by
 induction r using Rw.casesOn with
 |push t=>exact ik (cy (fT _ (bZ (by decide+kernel))) (cy (fT _ h) (cy (gP _) (ig _))))
 |unary op=>exact ik (cy (fT _ (bZ (by decide+kernel))) (cy (fT _ h) (cy (gP _) (ig _))))
 |binary op=>exact ik (cy (fT _ (bZ (by decide+kernel))) (cy (fT _ h) (cy (gP _) (ig _))))
 |truth=>exact ik (cy (fT _ (bZ (by decide+kernel))) (cy (gP _) (cy (gP _) (ig _))))
 |number=>exact ik (cy (fT _ (bZ (by decide+kernel))) (cy (gP _) (cy (gP _) (ig _))))
 |pop=>exact ik (cy (fT _ (bZ (by decide+kernel))) (cy (gP _) (cy (gP _) (ig _))))
 |join k=>exact ik (cy (fT _ (bZ (by decide+kernel))) (cy (pu _ _) (cy (gP _) (ig _))))
 |jt k=>exact ik (cy (fT _ (bZ (by decide+kernel))) (cy (pu _ _) (cy (gP _) (ig _))))
 |jf k=>exact ik (cy (fT _ (bZ (by decide+kernel))) (cy (pu _ _) (cy (gP _) (ig _))))
 |jump k=>exact ik (cy (fT _ (bZ (by decide+kernel))) (cy (pu _ _) (cy (gP _) (ig _))))
theorem Jz {l:List Rw} (h:∀r∈l,lO r):iK 8 (.lst (l.map rv)):=Bg (tG fun r hr=>NS (h r hr))
theorem HZ {x:kM} (h:pY x):iK 8 (dK x):=by
 have hf:iK 7 (qT x.fault):=by
  generalize e:x.fault=zc;induction zc using aA with
  |none=>exact gP _
  |some f=>
   refine aK (h.2 f e ) fun h1 h2=>?_;exact ik (cy (pu _ _) (cy (fT _ h1) (cy (ik (tG fun c hc=>fT _ (h2 c hc))) (ig _))))
 exact ik (cy (Bg (tG fun t ht=>fT _ (h.1 t ht))) (cy (pu _ _) (cy hf (ig _))))
theorem Qa {O:B} {k:Nat} {l:List Rw} (hk:az O k=some (.list (l.map rv))) (h:∀r∈l,lO r):oB (dI O .NotEq (.loc k) (.lst (l.map rv))) O=.ok (.bool false) O:=by
 have e:dI O .NotEq (.loc k) (.lst (l.map rv))=some false:=by
  show cJ (rq (kc O (.loc k)) (kc O (.lst (l.map rv)))) (fun e=>some !e)=_;have d1:kc O (.loc k)=.lst (l.map rv):=by unfold kc;rw [DK hk];rfl
  have d2:kc O (.lst (l.map rv))=.lst (l.map rv):=rfl;rw [d1,d2,De (Jz h)];rfl
 rw [e];rfl
theorem Ov {O:B} {x:kM} (h:pY x):oB (dI O .NotEq (dK x) (dK x)) O=.ok (.bool false) O:=by
 have e:dI O .NotEq (dK x) (dK x)=some false:=by
  show cJ (rq (dK x) (dK x)) (fun e=>some !e)=_;rw [De (HZ h)];rfl
 rw [e];rfl
theorem JB (n:Nat) (r:Rw) (hj:oM r=false) (O:B):CF (n+2) "_law_change" [rv r] O=.ok (.int ((gW r:Int)-(aF r:Int))) O:=by
 refine bH (P:=fun q=>q=.ok (.int ((gW r:Int)-(aF r:Int))) O) (f:=aP "_law_change") (J:=[("row",rv r)]) (by kernel_rfl) (by induction r using Rw.casesOn<;>rfl) (by kernel_rfl) ?_;have hm:=lW n r [];induction r using Rw.casesOn with
 |jump a=>cases hj
 |pop=>exact Run.ok (v:=.bool true) (O:=[.list [.str "pop",.str "jump_true",.str "jump_false"]]) (by kernel_rfl) (Run.au rfl (Run.leaf rfl))
 |jt a=>exact Run.ok (v:=.bool true) (O:=[.list [.str "pop",.str "jump_true",.str "jump_false"]]) (by kernel_rfl) (Run.au rfl (Run.leaf rfl))
 |jf a=>exact Run.ok (v:=.bool true) (O:=[.list [.str "pop",.str "jump_true",.str "jump_false"]]) (by kernel_rfl) (Run.au rfl (Run.leaf rfl))
 |push t=>exact Run.ok (v:=.bool false) (O:=[.list [.str "pop",.str "jump_true",.str "jump_false"]]) (by kernel_rfl) (Run.ah rfl (Run.call (lW n (.push t) [.list [.str "pop",.str "jump_true",.str "jump_false"]]) (Run.leaf rfl)))
 |unary op=>exact Run.ok (v:=.bool false) (O:=[.list [.str "pop",.str "jump_true",.str "jump_false"]]) (by kernel_rfl) (Run.ah rfl (Run.call (lW n (.unary op) [.list [.str "pop",.str "jump_true",.str "jump_false"]]) (Run.leaf rfl)))
 |binary op=>exact Run.ok (v:=.bool false) (O:=[.list [.str "pop",.str "jump_true",.str "jump_false"]]) (by kernel_rfl) (Run.ah rfl (Run.call (lW n (.binary op) [.list [.str "pop",.str "jump_true",.str "jump_false"]]) (Run.leaf rfl)))
 |truth=>exact Run.ok (v:=.bool false) (O:=[.list [.str "pop",.str "jump_true",.str "jump_false"]]) (by kernel_rfl) (Run.ah rfl (Run.call (lW n (.truth) [.list [.str "pop",.str "jump_true",.str "jump_false"]]) (Run.leaf rfl)))
 |number=>exact Run.ok (v:=.bool false) (O:=[.list [.str "pop",.str "jump_true",.str "jump_false"]]) (by kernel_rfl) (Run.ah rfl (Run.call (lW n (.number) [.list [.str "pop",.str "jump_true",.str "jump_false"]]) (Run.leaf rfl)))
 |join k=>exact Run.ok (v:=.bool false) (O:=[.list [.str "pop",.str "jump_true",.str "jump_false"]]) (by kernel_rfl) (Run.ah rfl (Run.call (lW n (.join k) [.list [.str "pop",.str "jump_true",.str "jump_false"]]) (Run.leaf rfl)))
theorem fmod_eq (i:Nat):∃m:Nat,ct .Mod (.int (Int.ofNat i)) (.int 8)=fun O=>.ok (.int m) O:=by
 have h:=fB (a:=(Int.ofNat i)) (b:=8) (by decide);refine aB (Int.eq_ofNat_of_zero_le h.1 ) fun m hm=>?_;refine ⟨m,?_⟩
 funext O
 rw [eW (by decide),hm]
theorem wu:(2:Nat) ^ 20=1048576:=by decide
theorem Am {a b:Nat} (ha:a<2 ^ 20) (hb:b<2 ^ 20) (O:B):ct .Mult (.int a) (.int b) O=.ok (.int ((a:Int)*b)) O:=yb (m:=20) (k:=20) (by simpa using ha) (by simpa using hb) (by decide)
theorem QY (n:Nat) (ns:List Int) (hl:ns.length<=1000) (turn:Nat) (ht:turn<=100) (O:B) (k:Nat):∀(i:Nat) (acc:List Str),(∀t∈acc,t∈dF)->i+k<=1000->
 ∃st:List Str,st.length=acc.length+k/\(∀t∈st,t∈dF)/\j5 (CF (n+1)) (.lst (ns.map .int)) turn k i (acc.map .str) O=.ok (.lst (st.map .str)) O:=by
 induction k with
 |zero=>exact fun i acc ha _=>⟨acc,rfl,ha,rfl⟩
 |succ k ih=>
  intro i acc ha hi;refine aB (fmod_eq i ) fun m hm=>?_;refine aB (xo n ns (14+(m:Int)) (by exact ae [_] [] [] (.aJ (.k 0) (.p (.k 14) (.c (.v 0)))) rfl) hl O ) fun c hc=>?_;refine aw (gX n (c+5*(i:Int)+3*(turn:Int)+1) O ) fun t Ki hx=>?_;have e:iy (CF (n+1)) (.lst (ns.map .int)) turn i O=.ok (.str t) O:=by
   unfold iy;rw [hm];show (quiet (CF (n+1) "_law_cell" [.lst (ns.map .int),.int (14+(m:Int))] O)).bind _=_;rw [hc];show (quiet (ct .Mult (.int 5) (.int (i:Int)) O)).bind _=_;rw [show (5:Int)=((5:Nat):Int) from rfl,Am (by decide) (by rw [wu];exact ae [_,_] [] [.le (.p (.v 0) (.p (.v 1) (.n 1))) (.n 1000)] (.lt (.v 0) (.n 1048576)) rfl hi)];show (quiet (ct .Mult (.int 3) (.int (turn:Int)) O)).bind _=_;rw [show (3:Int)=((3:Nat):Int) from rfl,Am (by decide) (by rw [wu];exact ae [_] [] [.le (.v 0) (.n 100)] (.lt (.v 0) (.n 1048576)) rfl ht)];show quiet (CF (n+1) "_law_text" [.int (c+5*(i:Int)+3*(turn:Int)+1)] O)=_;rw [hx];rfl
  obtain ⟨st,h1,h2,h3⟩:=ih (i+1) (acc++[t]) (fun x hx=>by
   rcases List.mem_append.mp hx with q|q
   ·exact ha x q
   ·rw [List.mem_singleton] at q;subst q;exact Ki) (by exact ae [_,_] [] [.le (.p (.v 0) (.p (.v 1) (.n 1))) (.n 1000)] (.le (.p (.p (.v 0) (.n 1)) (.v 1)) (.n 1000)) rfl hi)
  refine ⟨st,by rw [h1,List.length_append];show acc.length+1+k=_;exact Nat.le_antisymm (ae [_,_] [] [] (.le (.p (.p (.v 0) (.n 1)) (.v 1)) (.p (.v 0) (.p (.v 1) (.n 1)))) rfl) (ae [_,_] [] [] (.le (.p (.v 0) (.p (.v 1) (.n 1))) (.p (.p (.v 0) (.n 1)) (.v 1))) rfl),h2,?_⟩;show (iy (CF (n+1)) (.lst (ns.map .int)) turn i O).bind _=_;rw [e];show j5 (CF (n+1)) (.lst (ns.map .int)) turn k (i+1) (acc.map .str++[.str t]) O=_;rw [<- h3,List.map_append];rfl
theorem OV (n:Nat) (ns:List Int) (hl:ns.length<=1000) (turn h:Nat) (ht:turn<=100) (hh:h<=100) (O:B):∃st:List Str,zn h st/\CF (n+2) "_law_stack" [.lst (ns.map .int),.int h,.int turn] O=.ok (.lst (st.map .str)) O:=by
 refine gR (QY n ns hl turn ht O h 0 [] (fun t ht=>by cases ht) (by exact ae [_] [] [.le (.v 0) (.n 100)] (.le (.p (.n 0) (.v 0)) (.n 1000)) rfl hh) ) fun st h1 h2 h3=>?_;refine ⟨st,⟨by rw [h1];show 0+h=h;exact Nat.le_antisymm (ae [_] [] [] (.le (.p (.n 0) (.v 0)) (.v 0)) rfl) (ae [_] [] [] (.le (.v 0) (.p (.n 0) (.v 0))) rfl),h2⟩,?_⟩;have e:CF (n+2) "_law_stack" [.lst (ns.map .int),.int h,.int turn] O=(bif decide (0<=(h:Int))&&decide ((h:Int)<=1000) then j5 (CF (n+1)) (.lst (ns.map .int)) turn (h:Int).toNat 0 [] O else .stuck):=by kernel_rfl
 rw [e,decide_eq_true (by exact ae [_] [] [] (.aJ (.k 0) (.c (.v 0))) rfl),decide_eq_true (by exact ae [_] [] [.le (.v 0) (.n 100)] (.aJ (.c (.v 0)) (.k 1000)) rfl hh)];exact h3
theorem Qp {H de bR d:Nat} {Q:dE} {rs:List Rw} (h:gG H (Good bR) de d Q rs):∀s,Q s->∀t∈s,Cl t:=by
 induction h with
 |nil _ h=>exact fun s hs=>(h s hs).2
 |cons _ _ _ _ _ h _ _=>exact h
theorem NU:Inv [] [] [⟨0,0,3⟩] 0 3 (Good (BB 0)) where
 en:=fun e he=>by
  rw [List.mem_singleton] at he;subst he;refine ⟨Nat.le_refl _,Nat.le_refl _,Nat.le_refl _,fun st=>rfl,fun st=>rfl,fun st hs=>?_,by decide⟩;refine ⟨trivial,trivial,⟨fun t ht=>(eu t (hs.2 t ht)).2.asc,fun f e=>by exact al e⟩,fun s e=>?_⟩;obtain rfl:=Option.some.inj e;exact ⟨lD (H:=3) (by decide) st ⟨Nat.le_of_eq hs.1,hs.2⟩,hs.1⟩
 tr:=⟨[],[],rfl,Nat.le_refl _,D5 _,.inl rfl⟩
 asc:=fun r hr=>by cases hr
 ol:=Nat.le_refl _
noncomputable def oZ (e:En):V:=.tup [.int e.at_,.int e.place,.int e.height]
noncomputable def bg (aq out:List Rw) (es:List En) (tl:List aZ):B:=.list (aq.map rv):: .list (out.map rv):: .list (es.map oZ)::tl
noncomputable def LW (ns:List Int) (d f:Int) (rest:Loc):Loc:=("script",.lst (ns.map .int))::("rows",.loc 0)::("out",.loc 1)::("entries",.loc 2)::("depth",.int d)::("floor",.int f)::rest
noncomputable def RA (k n l:V):Loc:=[("k",k),("number",n),("led",l)]
noncomputable def oo (k n l r du:V):Loc:=[("k",k),("number",n),("led",l),("row",r),("due",du)]
noncomputable def xC:Stmt->List Stmt
 |.For _ _ b _ _=>b
 |_=>[]
noncomputable def cY (b:List Stmt) (i:Nat):Stmt:=(az b i).getD oK
noncomputable def vy:List Stmt:=xC (cY (aP "law").body 2)
noncomputable def E6:List Stmt:=xC (cY vy 2)
theorem uN {α:Type}:∀(l:List α) (a:α),az (l++[a]) l.length=some a
 | [],a=>rfl
 |x::l,a=>uN l a
inductive Ae (ns:List Int) (k n:V) (aq out:List Rw) (es:List En) (d f:Nat) (bq:Int) (tl:List aZ) (q:RS):Prop
 |mk (r du:V):q=.fin .next (LW ns d f (oo k n (.int bq) r du)) (bg aq out es tl)->Ae ns k n aq out es d f bq tl q
inductive n6 (ns:List Int) (k nm:V) (d f:Nat) (bq:Int):Loc->Prop
 |a:n6 ns k nm d f bq (LW ns d f (RA k nm (.int bq)))
 |b (x y:V):n6 ns k nm d f bq (LW ns d f (oo k nm (.int bq) x y))
theorem PP (ns:List Int) (k nm:V) (aq out:List Rw) (es:List En) (d f:Nat) (bq:Int) (tl:List aZ) (r:Rw) (J:Loc) (bw:n6 ns k nm d f bq J)
 (hl:aq.length<=500) (ho:out.length<=500) (Ka:es.length<=500) (hm:aF r<=d) (hj:oM r=false)
 (hf:tQ out (bif bq==0 then out.length else f) r) (qg:∀x∈cw out (bif bq==0 then out.length else f) r,lO x):
 ∃fQ,Ae ns k nm (aq++[r]) (cw out (bif bq==0 then out.length else f) r) (bif bq==0 then es++[⟨aq.length,out.length,d⟩] else es) (d-aF r+gW r) (bif bq==0 then out.length else f) (bq-1) fQ
  (bB ((ev (GF 40) 38).x false (aP "law").scope) E6 (putL "row" (rv r) J) (bg aq out es tl)):=by
 have hp:∃rest,putL "row" (rv r) J=LW ns d f (("k",k)::("number",nm)::("led",.int bq)::("row",rv r)::rest)/\(rest=[]\/∃y,rest=([("due",y)]:Loc)):=by
  induction bw with
  |a=>exact ⟨[],rfl,.inl rfl⟩
  |b x y=>exact ⟨[("due",y)],rfl,.inr ⟨y,rfl⟩⟩
 refine aw hp ?_;clear hp;intro rest e oX;rw [e];generalize hF:(bif bq==0 then out.length else f)=F at hf qg ⊢;generalize hE:(bif bq==0 then es++[⟨aq.length,out.length,d⟩] else es)=E;refine ⟨tl++[.list (out.map rv)],ez (P:=Ae ns k nm (aq++[r]) (cw out F r) E (d-aF r+gW r) F (bq-1) (tl++[.list (out.map rv)])) ?_⟩;refine Run.cY (LW ns d F (("k",k)::("number",nm)::("led",.int bq)::("row",rv r)::rest)) (bg aq out E tl) (fun kn hk=>?_) ?_
 ·refine Run.br (fun h=>?_) (fun h=>?_)
  ·have h:(bq==0)=true:=h;rw [h] at hF hE;subst hF hE;have h1:cM (.builtin "len") [.loc 1] (bg aq out es tl)=.ok (.int (out.map rv).length) (bg aq out es tl):=kK rfl (by rw [List.length_map];exact ae [_] [] [.le (.v 0) (.n 500)] (.le (.v 0) (.n 1048576)) rfl ho);have h2:cM (.builtin "len") [.loc 0] (bg aq out es tl)=.ok (.int (aq.map rv).length) (bg aq out es tl):=kK rfl (by rw [List.length_map];exact ae [_] [] [.le (.v 0) (.n 500)] (.le (.v 0) (.n 1048576)) rfl hl);rw [List.length_map] at h1 h2;have h3:bk "append" (.loc 2) [oZ ⟨aq.length,out.length,d⟩] (bg aq out es tl)=.ok .none (bg aq out (es++[⟨aq.length,out.length,d⟩]) tl):=by
    rw [wZ (l:=es.map oZ) rfl (by rw [List.length_map];exact ae [_] [] [.le (.v 0) (.n 500)] (.le (.v 0) (.n 1048576)) rfl Ka)];unfold bg;rw [List.map_append];rfl
   exact Run.ok h1 (Run.Fq (uz (l:=es.map oZ) rfl) (Run.ok h2 (Run.ok h3 hk)))
  ·have h:(bq==0)=false:=h;rw [h] at hF hE;subst hF hE;exact hk
 refine Run.cY (LW ns d F (("k",k)::("number",nm)::("led",.int (bq-1))::("row",rv r)::rest)) (bg aq out E tl) (fun kn hk=>hk) ?_;refine Run.cY (LW ns d F (oo k nm (.int (bq-1)) (rv r) (.lst ((cw out F r).map rv)))) (bg aq out E (tl++[.list (out.map rv)])) (fun kn hk=>?_) ?_
 ·have h1:cM (.type "list") [.loc 1] (bg aq out E tl)=.ok (.loc (bg aq out E tl).length) (bg aq out E tl++[.list (out.map rv)]):=by
   show (bif bd (out.map rv).length then newObj (bg aq out E tl) (.list (out.map rv)) else .stuck)=_;rw [cR (by rw [List.length_map];exact ae [_] [] [.le (.v 0) (.n 500)] (.le (.v 0) (.n 1048576)) rfl ho)];rfl
  have h2:=Ht 29 out F r (by exact ae [_] [] [.le (.v 0) (.n 500)] (.le (.v 0) (.n 1000)) rfl ho) hf (bg aq out E tl++[.list (out.map rv)]) (bg aq out E tl).length (uN _ _);refine Run.ok h1 (Run.call h2 ?_);rcases oX with rfl|⟨y,rfl⟩
  ·exact hk
  ·exact hk
 refine Run.cY (LW ns d F (oo k nm (.int (bq-1)) (rv r) (.lst ((cw out F r).map rv)))) (bg aq (cw out F r) E (tl++[.list (out.map rv)])) (fun kn hk=>?_) ?_
 ·have h5:=Ru 30 out F r (by exact ae [_] [] [.le (.v 0) (.n 500)] (.le (.v 0) (.n 1000)) rfl ho) hf (bg aq out E (tl++[.list (out.map rv)])) 1 rfl;exact Run.call h5 hk
 refine Run.cY (LW ns d F (oo k nm (.int (bq-1)) (rv r) (.lst ((cw out F r).map rv)))) (bg aq (cw out F r) E (tl++[.list (out.map rv)])) (fun kn hk=>?_) ?_
 ·exact Run.ok (Qa (k:=1) rfl qg) (Run.ah rfl hk)
 refine Run.cY (LW ns d F (oo k nm (.int (bq-1)) (rv r) (.lst ((cw out F r).map rv)))) (bg (aq++[r]) (cw out F r) E (tl++[.list (out.map rv)])) (fun kn hk=>?_) ?_
 ·have h3:bk "append" (.loc 0) [rv r] (bg aq (cw out F r) E (tl++[.list (out.map rv)]))=.ok .none (bg (aq++[r]) (cw out F r) E (tl++[.list (out.map rv)])):=by
   rw [wZ (l:=aq.map rv) rfl (by rw [List.length_map];exact ae [_] [] [.le (.v 0) (.n 500)] (.le (.v 0) (.n 1048576)) rfl hl)];unfold bg;rw [List.map_append];rfl
  exact Run.Fq (uz (l:=aq.map rv) rfl) (Run.ok h3 hk)
 refine Run.call (JB 38 r hj _) (Run.leaf ⟨rv r,.lst ((cw out F r).map rv),?_⟩);have e:(d:Int)+((gW r:Int)-(aF r:Int))=((d-aF r+gW r:Nat):Int):=by exact Int.le_antisymm (ae [_,_,_,_] [] [.f (.p (.v 3) (.v 2)) (.v 0)] (.aJ (.p (.c (.v 0)) (.s (.c (.v 1)) (.c (.v 2)))) (.c (.p (.v 3) (.v 1)))) rfl (Nat.sub_add_cancel (ae [_,_] [] [.le (.v 0) (.v 1)] (.le (.v 0) (.v 1)) rfl hm))) (ae [_,_,_,_] [] [.e (.p (.v 0) (.v 3)) (.v 2)] (.aJ (.c (.p (.v 0) (.v 1))) (.p (.c (.v 2)) (.s (.c (.v 1)) (.c (.v 3))))) rfl (Nat.sub_add_cancel (ae [_,_] [] [.le (.v 0) (.v 1)] (.le (.v 0) (.v 1)) rfl hm)))
 show RS.fin .next (LW ns ((d:Int)+((gW r:Int)-(aF r:Int))) F (oo k nm (.int (bq-1)) (rv r) (.lst ((cw out F r).map rv)))) _=_;rw [e]
theorem HW {aq out:List Rw} {es:List En} {f d:Nat} {Q Q':dE} (h:Inv aq out es f d Q) (hq:∀s,Q s->Q' s):Inv aq out es f d Q' where
 en:=fun e he=>by
  have x:=h.en e he;exact ⟨x.lz,x.pl,x.len,x.run,x.go,fun st iT=>by
   refine mx (x.safe st iT ) fun a b c e=>?_;exact ⟨a,b,c,fun s hs=>⟨hq s (e s hs).1,(e s hs).2⟩⟩,x.o4⟩
 tr:=by refine oP h.tr fun A ts a b c e=>?_;exact ⟨A,ts,a,b,hq ts c,e⟩
 asc:=h.asc
 ol:=h.ol
inductive Cm (ns:List Int) (k nm:V) (j:Nat) (rs aq:List Rw) (q:RS):Prop
 |mk (kU oh:List Rw) (iA:List En) (d' f':Nat) (tE:Int) (fQ:List aZ) (aH:Loc):q=.fin .next aH (bg kU oh iA fQ)->n6 ns k nm d' f' tE aH->Inv kU oh iA f' d' (Good (BB (j+1)))->d'<=4+j->kU.length=aq.length+rs.length->
  iA.length<=kU.length+1->Cm ns k nm j rs aq q
theorem KJ {bq:Int} {es:List En} {e:En} {n:Nat} (h:es.length<=n+1):(bif bq==0 then es++[e] else es).length<=n+1+1:=by
 cases bq==0 with
 |true=>show (es++[_]).length<=_;rw [List.length_append];exact Nat.succ_le_succ h
 |false=>exact Nat.le_succ_of_le h
theorem yq {α:Type} {a r:α} {l rs:List α}:(l++[a]).length+rs.length=l.length+(r::rs).length:=by
 rw [List.length_append,List.length_cons,List.length_cons,List.length_nil];exact Nat.le_antisymm (ae [_,_] [] [] (.le (.p (.p (.v 0) (.p (.n 0) (.n 1))) (.v 1)) (.p (.v 0) (.p (.v 1) (.n 1)))) rfl) (ae [_,_] [] [] (.le (.p (.v 0) (.p (.v 1) (.n 1))) (.p (.p (.v 0) (.p (.n 0) (.n 1))) (.v 1))) rfl)
set_option tactic.hygienic true in
theorem MV (ns:List Int) (k nm:V) (j:Nat) (hj:j<7) (rs:List Rw):∀ {aq out:List Rw} {es:List En} {d f:Nat} {bq:Int} {tl:List aZ} {J:Loc} {Q:dE},n6 ns k nm d f bq J->Inv aq out es f d Q->gG (5+j) (Good (BB (j+1))) (4+j) d Q rs->aq.length+rs.length<=400->es.length<=aq.length+1->
 Cm ns k nm j rs aq (dH (fun J O=>bB ((ev (GF 40) 38).x false (aP "law").scope) E6 J O) "row" (rs.map rv) J (bg aq out es tl)):=by
 induction rs with
 |nil=>
  intro aq out es d f bq tl J Q bw hi hc hl he;cases hc with
  |nil h1 h2=>exact ⟨aq,out,es,d,f,bq,tl,J,rfl,bw,HW hi h2,h1,rfl,he⟩
 |cons r rs ih=>
  intro aq out es d f bq tl J Q bw hi hc hl he;cases hc with
  |cons h1 h2 h3 h4 h5 h6 h7 h8=>
   rename_i Q';have hl:=Nat.le_trans (Nat.le_of_eq (yq (a:=r) (r:=r) (l:=aq) (rs:=rs))) hl;have hr:aq.length<=400:=Nat.le_trans (Nat.le_add_right _ _) (Nat.le_trans (Nat.le_of_eq (yq (a:=r) (r:=r) (l:=aq) (rs:=rs)).symm) hl);have hI:Inv aq out (bif bq==0 then es++[⟨aq.length,out.length,d⟩] else es) (bif bq==0 then out.length else f) d Q:=by
    cases bq==0 with
    |true=>exact IK hi (H:=5+j) (by exact ae [_] [] [.lt (.v 0) (.n 7)] (.le (.p (.n 5) (.v 0)) (.n 20)) rfl hj) h2 h5
    |false=>exact hi
   have hf:=Pw hI.tr h7;have hN:=SQ hI h7 h1 h4 h3 h6 (Qp h8);obtain ⟨fQ,r',du,e⟩:=PP ns k nm aq out es d f bq tl r J bw (by exact ae [_] [] [.le (.v 0) (.n 400)] (.le (.v 0) (.n 500)) rfl hr) (by have:=hi.ol;exact ae [_,_] [] [.le (.v 1) (.n 400),.le (.v 0) (.v 1)] (.le (.v 0) (.n 500)) rfl hr this) (by exact ae [_,_] [] [.le (.v 0) (.p (.v 1) (.n 1)),.le (.v 1) (.n 400)] (.le (.v 0) (.n 500)) rfl he hr) h1 h3 hf hN.asc;obtain ⟨kU,oh,iA,d',f',tE,xV,aH,e2,a1,a2,a3,a4,a5⟩:=ih (tl:=fQ) (.b r' du) hN h8 hl (by rw [List.length_append];exact KJ he);refine ⟨kU,oh,iA,d',f',tE,xV,aH,?_,a1,a2,a3,a4.trans yq,a5⟩;rw [List.map_cons,lR,e];exact e2
inductive my (ns:List Int) (d f:Nat):Loc->Prop
 |z:my ns d f (LW ns d f [])
 |k (k nm:V) (bq:Int) (J:Loc):n6 ns k nm d f bq J->my ns d f J
inductive t6 (ns:List Int) (j n:Nat) (q:RS):Prop
 |mk (aq out:List Rw) (es:List En) (d f:Nat) (tl:List aZ) (J:Loc):q=.fin .next J (bg aq out es tl)->my ns d f J->Inv aq out es f d (Good (BB (j+1)))->d<=4+j->aq.length<=n+3->es.length<=aq.length+1->t6 ns j n q
theorem KD (ns:List Int) (af:ns.length<=1000) (j:Nat) (hj:j<7) (aq out:List Rw) (es:List En) (d f:Nat) (tl:List aZ) (J:Loc) (bw:my ns d f J) (hi:Inv aq out es f d (Good (BB j))) (hd:d<=3+j) (hl:aq.length<=300) (he:es.length<=aq.length+1):
 t6 ns j aq.length (bB ((ev (GF 40) 39).x false (aP "law").scope) vy (putL "k" (.int j) J) (bg aq out es tl)):=by
 have hp:∃rest,putL "k" (.int j) J=LW ns d f (("k",.int j)::rest)/\(rest=[]\/(∃nm bq,rest=([("number",nm),("led",bq)]:Loc))\/∃nm bq x y,rest=([("number",nm),("led",bq),("row",x),("due",y)]:Loc)):=by
  induction bw with
  |z=>exact ⟨[],rfl,.inl rfl⟩
  |k k nm bq J h=>
   induction h with
   |a=>exact ⟨_,rfl,.inr (.inl ⟨_,_,rfl⟩)⟩
   |b x y=>exact ⟨_,rfl,.inr (.inr ⟨_,_,_,_,rfl⟩)⟩
 refine aw hp ?_;clear hp;intro rest e oX;rw [e];refine aB (xo 39 ns (j:Int) (by exact ae [_] [] [] (.aJ (.k 0) (.c (.v 0))) rfl) af (bg aq out es tl) ) fun c1 wN=>?_;refine aB (xo 39 ns (7+(j:Int)) (by exact ae [_] [] [] (.aJ (.k 0) (.p (.k 7) (.c (.v 0)))) rfl) af (bg aq out es tl) ) fun c2 Gp=>?_;have O':ct .Mult (.int 31) (.int (j:Int)) (bg aq out es tl)=.ok (.int ((31:Nat)*(j:Int))) (bg aq out es tl):=Am (a:=31) (b:=j) (by decide) (by rw [wu];exact ae [_] [] [.lt (.v 0) (.n 7)] (.lt (.v 0) (.n 1048576)) rfl hj) _;refine ez (P:=t6 ns j aq.length) ?_;refine Run.stmt (fun J O=>(∃r2,J=LW ns d f (("k",.int j)::("number",.int (c1+(31:Nat)*(j:Int)+4))::r2)/\(r2=[]\/(∃bq,r2=([("led",bq)]:Loc))\/∃bq x y,r2=([("led",bq),("row",x),("due",y)]:Loc)))/\O=bg aq out es tl) (fun kn hk=>?_) ?_
 ·refine Run.call wN (Run.ok O' ?_);rcases oX with rfl|⟨nm,bq,rfl⟩|⟨nm,bq,x,y,rfl⟩
  ·exact hk _ _ ⟨⟨_,rfl,.inl rfl⟩,rfl⟩
  ·exact hk _ _ ⟨⟨_,rfl,.inr (.inl ⟨_,rfl⟩)⟩,rfl⟩
  ·exact hk _ _ ⟨⟨_,rfl,.inr (.inr ⟨_,_,_,rfl⟩)⟩,rfl⟩
 rintro _ _ ⟨⟨r2,rfl,DV⟩,rfl⟩;generalize c1+(31:Nat)*(j:Int)+4=N;refine Run.stmt (fun J O=>(∃bq:Int,n6 ns (.int j) (.int N) d f bq J)/\O=bg aq out es tl) (fun kn hk=>?_) ?_
 ·refine Run.call Gp (Run.bK (eW (by decide)) ?_);rcases DV with rfl|⟨bq,rfl⟩|⟨bq,x,y,rfl⟩
  ·exact hk _ _ ⟨⟨_,.a⟩,rfl⟩
  ·exact hk _ _ ⟨⟨_,.a⟩,rfl⟩
  ·exact hk _ _ ⟨⟨_,.b _ _⟩,rfl⟩
 rintro Ua _ ⟨⟨bq,mo⟩,rfl⟩;have hm:=fB (a:=N) (b:=13) (by decide);refine gR (O1 38 (N.fdiv 13) d (bg aq out es tl) (N.fmod 13) hm.1 hm.2 ) fun rs Np h3 FY=>?_;obtain ⟨kU,oh,iA,d',f',tE,fQ,aH,e2,a1,a2,a3,a4,a5⟩:=MV ns (.int j) (.int N) j hj rs (tl:=tl) mo hi (FY j hj hd) (by exact ae [_,_] [] [.le (.v 0) (.n 300),.le (.v 1) (.n 3)] (.le (.p (.v 0) (.v 1)) (.n 400)) rfl hl h3) he;have fin:=Run.leaf (P:=t6 ns j aq.length) ⟨kU,oh,iA,d',f',fQ,aH,rfl,.k _ _ _ _ a1,a2,a3,by exact ae [_,_,_] [] [.le (.v 2) (.n 3),.e (.v 0) (.p (.v 1) (.v 2))] (.le (.v 0) (.p (.v 1) (.n 3))) rfl h3 a4,a5⟩;clear a1 a2 a3 a4 a5 FY oX e DV hm;induction mo<;>exact Run.bK (eW (by decide)) (Run.bK (jR (by decide) (by decide)) (Run.call Np (Run.next e2 fin)))
inductive sC (ns:List Int) (q:RS):Prop
 |mk (aq out:List Rw) (es:List En) (d f:Nat) (tl:List aZ) (J:Loc):q=.fin .next J (bg aq out es tl)->my ns d f J->Inv aq out es f d (Good (BB 7))->aq.length<=21->es.length<=aq.length+1->sC ns q
theorem Nb (ns:List Int) (af:ns.length<=1000) (m:Nat):∀ {j:Nat} {aq out:List Rw} {es:List En} {d f:Nat} {tl:List aZ} {J:Loc},j+m=7->my ns d f J->Inv aq out es f d (Good (BB j))->d<=3+j->aq.length<=3*j->es.length<=aq.length+1->
 sC ns (dH (fun J O=>bB ((ev (GF 40) 39).x false (aP "law").scope) vy J O) "k" ((List.range' j m).map fun k=>.int (Int.ofNat k)) J (bg aq out es tl)):=by
 induction m with
 |zero=>
  intro j aq out es d f tl J hj bw hi hd hl he;obtain rfl:j=7:=hj;exact ⟨aq,out,es,d,f,tl,J,rfl,bw,hi,hl,he⟩
 |succ m ih=>
  intro j aq out es d f tl J hj bw hi hd hl he;obtain ⟨kU,oh,iA,d',f',fQ,aH,e,a1,a2,a3,a4,a5⟩:=KD ns af j (by exact ae [_,_] [] [.e (.p (.v 0) (.p (.v 1) (.n 1))) (.n 7)] (.lt (.v 0) (.n 7)) rfl hj) aq out es d f tl J bw hi hd (by exact ae [_,_,_] [] [.x 3 (.e (.p (.v 1) (.p (.v 2) (.n 1))) (.n 7)),.le (.v 0) (.m 3 (.v 1))] (.le (.v 0) (.n 300)) rfl hj hl) he;have ih:=ih (j:=j+1) (tl:=fQ) (by exact Nat.le_antisymm (ae [_,_] [] [.e (.p (.v 0) (.p (.v 1) (.n 1))) (.n 7)] (.le (.p (.p (.v 0) (.n 1)) (.v 1)) (.n 7)) rfl hj) (ae [_,_] [] [.f (.p (.v 0) (.p (.v 1) (.n 1))) (.n 7)] (.le (.n 7) (.p (.p (.v 0) (.n 1)) (.v 1))) rfl hj)) a1 a2 (by exact ae [_,_] [] [.le (.v 0) (.p (.n 4) (.v 1))] (.le (.v 0) (.p (.n 3) (.p (.v 1) (.n 1)))) rfl a3) (by exact ae [_,_,_] [] [.le (.v 2) (.m 3 (.v 1)),.le (.v 0) (.p (.v 2) (.n 3))] (.le (.v 0) (.m 3 (.p (.v 1) (.n 1)))) rfl hl a4) a5;rw [List.range'_succ,List.map_cons,lR];show sC ns ((bB ((ev (GF 40) 39).x false (aP "law").scope) vy (putL "k" (.int (j:Int)) J) (bg aq out es tl)).bind fun J O=>dH _ "k" _ J O);rw [e];exact ih
theorem xk {α:Type}:∀(l:List α) (a b:α),bu (l++[a]) l.length b=l++[b]
 | [],a,b=>rfl
 |x::l,a,b=>by
  show x::bu (l++[a]) l.length b=_;rw [xk l];rfl
noncomputable def yT:List Stmt:=xC (cY (aP "law").body 3)
noncomputable def zo (b:Loc):Prop:=b=[]\/(∃k nm bq,b=([("k",k),("number",nm),("led",bq)]:Loc))\/∃k nm bq x y,b=([("k",k),("number",nm),("led",bq),("row",x),("due",y)]:Loc)
theorem my.shape {ns:List Int} {d f:Nat} {J:Loc} (h:my ns d f J):∃b,J=LW ns d f b/\zo b:=by
 induction h with
 |z=>exact ⟨_,rfl,.inl rfl⟩
 |k k nm bq J h=>
  induction h with
  |a=>exact ⟨_,rfl,.inr (.inl ⟨_,_,_,rfl⟩)⟩
  |b x y=>exact ⟨_,rfl,.inr (.inr ⟨_,_,_,_,_,rfl⟩)⟩
noncomputable def TT (t a p h s:V):Loc:=[("turn",t),("at",a),("place",p),("height",h),("stack",s)]
noncomputable def xh (ns:List Int) (d f:Nat) (b:Loc) (J:Loc):Prop:=J=LW ns d f b\/∃t a p h s,J=LW ns d f (b++TT t a p h s)
theorem KN (ns:List Int) (af:ns.length<=1000) (aq out:List Rw) (es:List En) (d f:Nat) (Q:dE) (hi:Inv aq out es f d Q) (hl:aq.length<=100) (he:es.length<=100) (turn:Nat) (ht:turn<es.length) (b:Loc) (hb:zo b) (tl:List aZ) (J:Loc) (bw:xh ns d f b J):
 ∃fQ aH,bB ((ev (GF 40) 39).x false (aP "law").scope) yT (putL "turn" (.int turn) J) (bg aq out es tl)=.fin .next aH (bg aq out es fQ)/\xh ns d f b aH:=by
 have wT:=hi.ol;refine aw (BP (O:=bg aq out es tl) (k:=2) (l:=es.map oZ) rfl (i:=(turn:Int)) (by exact ae [_] [] [] (.aJ (.k 0) (.c (.v 0))) rfl) (by rw [List.length_map];exact ae [_,_] [] [.lt (.v 0) (.v 1)] (.aY (.c (.v 0)) (.c (.v 1))) rfl ht) (by rw [List.length_map];exact ae [_] [] [.le (.v 0) (.n 100)] (.le (.v 0) (.n 1048576)) rfl he) ) fun v hv TO=>?_;refine aw (vg TO ) ?_;rintro e Hk rfl;have hE:=hi.en e (qm Hk);refine aw (OV 38 ns af turn e.height (by exact ae [_,_] [] [.le (.v 1) (.n 100),.lt (.v 0) (.v 1)] (.le (.v 0) (.n 100)) rfl he ht) (by have:=hE.o4;exact ae [_] [] [.le (.v 0) (.n 20)] (.le (.v 0) (.n 100)) rfl this) (bg aq out es tl) ) fun st iT MC=>?_;refine mx (hE.safe st iT ) fun s1 s2 s3 _=>?_;have mc:st.length<=20:=by have:=hE.o4;rw [iT.1];exact this
 have n1:=F7 _ st s1 (by rw [List.length_drop];exact ae [_,_,_] [] [.le (.v 2) (.n 100),.le (.v 0) (.n 20),.le (.v 1) (.v 2)] (.le (.p (.v 0) (.v 1)) (.n 70000)) rfl hl mc (Nat.sub_le _ _));have n2:=F7 _ st s2 (by rw [List.length_drop];exact ae [_,_,_,_] [] [.le (.v 2) (.n 100),.le (.v 3) (.v 2),.le (.v 0) (.n 20),.le (.v 1) (.v 3)] (.le (.p (.v 0) (.v 1)) (.n 70000)) rfl hl wT mc (Nat.sub_le _ _));have f1:d9 (.loc 0) (.int e.at_) .none (bg aq out es tl)=.ok (.loc (bg aq out es tl).length) (bg aq out es tl++[.list ((aq.drop e.at_).map rv)]):=by
  rw [qW (l:=aq.map rv) rfl (by rw [List.length_map];exact ae [_] [] [.le (.v 0) (.n 100)] (.le (.v 0) (.n 1048576)) rfl hl),<- List.map_drop]
 have r1:=Ej 29 (aq.drop e.at_) st n1 (bg aq out es tl++[.list ((aq.drop e.at_).map rv)]) (bg aq out es tl).length (uN _ _);rw [xk] at r1;have f2:d9 (.loc 1) (.int e.place) .none (bg aq out es (tl++[.dead]))=.ok (.loc (bg aq out es (tl++[.dead])).length) (bg aq out es (tl++[.dead])++[.list ((out.drop e.place).map rv)]):=by
  rw [qW (l:=out.map rv) rfl (by rw [List.length_map];exact ae [_,_] [] [.le (.v 1) (.n 100),.le (.v 0) (.v 1)] (.le (.v 0) (.n 1048576)) rfl hl wT),<- List.map_drop]
 have r2:=Ej 29 (out.drop e.place) st n2 (bg aq out es (tl++[.dead])++[.list ((out.drop e.place).map rv)]) (bg aq out es (tl++[.dead])).length (uN _ _);rw [xk,<- hE.run st] at r2;have h1:cM (.builtin "len") [.loc 1] (bg aq out es (tl++[.dead]++[.dead]))=.ok (.int out.length) (bg aq out es (tl++[.dead]++[.dead])):=(kK (l:=out.map rv) rfl (by rw [List.length_map];exact ae [_,_] [] [.le (.v 1) (.n 100),.le (.v 0) (.v 1)] (.le (.v 0) (.n 1048576)) rfl hl wT)).trans (by rw [List.length_map]);have h2:cM (.builtin "len") [.loc 0] (bg aq out es (tl++[.dead]++[.dead]))=.ok (.int aq.length) (bg aq out es (tl++[.dead]++[.dead])):=(kK (l:=aq.map rv) rfl (by rw [List.length_map];exact ae [_] [] [.le (.v 0) (.n 100)] (.le (.v 0) (.n 1048576)) rfl hl)).trans (by rw [List.length_map]);have To:decide ((out.length:Int)-(e.place:Int)>(aq.length:Int)-(e.at_:Int))=false:=decide_eq_false (by have:=hE.len;exact fun zz=>Nat.lt_irrefl 0 (ae [_,_,_,_] [] [.le (.p (.v 0) (.v 1)) (.p (.v 2) (.v 3)),.aY (.s (.c (.v 2)) (.c (.v 1))) (.s (.c (.v 0)) (.c (.v 3)))] (.lt (.n 0) (.n 0)) rfl this zz));have cj:=Ov (O:=bg aq out es (tl++[.dead]++[.dead])) s3;refine ⟨tl++[.dead]++[.dead],LW ns d f (b++TT (.int turn) (.int e.at_) (.int e.place) (.int e.height) (.lst (st.map .str))),ez (P:=fun q=>q=.fin .next (LW ns d f (b++TT (.int turn) (.int e.at_) (.int e.place) (.int e.height) (.lst (st.map .str)))) (bg aq out es (tl++[.dead]++[.dead]))) ?_,.inr ⟨_,_,_,_,_,rfl⟩⟩;rcases hb with h_|⟨k,nm,bq,h_⟩|⟨k,nm,bq,x,y,h_⟩
 all_goals
  refine Run.stmt (fun J O=>(J=LW ns d f (b++([("turn",.int turn),("at",.int e.at_),("place",.int e.place),("height",.int e.height)]:Loc))\/∃s,J=LW ns d f (b++TT (.int turn) (.int e.at_) (.int e.place) (.int e.height) s))/\O=bg aq out es tl) (fun kn hk=>?_) ?_
  ·subst h_;rcases bw with rfl|⟨_,_,_,_,s,rfl⟩
   ·exact Run.ok hv (hk _ _ ⟨.inl rfl,rfl⟩)
   ·exact Run.ok hv (hk _ _ ⟨.inr ⟨s,rfl⟩,rfl⟩)
  rintro _ _ ⟨OJ,rfl⟩;refine Run.cY (LW ns d f (b++TT (.int turn) (.int e.at_) (.int e.place) (.int e.height) (.lst (st.map .str)))) (bg aq out es tl) (fun kn hk=>?_) ?_
  ·subst h_;rcases OJ with rfl|⟨s,rfl⟩
   all_goals exact Run.call MC hk
  subst h_;exact Run.ok f1 (Run.call r1 (Run.ok f2 (Run.call r2 (Run.ok cj (Run.ah rfl (Run.ok h1 (Run.ok h2 (Run.ah To (Run.ah rfl (Run.leaf rfl))))))))))
theorem Ox (ns:List Int) (af:ns.length<=1000) (aq out:List Rw) (es:List En) (d f:Nat) (Q:dE) (hi:Inv aq out es f d Q) (hl:aq.length<=100) (he:es.length<=100) (b:Loc) (hb:zo b):∀(m j:Nat) (tl:List aZ) (J:Loc),j+m=es.length->xh ns d f b J->
 ∃fQ aH,dH (fun J O=>bB ((ev (GF 40) 39).x false (aP "law").scope) yT J O) "turn" ((List.range' j m).map fun k=>.int (Int.ofNat k)) J (bg aq out es tl)=.fin .next aH (bg aq out es fQ):=by
 intro m;induction m with
 |zero=>exact fun j tl J _ _=>⟨tl,J,rfl⟩
 |succ m ih=>
  intro j tl J hj bw;refine b_ (KN ns af aq out es d f Q hi hl he j (by exact ae [_,_,_] [] [.e (.p (.v 0) (.p (.v 2) (.n 1))) (.v 1)] (.lt (.v 0) (.v 1)) rfl hj) b hb tl J bw ) fun fQ aH e h=>?_;refine eO (ih (j+1) fQ aH (by exact Nat.le_antisymm (ae [_,_,_] [] [.e (.p (.v 0) (.p (.v 1) (.n 1))) (.v 2)] (.le (.p (.p (.v 0) (.n 1)) (.v 1)) (.v 2)) rfl hj) (ae [_,_,_] [] [.f (.p (.v 1) (.p (.v 2) (.n 1))) (.v 0)] (.le (.v 0) (.p (.p (.v 1) (.n 1)) (.v 2))) rfl hj)) h ) fun xV qP e2=>?_;refine ⟨xV,qP,?_⟩;rw [List.range'_succ,List.map_cons,lR];show (bB ((ev (GF 40) 39).x false (aP "law").scope) yT (putL "turn" (.int (j:Int)) J) (bg aq out es tl)).bind _=_;rw [e];exact e2
noncomputable def D_ (q:RS):Prop:=∃J O,q=.fin (.ret (.bool true)) J O
theorem IH (ns:List Int) (af:ns.length<=1000):D_ (bB ((ev (GF 40) 40).x false (aP "law").scope) (aP "law").body [("script",.lst (ns.map .int))] []):=by
 refine ez (P:=D_) ?_;refine Run.cY (([("script",.lst (ns.map .int)),("rows",.loc 0),("out",.loc 1),("entries",.loc 2)]:Loc)) (bg [] [] [⟨0,0,3⟩] []) (fun kn hk=>hk) ?_;refine Run.cY (LW ns (3:Nat) (0:Nat) []) (bg [] [] [⟨0,0,3⟩] []) (fun kn hk=>hk) ?_;refine Run.stmt (fun J O=>sC ns (.fin .next J O)) (fun kn hk=>?_) ?_
 ·refine Run.ok (v:=.rng 7) (O:=bg [] [] [⟨0,0,3⟩] []) (by kernel_rfl) (Run.gH (sC ns) ?_ ?_)
  ·exact Nb ns af 7 rfl .z NU (by decide) (by decide) (by decide)
  ·intro q hq;obtain ⟨aq,out,es,d,f,tl,J,rfl,h1,h2,h3,h4⟩:=hq;exact Run.next rfl (hk _ _ ⟨aq,out,es,d,f,tl,J,rfl,h1,h2,h3,h4⟩)
 rintro UG Ur ⟨aq,out,es,d,f,tl,J,e0,bw,hi,hl,he⟩;cases e0;refine aw bw.shape ?_;rintro b rfl hb;refine eO (Ox ns af aq out es d f _ hi (by exact ae [_] [] [.le (.v 0) (.n 21)] (.le (.v 0) (.n 100)) rfl hl) (by exact ae [_,_] [] [.le (.v 1) (.n 21),.le (.v 0) (.p (.v 1) (.n 1))] (.le (.v 0) (.n 100)) rfl hl he) b hb es.length 0 tl (LW ns d f b) (by exact Nat.le_antisymm (ae [_] [] [] (.le (.p (.n 0) (.v 0)) (.v 0)) rfl) (ae [_] [] [] (.le (.v 0) (.p (.n 0) (.v 0))) rfl)) (.inl rfl) ) fun fQ aH e2=>?_;refine Run.stmt (fun J O=>True) (fun kn hk=>?_) (fun J O _=>Run.leaf ⟨_,_,rfl⟩);have h2:cM (.builtin "len") [.loc 2] (bg aq out es tl)=.ok (.int es.length) (bg aq out es tl):=(kK (l:=es.map oZ) rfl (by rw [List.length_map];exact ae [_,_] [] [.le (.v 1) (.n 21),.le (.v 0) (.p (.v 1) (.n 1))] (.le (.v 0) (.n 1048576)) rfl hl he)).trans (by rw [List.length_map]);have h3:cM (.type "range") [.int es.length] (bg aq out es tl)=.ok (.rng es.length) (bg aq out es tl):=by
  show (bif decide (0<=(es.length:Int))&&decide ((es.length:Int)<=1000000) then R.ok (V.rng es.length) (bg aq out es tl) else .stuck)=_;rw [decide_eq_true (by exact ae [_] [] [] (.aJ (.k 0) (.c (.v 0))) rfl),decide_eq_true (by exact ae [_,_] [] [.le (.v 1) (.n 21),.le (.v 0) (.p (.v 1) (.n 1))] (.aJ (.c (.v 0)) (.k 1000000)) rfl hl he)];rfl
 have h4:∀(bv:Loc->B->RS) (J:Loc) (O:B),gQ bv "turn" (.rng es.length) J O=dH bv "turn" ((List.range' 0 es.length).map fun k=>.int (Int.ofNat k)) J O:=fun bv J O=>by
  have e:fk (.rng es.length) O=some ((List.range' 0 es.length).map (fun k=>V.int (Int.ofNat k)),O):=by
   show (bif decide (0<=(es.length:Int))&&decide ((es.length:Int)<=1000000) then some ((List.range (es.length:Int).toNat).map (fun k=>V.int (Int.ofNat k)),O) else none)=_;rw [decide_eq_true (by exact ae [_] [] [] (.aJ (.k 0) (.c (.v 0))) rfl),decide_eq_true (by exact ae [_,_] [] [.le (.v 1) (.n 21),.le (.v 0) (.p (.v 1) (.n 1))] (.aJ (.c (.v 0)) (.k 1000000)) rfl hl he),Int.toNat_natCast,List.range_eq_range'];rfl
  unfold gQ;rw [e]
 rcases hb with rfl|⟨k,nm,bq,rfl⟩|⟨k,nm,bq,x,y,rfl⟩
 all_goals exact Run.ok h2 (Run.ok h3 (Run.next ((h4 _ _ _).trans e2) (hk _ _ trivial)))
theorem Jt {P:Params} {h:Heap} {g:Gd} {Z:Zm} {as:List Addr}:∀ {ns:List Int} {vs:List Value},WellAll P h vs (ns.map fun i=>WData.int i)->aO g Z as (ns.map .int) vs:=by
 intro ns;induction ns with
 |nil=>intro vs w;cases w;exact .nil
 |cons n ns ih=>intro vs w;cases w with|cons w ws=>cases w;exact .cons (.int _ _) (ih ws)
theorem Kz:∀ns:List Int,ofPy (PyData.list (ns.map PyData.int))=.list (ns.map fun i=>WData.int i):=by
 intro ns;induction ns with
 |nil=>rfl
 |cons n ns ih=>
  simp only [ofPy,ofPys,List.map_cons] at ih ⊢;rw [WData.list.injEq] at ih;rw [ih]
inductive Cz (P:Prop):Prop
 |mk:P->Cz P
theorem Cz.out {P:Prop} (h:Cz P):P:=by induction h with|mk k=>exact k
section
variable {mg mb:Gv} {K:Frag} {p:Program} {w:World} {bG:Shared} {ag:Heap} {fa a:Addr} {cd:Value} {name:Str}
theorem Jf (dh:uP ⟨p,w,mg⟩ bG.heap mb K prog) {W N:Nat} (hN:N<=100) {sc:Scope} {body:List Stmt} {ns:List Int} {m:Gv} {tk:Nat} (hk:sc.kind=.function) (F:Fr bG.heap bG.heap.objs.size ag m)
 (hm:m "script" = some (.ref a)) (hw:Well w.params bG.heap (.ref a) (ofPy (PyData.list (ns.map PyData.int))))
 {J:Loc} {O:B} (t7:bB ((ev ⟨dA prog W N,W,prog.names⟩ 40).x false sc) body [("script",.lst (ns.map .int))] []=.fin (.ret (.bool true)) J O)
 {Q:Flow->Shared->Prop} {E:Value->Shared->Prop} (hQ:∀h' tk,(∀b o,bG.heap.get? b=some o->h'.get? b=some o)->Q (.ret (.bool true)) {bG with heap:=h',toks:=tk}):
 Cz (wpAny (model p w) (callerA.deeper (envOf name sc bG.heap.objs.size fa cd)) (execs body (envOf name sc bG.heap.objs.size fa cd)) Q E {bG with heap:=ag,toks:=tk}):=by
 apply Cz.mk;generalize hE:envOf name sc bG.heap.objs.size fa cd=env;have e1:env.scope=sc:=by subst hE;rfl
 have e2:env.locals=bG.heap.objs.size:=by subst hE;rfl
 have e3:env.frame=some bG.heap.objs.size:=by subst hE;rfl
 have e4:env.globals=mainGlobals:=by subst hE;rfl
 have e5:env.builtins=builtinsNs:=by subst hE;rfl
 have fE:bG.heap.get? bG.heap.objs.size=none:=dg _;refine dW (id F.ns ) fun oL uQ pK gJ nQ _=>?_;have NT:St ⟨p,w,mg⟩ bG.heap [] (fun b=>bG.heap.get? b) [] [] bG.heap:=⟨fun _ _ e=>e,fun _ _ e=>⟨e,fun q=>(by cases q)⟩,rfl,fun n a o e=>(by induction n using cz<;>exact al e),fun n a o e=>(by induction n using cz<;>exact al e),fun a ha=>(by cases ha),fun n m a e=>(by induction n using cz<;>exact al e),fun b hb=>(by cases hb)⟩
 have S:St ⟨p,w,mg⟩ bG.heap [bG.heap.objs.size] (fun b=>bG.heap.get? b) [] [] ag:=((Go.keeps NT F.keep).st).into fE (fun q=>(by cases q)) gJ nQ;have FM:Fm (callerA.deeper env) [bG.heap.objs.size] env sc false:=⟨e1,hk,e4,e5,by rw [e2];exact .head _,fun _=>⟨rfl,by rw [e3,e2],[],rfl,fun e he=>by
  rw [List.mem_singleton] at he;subst he;exact ⟨(by rw [e1,hk];intro z;exact ScopeKind.noConfusion z),_,e3,.head _⟩⟩⟩
 have rm:Rm (callerA.deeper env) N:=⟨by show 1+claimMargin+1+_+_<_;unfold claimMargin recursionLimit;exact ae [_] [] [.x 4 (.le (.v 0) (.n 100))] (.lt (.p (.p (.p (.p (.n 1) (.n 300)) (.n 1)) (.m 4 (.v 0))) (.n 8)) (.n 1000)) rfl hN,by show 4+3+_+_<_;unfold cLine;exact ae [_] [] [.x 20 (.le (.v 0) (.n 100))] (.lt (.p (.p (.p (.n 4) (.n 3)) (.m 20 (.v 0))) (.n 100)) (.n 9900)) rfl hN⟩
 rw [Kz] at hw;have rv:RV ⟨p,w,mg⟩ (fun b=>bG.heap.get? b) [] (.lst (ns.map .int)) (.ref a):=by
  cases hw with
  |@list _ vs _ ho hx=>exact .lst (items:=vs.toArray) (n:=0) ho (by rw [List.toList_toArray];exact Jt hx)
 have lo:aW ⟨p,w,mg⟩ (fun b=>bG.heap.get? b) [] [("script",.lst (ns.map .int))] env ag:=⟨m,by rw [e2];exact F.ns,fun y v e=>by
  rw [lE] at e;by_cases q:("script" : Str)=y
  ·subst q;rw [cH (bY.mpr rfl)] at e;obtain rfl:=Option.some.inj e;exact ⟨_,hm,rv⟩
  ·rw [gy (gq.mpr q)] at e;exact al e⟩
 have key:=kY (s:={bG with heap:=ag,toks:=tk}) (u' (Γ:=⟨dA prog W N,W,prog.names⟩) dh.T dh.tc (Et dh W N) 40).x FM rm S lo (by rw [t7];intro z;exact RS.noConfusion z);rw [t7] at key;refine wpAny_mono key (fun f s' x=>?_) fun v s' x=>?_
 ·obtain ⟨f',aH,σ',h',bO,Z',aL,q1,rfl,G,l',fr⟩:=x;refine fw (RS.fin.inj q1 ) ?_;rintro rfl rfl rfl;cases fr with
  |ret r=>
   cases r;exact hQ h' bO fun b o e=>(G.st.bN b o (G.st.base b o e)).1
 ·obtain ⟨f,aH,σ',h',bO,Z',aL,e,q1,_⟩:=x;exact RS.noConfusion q1
end
section
theorem R_:dz "law" = aP "law" := rfl
theorem Rk (ns:List Int) (af:ns.length<=1000):∃J O,bB ((ev ⟨dA prog 100000 40,100000,prog.names⟩ 40).x false (dz "law").scope) (dz "law").body [("script",.lst (ns.map .int))] []=.fin (.ret (.bool true)) J O:=by
 rw [R_];exact IH ns af
theorem Kk:PySem.Challenge.rw_oj0067_01.row.toRowW.promised:=⟨[.list []],by decide+kernel,by decide+kernel⟩
local macro_rules
 | `(tactic|k_qdec)=> `(tactic|decide+kernel)
set_option tactic.hygienic true in
theorem cw_holdsX:PySem.Challenge.rw_oj0067_01.Holds:=holds_law Lc fun MG=>by
 refine holds_open (q:=vw) (loose:=lo) (Xt:=wn) (XP:=XL vw []) (Yf:=uy) (Ya:=fun _=>rN) (YP:=uY) (d:=sL) (kwd:=[]) (N:=7156) left NV Qr (fun s e=>xl_of s (Bool.and_eq_true_iff.mp e).1) XL.keeps GU GO (by rfl) (fun s e=>recFacts_of (Bool.and_eq_true_iff.mp e).2) (by rfl) MG M0 ⟨rfl,rfl,rfl,rfl,rfl,by decide+kernel⟩ Kk ?_
 w_strict (
  intro w UQ bG mg mb G Y fa o pm cd doc dV kV ho hd ji hD MQ hg args ai as Mj NQ Ph Hh Ea
  k_behind G ho hd ji hD MQ Mj NQ Ph Hh Ea cd)
 rename_i X V GL T bR TE TW w9 w8 M w7 w6 ns hs Ui UK UY Ut w4 w3 a vs w0 hL ra w1 r0 hI hr wN Dx K0 ag F N0;obtain ⟨J,O,t7⟩:=Rk ns (by exact ae [_] [] [.aJ (.c (.v 0)) (.c (.n 63))] (.le (.v 0) (.n 1000)) rfl (Int.not_lt.mp wN));obtain ⟨K,KX,KF⟩:=Y;have dh:=Pq (g:=⟨PySem.Challenge.rw_oj0067_01.row.prog,w,mg⟩) KX KF T.g T.b T.builtins T.nolimit T.nodigits;generalize hP:(wpAny _ _ _ _ _ _:Prop)=P;refine Cz.out ?_;subst hP;refine Jf (W:=100000) (N:=40) (ns:=ns) (a:=a) dh (by exact ae [] [] [] (.le (.n 40) (.n 100)) rfl) (by kernel_rfl) F (by kernel_rfl) w1 t7 ?_;intro h' tk hk;exact ⟨.inl ⟨.bool true,.bool true,[],rfl,(fun _=>by kernel_rfl),.bool true,by kernel_rfl,unshared_nil⟩,hk,rfl,hg⟩
end
end Mine
set_option maxHeartbeats 0 in
theorem PySem.Challenge.cw_oj0067_01_holds : PySem.Challenge.rw_oj0067_01.Holds :=
  Mine.cw_holdsX
