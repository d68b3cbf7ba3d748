import PyProof.Rows.All
import Wide.All
import OpenK.AllK
import Wide.FinOn
import Lean
import PySem.Challenge.RW_nt0377_01
set_option Elab.async false
set_option genSizeOf false
set_option genInjectivity false
set_option genCtorIdx false
set_option backward.match.sparseCases false
set_option linter.all false
set_option bootstrap.genMatcherCode false
noncomputable section
namespace Mine.Internal.Ln
inductive T where
 |v (i:Nat)
 |k (n:Nat)
 |p (a b:T)
 |m (n:Nat) (a:T)
 |s (a b:T)
inductive F where
 |le (z:Bool) (a b:T)
 |eq (z:Bool) (a b:T)
 |a (a b:F)
 |o (a b:F)
 |i (a b:F)
 |f
noncomputable abbrev F.n:=F.le false
noncomputable abbrev F.z:=F.le true
noncomputable abbrev F.q:=F.eq false
noncomputable abbrev F.y:=F.eq true
noncomputable abbrev T.a:=T.v 0
noncomputable abbrev T.b:=T.v 1
noncomputable abbrev T.c:=T.v 2
noncomputable abbrev T.d:=T.v 3
noncomputable abbrev T.e:=T.v 4
noncomputable abbrev T.f:=T.v 5
noncomputable abbrev T.g:=T.v 6
noncomputable abbrev T.h:=T.v 7
noncomputable abbrev T.i:=T.v 8
noncomputable abbrev T.j:=T.v 9
noncomputable def nth{α:Type}(d:α)(l:List α):Nat→α:=List.rec (fun _=>d) (fun a _ f i=>Nat.rec a (fun i _=>f i) i) l
noncomputable def T.N(r:List Nat)(t:T):Nat:=T.rec (nth 0 r) (fun n=>n) (fun _ _ x y=>x+y) (fun n _ x=>n*x) (fun _ _ x y=>x+y) t
noncomputable def T.Z(r:List Int)(t:T):Int:=T.rec (nth 0 r) (fun n=>(n:Int)) (fun _ _ x y=>x+y) (fun n _ x=>(n:Int)*x) (fun _ _ x y=>x-y) t
noncomputable def vals(s:List Int)(r:List Nat):List Int:=s++r.map Int.ofNat
noncomputable def F.den(s:List Int)(r:List Nat)(f:F):Prop:=F.rec (motive:=fun _=>Prop)
 (fun z a b=>Bool.rec (a.N r≤b.N r) (a.Z (vals s r)≤b.Z (vals s r)) z)
 (fun z a b=>Bool.rec (a.N r=b.N r) (a.Z (vals s r)=b.Z (vals s r)) z)
 (fun _ _ x y=>x∧y) (fun _ _ x y=>x∨y) (fun _ _ x y=>x→y) False f
noncomputable abbrev Row:=Int×List Int
noncomputable def dot(c:List Int):List Int→Int:=List.rec (fun _=>0) (fun a _ f v=>List.rec 0 (fun x v _=>a*x+f v) v) c
noncomputable def val(p:Row)(v:List Int):Int:=p.1+dot p.2 v
noncomputable def combL(a b:Int)(p:List Int):List Int→List Int:=List.rec (fun q=>List.rec [] (fun y _ l=>b*y::l) q) (fun x _ f q=>List.rec (a*x::f []) (fun y q _=>(a*x+b*y)::f q) q) p
noncomputable def comb(a b:Int)(p q:Row):Row:=(a*p.1+b*q.1,combL a b p.2 q.2)
noncomputable def unit(i:Nat):List Int:=Nat.rec [1] (fun _ l=>0::l) i
noncomputable def T.lin(z:Bool)(m:Nat)(t:T):Row:=T.rec (fun i=>(0,unit (Bool.rec (m+i) i z))) (fun n=>((n:Int),[])) (fun _ _ x y=>comb 1 1 x y)
 (fun n _ x=>comb (n:Int) 0 x (0,[])) (fun _ _ x y=>comb 1 (Bool.rec 1 (-1) z) x y) t
theorem dot_nil(c:List Int):dot c []=0:=by cases c<;>rfl
theorem dot_comb(a b:Int):∀p q v:List Int,dot (combL a b p q) v=a*dot p v+b*dot q v:=by
 intro p
 induction p with
 |nil=>
  intro q
  show∀v,dot (combL a b [] q) v=a*0+b*dot q v
  rw[Int.mul_zero]
  induction q with
  |nil=>intro v;show 0=0+b*0;rw[Int.mul_zero];rfl
  |cons y q ih=>intro v;cases v with
   |nil=>show 0=0+b*0;rw[Int.mul_zero];rfl
   |cons x v=>show b*y*x+dot (combL a b [] q) v=0+b*(y*x+dot q v);rw[ih,Int.mul_add,Int.mul_assoc,Int.zero_add,Int.zero_add]
 |cons x p ih=>
  intro q v
  cases v with
  |nil=>rw[dot_nil,dot_nil,dot_nil,Int.mul_zero,Int.mul_zero];rfl
  |cons z v=>cases q with
   |nil=>show a*x*z+dot (combL a b p []) v=a*(x*z+dot p v)+b*0;rw[ih,Int.mul_add,Int.mul_assoc,Int.add_assoc];rfl
   |cons y q=>
    show(a*x+b*y)*z+dot (combL a b p q) v=a*(x*z+dot p v)+b*(y*z+dot q v)
    rw[ih,Int.mul_add,Int.mul_add,Int.add_mul,Int.mul_assoc,Int.mul_assoc,Int.add_assoc,Int.add_assoc,Int.add_left_comm (b*(y*z))]
theorem val_comb(a b:Int)(p q:Row)(v:List Int):val (comb a b p q) v=a*val p v+b*val q v:=by
 show a*p.1+b*q.1+dot (combL a b p.2 q.2) v=a*(p.1+_)+b*(q.1+_)
 rw[dot_comb,Int.mul_add,Int.mul_add,Int.add_assoc,Int.add_assoc,Int.add_left_comm (b*q.1)]
theorem dot_unit:∀(v:List Int)(i:Nat),dot (unit i) v=nth 0 v i:=by
 intro v
 induction v with
 |nil=>intro i;rw[dot_nil];rfl
 |cons x v ih=>intro i;cases i with
  |zero=>show 1*x+dot [] v=x;rw[Int.one_mul];exact Int.add_zero x
  |succ i=>show 0*x+dot (unit i) v=nth 0 v i;rw[ih,Int.zero_mul,Int.zero_add]
theorem nth_vals(r:List Nat):∀(s:List Int)(i:Nat),nth 0 (vals s r) (s.length+i)=(nth 0 r i:Nat):=by
 intro s
 induction s with
 |nil=>
  intro i
  rw[show([]:List Int).length+i=i from Nat.zero_add i]
  induction r generalizing i with
  |nil=>rfl
  |cons a r ih=>cases i with
   |zero=>rfl
   |succ i=>exact ih i
 |cons x s ih=>intro i;rw[show(x::s).length+i=(s.length+i)+1 from Nat.succ_add _ _];exact ih i
theorem add2{a b x y:Int}(h:a=x)(k:b=y):1*a+1*b=x+y:=by rw[h,k,Int.one_mul,Int.one_mul]
theorem sub2{a b x y:Int}(h:a=x)(k:b=y):1*a+ -1*b=x-y:=by rw[h,k,Int.one_mul,Int.neg_mul,Int.one_mul];rfl
theorem mul2{n a b x:Int}(h:a=x):n*a+0*b=n*x:=by rw[h,Int.zero_mul,Int.add_zero]
theorem lin_N(s:List Int)(r:List Nat)(t:T):val (t.lin false s.length) (vals s r)=(t.N r:Nat):=by
 induction t with
 |v i=>exact(Int.zero_add _).trans ((dot_unit _ _).trans (nth_vals r s i))
 |k n=>exact Int.add_zero _
 |p a b iha ihb=>exact(val_comb _ _ _ _ _).trans (add2 iha ihb)
 |m n a ih=>exact(val_comb _ _ _ _ _).trans (mul2 ih)
 |s a b iha ihb=>exact(val_comb _ _ _ _ _).trans (add2 iha ihb)
theorem lin_Z(m:Nat)(v:List Int)(t:T):val (t.lin true m) v=t.Z v:=by
 induction t with
 |v i=>exact(Int.zero_add _).trans (dot_unit _ _)
 |k n=>exact Int.add_zero _
 |p a b iha ihb=>exact(val_comb _ _ _ _ _).trans (add2 iha ihb)
 |m n a ih=>exact(val_comb _ _ _ _ _).trans (mul2 ih)
 |s a b iha ihb=>exact(val_comb _ _ _ _ _).trans (sub2 iha ihb)
noncomputable def dif(z:Bool)(m:Nat)(k:Int)(a b:T):Row:=comb 1 1 (comb 1 (-1) (b.lin z m) (a.lin z m)) (k,[])
theorem dif_N(s:List Int)(r:List Nat)(k:Int)(a b:T):val (dif false s.length k a b) (vals s r)=(b.N r:Nat)-(a.N r:Nat)+k:=
 (val_comb _ _ _ _ _).trans (add2 ((val_comb _ _ _ _ _).trans (sub2 (lin_N s r b) (lin_N s r a))) (Int.add_zero k))
theorem dif_Z(m:Nat)(v:List Int)(k:Int)(a b:T):val (dif true m k a b) v=b.Z v-a.Z v+k:=
 (val_comb _ _ _ _ _).trans (add2 ((val_comb _ _ _ _ _).trans (sub2 (lin_Z m v b) (lin_Z m v a))) (Int.add_zero k))
noncomputable def hd(p:Row):Int:=List.rec 0 (fun a _ _=>a) p.2
noncomputable def tl(p:Row):Row:=(p.1,List.rec [] (fun _ l _=>l) p.2)
theorem val_tl(p:Row)(x:Int)(v:List Int):val p (x::v)=hd p*x+val (tl p) v:=by
 obtain⟨c,l⟩:=p
 cases l with
 |nil=>show c+0=0*x+(c+0);rw[Int.zero_mul,Int.zero_add]
 |cons a l=>exact Int.add_left_comm _ _ _
noncomputable def elim1(p q:Row):Row:=tl (comb (-(hd q)) (hd p) p q)
noncomputable def isP(p:Row):Bool:=Int.rec (fun n=>Nat.rec false (fun _ _=>true) n) (fun _=>false) (hd p)
noncomputable def isM(p:Row):Bool:=Int.rec (fun _=>false) (fun _=>true) (hd p)
noncomputable def isZ(p:Row):Bool:=Int.rec (fun n=>Nat.rec true (fun _ _=>false) n) (fun _=>false) (hd p)
noncomputable def step(L:List Row):List Row:=(L.filter isP).foldr (fun p R=>(L.filter isM).foldr (fun q R=>elim1 p q::R) R) ((L.filter isZ).map tl)
noncomputable def fm(n:Nat):List Row→Bool:=Nat.rec (fun L=>L.any fun p=>Int.rec (fun _=>false) (fun _=>true) p.1) (fun _ f L=>f (step L)) n
theorem val_elim1(p q:Row)(x:Int)(v:List Int):val (elim1 p q) v= -(hd q)*val p (x::v)+hd p*val q (x::v):=by
 have h:=val_tl (comb (-(hd q)) (hd p) p q) x v
 rw[val_comb]at h
 have z:hd (comb (-(hd q)) (hd p) p q)= -(hd q)*hd p+hd p*hd q:=by
  obtain⟨c,l⟩:=p;obtain⟨d,m⟩:=q
  cases l with
  |nil=>cases m with
   |nil=>show 0= -0*0+0*(0:Int);rfl
   |cons b m=>show 0*b= -b*0+0*b;rw[Int.zero_mul,Int.mul_zero];rfl
  |cons a l=>cases m with
   |nil=>show-0*a= -0*a+a*0;rw[Int.mul_zero,Int.add_zero]
   |cons b m=>rfl
 rw[show hd (comb (-(hd q)) (hd p) p q)=0 from z.trans (by rw[Int.neg_mul,Int.mul_comm];exact Int.add_left_neg _),Int.zero_mul,Int.zero_add]at h
 exact h.symm
theorem nonneg_of_isP{p:Row}(h:isP p=true):0≤hd p:=by
 unfold isP at h
 revert h;cases hd p with
 |ofNat n=>exact fun _=>Int.natCast_nonneg n
 |negSucc n=>exact fun h=>nomatch h
theorem nonneg_of_isM{p:Row}(h:isM p=true):0≤ -(hd p):=by
 unfold isM at h
 revert h;cases hd p with
 |ofNat n=>exact fun h=>nomatch h
 |negSucc n=>exact fun _=>Int.natCast_nonneg (n+1)
theorem zero_of_isZ{p:Row}(h:isZ p=true):hd p=0:=by
 unfold isZ at h
 revert h;cases hd p with
 |ofNat n=>cases n with
  |zero=>exact fun _=>rfl
  |succ n=>exact fun h=>nomatch h
 |negSucc n=>exact fun h=>nomatch h
noncomputable def All(L:List Row)(v:List Int):Prop:=∀p∈L,0≤val p v
theorem All.cons{p:Row}{L:List Row}{v:List Int}(h:0≤val p v)(k:All L v):All (p::L) v:=fun q hq=>by
 cases hq with
 |head=>exact h
 |tail _ hq=>exact k q hq
theorem in_all{p:Row}{x:Int}{v:List Int}{R:List Row}(h1:0≤hd p)(h2:0≤val p (x::v))(hR:All R v):∀B:List Row,(∀q∈B,0≤ -(hd q)∧0≤val q (x::v))→All (B.foldr (fun q R=>elim1 p q::R) R) v:=fun B=>by
 induction B with
 |nil=>exact fun _=>hR
 |cons q B ih=>exact fun hM=>All.cons (val_elim1 p q x v▸Int.add_nonneg (Int.mul_nonneg (hM q (.head _)).1 h2) (Int.mul_nonneg h1 (hM q (.head _)).2)) (ih fun q hq=>hM q (.tail _ hq))
theorem step_all{L:List Row}{x:Int}{v:List Int}(h:All L (x::v)):All (step L) v:=by
 have hz:All ((L.filter isZ).map tl) v:=fun q hq=>by
  obtain⟨p,hp,e⟩:=List.mem_map.mp hq
  obtain⟨hp,z⟩:=List.mem_filter.mp hp
  have k:=h p hp
  rw[val_tl,zero_of_isZ z,Int.zero_mul,Int.zero_add,e]at k
  exact k
 have hP:∀p∈L.filter isP,0≤hd p∧0≤val p (x::v):=fun p hp=>⟨nonneg_of_isP (List.mem_filter.mp hp).2,h p (List.mem_filter.mp hp).1⟩
 have hM:∀p∈L.filter isM,0≤ -(hd p)∧0≤val p (x::v):=fun p hp=>⟨nonneg_of_isM (List.mem_filter.mp hp).2,h p (List.mem_filter.mp hp).1⟩
 unfold step
 revert hP
 generalize L.filter isP=A
 intro hP
 induction A with
 |nil=>exact hz
 |cons p A ih=>exact in_all (hP p (.head _)).1 (hP p (.head _)).2 (ih fun q hq=>hP q (.tail _ hq)) _ hM
theorem fm_false:∀(v:List Int)(L:List Row),All L v→fm v.length L=true→False:=fun v=>by
 induction v with
 |nil=>
  intro L h e
  obtain⟨p,hp,e⟩:=List.any_eq_true.mp e
  have k:=h p hp
  unfold val at k
  rw[dot_nil,Int.add_zero]at k
  revert k e
  cases p.1 with
  |ofNat n=>exact fun e _=>Bool.false_ne_true e
  |negSucc n=>exact fun _ k=>(Int.negSucc_not_nonneg n).mp k
 |cons x v ih=>exact fun L h e=>ih _ (step_all h) e
noncomputable def run(m:Nat)(f:F):Bool→(List Row→Bool)→List Row→Bool:=F.rec
 (fun z a b y k L=>Bool.rec (k (dif z m (-1) b a::L)) (k (dif z m 0 a b::L)) y)
 (fun z a b y k L=>Bool.rec (Bool.rec false (k (dif z m (-1) a b::L)) (k (dif z m (-1) b a::L))) (k (dif z m 0 a b::dif z m 0 b a::L)) y)
 (fun _ _ f g y k=>Bool.rec (fun L=>Bool.rec false (g false k L) (f false k L)) (f true (g true k)) y)
 (fun _ _ f g y k=>Bool.rec (f false (g false k)) (fun L=>Bool.rec false (g true k L) (f true k L)) y)
 (fun _ _ f g y k=>Bool.rec (f true (g false k)) (fun L=>Bool.rec false (g true k L) (f false k L)) y)
 (fun y k L=>Bool.rec (k L) true y) f
noncomputable def Good'(v:List Int)(k:List Row→Bool):Prop:=∀L,All L v→k L=true→False
theorem both{x y:Bool}(h:(Bool.rec false y x:Bool)=true):x=true∧y=true:=by
 cases x with
 |false=>cases h
 |true=>exact⟨rfl,h⟩
theorem dif_pos{z:Bool}{s:List Int}{r:List Nat}{c:Int}{a b:T}(h:(Bool.rec (((a.N r:Nat):Int)≤(b.N r:Nat)+c) (a.Z (vals s r)≤b.Z (vals s r)+c) z:Prop)):0≤val (dif z s.length c a b) (vals s r):=by
 cases z with
 |false=>rw[dif_N,Int.sub_eq_add_neg,Int.add_right_comm];exact Int.sub_nonneg.mpr h
 |true=>rw[dif_Z,Int.sub_eq_add_neg,Int.add_right_comm];exact Int.sub_nonneg.mpr h
theorem ge0{a b:Int}(h:a≤b):a≤b+0:=Int.le_trans h (Int.le_of_eq (Int.add_zero b).symm)
theorem run_sound(s:List Int)(r:List Nat)(f:F):∀(y:Bool)(k:List Row→Bool),Good' (vals s r) k→(Bool.rec (¬f.den s r) (f.den s r) y:Prop)→Good' (vals s r) (run s.length f y k):=by
 induction f with
 |le z a b=>
  intro y k hk d L hL
  cases y with
  |true=>
   refine hk _ (All.cons (dif_pos ?_) hL)
   cases z with
   |false=>exact ge0 (Int.ofNat_le.mpr d)
   |true=>exact ge0 d
  |false=>
   refine hk _ (All.cons (dif_pos ?_) hL)
   cases z with
   |false=>exact Int.le_sub_one_of_lt (Int.ofNat_lt.mpr (Nat.not_le.mp d))
   |true=>exact Int.le_sub_one_of_lt (Int.not_le.mp d)
 |eq z a b=>
  intro y k hk d L hL
  cases y with
  |true=>
   refine hk _ (All.cons (dif_pos ?_) (All.cons (dif_pos ?_) hL))
   .cases z with
    |false=>exact ge0 (Int.ofNat_le.mpr (Nat.le_of_eq d))
    |true=>exact ge0 (Int.le_of_eq d)
   .cases z with
    |false=>exact ge0 (Int.ofNat_le.mpr (Nat.le_of_eq d.symm))
    |true=>exact ge0 (Int.le_of_eq d.symm)
  |false=>
   intro e
   obtain⟨e1,e2⟩:=both e
   cases z with
   |false=>exact(Nat.lt_or_gt_of_ne d).elim (fun d=>hk _ (All.cons (dif_pos (z:=false) (Int.le_sub_one_of_lt (Int.ofNat_lt.mpr d))) hL) e2) (fun d=>hk _ (All.cons (dif_pos (z:=false) (Int.le_sub_one_of_lt (Int.ofNat_lt.mpr d))) hL) e1)
   |true=>exact(Int.lt_or_gt_of_ne d).elim (fun d=>hk _ (All.cons (dif_pos (z:=true) (Int.le_sub_one_of_lt d)) hL) e2) (fun d=>hk _ (All.cons (dif_pos (z:=true) (Int.le_sub_one_of_lt d)) hL) e1)
 |a a b iha ihb=>
  intro y k hk d
  cases y with
  |true=>exact iha true _ (ihb true _ hk d.2) d.1
  |false=>exact fun L hL e=>d ⟨Classical.byContradiction fun n=>iha false k hk n L hL (both e).1,Classical.byContradiction fun n=>ihb false k hk n L hL (both e).2⟩
 |o a b iha ihb=>
  intro y k hk d
  cases y with
  |true=>exact fun L hL e=>d.elim (fun n=>iha true k hk n L hL (both e).1) fun n=>ihb true k hk n L hL (both e).2
  |false=>exact iha false _ (ihb false _ hk fun n=>d (.inr n)) fun n=>d (.inl n)
 |i a b iha ihb=>
  intro y k hk d
  cases y with
  |true=>exact fun L hL e=>iha false k hk (fun n=>ihb true k hk (d n) L hL (both e).2) L hL (both e).1
  |false=>exact fun L hL=>iha true _ (ihb false _ hk fun n=>d fun _=>n) (Classical.byContradiction fun n=>d fun x=>absurd x n) L hL
 |f=>
  intro y k hk d
  cases y with
  |true=>exact d.elim
  |false=>exact hk
noncomputable def pos0(m:Nat)(n:Nat):List Row:=Nat.rec [] (fun i l=>(0,unit (m+i))::l) n
theorem pos0_all(s:List Int)(r:List Nat)(n:Nat):All (pos0 s.length n) (vals s r):=by
 induction n with
 |zero=>exact fun p h=>nomatch h
 |succ n ih=>exact All.cons (Int.le_trans (Int.natCast_nonneg _) (Int.le_of_eq ((Int.zero_add _).trans ((dot_unit _ _).trans (nth_vals r s n))).symm)) ih
noncomputable def chk(m n:Nat)(f:F):Bool:=run m f false (fm (m+n)) (pos0 m n)
end Mine.Internal.Ln
namespace Mine.Internal
open Ln in
theorem lin(m n:Nat)(s:List Int)(r:List Nat)(f:F)(h:chk m n f=true)(hm:s.length=m)(hn:r.length=n):f.den s r:=by
 subst hm hn
 exact Classical.byContradiction fun d=>run_sound s r f false _ (fun L hL e=>fm_false _ L hL (by rw[show(vals s r).length=s.length+r.length by unfold vals;rw[List.length_append,List.length_map]];exact e)) d _ (pos0_all s r _) h
open Ln in
noncomputable abbrev D(s:List Int)(r:List Nat)(f:F):Prop:=f.den s r
open Ln in
theorem L(s:List Int)(r:List Nat)(f:F)(h:chk s.length r.length f=true:=by kernel_rfl):f.den s r:=lin _ _ s r f h rfl rfl
open Ln in
theorem ll{s:List Int}{r:List Nat}{f:F}(h:chk s.length r.length f=true:=by kernel_rfl):f.den s r:=lin _ _ s r f h rfl rfl
theorem sf(a b:Nat):(a≤b∧a-b=0)∨a-b+b=a:=(Nat.le_total a b).elim (fun h=>.inl ⟨h,Nat.sub_eq_zero_of_le h⟩) fun h=>.inr (Nat.sub_add_cancel h)
theorem tf(a:Int):(a≤0∧a.toNat=0)∨((a.toNat:Nat):Int)=a:=(Int.le_total a 0).elim (fun h=>.inl ⟨h,Int.toNat_of_nonpos h⟩) fun h=>.inr (Int.toNat_of_nonneg h)
theorem df(a:Nat){k:Nat}(h:Nat.ble 1 k=true):k*(a/k)+a%k=a∧a%k<k:=⟨Nat.div_add_mod a k,Nat.mod_lt a (Nat.le_of_ble_eq_true h)⟩
theorem minf(a b:Nat):(a≤b∧min a b=a)∨(b≤a∧min a b=b):=(Nat.le_total a b).elim (fun h=>.inl ⟨h,Nat.min_eq_left h⟩) fun h=>.inr ⟨h,Nat.min_eq_right h⟩
theorem maxf(a b:Nat):(a≤b∧max a b=b)∨(b≤a∧max a b=a):=(Nat.le_total a b).elim (fun h=>.inl ⟨h,Nat.max_eq_right h⟩) fun h=>.inr ⟨h,Nat.max_eq_left h⟩
theorem minz(a b:Int):(a≤b∧min a b=a)∨(b≤a∧min a b=b):=(Int.le_total a b).elim (fun h=>.inl ⟨h,Int.min_eq_left h⟩) fun h=>.inr ⟨h,Int.min_eq_right h⟩
end Mine.Internal
namespace Mine.Internal
theorem x1_1{α0:Type _}{p0 p1:α0→Prop}{G:Prop}(h:∃x0,p0 x0∧p1 x0)(k:∀x0,p0 x0→p1 x0→G):G:=by obtain⟨x0,h0,h1⟩:=h;exact k x0 h0 h1
theorem x2_1{α0:Type _}{α1:Type _}{p0 p1:α0→α1→Prop}{G:Prop}(h:∃x0 x1,p0 x0 x1∧p1 x0 x1)(k:∀x0 x1,p0 x0 x1→p1 x0 x1→G):G:=by obtain⟨x0,x1,h0,h1⟩:=h;exact k x0 x1 h0 h1
theorem x0_1{p0 p1:Prop}{G:Prop}(h:p0∧p1)(k:p0→p1→G):G:=by obtain⟨h0,h1⟩:=h;exact k h0 h1
theorem x0_2{p0 p1 p2:Prop}{G:Prop}(h:p0∧p1∧p2)(k:p0→p1→p2→G):G:=by obtain⟨h0,h1,h2⟩:=h;exact k h0 h1 h2
theorem x0_3{p0 p1 p2 p3:Prop}{G:Prop}(h:p0∧p1∧p2∧p3)(k:p0→p1→p2→p3→G):G:=by obtain⟨h0,h1,h2,h3⟩:=h;exact k h0 h1 h2 h3
theorem x3_1{α0:Type _}{α1:Type _}{α2:Type _}{p0 p1:α0→α1→α2→Prop}{G:Prop}(h:∃x0 x1 x2,p0 x0 x1 x2∧p1 x0 x1 x2)(k:∀x0 x1 x2,p0 x0 x1 x2→p1 x0 x1 x2→G):G:=by obtain⟨x0,x1,x2,h0,h1⟩:=h;exact k x0 x1 x2 h0 h1
theorem x2_2{α0:Type _}{α1:Type _}{p0 p1 p2:α0→α1→Prop}{G:Prop}(h:∃x0 x1,p0 x0 x1∧p1 x0 x1∧p2 x0 x1)(k:∀x0 x1,p0 x0 x1→p1 x0 x1→p2 x0 x1→G):G:=by obtain⟨x0,x1,h0,h1,h2⟩:=h;exact k x0 x1 h0 h1 h2
theorem x2_0{α0:Type _}{α1:Type _}{p0:α0→α1→Prop}{G:Prop}(h:∃x0 x1,p0 x0 x1)(k:∀x0 x1,p0 x0 x1→G):G:=by obtain⟨x0,x1,h0⟩:=h;exact k x0 x1 h0
theorem x1_2{α0:Type _}{p0 p1 p2:α0→Prop}{G:Prop}(h:∃x0,p0 x0∧p1 x0∧p2 x0)(k:∀x0,p0 x0→p1 x0→p2 x0→G):G:=by obtain⟨x0,h0,h1,h2⟩:=h;exact k x0 h0 h1 h2
theorem x1_3{α0:Type _}{p0 p1 p2 p3:α0→Prop}{G:Prop}(h:∃x0,p0 x0∧p1 x0∧p2 x0∧p3 x0)(k:∀x0,p0 x0→p1 x0→p2 x0→p3 x0→G):G:=by obtain⟨x0,h0,h1,h2,h3⟩:=h;exact k x0 h0 h1 h2 h3
theorem x3_0{α0:Type _}{α1:Type _}{α2:Type _}{p0:α0→α1→α2→Prop}{G:Prop}(h:∃x0 x1 x2,p0 x0 x1 x2)(k:∀x0 x1 x2,p0 x0 x1 x2→G):G:=by obtain⟨x0,x1,x2,h0⟩:=h;exact k x0 x1 x2 h0
theorem x2_4{α0:Type _}{α1:Type _}{p0 p1 p2 p3 p4:α0→α1→Prop}{G:Prop}(h:∃x0 x1,p0 x0 x1∧p1 x0 x1∧p2 x0 x1∧p3 x0 x1∧p4 x0 x1)(k:∀x0 x1,p0 x0 x1→p1 x0 x1→p2 x0 x1→p3 x0 x1→p4 x0 x1→G):G:=by obtain⟨x0,x1,h0,h1,h2,h3,h4⟩:=h;exact k x0 x1 h0 h1 h2 h3 h4
theorem x3_4{α0:Type _}{α1:Type _}{α2:Type _}{p0 p1 p2 p3 p4:α0→α1→α2→Prop}{G:Prop}(h:∃x0 x1 x2,p0 x0 x1 x2∧p1 x0 x1 x2∧p2 x0 x1 x2∧p3 x0 x1 x2∧p4 x0 x1 x2)(k:∀x0 x1 x2,p0 x0 x1 x2→p1 x0 x1 x2→p2 x0 x1 x2→p3 x0 x1 x2→p4 x0 x1 x2→G):G:=by obtain⟨x0,x1,x2,h0,h1,h2,h3,h4⟩:=h;exact k x0 x1 x2 h0 h1 h2 h3 h4
theorem x0_4{p0 p1 p2 p3 p4:Prop}{G:Prop}(h:p0∧p1∧p2∧p3∧p4)(k:p0→p1→p2→p3→p4→G):G:=by obtain⟨h0,h1,h2,h3,h4⟩:=h;exact k h0 h1 h2 h3 h4
theorem x3_2{α0:Type _}{α1:Type _}{α2:Type _}{p0 p1 p2:α0→α1→α2→Prop}{G:Prop}(h:∃x0 x1 x2,p0 x0 x1 x2∧p1 x0 x1 x2∧p2 x0 x1 x2)(k:∀x0 x1 x2,p0 x0 x1 x2→p1 x0 x1 x2→p2 x0 x1 x2→G):G:=by obtain⟨x0,x1,x2,h0,h1,h2⟩:=h;exact k x0 x1 x2 h0 h1 h2
theorem x3_3{α0:Type _}{α1:Type _}{α2:Type _}{p0 p1 p2 p3:α0→α1→α2→Prop}{G:Prop}(h:∃x0 x1 x2,p0 x0 x1 x2∧p1 x0 x1 x2∧p2 x0 x1 x2∧p3 x0 x1 x2)(k:∀x0 x1 x2,p0 x0 x1 x2→p1 x0 x1 x2→p2 x0 x1 x2→p3 x0 x1 x2→G):G:=by obtain⟨x0,x1,x2,h0,h1,h2,h3⟩:=h;exact k x0 x1 x2 h0 h1 h2 h3
theorem x4_1{α0:Type _}{α1:Type _}{α2:Type _}{α3:Type _}{p0 p1:α0→α1→α2→α3→Prop}{G:Prop}(h:∃x0 x1 x2 x3,p0 x0 x1 x2 x3∧p1 x0 x1 x2 x3)(k:∀x0 x1 x2 x3,p0 x0 x1 x2 x3→p1 x0 x1 x2 x3→G):G:=by obtain⟨x0,x1,x2,x3,h0,h1⟩:=h;exact k x0 x1 x2 x3 h0 h1
theorem x4_0{α0:Type _}{α1:Type _}{α2:Type _}{α3:Type _}{p0:α0→α1→α2→α3→Prop}{G:Prop}(h:∃x0 x1 x2 x3,p0 x0 x1 x2 x3)(k:∀x0 x1 x2 x3,p0 x0 x1 x2 x3→G):G:=by obtain⟨x0,x1,x2,x3,h0⟩:=h;exact k x0 x1 x2 x3 h0
theorem x3_5{α0:Type _}{α1:Type _}{α2:Type _}{p0 p1 p2 p3 p4 p5:α0→α1→α2→Prop}{G:Prop}(h:∃x0 x1 x2,p0 x0 x1 x2∧p1 x0 x1 x2∧p2 x0 x1 x2∧p3 x0 x1 x2∧p4 x0 x1 x2∧p5 x0 x1 x2)(k:∀x0 x1 x2,p0 x0 x1 x2→p1 x0 x1 x2→p2 x0 x1 x2→p3 x0 x1 x2→p4 x0 x1 x2→p5 x0 x1 x2→G):G:=by obtain⟨x0,x1,x2,h0,h1,h2,h3,h4,h5⟩:=h;exact k x0 x1 x2 h0 h1 h2 h3 h4 h5
theorem x1_6{α0:Type _}{p0 p1 p2 p3 p4 p5 p6:α0→Prop}{G:Prop}(h:∃x0,p0 x0∧p1 x0∧p2 x0∧p3 x0∧p4 x0∧p5 x0∧p6 x0)(k:∀x0,p0 x0→p1 x0→p2 x0→p3 x0→p4 x0→p5 x0→p6 x0→G):G:=by obtain⟨x0,h0,h1,h2,h3,h4,h5,h6⟩:=h;exact k x0 h0 h1 h2 h3 h4 h5 h6
theorem x8_9{α0:Type _}{α1:Type _}{α2:Type _}{α3:Type _}{α4:Type _}{α5:Type _}{α6:Type _}{α7:Type _}{p0 p1 p2 p3 p4 p5 p6 p7 p8 p9:α0→α1→α2→α3→α4→α5→α6→α7→Prop}{G:Prop}(h:∃x0 x1 x2 x3 x4 x5 x6 x7,p0 x0 x1 x2 x3 x4 x5 x6 x7∧p1 x0 x1 x2 x3 x4 x5 x6 x7∧p2 x0 x1 x2 x3 x4 x5 x6 x7∧p3 x0 x1 x2 x3 x4 x5 x6 x7∧p4 x0 x1 x2 x3 x4 x5 x6 x7∧p5 x0 x1 x2 x3 x4 x5 x6 x7∧p6 x0 x1 x2 x3 x4 x5 x6 x7∧p7 x0 x1 x2 x3 x4 x5 x6 x7∧p8 x0 x1 x2 x3 x4 x5 x6 x7∧p9 x0 x1 x2 x3 x4 x5 x6 x7)(k:∀x0 x1 x2 x3 x4 x5 x6 x7,p0 x0 x1 x2 x3 x4 x5 x6 x7→p1 x0 x1 x2 x3 x4 x5 x6 x7→p2 x0 x1 x2 x3 x4 x5 x6 x7→p3 x0 x1 x2 x3 x4 x5 x6 x7→p4 x0 x1 x2 x3 x4 x5 x6 x7→p5 x0 x1 x2 x3 x4 x5 x6 x7→p6 x0 x1 x2 x3 x4 x5 x6 x7→p7 x0 x1 x2 x3 x4 x5 x6 x7→p8 x0 x1 x2 x3 x4 x5 x6 x7→p9 x0 x1 x2 x3 x4 x5 x6 x7→G):G:=by obtain⟨x0,x1,x2,x3,x4,x5,x6,x7,h0,h1,h2,h3,h4,h5,h6,h7,h8,h9⟩:=h;exact k x0 x1 x2 x3 x4 x5 x6 x7 h0 h1 h2 h3 h4 h5 h6 h7 h8 h9
theorem x0_5{p0 p1 p2 p3 p4 p5:Prop}{G:Prop}(h:p0∧p1∧p2∧p3∧p4∧p5)(k:p0→p1→p2→p3→p4→p5→G):G:=by obtain⟨h0,h1,h2,h3,h4,h5⟩:=h;exact k h0 h1 h2 h3 h4 h5
theorem x2_3{α0:Type _}{α1:Type _}{p0 p1 p2 p3:α0→α1→Prop}{G:Prop}(h:∃x0 x1,p0 x0 x1∧p1 x0 x1∧p2 x0 x1∧p3 x0 x1)(k:∀x0 x1,p0 x0 x1→p1 x0 x1→p2 x0 x1→p3 x0 x1→G):G:=by obtain⟨x0,x1,h0,h1,h2,h3⟩:=h;exact k x0 x1 h0 h1 h2 h3
theorem x5_1{α0:Type _}{α1:Type _}{α2:Type _}{α3:Type _}{α4:Type _}{p0 p1:α0→α1→α2→α3→α4→Prop}{G:Prop}(h:∃x0 x1 x2 x3 x4,p0 x0 x1 x2 x3 x4∧p1 x0 x1 x2 x3 x4)(k:∀x0 x1 x2 x3 x4,p0 x0 x1 x2 x3 x4→p1 x0 x1 x2 x3 x4→G):G:=by obtain⟨x0,x1,x2,x3,x4,h0,h1⟩:=h;exact k x0 x1 x2 x3 x4 h0 h1
theorem x2_11{α0:Type _}{α1:Type _}{p0 p1 p2 p3 p4 p5 p6 p7 p8 p9 p10 p11:α0→α1→Prop}{G:Prop}(h:∃x0 x1,p0 x0 x1∧p1 x0 x1∧p2 x0 x1∧p3 x0 x1∧p4 x0 x1∧p5 x0 x1∧p6 x0 x1∧p7 x0 x1∧p8 x0 x1∧p9 x0 x1∧p10 x0 x1∧p11 x0 x1)(k:∀x0 x1,p0 x0 x1→p1 x0 x1→p2 x0 x1→p3 x0 x1→p4 x0 x1→p5 x0 x1→p6 x0 x1→p7 x0 x1→p8 x0 x1→p9 x0 x1→p10 x0 x1→p11 x0 x1→G):G:=by obtain⟨x0,x1,h0,h1,h2,h3,h4,h5,h6,h7,h8,h9,h10,h11⟩:=h;exact k x0 x1 h0 h1 h2 h3 h4 h5 h6 h7 h8 h9 h10 h11
theorem nN{α:Type _}{a:α}{P:Prop}(h:none=some a):P:=by cases h
theorem nS{α:Type _}{a:α}{P:Prop}(h:some a=none):P:=by cases h
theorem nF{P:Prop}(h:false=true):P:=by cases h
theorem nT{P:Prop}(h:true=false):P:=by cases h
theorem nC{α:Type _}{a:α}{l:List α}{P:Prop}(h:[]=a::l):P:=by cases h
theorem nM{α:Type _}{a:α}{P:Prop}(h:a∈([]:List α)):P:=by cases h
theorem x1_0{α0:Type _}{p0:α0→Prop}{G:Prop}(h:∃x0,p0 x0)(k:∀x0,p0 x0→G):G:=by obtain⟨x0,h0⟩:=h;exact k x0 h0
theorem nd1{α:Type _}{a:α}:[a].Nodup:=List.nodup_cons.mpr ⟨List.not_mem_nil,List.nodup_nil⟩
theorem ms{α:Type _}{a:α}{l:List α}:a∈l++[a]:=List.mem_append_right _ (.head _)
theorem ni{α:Type _}{a b:α}(h:a≠b):a∉[b]:=fun z=>h (List.mem_singleton.mp z)
theorem up{a b c:Nat}(h:b≤c)(e:Nat.ble a b=true):a≤c:=Nat.le_trans (Nat.le_of_ble_eq_true e) h
theorem o0{a b c:Nat}:D [] [a,b,c] (.i (.n .a .b) (.i (.n (.p .b (.k 1)) .c) (.n .a .c))):=ll
theorem o1{a b:Nat}:D [] [a,b] (.i (.n (.p .a (.k 1)) (.p .b (.k 1))) (.i (.i (.n (.p .a (.k 1)) .b) .f) (.q .a .b))):=ll
theorem o2{a b c d e f g:Nat}:D [] [a,b,c,d,e,f,g] (.i (.n .a .b) (.i (.n .a .c) (.i (.n (.p .d (.k 1)) .e) (.i (.o (.q .f .b) (.o (.q .f .c) (.o (.q .g .b) (.q .g .c)))) (.i (.a (.n (.p .f (.k 1)) .a) (.n (.p .g (.k 1)) .a)) (.q .d .e)))))):=ll
theorem o3{a b c d e f g:Nat}:D [] [a,b,c,d,e,f,g] (.i (.n .a .b) (.i (.n .a .c) (.i (.o (.q .b .d) (.o (.q .b .e) (.o (.q .c .d) (.q .c .e)))) (.i (.n (.p .f (.k 1)) .g) (.i (.a (.n (.p .d (.k 1)) .a) (.n (.p .e (.k 1)) .a)) (.q .g .f)))))):=ll
theorem o4{a b:Nat}:D [] [a,b] (.i (.n (.p .a (.k 1)) (.p .b (.k 1))) (.i (.i (.n (.p .a (.k 1)) .b) .f) (.q .b .a))):=ll
theorem o5{a b c:Nat}:D [] [a,b,c] (.i (.n .a .b) (.i (.n (.p .c (.m 4 .b)) (.k 900)) (.n (.p .c (.m 4 .a)) (.k 900)))):=ll
theorem o6{a b c d e:Nat}:D [] [a,b,c,d,e] (.i (.n (.p .a .b) .c) (.i (.q .d .a) (.i (.q .e .b) (.n (.p .d .e) .c)))):=ll
theorem o7{a:Nat}:D [] [a] (.i (.n (.p .a (.m 20 (.k 1))) (.k 9000)) (.n (.p (.p .a (.k 64)) (.k 1)) (.k 9900))):=ll
theorem o8{a:Int}:D [a] [] (.i (.z (.k 0) .a) (.i (.z (.p .a (.k 1)) (.k 0)) .f)):=ll
theorem o9{a:Int}{b:Nat}(h0:(0:Int)≤a)(h1:(Int.toNat a)<b):(((0:Int)≤a)∧(a<((b:Nat):Int))):=(L [a] [(Int.toNat a),b] (.i (.o (.a (.z .a (.k 0)) (.q .a (.k 0))) (.y .b .a)) (.i (.z (.k 0) .a) (.i (.n (.p .a (.k 1)) .b) (.a (.z (.k 0) .a) (.z (.p .a (.k 1)) .c)))))) (tf a) h0 h1
theorem o10{a:Nat}:D [] [a] (.i (.n (.p .a (.m 20 (.k 1))) (.k 9000)) (.n (.p (.p .a (.k 1)) (.k 1)) (.k 9900))):=ll
theorem o11:D [] [] (.i (.z (.p (.k 1) (.k 1)) (.k 0)) .f):=ll
theorem o12{a:Nat}:D [] [a] (.i (.z (.p .a (.k 1)) (.k 0)) .f):=ll
theorem o13{a b:Nat}(h0:a≤b):(min ((a:Nat):Int) ((b:Nat):Int))=((a:Nat):Int):=(L [(min ((a:Nat):Int) ((b:Nat):Int))] [a,b] (.i (.o (.a (.z .b .c) (.y .a .b)) (.a (.z .c .b) (.y .a .c))) (.i (.n .a .b) (.y .a .b)))) (minz ((a:Nat):Int) ((b:Nat):Int)) h0
theorem o14{a b c d:Nat}(h0:(a+b)≤c)(h1:c≤d):(min b (c-a))≤d:=(L [] [a,b,c,d,(min b (c-a)),(c-a)] (.i (.o (.a (.n .c .a) (.q .f (.k 0))) (.q (.p .f .a) .c)) (.i (.o (.a (.n .b .f) (.q .e .b)) (.a (.n .f .b) (.q .e .f))) (.i (.n (.p .a .b) .c) (.i (.n .c .d) (.n .e .d)))))) (sf c a) (minf b (c-a)) h0 h1
theorem o15{a b c:Nat}:D [] [a,b,c] (.i (.a (.y .a (.k 0)) (.q .b .c)) (.q .a (.k 0))):=ll
theorem o16{a b c:Nat}:D [] [a,b,c] (.i (.q .a .b) (.i (.q .c .a) (.n .b .c))):=ll
theorem o17{a b c d:Nat}(h0:a≤b)(h1:a=c):(min d c)≤b:=(L [] [a,b,c,(min d c),d] (.i (.o (.a (.n .e .c) (.q .d .e)) (.a (.n .c .e) (.q .d .c))) (.i (.n .a .b) (.i (.q .a .c) (.n .d .b))))) (minf d c) h0 h1
theorem o18{a b c d:Nat}(h0:a≤b)(h1:a=c):(c-d)≤b:=(L [] [a,b,c,(c-d),d] (.i (.o (.a (.n .c .e) (.q .d (.k 0))) (.q (.p .d .e) .c)) (.i (.n .a .b) (.i (.q .a .c) (.n .d .b))))) (sf c d) h0 h1
theorem o19{a b c d:Nat}:D [] [a,b,c,d] (.i (.q .a .b) (.i (.n (.p .c (.k 1)) .b) (.i (.n .d (.k 100)) (.i (.n .a .d) (.a (.n .c .a) (.n .a (.k 100))))))):=ll
theorem o20{a b c:Nat}:D [] [a,b,c] (.i (.q .a .b) (.i (.a (.q .c .b) (.n (.p .c (.k 1)) (.k 100))) (.a (.n .c .a) (.n .a (.k 100))))):=ll
theorem o21{a b c d e:Nat}:D [] [a,b,c,d,e] (.i (.q .a .b) (.i (.n (.p .b .c) .d) (.i (.q .e .c) (.n (.p .a .e) .d)))):=ll
theorem o22{a b c:Nat}:D [] [a,b,c] (.i (.n .a .b) (.i (.q .a .c) (.n .c (.p .b (.k 1))))):=ll
theorem o23{a:Int}{b c:Nat}(h0:(((0:Int)≤a)∧((Int.toNat a)<b)))(h1:c=b):(Int.toNat a)<c:=(L [a] [(Int.toNat a),b,c] (.i (.o (.a (.z .a (.k 0)) (.q .a (.k 0))) (.y .b .a)) (.i (.a (.z (.k 0) .a) (.n (.p .a (.k 1)) .b)) (.i (.q .c .b) (.n (.p .a (.k 1)) .c))))) (tf a) h0 h1
theorem o24{a b:Nat}:D [] [a,b] (.i (.n .a (.k 64)) (.i (.n (.p .b (.m 20 (.k 1))) (.k 9000)) (.n (.p (.p .b (.p .a (.k 1))) (.k 1)) (.k 9900)))):=ll
theorem o25{a b:Nat}:D [] [a,b] (.i (.n .a (.k 64)) (.i (.n (.p .b (.m 20 (.k 1))) (.k 9000)) (.n (.p (.p .b (.p .a (.k 3))) (.k 1)) (.k 9900)))):=ll
theorem o26{a b c:Nat}:D [] [a,b,c] (.i (.n .a (.k 100)) (.i (.q .b .a) (.i (.q .c .b) (.n .b (.k 16777216))))):=ll
theorem o27{a b c:Nat}:D [] [a,b,c] (.i (.n (.k 3) .a) (.i (.n (.p .b (.m 4 .a)) (.k 900)) (.i (.n .c (.k 3)) (.n (.p (.p .b .c) (.m 4 (.k 2))) (.k 900))))):=ll
theorem o28{a b c:Nat}:D [] [a,b,c] (.i (.n (.k 3) .a) (.i (.n (.p .b (.m 20 .a)) (.k 9000)) (.i (.q .c (.k 1)) (.n (.p (.p .b .c) (.m 20 (.k 2))) (.k 9000))))):=ll
theorem o29{a:Nat}{b c:Int}(h0:a<(Int.toNat (b-c))):(0:Int)<((((Int.toNat (b-c)):Nat):Int)-((a:Nat):Int)):=(L [b,c] [a,(Int.toNat (b-c))] (.i (.o (.a (.z (.s .a .b) (.k 0)) (.q .b (.k 0))) (.y .d (.s .a .b))) (.i (.n (.p .a (.k 1)) .b) (.z (.p (.k 0) (.k 1)) (.s .d .c))))) (tf (b-c)) h0
theorem o30{a:Int}{b:Nat}:D [a] [b] (.y (.p (.p .a .b) (.k 1)) (.p .a (.p .b (.k 1)))):=ll
theorem o31{a b:Int}{c:Nat}:(((((Int.toNat (a-b)):Nat):Int)-((c:Nat):Int))-(1:Int))=((((Int.toNat (a-b)):Nat):Int)-(((c:Nat):Int)+(1:Int))):=(L [a,b] [(Int.toNat (a-b)),c] (.i (.o (.a (.z (.s .a .b) (.k 0)) (.q .a (.k 0))) (.y .c (.s .a .b))) (.y (.s (.s .c .d) (.k 1)) (.s .c (.p .d (.k 1)))))) (tf (a-b))
theorem o32{a b:Int}:((((Int.toNat (a-b)):Nat):Int)-(((Int.toNat (a-b)):Nat):Int))≤(0:Int):=(L [a,b] [(Int.toNat (a-b))] (.i (.o (.a (.z (.s .a .b) (.k 0)) (.q .a (.k 0))) (.y .c (.s .a .b))) (.z (.s .c .c) (.k 0)))) (tf (a-b))
theorem o33{a b:Nat}(h0:a<b):((b+1)-(a+1))<((b+1)-a):=(L [] [a,b,((b+1)-(a+1)),((b+1)-a)] (.i (.o (.a (.n (.p .b (.k 1)) (.p .a (.k 1))) (.q .c (.k 0))) (.q (.p .c (.p .a (.k 1))) (.p .b (.k 1)))) (.i (.o (.a (.n (.p .b (.k 1)) .a) (.q .d (.k 0))) (.q (.p .d .a) (.p .b (.k 1)))) (.i (.n (.p .a (.k 1)) .b) (.n (.p .c (.k 1)) .d))))) (sf (b+1) (a+1)) (sf (b+1) a) h0
theorem o34{a b c d e:Nat}:D [] [a,b,c,d,e] (.i (.q .a (.p .b (.k 1))) (.i (.q .c .b) (.i (.q .d .a) (.i (.q .e .c) (.i (.n (.p .e (.k 1)) .c) .f))))):=ll
theorem o35{a b c d e:Nat}:D [] [a,b,c,d,e] (.i (.q .a (.p .b (.k 1))) (.i (.q .c .b) (.i (.q .d .a) (.i (.n (.p .e (.k 1)) .c) (.i (.q .e .d) .f))))):=ll
theorem o36{a b c d:Nat}:D [] [a,b,c,d] (.i (.q .a (.p .b (.k 1))) (.i (.q .c .b) (.i (.q .d .a) (.i (.q .c .d) .f)))):=ll
theorem o37{a b c d:Nat}:D [] [a,b,c,d] (.i (.q .a (.p .b (.k 1))) (.i (.q .c .b) (.i (.q .d .a) (.i (.q .c .d) .f)))):=ll
theorem o38{a b c d e:Nat}:D [] [a,b,c,d,e] (.i (.q .a (.p .b (.k 1))) (.i (.q .c .b) (.i (.q .d .a) (.i (.n (.p .e (.k 1)) .c) (.i (.q .e .d) .f))))):=ll
theorem o39{a b c d:Nat}:D [] [a,b,c,d] (.i (.q .a .b) (.i (.q .c .b) (.i (.q .d .c) (.q .a .d)))):=ll
theorem o40{a b c:Nat}(h0:a=b)(h1:¬(c<b)):(a+(c-b))=c:=(L [] [a,b,c,(c-b)] (.i (.o (.a (.n .c .b) (.q .d (.k 0))) (.q (.p .d .b) .c)) (.i (.q .a .b) (.i (.i (.n (.p .c (.k 1)) .b) .f) (.q (.p .a .d) .c))))) (sf c b) h0 h1
theorem o41{a b c d e:Nat}:D [] [a,b,c,d,e] (.i (.q .a .b) (.i (.n (.p .c (.k 1)) .a) (.i (.q (.p .a .d) .c) (.q .c .e)))):=ll
theorem o42{a b c d e:Nat}:D [] [a,b,c,d,e] (.i (.q .a .b) (.i (.n (.p .c (.k 1)) .a) (.i (.q (.p .a .d) .c) (.q .e .c)))):=ll
theorem o43{a b c d e:Nat}:D [] [a,b,c,d,e] (.i (.q .a .b) (.i (.q (.p .a .c) .d) (.i (.q (.p .a .e) .d) (.q .c .e)))):=ll
theorem o44{a b c:Nat}:D [] [a,b,c] (.i (.q .a .b) (.n .b (.p .a .c))):=ll
theorem o45{a b c:Nat}:D [] [a,b,c] (.i (.q .a .b) (.q (.p .a .c) (.p .b .c))):=ll
theorem o46{a b:Nat}:D [] [a,b] (.i (.n (.p .a (.m 4 (.p .b (.k 1)))) (.k 900)) (.n (.p (.p .a (.k 1)) (.m 4 .b)) (.k 900))):=ll
theorem o47{a b:Nat}:D [] [a,b] (.i (.n (.k 1) .a) (.i (.n (.p .b (.m 4 (.p .a (.k 1)))) (.k 900)) (.n (.p .b (.k 1)) (.k 1000)))):=ll
theorem o48{a b c d:Nat}:D [] [a,b,c,d] (.i (.q .a .b) (.i (.q .c .a) (.i (.n (.p .d (.k 1)) .a) (.n (.p .d (.k 1)) .b)))):=ll
theorem o49{a b c:Nat}(h0:a≤b)(h1:c<a):(min c a)<b:=(L [] [a,b,c,(min c a)] (.i (.o (.a (.n .c .a) (.q .d .c)) (.a (.n .a .c) (.q .d .a))) (.i (.n .a .b) (.i (.n (.p .c (.k 1)) .a) (.n (.p .d (.k 1)) .b))))) (minf c a) h0 h1
theorem o50{a b:Nat}:D [] [a,b] (.i (.n (.p (.p .a .b) (.k 1)) .a) .f):=ll
theorem o51{a b c d:Nat}:D [] [a,b,c,d] (.i (.q .a .b) (.i (.n (.p .c (.k 1)) .d) (.a (.n .b (.p .b .c)) (.n (.p (.p .b .c) (.k 1)) (.p .a .d))))):=ll
theorem o52{a b:Nat}:D [] [a,b] (.i (.n (.p .a (.k 1)) (.p .b (.k 1))) (.i (.i (.q .a .b) .f) (.n (.p .a (.k 1)) .b))):=ll
theorem o53{a b:Nat}(h0:(a-1)≤b):a≤(b+1):=(L [] [(a-1),a,b] (.i (.o (.a (.n .b (.k 1)) (.q .a (.k 0))) (.q (.p .a (.k 1)) .b)) (.i (.n .a .c) (.n .b (.p .c (.k 1)))))) (sf a 1) h0
theorem o54{a b c:Nat}(h0:(a+b)=(c+1))(h1:b≤c):a=((a-1)+1):=(L [] [a,b,c,(a-1)] (.i (.o (.a (.n .a (.k 1)) (.q .d (.k 0))) (.q (.p .d (.k 1)) .a)) (.i (.q (.p .a .b) (.p .c (.k 1))) (.i (.n .b .c) (.q .a (.p .d (.k 1))))))) (sf a 1) h0 h1
theorem o55{a b c d:Nat}:D [] [a,b,c,d] (.i (.q (.p (.p .a (.k 1)) .b) (.p .c (.k 1))) (.i (.n .c .d) (.i (.z (.p .d (.k 1)) .c) .f))):=ll
theorem o56{a b c:Nat}:D [] [a,b,c] (.i (.n .a (.k 200)) (.i (.n .b .a) (.i (.q (.p (.p .c (.k 1)) .b) (.p .a (.k 1))) (.n (.p .b (.k 1)) (.k 16777216))))):=ll
theorem o57{a b c:Nat}:D [] [a,b,c] (.i (.q (.p (.p .a (.k 1)) .b) (.p .c (.k 1))) (.q (.p .a (.p .b (.k 1))) (.p .c (.k 1)))):=ll
theorem o58{a b:Nat}:D [] [a,b] (.i (.n (.p .a (.k 1)) .b) (.i (.z .b .a) .f)):=ll
theorem o59{a b c:Nat}(h0:a≤b)(h1:c<b)(h2:¬(c<a)):(c-a)<(b-a):=(L [] [a,b,c,(c-a),(b-a)] (.i (.o (.a (.n .c .a) (.q .d (.k 0))) (.q (.p .d .a) .c)) (.i (.o (.a (.n .b .a) (.q .e (.k 0))) (.q (.p .e .a) .b)) (.i (.n .a .b) (.i (.n (.p .c (.k 1)) .b) (.i (.i (.n (.p .c (.k 1)) .a) .f) (.n (.p .d (.k 1)) .e))))))) (sf c a) (sf b a) h0 h1 h2
theorem o60{a b:Nat}(h0:¬(a<b)):(b+(a-b))=a:=(L [] [a,b,(a-b)] (.i (.o (.a (.n .a .b) (.q .c (.k 0))) (.q (.p .c .b) .a)) (.i (.i (.n (.p .a (.k 1)) .b) .f) (.q (.p .b .c) .a)))) (sf a b) h0
theorem o61{a b c d e:Nat}(h0:(a-b)<c)(h1:(b+d)=(b+e)):d=e:=(L [] [(a-b),a,b,c,d,e] (.i (.o (.a (.n .b .c) (.q .a (.k 0))) (.q (.p .a .c) .b)) (.i (.n (.p .a (.k 1)) .d) (.i (.q (.p .c .e) (.p .c .f)) (.q .e .f))))) (sf a b) h0 h1
theorem o62{a b:Nat}(h0:a≤b):b=(a+(b-a)):=(L [] [a,b,(b-a)] (.i (.o (.a (.n .b .a) (.q .c (.k 0))) (.q (.p .c .a) .b)) (.i (.n .a .b) (.q .b (.p .a .c))))) (sf b a) h0
theorem o63{a b c:Nat}:D [] [a,b,c] (.i (.q (.p .a .b) (.p .a .c)) (.q .b .c)):=ll
theorem o64{a b c:Nat}(h0:a≤b)(h1:c<(b-a)):((a≤(a+c))∧((a+c)<b)):=(L [] [a,b,c,(b-a)] (.i (.o (.a (.n .b .a) (.q .d (.k 0))) (.q (.p .d .a) .b)) (.i (.n .a .b) (.i (.n (.p .c (.k 1)) .d) (.a (.n .a (.p .a .c)) (.n (.p (.p .a .c) (.k 1)) .b)))))) (sf b a) h0 h1
theorem o65{a b:Nat}(h0:a≤200)(h1:b<a):(min b a)<16777216:=(L [] [a,b,(min b a)] (.i (.o (.a (.n .b .a) (.q .c .b)) (.a (.n .a .b) (.q .c .a))) (.i (.n .a (.k 200)) (.i (.n (.p .b (.k 1)) .a) (.n (.p .c (.k 1)) (.k 16777216)))))) (minf b a) h0 h1
theorem o66{a b c d:Nat}(h0:(((2*a)+b)+1)≤(c+(2*d)))(h1:d≤a):c=((c-1)+1):=(L [] [a,b,c,d,(c-1)] (.i (.o (.a (.n .c (.k 1)) (.q .e (.k 0))) (.q (.p .e (.k 1)) .c)) (.i (.n (.p (.p (.m 2 .a) .b) (.k 1)) (.p .c (.m 2 .d))) (.i (.n .d .a) (.q .c (.p .e (.k 1))))))) (sf c 1) h0 h1
theorem o67{a b:Nat}:D [] [a,b] (.i (.n (.p (.k 0) (.k 1)) .a) (.i (.n .a (.k 200)) (.i (.n .b .a) (.n (.p .b (.k 1)) (.k 16777216))))):=ll
theorem o68{a b:Nat}:D [] [a,b] (.i (.i (.n (.p .a (.k 1)) .b) .f) (.i (.z (.p .a (.k 1)) .b) .f)):=ll
theorem o69{a:Nat}:D [] [a] (.z (.k 0) (.p .a (.k 1))):=ll
theorem o70{a b:Nat}(h0:a≤200):(Int.toNat (((a:Nat):Int)-(((b:Nat):Int)+(1:Int))))≤16777216:=(L [] [a,(Int.toNat (((a:Nat):Int)-(((b:Nat):Int)+(1:Int)))),b] (.i (.o (.a (.z (.s .a (.p .c (.k 1))) (.k 0)) (.q .b (.k 0))) (.y .b (.s .a (.p .c (.k 1))))) (.i (.n .a (.k 200)) (.n .b (.k 16777216))))) (tf (((a:Nat):Int)-(((b:Nat):Int)+(1:Int)))) h0
theorem o71{a b:Nat}(h0:a<b):(Int.toNat (((b:Nat):Int)-(((a:Nat):Int)+(1:Int))))=(b-(a+1)):=(L [] [a,b,(Int.toNat (((b:Nat):Int)-(((a:Nat):Int)+(1:Int)))),(b-(a+1))] (.i (.o (.a (.z (.s .b (.p .a (.k 1))) (.k 0)) (.q .c (.k 0))) (.y .c (.s .b (.p .a (.k 1))))) (.i (.o (.a (.n .b (.p .a (.k 1))) (.q .d (.k 0))) (.q (.p .d (.p .a (.k 1))) .b)) (.i (.n (.p .a (.k 1)) .b) (.q .c .d))))) (tf (((b:Nat):Int)-(((a:Nat):Int)+(1:Int)))) (sf b (a+1)) h0
theorem o72{a b:Nat}:D [] [a,b] (.i (.i (.n (.p .a (.k 1)) .b) .f) (.z .b .a)):=ll
theorem o73{a b c:Nat}(h0:a≤10)(h1:b<a)(h2:c≤(min b a)):c<16777216:=(L [] [a,b,c,(min b a)] (.i (.o (.a (.n .b .a) (.q .d .b)) (.a (.n .a .b) (.q .d .a))) (.i (.n .a (.k 10)) (.i (.n (.p .b (.k 1)) .a) (.i (.n .c .d) (.n (.p .c (.k 1)) (.k 16777216))))))) (minf b a) h0 h1 h2
theorem o74{a b:Nat}:D [] [a,b] (.i (.n .a (.k 200)) (.i (.n (.p .b (.k 1)) .a) (.n (.p .b (.k 1)) (.k 16777216)))):=ll
theorem o75{a b:Nat}:D [] [a,b] (.i (.n .a (.k 200)) (.i (.n (.p .b (.k 1)) .a) (.n .b (.k 200)))):=ll
theorem o76{a b c:Nat}:D [] [a,b,c] (.i (.n .a (.k 200)) (.i (.n (.p .b (.k 1)) .a) (.i (.n .c .b) (.n (.p .c (.k 1)) (.k 16777216))))):=ll
theorem o77{a:Nat}:D [] [a] (.i (.n .a (.k 200)) (.n (.p .a (.k 1)) (.k 16777216))):=ll
theorem o78{a b c d:Nat}:D [] [a,b,c,d] (.i (.a (.n (.p .a (.k 1)) .b) (.a (.n .b .c) (.n (.p .c (.k 1)) .d))) (.n .a .d)):=ll
theorem o79{a b:Nat}:D [] [a,b] (.i (.n .a .b) (.i (.n .b (.k 2)) (.n .a (.k 10)))):=ll
theorem o80{a b c d:Nat}(h0:a≤b)(h1:a=c)(h2:d<a):b=((b-1)+1):=(L [] [a,b,c,d,(b-1)] (.i (.o (.a (.n .b (.k 1)) (.q .e (.k 0))) (.q (.p .e (.k 1)) .b)) (.i (.n .a .b) (.i (.q .a .c) (.i (.n (.p .d (.k 1)) .a) (.q .b (.p .e (.k 1)))))))) (sf b 1) h0 h1 h2
theorem o81{a:Nat}:D [] [a] (.i (.n (.p (.k 0) (.k 1)) .a) (.i (.y .a (.k 0)) .f)):=ll
theorem o82{a b c:Nat}:D [] [a,b,c] (.i (.n (.p .a (.k 1)) .b) (.i (.n .b .c) (.z .a .c))):=ll
theorem o83{a b:Nat}:D [] [a,b] (.i (.i (.q .a .b) .f) (.i (.y .a .b) .f)):=ll
theorem o84{a b:Nat}:D [] [a,b] (.i (.n .a .b) (.i (.z (.p .b (.k 1)) .a) .f)):=ll
theorem o85{a b:Nat}(h0:a≤b)(h1:b≤1):(b-(Int.toNat (((b:Nat):Int)-((a:Nat):Int))))=a:=(L [] [a,b,(b-(Int.toNat (((b:Nat):Int)-((a:Nat):Int)))),(Int.toNat (((b:Nat):Int)-((a:Nat):Int)))] (.i (.o (.a (.z (.s .b .a) (.k 0)) (.q .d (.k 0))) (.y .d (.s .b .a))) (.i (.o (.a (.n .b .d) (.q .c (.k 0))) (.q (.p .c .d) .b)) (.i (.n .a .b) (.i (.n .b (.k 1)) (.q .c .a)))))) (tf (((b:Nat):Int)-((a:Nat):Int))) (sf b (Int.toNat (((b:Nat):Int)-((a:Nat):Int)))) h0 h1
theorem o86{a b:Nat}(h0:a≤b)(h1:b≤1):(min (Int.toNat (((b:Nat):Int)-((a:Nat):Int))) b)=(b-a):=(L [] [a,b,(min (Int.toNat (((b:Nat):Int)-((a:Nat):Int))) b),(Int.toNat (((b:Nat):Int)-((a:Nat):Int))),(b-a)] (.i (.o (.a (.z (.s .b .a) (.k 0)) (.q .d (.k 0))) (.y .d (.s .b .a))) (.i (.o (.a (.n .d .b) (.q .c .d)) (.a (.n .b .d) (.q .c .b))) (.i (.o (.a (.n .b .a) (.q .e (.k 0))) (.q (.p .e .a) .b)) (.i (.n .a .b) (.i (.n .b (.k 1)) (.q .c .e))))))) (tf (((b:Nat):Int)-((a:Nat):Int))) (minf (Int.toNat (((b:Nat):Int)-((a:Nat):Int))) b) (sf b a) h0 h1
theorem o87{a:Nat}:D [] [a] (.i (.n .a (.k 65)) (.a (.i (.y .a (.k 78)) .f) (.a (.i (.y .a (.k 79)) .f) (.a (.i (.y .a (.k 77)) .f) (.i (.y .a (.k 69)) .f))))):=ll
theorem o88{a b c:Nat}(h0:a≤b)(h1:b≤1)(h2:c≤1):((b-a)+c)≤16777216:=(L [] [a,b,c,(b-a)] (.i (.o (.a (.n .b .a) (.q .d (.k 0))) (.q (.p .d .a) .b)) (.i (.n .a .b) (.i (.n .b (.k 1)) (.i (.n .c (.k 1)) (.n (.p .d .c) (.k 16777216))))))) (sf b a) h0 h1 h2
theorem o89{a b:Nat}(h0:a=1)(h1:b=0):(a-1)=b:=(L [] [a,b,(a-1)] (.i (.o (.a (.n .a (.k 1)) (.q .c (.k 0))) (.q (.p .c (.k 1)) .a)) (.i (.q .a (.k 1)) (.i (.q .b (.k 0)) (.q .c .b))))) (sf a 1) h0 h1
theorem o90{a b:Nat}:D [] [a,b] (.i (.q .a (.k 0)) (.i (.q .b (.k 1)) (.q (.p .a (.k 1)) .b))):=ll
theorem o91{a:Nat}:D [] [a] (.i (.n (.p (.k 3) (.k 1)) (.p .a (.k 1))) (.n (.k 1) .a)):=ll
theorem o92{a b:Nat}:D [] [a,b] (.i (.n .a (.k 2)) (.i (.n .b (.k 1)) (.n (.p .a .b) (.k 16777216)))):=ll
theorem o93{a b:Nat}:D [] [a,b] (.i (.n .a (.k 200)) (.i (.n .b .a) (.n (.p .b (.k 1)) (.k 16777216)))):=ll
theorem o94{a b c:Nat}:D [] [a,b,c] (.i (.n .a (.k 200)) (.i (.n .b .c) (.i (.n .c .a) (.n (.p .b (.k 1)) (.k 16777216))))):=ll
theorem o95{a b c d:Nat}:D [] [a,b,c,d] (.i (.q (.p .a .b) (.p .c .d)) (.q (.p (.p .a (.k 1)) .b) (.p (.p .c (.k 1)) .d))):=ll
theorem o96{a b c d e f:Nat}:D [] [a,b,c,d,e,f] (.i (.q (.p .a .b) (.p .c .d)) (.i (.n .b .c) (.i (.n (.p (.p (.m 2 .e) (.p .d (.k 1))) (.k 1)) (.p (.p .f (.k 1)) (.m 2 .b))) (.n (.p (.p (.m 2 .e) .a) (.k 1)) (.p .f (.m 2 .c)))))):=ll
theorem o97{a:Nat}:D [] [a] (.i (.n .a (.k 200)) (.z (.k 0) .a)):=ll
theorem o98{a b c d:Nat}:D [] [a,b,c,d] (.i (.n .a (.k 200)) (.i (.n (.p .b (.k 1)) .a) (.i (.n .c .a) (.i (.q (.p (.p .d (.k 1)) .c) (.p .a (.k 1))) (.n (.p .c (.k 1)) (.k 16777216)))))):=ll
theorem o99{a b:Nat}:D [] [a,b] (.i (.i (.q .a .b) .f) (.i (.y .a .b) .f)):=ll
theorem o100{a:Nat}:D [] [a] (.i (.i (.n (.k 58) .a) .f) (.i (.z (.k 58) .a) .f)):=ll
theorem o101{a:Nat}:D [] [a] (.i (.a (.n (.k 58) .a) (.n (.p .a (.k 1)) (.k 63))) (.z (.k 58) .a)):=ll
theorem o102{a:Nat}(h0:((58≤a)∧(a<63))):(((60:Int)<((a:Nat):Int))↔(60<a)):=⟨(L [] [a] (.i (.a (.n (.k 58) .a) (.n (.p .a (.k 1)) (.k 63))) (.i (.z (.p (.k 60) (.k 1)) .a) (.n (.p (.k 60) (.k 1)) .a)))) h0,(L [] [a] (.i (.a (.n (.k 58) .a) (.n (.p .a (.k 1)) (.k 63))) (.i (.n (.p (.k 60) (.k 1)) .a) (.z (.p (.k 60) (.k 1)) .a)))) h0⟩
theorem o103{a:Nat}:D [] [a] (.i (.n .a (.k 200)) (.n (.p (.k 1) (.m 3 .a)) (.p (.m 4 .a) (.k 1)))):=ll
theorem o104{a b c d:Nat}(h0:((a+(3*b))+1)≤(c+(3*d)))(h1:d≤b):c=((c-1)+1):=(L [] [a,b,c,d,(c-1)] (.i (.o (.a (.n .c (.k 1)) (.q .e (.k 0))) (.q (.p .e (.k 1)) .c)) (.i (.n (.p (.p .a (.m 3 .b)) (.k 1)) (.p .c (.m 3 .d))) (.i (.n .d .b) (.q .c (.p .e (.k 1))))))) (sf c 1) h0 h1
theorem o105{a b:Nat}:((((a:Nat):Int)≤((b:Nat):Int))↔(a≤b)):=⟨(L [] [a,b] (.i (.z .a .b) (.n .a .b))),(L [] [a,b] (.i (.n .a .b) (.z .a .b)))⟩
theorem o106{a b c d:Nat}:D [] [a,b,c,d] (.i (.n (.p (.p (.p .a (.k 1)) (.m 3 .b)) (.k 1)) (.p (.p .c (.k 1)) (.m 3 .d))) (.n (.p (.p .a (.m 3 .b)) (.k 1)) (.p .c (.m 3 .d)))):=ll
theorem o107{a:Nat}:((((a:Nat):Int)=(58:Int))↔(a=58)):=⟨(L [] [a] (.i (.y .a (.k 58)) (.q .a (.k 58)))),(L [] [a] (.i (.q .a (.k 58)) (.y .a (.k 58))))⟩
theorem o108{a b:Nat}:D [] [a,b] (.i (.y .a (.p .b (.k 1))) (.q .a (.p .b (.k 1)))):=ll
theorem o109{a b:Nat}:D [] [a,b] (.i (.n .a (.k 1000)) (.i (.n .b (.k 1)) (.n (.p .a .b) (.k 16777216)))):=ll
theorem o110{a b c:Nat}:D [] [a,b,c] (.i (.n .a (.k 200)) (.i (.n .b .a) (.i (.n (.p .c (.k 1)) (.p (.m 3 .b) (.k 1))) (.n .c (.k 1000))))):=ll
theorem o111{a b c d:Nat}:D [] [a,b,c,d] (.i (.n .a (.k 200)) (.i (.n .b .a) (.i (.n (.p .c (.k 1)) (.p (.m 3 .b) (.k 1))) (.i (.n .d (.k 1)) (.n (.p .c .d) (.k 1000)))))):=ll
theorem o112{a b c d e:Nat}:D [] [a,b,c,d,e] (.i (.n .a (.k 200)) (.i (.n .b .a) (.i (.n (.p .c (.k 1)) (.p (.m 3 .b) (.k 1))) (.i (.n .d (.k 1)) (.i (.n .e (.k 1)) (.n (.p (.p .c .d) .e) (.k 1000))))))):=ll
theorem o113{a b c d e f g:Nat}:D [] [a,b,c,d,e,f,g] (.i (.n (.p (.p (.p .a (.k 1)) (.m 3 .b)) (.k 1)) (.p (.p .c (.k 1)) (.m 3 .d))) (.i (.n .e (.k 1)) (.i (.n .f (.k 1)) (.i (.n .g (.k 1)) (.n (.p (.p (.p (.p (.p .a .e) .f) .g) (.m 3 .b)) (.k 1)) (.p .c (.m 3 (.p .d (.k 1))))))))):=ll
theorem o114{a b c d:Nat}:D [] [a,b,c,d] (.i (.n .a (.k 2)) (.n (.p (.p (.p .b .a) .c) .d) (.p .b (.p (.p .c (.k 2)) .d)))):=ll
theorem o115{a b c d:Nat}:D [] [a,b,c,d] (.i (.n .a (.p .b .c)) (.i (.q .b (.k 1)) (.i (.q .d (.k 1)) (.n (.p .a .d) (.p (.k 2) .c))))):=ll
theorem o116{a b:Nat}:D [] [a,b] (.i (.q (.p .a (.k 2)) .b) (.n .a .b)):=ll
theorem o117{a b c d:Nat}:D [] [a,b,c,d] (.i (.q .a (.k 1)) (.i (.n .b (.k 2)) (.i (.n .c .d) (.n (.p (.p .a .c) .b) (.p (.k 3) .d))))):=ll
theorem o118{a b c d:Nat}:D [] [a,b,c,d] (.i (.n .a .b) (.i (.n .c .d) (.n (.p (.p .a (.k 2)) .c) (.p .d (.p .b (.k 2)))))):=ll
theorem o119{a b c:Nat}:D [] [a,b,c] (.i (.n (.p (.k 2) .a) .b) (.i (.n .c .a) (.n (.p (.k 2) .c) .b))):=ll
theorem o120{a b c:Nat}:D [] [a,b,c] (.i (.n (.p (.k 3) .a) .b) (.i (.n .c .a) (.n (.p (.k 3) .c) .b))):=ll
theorem o121{a b c:Nat}(h0:a≤1)(h1:b≤1)(h2:c≤1):((max (a+1) (max (b+1) (max (c+1) (max ((max 0 (max 0 (max 0 0)))+1) 0))))+1)≤64:=(L [] [a,b,c,(max (a+1) (max (b+1) (max (c+1) (max ((max 0 (max 0 (max 0 0)))+1) 0)))),(max (b+1) (max (c+1) (max ((max 0 (max 0 (max 0 0)))+1) 0))),(max (c+1) (max ((max 0 (max 0 (max 0 0)))+1) 0)),(max ((max 0 (max 0 (max 0 0)))+1) 0),(max 0 (max 0 (max 0 0))),(max 0 (max 0 0)),(max 0 0)] (.i (.o (.a (.n (.k 0) (.k 0)) (.q .j (.k 0))) (.a (.n (.k 0) (.k 0)) (.q .j (.k 0)))) (.i (.o (.a (.n (.k 0) .j) (.q .i .j)) (.a (.n .j (.k 0)) (.q .i (.k 0)))) (.i (.o (.a (.n (.k 0) .i) (.q .h .i)) (.a (.n .i (.k 0)) (.q .h (.k 0)))) (.i (.o (.a (.n (.p .h (.k 1)) (.k 0)) (.q .g (.k 0))) (.a (.n (.k 0) (.p .h (.k 1))) (.q .g (.p .h (.k 1))))) (.i (.o (.a (.n (.p .c (.k 1)) .g) (.q .f .g)) (.a (.n .g (.p .c (.k 1))) (.q .f (.p .c (.k 1))))) (.i (.o (.a (.n (.p .b (.k 1)) .f) (.q .e .f)) (.a (.n .f (.p .b (.k 1))) (.q .e (.p .b (.k 1))))) (.i (.o (.a (.n (.p .a (.k 1)) .e) (.q .d .e)) (.a (.n .e (.p .a (.k 1))) (.q .d (.p .a (.k 1))))) (.i (.n .a (.k 1)) (.i (.n .b (.k 1)) (.i (.n .c (.k 1)) (.n (.p .d (.k 1)) (.k 64))))))))))))) (maxf 0 0) (maxf 0 (max 0 0)) (maxf 0 (max 0 (max 0 0))) (maxf ((max 0 (max 0 (max 0 0)))+1) 0) (maxf (c+1) (max ((max 0 (max 0 (max 0 0)))+1) 0)) (maxf (b+1) (max (c+1) (max ((max 0 (max 0 (max 0 0)))+1) 0))) (maxf (a+1) (max (b+1) (max (c+1) (max ((max 0 (max 0 (max 0 0)))+1) 0)))) h0 h1 h2
theorem o122{a b:Nat}:D [] [a,b] (.i (.y .a .b) (.q .a .b)):=ll
theorem o123{a:Nat}:D [] [a] (.i (.n .a (.k 65)) (.n (.p .a (.k 1)) (.k 10000))):=ll
theorem o124{a b:Nat}:D [] [a,b] (.i (.n .a (.k 200)) (.i (.n (.p .b (.k 1)) .a) (.n (.p .b (.k 1)) (.k 10000)))):=ll
theorem o125{a b c d:Nat}:D [] [a,b,c,d] (.i (.n .a (.k 200)) (.i (.n (.p .b (.k 1)) .c) (.i (.n .c .d) (.i (.n (.p .d (.k 1)) .a) (.n (.p .b (.k 1)) (.k 10000)))))):=ll
theorem o126{a:Nat}:D [] [a] (.i (.n .a (.k 1)) (.n (.p .a (.k 1)) (.k 64))):=ll
theorem o127{a:Nat}(h0:a≤15):((((a:Nat):Int)<(15:Int))↔(a<15)):=⟨(L [] [a] (.i (.n .a (.k 15)) (.i (.z (.p .a (.k 1)) (.k 15)) (.n (.p .a (.k 1)) (.k 15))))) h0,(L [] [a] (.i (.n .a (.k 15)) (.i (.n (.p .a (.k 1)) (.k 15)) (.z (.p .a (.k 1)) (.k 15))))) h0⟩
theorem o128{a b:Nat}(h0:a≤((2*b)+4)):(((((2:Int)*((b:Nat):Int))+(4:Int))<(((a+1):Nat):Int))↔(((2*b)+4)<(a+1))):=⟨(L [] [a,b] (.i (.n .a (.p (.m 2 .b) (.k 4))) (.i (.z (.p (.p (.m 2 .b) (.k 4)) (.k 1)) (.p .a (.k 1))) (.n (.p (.p (.m 2 .b) (.k 4)) (.k 1)) (.p .a (.k 1)))))) h0,(L [] [a,b] (.i (.n .a (.p (.m 2 .b) (.k 4))) (.i (.n (.p (.p (.m 2 .b) (.k 4)) (.k 1)) (.p .a (.k 1))) (.z (.p (.p (.m 2 .b) (.k 4)) (.k 1)) (.p .a (.k 1)))))) h0⟩
theorem o129{a b:Nat}:((((a:Nat):Int)=((b:Nat):Int))↔(a=b)):=⟨(L [] [a,b] (.i (.y .a .b) (.q .a .b))),(L [] [a,b] (.i (.q .a .b) (.y .a .b)))⟩
theorem o130{a b c d:Nat}(h0:((a+(((2*b)+6)-c))+1)≤(d+1))(h1:¬(((2*b)+4)<(c+1))):((a+(((2*b)+6)-(c+1)))+1)≤d:=(L [] [a,(((2*b)+6)-c),b,c,d,(((2*b)+6)-(c+1))] (.i (.o (.a (.n (.p (.m 2 .c) (.k 6)) .d) (.q .b (.k 0))) (.q (.p .b .d) (.p (.m 2 .c) (.k 6)))) (.i (.o (.a (.n (.p (.m 2 .c) (.k 6)) (.p .d (.k 1))) (.q .f (.k 0))) (.q (.p .f (.p .d (.k 1))) (.p (.m 2 .c) (.k 6)))) (.i (.n (.p (.p .a .b) (.k 1)) (.p .e (.k 1))) (.i (.i (.n (.p (.p (.m 2 .c) (.k 4)) (.k 1)) (.p .d (.k 1))) .f) (.n (.p (.p .a .f) (.k 1)) .e)))))) (sf ((2*b)+6) c) (sf ((2*b)+6) (c+1)) h0 h1
theorem o131{a:Nat}(h0:a≤15)(h1:a<15):(15-a)=((14-a)+1):=(L [] [a,(15-a),(14-a)] (.i (.o (.a (.n (.k 15) .a) (.q .b (.k 0))) (.q (.p .b .a) (.k 15))) (.i (.o (.a (.n (.k 14) .a) (.q .c (.k 0))) (.q (.p .c .a) (.k 14))) (.i (.n .a (.k 15)) (.i (.n (.p .a (.k 1)) (.k 15)) (.q .b (.p .c (.k 1)))))))) (sf 15 a) (sf 14 a) h0 h1
theorem o132{a b:Nat}(h0:a≤15)(h1:a<15)(h2:(15-a)=(b+1)):(15-(a+1))=b:=(L [] [a,(15-a),b,(15-(a+1))] (.i (.o (.a (.n (.k 15) .a) (.q .b (.k 0))) (.q (.p .b .a) (.k 15))) (.i (.o (.a (.n (.k 15) (.p .a (.k 1))) (.q .d (.k 0))) (.q (.p .d (.p .a (.k 1))) (.k 15))) (.i (.n .a (.k 15)) (.i (.n (.p .a (.k 1)) (.k 15)) (.i (.q .b (.p .c (.k 1))) (.q .d .c))))))) (sf 15 a) (sf 15 (a+1)) h0 h1 h2
theorem o133{a b c d e:Nat}(h0:a≤200)(h1:b≤15)(h2:b<15)(h3:¬(((2*a)+4)<(c+1)))(h4:(((d+((2*a)+6))+(((2*a)+6)-c))+1)≤(e+1)):((d+(((2*a)+6)-0))+1)≤e:=(L [] [a,b,c,d,(((2*a)+6)-c),e,(((2*a)+6)-0)] (.i (.o (.a (.n (.p (.m 2 .a) (.k 6)) .c) (.q .e (.k 0))) (.q (.p .e .c) (.p (.m 2 .a) (.k 6)))) (.i (.o (.a (.n (.p (.m 2 .a) (.k 6)) (.k 0)) (.q .g (.k 0))) (.q (.p .g (.k 0)) (.p (.m 2 .a) (.k 6)))) (.i (.n .a (.k 200)) (.i (.n .b (.k 15)) (.i (.n (.p .b (.k 1)) (.k 15)) (.i (.i (.n (.p (.p (.m 2 .a) (.k 4)) (.k 1)) (.p .c (.k 1))) .f) (.i (.n (.p (.p (.p .d (.p (.m 2 .a) (.k 6))) .e) (.k 1)) (.p .f (.k 1))) (.n (.p (.p .d .g) (.k 1)) .f))))))))) (sf ((2*a)+6) c) (sf ((2*a)+6) 0) h0 h1 h2 h3 h4
theorem o134{a b:Nat}:D [] [a,b] (.i (.q .a .b) (.i (.n .b (.k 1)) (.n (.p (.k 2) (.m 7 .b)) (.k 100)))):=ll
theorem o135{a:Nat}:D [] [a] (.i (.n .a (.k 0)) (.n (.p .a (.k 1)) (.k 64))):=ll
theorem o136{a b:Nat}:D [] [a,b] (.i (.q .a (.k 4)) (.i (.n .b (.k 100)) (.n (.p .a .b) (.k 16777216)))):=ll
theorem o137{a:Nat}:D [] [a] (.i (.q (.k 0) .a) (.i (.q .a (.k 1)) .f)):=ll
theorem o138{a b c:Nat}:D [] [a,b,c] (.i (.q .a (.k 1)) (.i (.q .b (.k 0)) (.i (.q (.p .c (.k 1)) .a) (.q .c .b)))):=ll
theorem o139{a b c:Nat}:D [] [a,b,c] (.i (.q .a .b) (.i (.q .c .b) (.q .a .c))):=ll
theorem o140{a:Nat}:(((((a%2):Nat):Int)=(0:Int))↔((a%2)=0)):=⟨(L [] [(a/2),(a%2),a] (.i (.a (.q (.p (.m 2 .a) .b) .c) (.n (.p .b (.k 1)) (.k 2))) (.i (.y .b (.k 0)) (.q .b (.k 0))))) (df a (k:=2) rfl),(L [] [(a/2),(a%2),a] (.i (.a (.q (.p (.m 2 .a) .b) .c) (.n (.p .b (.k 1)) (.k 2))) (.i (.q .b (.k 0)) (.y .b (.k 0))))) (df a (k:=2) rfl)⟩
theorem o141{a:Nat}:D [] [a] (.i (.q .a (.k 0)) (.n (.p .a (.k 1)) (.k 16777216))):=ll
theorem o142{a b:Nat}:D [] [a,b] (.i (.q .a .b) (.i (.q .b (.k 0)) (.q .a (.k 0)))):=ll
theorem o143{a:Nat}:(((((a%3):Nat):Int)=(0:Int))↔((a%3)=0)):=⟨(L [] [(a/3),(a%3),a] (.i (.a (.q (.p (.m 3 .a) .b) .c) (.n (.p .b (.k 1)) (.k 3))) (.i (.y .b (.k 0)) (.q .b (.k 0))))) (df a (k:=3) rfl),(L [] [(a/3),(a%3),a] (.i (.a (.q (.p (.m 3 .a) .b) .c) (.n (.p .b (.k 1)) (.k 3))) (.i (.q .b (.k 0)) (.y .b (.k 0))))) (df a (k:=3) rfl)⟩
theorem o144{a b:Nat}:((((a:Nat):Int)≤((((b+1):Nat):Int)-(1:Int)))↔(a≤b)):=⟨(L [] [a,b] (.i (.z .a (.s (.p .b (.k 1)) (.k 1))) (.n .a .b))),(L [] [a,b] (.i (.n .a .b) (.z .a (.s (.p .b (.k 1)) (.k 1)))))⟩
theorem o145{a b c:Nat}:D [] [a,b,c] (.i (.q .a .b) (.i (.q .b (.k 0)) (.i (.q .c (.k 0)) (.q .a .c)))):=ll
theorem o146{a:Int}{b:Nat}(h0:(0:Int)≤a)(h1:a<((b:Nat):Int)):(Int.toNat a)<b:=(L [a] [b,(Int.toNat a)] (.i (.o (.a (.z .a (.k 0)) (.q .b (.k 0))) (.y .c .a)) (.i (.z (.k 0) .a) (.i (.z (.p .a (.k 1)) .b) (.n (.p .b (.k 1)) .a))))) (tf a) h0 h1
theorem o147{a:Nat}:D [] [a] (.i (.n .a (.k 1000)) (.n (.p .a (.k 1)) (.k 16777216))):=ll
theorem o148{a b:Nat}:D [] [a,b] (.i (.n .a (.k 1000)) (.i (.n .b (.k 10)) (.n (.p .a .b) (.k 16777216)))):=ll
theorem o149{a b:Nat}:D [] [a,b] (.i (.n .a (.k 500)) (.i (.n .b (.k 10)) (.n (.p .a .b) (.k 1000)))):=ll
theorem o150{a:Nat}:D [] [a] (.i (.q .a (.k 0)) (.y .a (.k 0))):=ll
theorem o151{a:Nat}:D [] [a] (.i (.i (.q .a (.k 0)) .f) (.i (.y .a (.k 0)) .f)):=ll
theorem o152{a:Nat}:D [] [a] (.i (.n (.p .a (.k 1)) (.k 5)) (.i (.i (.n (.p .a (.k 1)) (.k 3)) .f) (.i (.z (.p .a (.k 1)) (.k 3)) .f))):=ll
theorem o153{a:Nat}:((((a:Nat):Int)=(7:Int))↔(a=7)):=⟨(L [] [a] (.i (.y .a (.k 7)) (.q .a (.k 7)))),(L [] [a] (.i (.q .a (.k 7)) (.y .a (.k 7))))⟩
theorem o154{a b:Nat}:(((((a:Nat):Int)+(1:Int))=((b:Nat):Int))↔((a+1)=b)):=⟨(L [] [a,b] (.i (.y (.p .a (.k 1)) .b) (.q (.p .a (.k 1)) .b))),(L [] [a,b] (.i (.q (.p .a (.k 1)) .b) (.y (.p .a (.k 1)) .b)))⟩
theorem o155{a:Nat}:D [] [a] (.i (.n (.p .a (.k 1)) (.k 8)) (.i (.i (.n (.p .a (.k 1)) (.k 2)) .f) (.i (.z (.p .a (.k 1)) (.k 2)) .f))):=ll
theorem o156{a:Nat}:D [] [a] (.i (.n (.p .a (.k 1)) (.k 8)) (.i (.i (.n (.p .a (.k 1)) (.k 2)) .f) (.i (.i (.n (.p .a (.k 1)) (.k 4)) .f) (.i (.z (.p .a (.k 1)) (.k 4)) .f)))):=ll
theorem o157{a:Nat}:D [] [a] (.i (.n (.p .a (.k 1)) (.k 8)) (.i (.i (.n (.p .a (.k 1)) (.k 2)) .f) (.i (.i (.n (.p .a (.k 1)) (.k 4)) .f) (.i (.i (.n (.p .a (.k 1)) (.k 6)) .f) (.i (.z (.p .a (.k 1)) (.k 6)) .f))))):=ll
theorem o158{a:Nat}:((((a:Nat):Int)=(6:Int))↔(a=6)):=⟨(L [] [a] (.i (.y .a (.k 6)) (.q .a (.k 6)))),(L [] [a] (.i (.q .a (.k 6)) (.y .a (.k 6))))⟩
theorem o159{a:Nat}:(((0:Int)<((a:Nat):Int))↔(0<a)):=⟨(L [] [a] (.i (.z (.p (.k 0) (.k 1)) .a) (.n (.p (.k 0) (.k 1)) .a))),(L [] [a] (.i (.n (.p (.k 0) (.k 1)) .a) (.z (.p (.k 0) (.k 1)) .a)))⟩
theorem o160{a:Nat}:D [] [a] (.i (.n (.p .a (.k 1)) (.k 5)) (.i (.n (.p .a (.k 1)) (.k 3)) (.o (.q (.p (.k 58) .a) (.k 58)) (.o (.q (.p (.k 58) .a) (.k 59)) (.q (.p (.k 58) .a) (.k 60)))))):=ll
theorem o161{a:Nat}:D [] [a] (.i (.n (.p .a (.k 1)) (.k 5)) (.i (.i (.n (.p .a (.k 1)) (.k 3)) .f) (.o (.q (.p (.k 58) .a) (.k 61)) (.q (.p (.k 58) .a) (.k 62))))):=ll
theorem o162{a:Nat}:(((59+(a%2))=58)∨((((59+(a%2))=59)∨((59+(a%2))=60)))):=(L [] [(a/2),(a%2),a] (.i (.a (.q (.p (.m 2 .a) .b) .c) (.n (.p .b (.k 1)) (.k 2))) (.o (.q (.p (.k 59) .b) (.k 58)) (.o (.q (.p (.k 59) .b) (.k 59)) (.q (.p (.k 59) .b) (.k 60)))))) (df a (k:=2) rfl)
theorem o163{a:Nat}:(((61+(a%2))=61)∨((61+(a%2))=62)):=(L [] [(a/2),(a%2),a] (.i (.a (.q (.p (.m 2 .a) .b) .c) (.n (.p .b (.k 1)) (.k 2))) (.o (.q (.p (.k 61) .b) (.k 61)) (.q (.p (.k 61) .b) (.k 62))))) (df a (k:=2) rfl)
theorem o164{a b c d:Nat}:D [] [a,b,c,d] (.i (.q .a (.p .b (.m 2 .c))) (.i (.q .d (.k 2)) (.q (.p .a .d) (.p .b (.m 2 (.p .c (.k 1))))))):=ll
theorem o165{a b c:Nat}(h0:a<b)(h1:c<(b-a)):0<(b-(a+c)):=(L [] [a,b,c,(b-a),(b-(a+c))] (.i (.o (.a (.n .b .a) (.q .d (.k 0))) (.q (.p .d .a) .b)) (.i (.o (.a (.n .b (.p .a .c)) (.q .e (.k 0))) (.q (.p .e (.p .a .c)) .b)) (.i (.n (.p .a (.k 1)) .b) (.i (.n (.p .c (.k 1)) .d) (.n (.p (.k 0) (.k 1)) .e)))))) (sf b a) (sf b (a+c)) h0 h1
theorem o166{a b c:Nat}:D [] [a,b,c] (.i (.n (.p .a (.k 1)) .b) (.i (.n (.p .c (.k 1)) .a) (.n (.p .c (.k 1)) .b))):=ll
theorem o167{a b:Nat}:D [] [a,b] (.i (.n (.p .a (.k 1)) .b) (.i (.y .a .b) .f)):=ll
theorem o168{a:Nat}:D [] [a] (.i (.n .a (.k 100)) (.n (.p .a (.k 1)) (.k 16777216))):=ll
theorem o169{a b:Nat}:D [] [a,b] (.i (.n .a (.k 100)) (.i (.n .b (.k 100)) (.n (.p (.p .a .b) (.k 1)) (.k 16777216)))):=ll
theorem o170{a b:Nat}:D [] [a,b] (.i (.n (.p .a (.k 1)) (.k 6)) (.i (.q (.p (.k 4) .a) .b) (.n (.p (.k 0) (.k 1)) .b))):=ll
theorem o171{a b:Nat}:D [] [a,b] (.i (.n (.p .a (.k 1)) (.k 3)) (.i (.q (.p (.k 2) .a) .b) (.n (.p (.k 0) (.k 1)) .b))):=ll
theorem o172{a b:Nat}:D [] [a,b] (.i (.n (.p .a (.k 1)) (.k 6)) (.i (.q (.p (.k 4) .a) .b) (.n .b (.k 9)))):=ll
theorem o173{a b:Nat}:D [] [a,b] (.i (.n (.p .a (.k 1)) (.k 3)) (.i (.q (.p (.k 2) .a) .b) (.n .b (.k 4)))):=ll
theorem o174{a b:Nat}:D [] [a,b] (.i (.n (.p .a (.k 1)) (.k 6)) (.i (.q (.p (.k 4) .a) .b) (.z .b (.k 16777216)))):=ll
theorem o175{a b c d:Nat}:D [] [a,b,c,d] (.i (.n (.p .a (.k 1)) (.k 6)) (.i (.q (.p (.k 4) .a) .b) (.i (.n (.p .c (.k 1)) .b) (.i (.q .d .c) (.n .d (.k 100)))))):=ll
theorem o176{a b c d e:Nat}:D [] [a,b,c,d,e] (.i (.n (.p .a (.k 1)) (.k 6)) (.i (.q (.p (.k 4) .a) .b) (.i (.n (.p .c (.k 1)) .b) (.i (.n .d (.m 4 .c)) (.i (.q .e .c) (.n .d (.k 500))))))):=ll
theorem o177{a b:Nat}:D [] [a,b] (.i (.n (.p .a (.k 1)) (.k 3)) (.i (.q (.p (.k 2) .a) .b) (.z .b (.k 16777216)))):=ll
theorem o178{a b c:Nat}:D [] [a,b,c] (.i (.n (.p .a (.k 1)) (.k 6)) (.i (.q (.p (.k 4) .a) .b) (.i (.q .c .b) (.n .c (.k 100))))):=ll
theorem o179{a b c d e f g h i:Nat}:D [] [a,b,c,d,e,f,g,h,i] (.i (.n (.p .a (.k 1)) (.k 6)) (.i (.n (.p .b (.k 1)) (.k 3)) (.i (.q (.p (.k 4) .a) .c) (.i (.q (.p (.k 2) .b) .d) (.i (.n .e (.m 4 .c)) (.i (.q .f .c) (.i (.n (.p (.k 0) (.k 1)) .e) (.i (.n (.p .g (.k 1)) .d) (.i (.q .h (.p .e (.m 2 .g))) (.i (.q .i .g) (.n .h (.k 500)))))))))))):=ll
theorem o180{a b c d e f g h i:Nat}(h0:a<6)(h1:b<3)(h2:(4+a)=c)(h3:(2+b)=d)(h4:e≤(4*c))(h5:f=c)(h6:0<e)(h7:g=(e+(2*d)))(h8:h=d)(h9:i<g):(min i g)<16777216:=(L [] [a,b,c,d,e,f,g,h,i,(min i g)] (.i (.o (.a (.n .i .g) (.q .j .i)) (.a (.n .g .i) (.q .j .g))) (.i (.n (.p .a (.k 1)) (.k 6)) (.i (.n (.p .b (.k 1)) (.k 3)) (.i (.q (.p (.k 4) .a) .c) (.i (.q (.p (.k 2) .b) .d) (.i (.n .e (.m 4 .c)) (.i (.q .f .c) (.i (.n (.p (.k 0) (.k 1)) .e) (.i (.q .g (.p .e (.m 2 .d))) (.i (.q .h .d) (.i (.n (.p .i (.k 1)) .g) (.n (.p .j (.k 1)) (.k 16777216)))))))))))))) (minf i g) h0 h1 h2 h3 h4 h5 h6 h7 h8 h9
theorem o181{a b c d e f g h:Nat}:D [] [a,b,c,d,e,f,g,h] (.i (.n (.p .a (.k 1)) (.k 6)) (.i (.n (.p .b (.k 1)) (.k 3)) (.i (.q (.p (.k 4) .a) .c) (.i (.q (.p (.k 2) .b) .d) (.i (.n .e (.m 4 .c)) (.i (.q .f .c) (.i (.n (.p (.k 0) (.k 1)) .e) (.i (.q .g (.p .e (.m 2 .d))) (.i (.q .h .d) (.z .g (.k 16777216))))))))))):=ll
theorem o182{a b c d e f g h:Nat}:D [] [a,b,c,d,e,f,g,h] (.i (.n (.p .a (.k 1)) (.k 6)) (.i (.n (.p .b (.k 1)) (.k 3)) (.i (.q (.p (.k 4) .a) .c) (.i (.q (.p (.k 2) .b) .d) (.i (.n .e (.m 4 .c)) (.i (.q .f .c) (.i (.n (.p (.k 0) (.k 1)) .e) (.i (.q .g (.p .e (.m 2 .d))) (.i (.q .h .d) (.n .g (.k 16777216))))))))))):=ll
theorem o183{a:Nat}:D [] [a] (.y (.p (.k 5) (.p (.k 0) .a)) (.p (.k 5) .a)):=ll
theorem o184{a b c:Nat}:D [] [a,b,c] (.i (.n (.p .a (.k 1)) (.k 3)) (.i (.n (.p .b (.k 1)) .a) (.i (.q .c .b) (.n (.p .c (.k 1)) (.k 16777216))))):=ll
theorem o185{a:Nat}(h0:a≤63):(min 40 a)≤40:=(L [] [a,(min 40 a)] (.i (.o (.a (.n (.k 40) .a) (.q .b (.k 40))) (.a (.n .a (.k 40)) (.q .b .a))) (.i (.n .a (.k 63)) (.n .b (.k 40))))) (minf 40 a) h0
theorem o186{a:Nat}:D [] [a] (.n (.p (.k 0) (.k 1)) (.p (.k 4) .a)):=ll
theorem o187{a:Nat}:D [] [a] (.q (.p (.k 4) .a) (.p (.p (.k 3) .a) (.k 1))):=ll
theorem o188{a b:Nat}(h0:a<b):b=((a+1)+(b-(a+1))):=(L [] [a,b,(b-(a+1))] (.i (.o (.a (.n .b (.p .a (.k 1))) (.q .c (.k 0))) (.q (.p .c (.p .a (.k 1))) .b)) (.i (.n (.p .a (.k 1)) .b) (.q .b (.p (.p .a (.k 1)) .c))))) (sf b (a+1)) h0
theorem o189{a b:Nat}:D [] [a,b] (.i (.i (.n (.p .a (.k 1)) .b) .f) (.i (.i (.n (.p .b (.k 1)) .a) .f) (.q .a .b))):=ll
theorem o190{a b:Nat}(h0:a≥b):(b+(a-b))=a:=(L [] [b,a,(a-b)] (.i (.o (.a (.n .b .a) (.q .c (.k 0))) (.q (.p .c .a) .b)) (.i (.n .a .b) (.q (.p .a .c) .b)))) (sf a b) h0
theorem o191{a b:Nat}(h0:a<b):(a+(((b-a)-1)+1))=b:=(L [] [a,b,((b-a)-1),(b-a)] (.i (.o (.a (.n .b .a) (.q .d (.k 0))) (.q (.p .d .a) .b)) (.i (.o (.a (.n .d (.k 1)) (.q .c (.k 0))) (.q (.p .c (.k 1)) .d)) (.i (.n (.p .a (.k 1)) .b) (.q (.p .a (.p .c (.k 1))) .b))))) (sf b a) (sf (b-a) 1) h0
theorem o192{a b c:Nat}(h0:a<b):(b+c)=((c+a)+(b-a)):=(L [] [a,b,c,(b-a)] (.i (.o (.a (.n .b .a) (.q .d (.k 0))) (.q (.p .d .a) .b)) (.i (.n (.p .a (.k 1)) .b) (.q (.p .b .c) (.p (.p .c .a) .d))))) (sf b a) h0
theorem o193{a b c d e f:Nat}:D [] [a,b,c,d,e,f] (.i (.q (.p .a (.p .b (.k 1))) (.p .c (.k 1))) (.i (.q .d .a) (.i (.n (.p .e (.k 1)) .f) (.i (.n (.p .f (.k 1)) .a) (.n (.p .e (.k 1)) .d))))):=ll
theorem o194{a b c:Nat}:D [] [a,b,c] (.i (.q (.p .a (.p .b (.k 1))) (.p .c (.k 1))) (.q (.p (.p .a (.k 1)) .b) (.p .c (.k 1)))):=ll
theorem o195{a b c d e:Nat}(h0:(a+(b+1))=(c+1))(h1:d=a)(h2:¬(e<d))(h3:(e-d)<1):e=a:=(L [] [a,b,c,d,e,(e-d)] (.i (.o (.a (.n .e .d) (.q .f (.k 0))) (.q (.p .f .d) .e)) (.i (.q (.p .a (.p .b (.k 1))) (.p .c (.k 1))) (.i (.q .d .a) (.i (.i (.n (.p .e (.k 1)) .d) .f) (.i (.n (.p .f (.k 1)) (.k 1)) (.q .e .a))))))) (sf e d) h0 h1 h2 h3
theorem o196{a b c:Nat}:D [] [a,b,c] (.i (.n .a .b) (.n (.p .a (.k 1)) (.p (.p .c (.k 1)) .b))):=ll
theorem o197{a b c d e f:Nat}:D [] [a,b,c,d,e,f] (.i (.n (.p (.p (.m 2 .a) .b) (.k 1)) (.p (.p .c (.k 1)) (.m 2 .d))) (.i (.q .b (.p .e (.k 1))) (.n (.p (.p (.m 2 .a) (.p .e .f)) (.k 1)) (.p .c (.m 2 (.p .d .f)))))):=ll
theorem o198{a b:Nat}:D [] [a,b] (.i (.n (.p .a (.k 1)) (.p .b (.k 1))) (.i (.i (.q .a .b) .f) (.n (.p .a (.k 1)) .b))):=ll
theorem o199{a b c:Nat}(h0:a<b)(h1:c<b)(h2:a<c):(c-(a+1))<(b-(a+1)):=(L [] [a,b,c,(c-(a+1)),(b-(a+1))] (.i (.o (.a (.n .c (.p .a (.k 1))) (.q .d (.k 0))) (.q (.p .d (.p .a (.k 1))) .c)) (.i (.o (.a (.n .b (.p .a (.k 1))) (.q .e (.k 0))) (.q (.p .e (.p .a (.k 1))) .b)) (.i (.n (.p .a (.k 1)) .b) (.i (.n (.p .c (.k 1)) .b) (.i (.n (.p .a (.k 1)) .c) (.n (.p .d (.k 1)) .e))))))) (sf c (a+1)) (sf b (a+1)) h0 h1 h2
theorem o200{a b:Nat}(h0:a<b):((a+1)+(b-(a+1)))=b:=(L [] [a,b,(b-(a+1))] (.i (.o (.a (.n .b (.p .a (.k 1))) (.q .c (.k 0))) (.q (.p .c (.p .a (.k 1))) .b)) (.i (.n (.p .a (.k 1)) .b) (.q (.p (.p .a (.k 1)) .c) .b)))) (sf b (a+1)) h0
theorem o201{a b c d:Nat}(h0:(a-b)≤(c+1))(h1:b<d):(a-d)≤c:=(L [] [(a-b),a,b,c,d,(a-d)] (.i (.o (.a (.n .b .c) (.q .a (.k 0))) (.q (.p .a .c) .b)) (.i (.o (.a (.n .b .e) (.q .f (.k 0))) (.q (.p .f .e) .b)) (.i (.n .a (.p .d (.k 1))) (.i (.n (.p .c (.k 1)) .e) (.n .f .d)))))) (sf a b) (sf a d) h0 h1
theorem o202{a b c:Nat}:D [] [a,b,c] (.i (.n .a .b) (.i (.n (.p .b (.k 1)) .c) (.n (.p .a (.k 1)) .c))):=ll
theorem o203{a b c:Nat}:D [] [a,b,c] (.i (.n .a (.p .b (.k 1))) (.i (.n (.p .c (.k 1)) .a) (.n .c .b))):=ll
theorem o204{a b:Nat}(h0:a≤(b-1))(h1:0<b):(a+1)≤b:=(L [] [a,(b-1),b] (.i (.o (.a (.n .c (.k 1)) (.q .b (.k 0))) (.q (.p .b (.k 1)) .c)) (.i (.n .a .b) (.i (.n (.p (.k 0) (.k 1)) .c) (.n (.p .a (.k 1)) .c))))) (sf b 1) h0 h1
theorem o205{a b c:Nat}:D [] [a,b,c] (.i (.n (.p .a (.p .b (.k 1))) (.p (.m 2 .c) (.k 4))) (.n (.p .a (.k 1)) (.p (.m 2 .c) (.k 4)))):=ll
theorem o206{a b c:Nat}(h0:((a+((2*b)+6))+1)≤c):c=(((c-((2*b)+5))+1)+((2*b)+4)):=(L [] [a,b,c,(c-((2*b)+5))] (.i (.o (.a (.n .c (.p (.m 2 .b) (.k 5))) (.q .d (.k 0))) (.q (.p .d (.p (.m 2 .b) (.k 5))) .c)) (.i (.n (.p (.p .a (.p (.m 2 .b) (.k 6))) (.k 1)) .c) (.q .c (.p (.p .d (.k 1)) (.p (.m 2 .b) (.k 4))))))) (sf c ((2*b)+5)) h0
theorem o207{a:Nat}:D [] [a] (.n (.p (.k 0) (.p (.m 2 .a) (.k 4))) (.p (.m 2 .a) (.k 4))):=ll
theorem o208{a b c d:Nat}(h0:((a+((2*b)+6))+1)≤c)(h1:d≤(2*b)):c=(((c-(d+1))+1)+d):=(L [] [a,b,c,d,(c-(d+1))] (.i (.o (.a (.n .c (.p .d (.k 1))) (.q .e (.k 0))) (.q (.p .e (.p .d (.k 1))) .c)) (.i (.n (.p (.p .a (.p (.m 2 .b) (.k 6))) (.k 1)) .c) (.i (.n .d (.m 2 .b)) (.q .c (.p (.p .e (.k 1)) .d)))))) (sf c (d+1)) h0 h1
theorem o209{a b:Nat}:D [] [a,b] (.i (.n .a (.m 2 .b)) (.n (.p (.k 0) .a) (.p (.m 2 .b) (.k 4)))):=ll
theorem o210{a b:Nat}:D [] [a,b] (.i (.n (.k 15) (.p .a (.p .b (.k 1)))) (.n (.k 15) (.p (.p .a (.k 1)) .b))):=ll
theorem o211{a b:Nat}:D [] [a,b] (.i (.n .a (.m 2 .b)) (.n (.p (.p (.k 0) .a) (.k 1)) (.p (.m 2 .b) (.k 4)))):=ll
theorem o212{a b c d:Nat}:D [] [a,b,c,d] (.i (.n .a .b) (.i (.n .c .d) (.n (.p (.p .a .c) (.k 1)) (.p (.p .b .d) (.k 1))))):=ll
theorem o213{a b c d:Nat}:D [] [a,b,c,d] (.i (.n .a (.m 2 .b)) (.i (.n (.p (.p .c (.p (.m 2 .b) (.k 6))) (.k 1)) (.p (.p .d (.k 1)) .a)) (.n (.p .c (.k 1)) .d))):=ll
theorem o214{a:Nat}:D [] [a] (.n (.p (.m 15 (.p (.m 2 .a) (.k 6))) (.k 1)) (.p (.m 16 (.p (.m 2 .a) (.k 6))) (.k 1))):=ll
theorem o215{a b c d:Nat}:D [] [a,b,c,d] (.i (.q .a (.p .b .c)) (.n .c (.p .d .a))):=ll
theorem o216{a b c:Nat}(h0:a≤(b+c)):(b+c)=(a+((b+c)-a)):=(L [] [a,b,c,((b+c)-a)] (.i (.o (.a (.n (.p .b .c) .a) (.q .d (.k 0))) (.q (.p .d .a) (.p .b .c))) (.i (.n .a (.p .b .c)) (.q (.p .b .c) (.p .a .d))))) (sf (b+c) a) h0
theorem o217{a b:Nat}(h0:(a+1)≤b):((b-1)+1)=b:=(L [] [a,b,(b-1)] (.i (.o (.a (.n .b (.k 1)) (.q .c (.k 0))) (.q (.p .c (.k 1)) .b)) (.i (.n (.p .a (.k 1)) .b) (.q (.p .c (.k 1)) .b)))) (sf b 1) h0
theorem o218{a b:Nat}:D [] [a,b] (.i (.n (.p .a (.p .b (.k 1))) .a) .f):=ll
theorem o219{a:Nat}(h0:a≠0):((a-1)+1)=a:=(L [] [a,(a-1)] (.i (.o (.a (.n .a (.k 1)) (.q .b (.k 0))) (.q (.p .b (.k 1)) .a)) (.i (.i (.q .a (.k 0)) .f) (.q (.p .b (.k 1)) .a)))) (sf a 1) h0
theorem o220{a:Nat}:¬((((59+(a%2))=11)∨((((59+(a%2))=21)∨((59+(a%2))=58))))):=(L [] [(a/2),(a%2),a] (.i (.a (.q (.p (.m 2 .a) .b) .c) (.n (.p .b (.k 1)) (.k 2))) (.i (.o (.q (.p (.k 59) .b) (.k 11)) (.o (.q (.p (.k 59) .b) (.k 21)) (.q (.p (.k 59) .b) (.k 58)))) .f))) (df a (k:=2) rfl)
theorem o221{a:Nat}:¬((59+(a%2))=11):=(L [] [(a/2),(a%2),a] (.i (.a (.q (.p (.m 2 .a) .b) .c) (.n (.p .b (.k 1)) (.k 2))) (.i (.q (.p (.k 59) .b) (.k 11)) .f))) (df a (k:=2) rfl)
theorem o222{a:Nat}:¬((((61+(a%2))=11)∨((((61+(a%2))=21)∨((61+(a%2))=58))))):=(L [] [(a/2),(a%2),a] (.i (.a (.q (.p (.m 2 .a) .b) .c) (.n (.p .b (.k 1)) (.k 2))) (.i (.o (.q (.p (.k 61) .b) (.k 11)) (.o (.q (.p (.k 61) .b) (.k 21)) (.q (.p (.k 61) .b) (.k 58)))) .f))) (df a (k:=2) rfl)
theorem o223{a:Nat}:¬((61+(a%2))=11):=(L [] [(a/2),(a%2),a] (.i (.a (.q (.p (.m 2 .a) .b) .c) (.n (.p .b (.k 1)) (.k 2))) (.i (.q (.p (.k 61) .b) (.k 11)) .f))) (df a (k:=2) rfl)
theorem o224{a:Nat}:D [] [a] (.i (.n (.p .a (.k 1)) (.k 5)) (.i (.i (.q .a (.k 0)) .f) (.i (.o (.q (.p (.k 58) .a) (.k 11)) (.o (.q (.p (.k 58) .a) (.k 21)) (.q (.p (.k 58) .a) (.k 58)))) .f))):=ll
theorem o225{a:Nat}:D [] [a] (.i (.n (.p .a (.k 1)) (.k 5)) (.i (.q (.p (.k 58) .a) (.k 11)) .f)):=ll
theorem o226{a:Nat}:D [] [a] (.i (.n (.p .a (.k 1)) (.k 6)) (.n (.p (.k 0) (.k 1)) (.p (.k 4) .a))):=ll
theorem o227{a b:Nat}:D [] [a,b] (.i (.n (.p .a (.k 1)) (.k 6)) (.i (.q .b (.p (.k 4) .a)) (.n (.p (.k 0) (.k 1)) (.p (.k 4) .a)))):=ll
theorem o228{a b:Nat}:D [] [a,b] (.i (.n (.p .a (.k 1)) (.k 3)) (.i (.q .b (.p (.k 2) .a)) (.n (.p (.k 0) (.k 1)) (.p (.k 2) .a)))):=ll
theorem o229{a b c d e f g:Nat}:D [] [a,b,c,d,e,f,g] (.i (.n (.p .a (.k 1)) (.k 6)) (.i (.n (.p .b (.k 1)) (.k 3)) (.i (.n .c (.m 4 (.p (.k 4) .a))) (.i (.q .d (.p (.k 4) .a)) (.i (.n (.p (.k 0) (.k 1)) .c) (.i (.q .e (.p .c (.m 2 (.p (.k 2) .b)))) (.i (.q .f (.p (.k 2) .b)) (.i (.q .g .e) (.n (.p (.k 0) (.k 1)) .e))))))))):=ll
theorem o230{a b c d e f g:Nat}:D [] [a,b,c,d,e,f,g] (.i (.n (.p .a (.k 1)) (.k 6)) (.i (.n (.p .b (.k 1)) (.k 3)) (.i (.n .c (.m 4 (.p (.k 4) .a))) (.i (.q .d (.p (.k 4) .a)) (.i (.n (.p (.k 0) (.k 1)) .c) (.i (.q .e (.p .c (.m 2 (.p (.k 2) .b)))) (.i (.q .f (.p (.k 2) .b)) (.i (.q .g .e) (.n .e (.k 200)))))))))):=ll
theorem o231{a b c d e f g h:Nat}:D [] [a,b,c,d,e,f,g,h] (.i (.n (.p .a (.k 1)) (.k 6)) (.i (.n (.p .b (.k 1)) (.k 3)) (.i (.n .c (.m 4 (.p (.k 4) .a))) (.i (.q .d (.p (.k 4) .a)) (.i (.n (.p (.k 0) (.k 1)) .c) (.i (.q .e (.p .c (.m 2 (.p (.k 2) .b)))) (.i (.q .f (.p (.k 2) .b)) (.i (.q .g .e) (.i (.n (.p .h (.k 1)) .e) (.n (.p (.p (.k 5) .h) (.k 1)) (.k 1000))))))))))):=ll
theorem o232{a b:Nat}:D [] [a,b] (.i (.n (.p .a (.k 1)) .b) (.i (.n .b .a) .f)):=ll
theorem o233{a:Nat}:D [] [a] (.i (.i (.z (.p (.k 63) (.k 1)) .a) .f) (.n .a (.k 63))):=ll
theorem o234{a b c:Nat}:D [] [a,b,c] (.i (.n .a .b) (.i (.n (.p .c (.m 20 .b)) (.k 9000)) (.n (.p .c (.m 20 .a)) (.k 9000)))):=ll
theorem o235{a:Nat}:D [] [a] (.n .a (.p .a (.k 1))):=ll
theorem o236{a:Nat}:D [] [a] (.i (.n .a (.k 100)) (.n .a (.k 16777217))):=ll
theorem o237{a:Int}{b c:Nat}(h0:(((0:Int)≤a)∧((Int.toNat a)<b)))(h1:c=b):a<((c:Nat):Int):=(L [a] [(Int.toNat a),b,c] (.i (.o (.a (.z .a (.k 0)) (.q .a (.k 0))) (.y .b .a)) (.i (.a (.z (.k 0) .a) (.n (.p .a (.k 1)) .b)) (.i (.q .c .b) (.z (.p .a (.k 1)) .d))))) (tf a) h0 h1
theorem o238{a b c:Nat}:D [] [a,b,c] (.i (.n .a (.k 100)) (.i (.q .b .a) (.i (.q .c .b) (.n .c (.k 16777216))))):=ll
theorem o241:D [] [] (.z (.k 0) (.k 0)):=ll
theorem o242:D [] [] (.z (.k 0) (.k 16777216)):=ll
theorem o243{a b:Nat}:D [] [a,b] (.i (.n (.p .a (.k 1)) .b) (.n (.p .a (.k 1)) .b)):=ll
theorem o244{a b:Nat}:D [] [a,b] (.i (.q .a .b) (.q .a .b)):=ll
theorem o245{a b:Nat}:D [] [a,b] (.i (.n .a .b) (.i (.n .b .a) (.q .a .b))):=ll
theorem o246{a b:Nat}(h0:a<b):((b+1)-(a+1))<((b+1)-a):=(L [] [a,b,((b+1)-(a+1)),((b+1)-a)] (.i (.o (.a (.n (.p .b (.k 1)) (.p .a (.k 1))) (.q .c (.k 0))) (.q (.p .c (.p .a (.k 1))) (.p .b (.k 1)))) (.i (.o (.a (.n (.p .b (.k 1)) .a) (.q .d (.k 0))) (.q (.p .d .a) (.p .b (.k 1)))) (.i (.n (.p .a (.k 1)) .b) (.n (.p .c (.k 1)) .d))))) (sf (b+1) (a+1)) (sf (b+1) a) h0
theorem o247{a b c d:Nat}(h0:a=b)(h1:(c-d)<a):(c-d)<b:=(L [] [a,b,(c-d),c,d] (.i (.o (.a (.n .d .e) (.q .c (.k 0))) (.q (.p .c .e) .d)) (.i (.q .a .b) (.i (.n (.p .c (.k 1)) .a) (.n (.p .c (.k 1)) .b))))) (sf c d) h0 h1
theorem o248{a b c:Nat}:D [] [a,b,c] (.i (.q .a .b) (.i (.n (.p .c (.k 1)) .a) (.n (.p .c (.k 1)) .b))):=ll
theorem o249{a b:Nat}:D [] [a,b] (.i (.n (.p .a (.m 20 (.p .b (.k 1)))) (.k 9000)) (.n (.p (.p .a (.k 3)) (.m 20 .b)) (.k 9000))):=ll
theorem o250{a b c:Nat}:D [] [a,b,c] (.i (.q .a .b) (.i (.q .c .a) (.q .c .b))):=ll
theorem o251{a b:Nat}:((a+b)-a)=b:=(L [] [((a+b)-a),a,b] (.i (.o (.a (.n (.p .b .c) .b) (.q .a (.k 0))) (.q (.p .a .b) (.p .b .c))) (.q .a .c))) (sf (a+b) a)
theorem o252{a:Nat}:D [] [a] (.i (.n (.k 5) .a) (.n (.p (.k 2) (.k 1)) .a)):=ll
theorem o253{a b:Nat}:D [] [a,b] (.i (.n (.k 1) .a) (.i (.n (.p .a (.k 1)) .b) (.n (.k 1) .b))):=ll
theorem o254{a:Nat}:D [] [a] (.i (.n (.k 7) .a) (.n (.p (.p (.k 5) (.k 1)) (.k 1)) .a)):=ll
theorem o255{a b:Nat}:D [] [a,b] (.i (.n (.p .a (.k 1)) .b) (.n .a .b)):=ll
theorem o256{a b:Nat}:D [] [a,b] (.i (.n .a (.k 200)) (.i (.n (.p .b (.k 1)) .a) (.z (.p .b (.k 1)) (.k 16777216)))):=ll
theorem o257{a:Nat}:D [] [a] (.i (.n .a (.k 200)) (.z (.k 0) .a)):=ll
theorem o258{a:Nat}:D [] [a] (.i (.n .a (.k 200)) (.z .a (.k 16777216))):=ll
theorem o259{a:Nat}:D [] [a] (.i (.n (.k 5) .a) (.n (.p (.k 1) (.k 1)) .a)):=ll
theorem o260{a b c d:Nat}:D [] [a,b,c,d] (.i (.a (.n (.p .a (.k 1)) .b) (.a (.n .b .c) (.n (.p .c (.k 1)) .d))) (.n .b .d)):=ll
theorem o261{a b c d:Nat}:D [] [a,b,c,d] (.i (.a (.n (.p .a (.k 1)) .b) (.a (.n .b .c) (.n (.p .c (.k 1)) .d))) (.n .c .d)):=ll
theorem o262{a b:Nat}:D [] [a,b] (.i (.n .a (.k 200)) (.i (.n .b .a) (.n .b (.k 200)))):=ll
theorem o263{a:Nat}:D [] [a] (.i (.n (.k 5) .a) (.n (.p (.k 4) (.k 1)) .a)):=ll
theorem o264{a b c d:Nat}:D [] [a,b,c,d] (.i (.q .a .b) (.i (.n (.p .c (.k 1)) .a) (.i (.n .a (.p .d (.k 1))) (.n .c .d)))):=ll
theorem o265{a:Nat}:D [] [a] (.i (.n (.k 8) .a) (.n (.p (.p (.k 6) (.k 1)) (.k 1)) .a)):=ll
theorem o266{a:Nat}:D [] [a] (.i (.n (.p .a (.k 1)) (.k 85)) (.i (.z (.k 85) .a) .f)):=ll
theorem o267{a:Nat}:D [] [a] (.z (.k 0) .a):=ll
theorem o268{a b:Nat}:D [] [a,b] (.i (.n (.p .a (.k 1)) .b) (.i (.z .b .a) .f)):=ll
theorem o269{a b:Nat}:D [] [a,b] (.i (.n .a .b) (.z .a .b)):=ll
theorem o270{a b c:Nat}:D [] [a,b,c] (.i (.n .a .b) (.i (.n (.p .b (.k 1)) .c) (.z .a .c))):=ll
theorem o271{a b:Nat}:D [] [a,b] (.i (.n .a .b) (.i (.z (.p .b (.k 1)) .a) .f)):=ll
theorem o276{a b:Nat}(h0:a≤b)(h1:b≤1):(Int.toNat (((b:Nat):Int)-((a:Nat):Int)))≤b:=(L [] [a,b,(Int.toNat (((b:Nat):Int)-((a:Nat):Int)))] (.i (.o (.a (.z (.s .b .a) (.k 0)) (.q .c (.k 0))) (.y .c (.s .b .a))) (.i (.n .a .b) (.i (.n .b (.k 1)) (.n .c .b))))) (tf (((b:Nat):Int)-((a:Nat):Int))) h0 h1
theorem o277{a:Nat}:D [] [a] (.i (.n (.k 2) .a) (.n (.p (.k 1) (.k 1)) .a)):=ll
theorem o280{a b:Nat}:D [] [a,b] (.q (.p .a .b) (.p .b .a)):=ll
theorem o281{a:Nat}:D [] [a] (.i (.n (.k 6) .a) (.n (.p (.k 5) (.k 1)) .a)):=ll
theorem o282{a:Nat}:D [] [a] (.i (.a (.n (.k 58) .a) (.n (.p .a (.k 1)) (.k 63))) (.z (.p .a (.k 1)) (.k 63))):=ll
theorem o283{a b:Nat}:D [] [a,b] (.i (.n (.p .a (.k 1)) (.p (.m 3 .b) (.k 1))) (.n .a (.p (.m 3 .b) (.k 1)))):=ll
theorem o284{a b c d e:Nat}:D [] [a,b,c,d,e] (.i (.n (.p .a (.k 1)) (.p (.m 3 .b) (.k 1))) (.i (.n .c (.k 1)) (.i (.n .d (.k 1)) (.i (.n .e (.k 1)) (.n (.p (.p (.p .a .c) .d) .e) (.p (.m 3 (.p .b (.k 1))) (.k 1))))))):=ll
theorem o285{a:Nat}:D [] [a] (.i (.n .a (.k 200)) (.n (.p (.k 2) (.m 19 .a)) (.k 5000))):=ll
theorem o286{a b c d:Nat}:D [] [a,b,c,d] (.i (.n .a (.k 200)) (.i (.n (.p .b (.k 1)) .c) (.i (.n .c .d) (.i (.n (.p .d (.k 1)) .a) (.n (.p .c (.k 1)) (.k 10000)))))):=ll
theorem o287{a b:Nat}:D [] [a,b] (.i (.n .a (.k 200)) (.i (.n (.p .b (.k 1)) .a) (.n (.p .b (.k 1)) (.k 10000)))):=ll
theorem o288{a:Nat}:D [] [a] (.i (.n .a (.k 2)) (.n (.p (.k 2) (.m 40 .a)) (.k 5000))):=ll
theorem o289{a:Nat}:D [] [a] (.i (.n .a (.k 200)) (.n (.p (.k 2) (.m 7 .a)) (.k 5000))):=ll
theorem o290{a:Nat}:D [] [a] (.i (.n .a (.k 200)) (.a (.z (.p (.s (.k 0) (.k 9223372036854775808)) (.k 1)) .a) (.z (.p .a (.k 1)) (.k 9223372036854775808)))):=ll
theorem o295{a b:Nat}:((((((a+1):Nat):Int)-(1:Int))<((b:Nat):Int))↔(a<b)):=⟨(L [] [a,b] (.i (.z (.p (.s (.p .a (.k 1)) (.k 1)) (.k 1)) .b) (.n (.p .a (.k 1)) .b))),(L [] [a,b] (.i (.n (.p .a (.k 1)) .b) (.z (.p (.s (.p .a (.k 1)) (.k 1)) (.k 1)) .b)))⟩
theorem o296{a:Nat}:D [] [a] (.i (.n .a (.k 15)) (.i (.n (.p .a (.k 1)) (.k 15)) (.n .a (.k 14)))):=ll
theorem o297{a:Nat}:D [] [a] (.i (.n (.p (.k 0) (.k 1)) .a) (.z (.p (.k 0) (.k 1)) .a)):=ll
theorem o298{a:Int}:D [a] [] (.i (.z (.k 0) .a) (.i (.z (.p .a (.k 1)) (.k 1000003)) (.a (.z (.p (.s (.k 0) (.k 9223372036854775808)) (.k 1)) .a) (.z (.p .a (.k 1)) (.k 9223372036854775808))))):=ll
theorem o299{a:Nat}:D [] [a] (.i (.n .a (.k 500)) (.n .a (.k 1000))):=ll
theorem o300{a b:Nat}:D [] [a,b] (.i (.n .a (.k 500)) (.i (.n .b (.k 3)) (.n (.p .a .b) (.k 1000)))):=ll
theorem o301{a:Nat}:D [] [a] (.i (.n .a (.k 500)) (.n .a (.k 999))):=ll
theorem o302{a b c d e:Nat}(h0:a≤b)(h1:c<(a-(d+e))):(((d+e)+1)+c)≤b:=(L [] [a,b,c,(a-(d+e)),d,e] (.i (.o (.a (.n .a (.p .e .f)) (.q .d (.k 0))) (.q (.p .d (.p .e .f)) .a)) (.i (.n .a .b) (.i (.n (.p .c (.k 1)) .d) (.n (.p (.p (.p .e .f) (.k 1)) .c) .b))))) (sf a (d+e)) h0 h1
theorem o303{a b c:Nat}:D [] [a,b,c] (.i (.n (.p .a (.k 1)) .b) (.n (.p .a (.k 1)) (.p .b .c))):=ll
theorem o304{a b c:Nat}:D [] [a,b,c] (.i (.n (.p .a (.k 1)) .b) (.n (.p (.p .c .a) (.k 1)) (.p .c .b))):=ll
theorem o305{a b c:Nat}:D [] [a,b,c] (.i (.n (.p .a (.k 1)) .b) (.i (.q .a (.p .b .c)) .f)):=ll
theorem o306{a:Nat}:D [] [a] (.i (.n (.k 4) .a) (.n (.p (.k 2) (.k 1)) .a)):=ll
theorem o307{a b c d:Nat}:D [] [a,b,c,d] (.i (.n (.p .a (.k 1)) (.k 3)) (.i (.q (.p (.k 2) .a) .b) (.i (.n (.p .c (.k 1)) .b) (.i (.q .d .c) (.n .d (.k 100)))))):=ll
theorem o308{a:Nat}:D [] [a] (.i (.n (.p .a (.k 1)) (.k 3)) (.z .a (.k 16777216))):=ll
theorem o309{a b c d:Nat}(h0:a<b)(h1:c<(b-(a+d))):(((b:Nat):Int)-((a:Nat):Int))=(((b-a):Nat):Int):=(L [] [a,b,c,(b-(a+d)),d,(b-a)] (.i (.o (.a (.n .b (.p .a .e)) (.q .d (.k 0))) (.q (.p .d (.p .a .e)) .b)) (.i (.o (.a (.n .b .a) (.q .f (.k 0))) (.q (.p .f .a) .b)) (.i (.n (.p .a (.k 1)) .b) (.i (.n (.p .c (.k 1)) .d) (.y (.s .b .a) .f)))))) (sf b (a+d)) (sf b a) h0 h1
theorem o310{a:Nat}:D [] [a] (.i (.n (.k 4) .a) (.n (.p (.k 1) (.k 1)) .a)):=ll
theorem o311{a b c d:Nat}(h0:a<(b-(c+d))):(((b:Nat):Int)-(((c+d):Nat):Int))=(((b-(c+d)):Nat):Int):=(L [] [a,(b-(c+d)),b,c,d] (.i (.o (.a (.n .c (.p .d .e)) (.q .b (.k 0))) (.q (.p .b (.p .d .e)) .c)) (.i (.n (.p .a (.k 1)) .b) (.y (.s .c (.p .d .e)) .b)))) (sf b (c+d)) h0
theorem o312{a b c:Nat}:D [] [a,b,c] (.i (.q .a .b) (.i (.n (.p .c (.k 1)) .b) (.n (.p .c (.k 1)) .a))):=ll
theorem o313{a:Int}:D [a] [] (.i (.a (.z (.k 0) .a) (.z (.p .a (.k 1)) (.k 1000003))) (.a (.z (.p (.s (.k 0) (.k 9223372036854775808)) (.k 1)) .a) (.z (.p .a (.k 1)) (.k 9223372036854775808)))):=ll
theorem o314{a:Nat}:D [] [a] (.n (.p (.k 0) (.k 1)) (.p (.k 2) .a)):=ll
theorem o315{a:Nat}:D [] [a] (.i (.n (.p (.k 9) (.k 1)) .a) (.n (.p (.k 8) (.k 1)) .a)):=ll
theorem o316{a:Nat}:D [] [a] (.i (.n (.p (.k 9) (.k 1)) .a) (.n (.p (.k 7) (.k 1)) .a)):=ll
theorem o317{a:Nat}:D [] [a] (.i (.n (.p (.k 9) (.k 1)) .a) (.n (.p (.k 1) (.k 1)) .a)):=ll
theorem o318{a:Nat}:D [] [a] (.i (.n (.p (.k 9) (.k 1)) .a) (.n (.p (.k 6) (.k 1)) .a)):=ll
theorem o319{a b:Nat}(h0:a<b)(h1:a>0):(b-a)<b:=(L [] [a,b,(b-a)] (.i (.o (.a (.n .b .a) (.q .c (.k 0))) (.q (.p .c .a) .b)) (.i (.n (.p .a (.k 1)) .b) (.i (.n (.p (.k 0) (.k 1)) .a) (.n (.p .c (.k 1)) .b))))) (sf b a) h0 h1
theorem o320{a b c d e:Nat}:D [] [a,b,c,d,e] (.i (.q (.p .a (.p .b (.k 1))) (.p .c (.k 1))) (.i (.q .d .a) (.i (.n (.p .e (.k 1)) .a) (.n (.p .e (.k 1)) .d)))):=ll
theorem o321{a:Nat}:D [] [a] (.n (.p .a (.k 1)) (.p .a (.k 1))):=ll
theorem o322{a b:Nat}:D [] [a,b] (.i (.n (.p .a (.k 1)) .b) (.n (.p .a (.k 1)) (.p .b (.k 1)))):=ll
theorem o323{a b c d:Nat}:D [] [a,b,c,d] (.i (.q (.p .a (.k 1)) (.k 0)) (.n (.p .b (.p .c (.k 1))) .d)):=ll
theorem o324{a b c d:Nat}:D [] [a,b,c,d] (.i (.n (.p .a (.k 1)) .b) (.i (.n (.p .b .c) .d) (.n (.p .a (.p .c (.k 1))) .d))):=ll
theorem o325{a b c:Nat}:D [] [a,b,c] (.i (.n (.p .a (.p .b (.k 1))) (.p (.m 2 .c) (.k 4))) (.n (.p (.p .a (.k 1)) .b) (.p (.m 2 .c) (.k 4)))):=ll
theorem o326{a:Nat}:D [] [a] (.i (.n (.k 15) (.p .a (.k 0))) (.n (.k 15) .a)):=ll
theorem o327{a:Nat}:D [] [a] (.i (.n (.k 15) .a) (.n (.k 15) .a)):=ll
theorem o328{a:Nat}:D [] [a] (.n (.p (.k 0) (.p (.m 2 .a) (.k 4))) (.p (.m 2 .a) (.k 4))):=ll
theorem o329{a:Nat}:D [] [a] (.n (.p (.p (.m 2 .a) (.k 4)) (.k 1)) (.p (.p (.k 0) (.p (.m 2 .a) (.k 4))) (.k 1))):=ll
theorem o330{a b:Nat}:D [] [a,b] (.i (.n .a (.m 2 .b)) (.n (.p (.k 0) .a) (.p (.m 2 .b) (.k 4)))):=ll
theorem o331{a b:Nat}:D [] [a,b] (.i (.n .a (.m 2 .b)) (.n (.p (.p (.k 0) .a) (.k 1)) (.p (.m 2 .b) (.k 4)))):=ll
theorem o332{a b c d:Nat}:D [] [a,b,c,d] (.i (.n .a (.m 2 .b)) (.i (.n (.p (.p .c (.p (.m 2 .b) (.k 6))) (.k 1)) (.p (.p .d (.k 1)) .a)) (.n (.p .c (.k 1)) .d))):=ll
theorem o333{a b c d:Nat}:D [] [a,b,c,d] (.i (.n .a .b) (.i (.n .c .d) (.n (.p (.p .a .c) (.k 1)) (.p (.p .b .d) (.k 1))))):=ll
theorem o334{a:Nat}:D [] [a] (.n (.p (.m 15 (.p (.m 2 .a) (.k 6))) (.k 1)) (.p (.m 16 (.p (.m 2 .a) (.k 6))) (.k 1))):=ll
theorem o341{a b c d e:Nat}(h0:a<(b-(c+d)))(h1:b≤e):(((c+d)+1)+a)≤e:=(L [] [a,(b-(c+d)),b,c,d,e] (.i (.o (.a (.n .c (.p .d .e)) (.q .b (.k 0))) (.q (.p .b (.p .d .e)) .c)) (.i (.n (.p .a (.k 1)) .b) (.i (.n .c .f) (.n (.p (.p (.p .d .e) (.k 1)) .a) .f))))) (sf b (c+d)) h0 h1
theorem o342{a:Nat}:D [] [a] (.i (.n (.p .a (.k 1)) (.k 3)) (.n (.p (.k 0) (.k 1)) (.p (.k 2) .a))):=ll
end Mine.Internal
namespace Mine.Internal
open PySem PySem.W PyProof.Rows PySem.Calls
set_option genCtorIdx true in
inductive PV where
 |none
 |bool (b:Bool)
 |int (i:Int)
 |str (s:Str)
 |tup (l:List PV)
 |list (l:List PV)
 |dict (ks:List Int) (l:List PV)
 |inst (l:List PV)
 |ref (i:Nat)
 |fn (n:Nat)
 deriving Inhabited
set_option genCtorIdx true in
inductive SObj where
 |list (l:List PV)
 |dict (m:List (Int×PV))
 |tdict (m:List ((Str×Int)×PV))
 |inst (l:List PV)
 deriving Inhabited
structure St where
 rho:List (Option PV)
 sto:List SObj
structure Cx where
 prog:Program
 w:World
 K:Frag
 cu:Addr
 fa:Nat→Addr
 fields:List Str
noncomputable def FieldsOk:List Str→List DictEntry→List Value→Prop
 |_,[],[]=>True
 |n::ns,e::es,v::vs=>(∃t,e.key=.str n t)∧e.val=v∧FieldsOk ns es vs
 |_,_,_=>False
noncomputable def InstOf(C:Cx)(h:Heap)(a dx:Nat)(vs:List Value):Prop:=
 h.get? a=some (instObj C.cu dx)∧∃es n,h.get? dx=some {cls:=.type "dict",data:=.dict es n}∧FieldsOk C.fields es.toList vs
noncomputable def lineN:Nat:=16777216
mutual
noncomputable def VRel(C:Cx)(X:Nat→Prop)(h:Heap)(mu:List (Nat×Nat)):PV→Value→Prop
 | .none,v=>v=.none
 | .bool b,v=>v=.bool b
 | .int i,v=>∃t,v=.int i t
 | .str x,v=>∃t,v=.str x t
 | .tup l,v=>∃a vs,v=.ref a∧¬X a∧IsTup h a vs.toArray∧vs.length≤lineN∧VRels C X h mu l vs
 | .list l,v=>∃a vs n,v=.ref a∧¬X a∧h.get? a=some {cls:=.type "list",data:=.seq vs.toArray n}∧vs.length≤lineN∧VRels C X h mu l vs
 | .dict ks l,v=>∃a vs,v=.ref a∧¬X a∧a≠1∧VRels C X h mu l vs∧h.MapOf (intKind C.prog C.w) a (fun k=>(ks.zip vs).lookup k)
 | .inst l,v=>∃a dx vs,v=.ref a∧¬X a∧¬X dx∧InstOf C h a dx vs∧VRels C X h mu l vs
 | .ref i,v=>∃p,mu[i]? =some p∧v=.ref p.1
 | .fn n,v=>v=.ref (C.fa n)
noncomputable def VRels(C:Cx)(X:Nat→Prop)(h:Heap)(mu:List (Nat×Nat)):List PV→List Value→Prop
 |[],vs=>vs=[]
 |p::ps,vs=>∃v r,vs=v::r∧VRel C X h mu p v∧VRels C X h mu ps r
end
theorem isTup_keep{h h':Heap}{a:Nat}{items:Array Value}(x:IsTup h a items)(e:∀o,h.get? a=some o→h'.get? a=some o):IsTup h' a items:=
 x1_1 x fun o ho r=>⟨o,e _ ho,r⟩
theorem isTup_has{h:Heap}{a:Nat}{items:Array Value}(x:IsTup h a items):∃o,h.get? a=some o:=x1_1 x fun _ ho _=>⟨_,ho⟩
theorem instOf_keep{C:Cx}{h h':Heap}{a dx:Nat}{vs:List Value}(x:InstOf C h a dx vs)(e:∀o,h.get? a=some o→h'.get? a=some o)(e2:∀o,h.get? dx=some o→h'.get? dx=some o):InstOf C h' a dx vs:=
 let⟨h1,es,n,h2,h3⟩:=x;⟨e _ h1,es,n,e2 _ h2,h3⟩
structure Move(X X':Nat→Prop)(h h':Heap):Prop where
 keep:∀b o,h.get? b=some o→¬X b→h'.get? b=some o
 less:∀b:Nat,(∃o,h.get? b=some o)→X' b→X b
mutual
theorem VRel.move{C:Cx}{X X':Nat→Prop}{h h':Heap}{mu mu':List (Nat×Nat)}(m:Move X X' h h')(hm:∀(i:Nat)p,mu[i]? =some p→mu'[i]? =some p):
  ∀{p:PV}{v:Value},VRel C X h mu p v→VRel C X' h' mu' p v
 | .none,v,x=>by exact x
 | .bool b,v,x=>by exact x
 | .int i,v,x=>by exact x
 | .str s,v,x=>by exact x
 | .tup l,v,x=>by
  refine x2_4 x fun a vs h1 h2 h3 h4 h5=>?_
  exact⟨a,vs,h1,fun q=>h2 (m.less a (isTup_has h3) q),isTup_keep h3 fun o e=>m.keep a o e h2,h4,VRels.move m hm h5⟩
 | .list l,v,x=>by
  refine x3_4 x fun a vs n h1 h2 h3 h4 h5=>?_
  exact⟨a,vs,n,h1,fun q=>h2 (m.less a ⟨_,h3⟩ q),m.keep a _ h3 h2,h4,VRels.move m hm h5⟩
 | .dict ks l,v,x=>by
  refine x2_4 x fun a vs h1 h2 h0 h3 zR=>x3_1 zR fun o es ep ho hr=>?_
  exact⟨a,vs,h1,fun q=>h2 (m.less a ⟨_,ho⟩ q),h0,VRels.move m hm h3,o,es,ep,m.keep a o ho h2,hr⟩
 | .inst l,v,x=>by
  refine x3_4 x fun a dx vs h1 h2 h3 h4 h5=>?_
  refine x0_1 (id h4) fun i1 zR=>x2_1 zR fun es n i2 i3=>?_
  exact⟨a,dx,vs,h1,fun q=>h2 (m.less a ⟨_,i1⟩ q),fun q=>h3 (m.less dx ⟨_,i2⟩ q),instOf_keep h4 (fun o e=>m.keep a o e h2) (fun o e=>m.keep dx o e h3),VRels.move m hm h5⟩
 | .ref i,v,x=>by
  refine x1_1 x fun p h1 h2=>?_
  exact⟨p,hm i p h1,h2⟩
 | .fn n,v,x=>by exact x
theorem VRels.move{C:Cx}{X X':Nat→Prop}{h h':Heap}{mu mu':List (Nat×Nat)}(m:Move X X' h h')(hm:∀(i:Nat)p,mu[i]? =some p→mu'[i]? =some p):
  ∀{l:List PV}{vs:List Value},VRels C X h mu l vs→VRels C X' h' mu' l vs
 |[],vs,x=>by exact x
 |p::ps,vs,x=>by
  refine x2_2 x fun v r h1 h2 h3=>?_
  exact⟨v,r,h1,VRel.move m hm h2,VRels.move m hm h3⟩
end
section lists
variable {C:Cx} {X:Nat→Prop} {h:Heap} {mu:List (Nat×Nat)}
theorem VRels.length:∀{l:List PV}{vs:List Value},VRels C X h mu l vs→vs.length=l.length
 |[],vs,x=>by obtain rfl:_=_:=x;rfl
 |p::ps,vs,x=>by
  refine x2_1 x fun v r zE zR=>?_;subst zE;refine x0_1 zR fun _ h3=>?_
  simp[VRels.length h3]
theorem VRels.get:∀{l:List PV}{vs:List Value}{i:Nat}{p:PV},VRels C X h mu l vs→l[i]? =some p→∃v,vs[i]? =some v∧VRel C X h mu p v
 |[],vs,i,p,x,e=>by exact nN e
 |q::ps,vs,i,p,x,e=>by
  refine x2_1 x fun v r zE zR=>?_;subst zE;refine x0_1 zR fun h2 h3=>?_
  cases i with
  |zero=>simp at e;subst e;exact⟨v,rfl,h2⟩
  |succ i=>simp at e;simpa using VRels.get h3 e
theorem VRels.nil:VRels C X h mu [] []:=by rfl
theorem VRels.cons{p:PV}{v:Value}{l:List PV}{vs:List Value}(x:VRel C X h mu p v)(y:VRels C X h mu l vs):VRels C X h mu (p::l) (v::vs):=by
 exact⟨v,vs,rfl,x,y⟩
theorem VRels.append:∀{l l':List PV}{vs vs':List Value},VRels C X h mu l vs→VRels C X h mu l' vs'→VRels C X h mu (l++l') (vs++vs')
 |[],l',vs,vs',x,y=>by obtain rfl:_=_:=x;simpa using y
 |p::ps,l',vs,vs',x,y=>by
  refine x2_1 x fun v r zE zR=>?_;subst zE;refine x0_1 zR fun h2 h3=>?_
  exact VRels.cons h2 (VRels.append h3 y)
theorem VRels.take:∀{l:List PV}{vs:List Value}(n:Nat),VRels C X h mu l vs→VRels C X h mu (l.take n) (vs.take n)
 |[],vs,n,x=>by obtain rfl:_=_:=x;simpa using VRels.nil
 |p::ps,vs,0,x=>rfl
 |p::ps,vs,n+1,x=>by
  refine x2_1 x fun v r zE zR=>?_;subst zE;refine x0_1 zR fun h2 h3=>?_
  exact VRels.cons h2 (VRels.take n h3)
theorem VRels.drop:∀{l:List PV}{vs:List Value}(n:Nat),VRels C X h mu l vs→VRels C X h mu (l.drop n) (vs.drop n)
 |[],vs,n,x=>by obtain rfl:_=_:=x;simpa using VRels.nil
 |p::ps,vs,0,x=>x
 |p::ps,vs,n+1,x=>by
  refine x2_1 x fun v r zE zR=>?_;subst zE;refine x0_1 zR fun h2 h3=>?_
  simpa using VRels.drop n h3
theorem VRels.set:∀{l:List PV}{vs:List Value}{i:Nat}{p:PV}{v:Value},VRels C X h mu l vs→VRel C X h mu p v→VRels C X h mu (l.set i p) (vs.set i v)
 |[],vs,i,p,v,x,y=>by obtain rfl:_=_:=x;simpa using VRels.nil
 |q::ps,vs,i,p,v,x,y=>by
  refine x2_1 x fun u r zE zR=>?_;subst zE;refine x0_1 zR fun h2 h3=>?_
  cases i with
  |zero=>exact VRels.cons y h3
  |succ i=>exact VRels.cons h2 (VRels.set h3 y)
end lists
section mix
variable {prog:Program} {w:World}
noncomputable def isMix:Int ⊕ Str→Value→Bool
 | .inl i,v=>Value.isInt i v
 | .inr x,v=>Value.isStrOf x v
theorem isMix_shape{k:Int ⊕ Str}{v:Value}(h:isMix k v=true):(∃i t,k=.inl i∧v=.int i t)∨(∃x t,k=.inr x∧v=.str x t):=by
 cases k with
 |inl i=>obtain⟨t,rfl⟩:=Value.isInt_shape h;exact .inl ⟨i,t,rfl,rfl⟩
 |inr x=>obtain⟨t,rfl⟩:=Value.isStrOf_shape h;exact .inr ⟨x,t,rfl,rfl⟩
noncomputable def mixKind(prog:Program)(w:World):KeyKind prog w (Int ⊕ Str) where
 is:=isMix
 hash:=fun| .inl i=>hashInt i| .inr x=>hashStr w x
 inj:=fun v a b ha hb=>by
  rcases isMix_shape ha with⟨i,t,rfl,rfl⟩|⟨x,t,rfl,rfl⟩<;>rcases isMix_shape hb with⟨j,u,rfl,e⟩|⟨y,u,rfl,e⟩<;>cases e<;>rfl
 byValue:=fun k v h=>by rcases isMix_shape h with⟨i,t,rfl,rfl⟩|⟨x,t,rfl,rfl⟩<;>rfl
 pyHash:=fun hv h=>by
  rcases isMix_shape hv with⟨i,t,rfl,rfl⟩|⟨x,t,rfl,rfl⟩
  .exact wpAny_pyHash_int h
  .exact wpAny_pyHash_str h
 eqBool:=fun{A E s a b u v Q} hu hv h=>by
  rcases isMix_shape hu with⟨i,t,rfl,rfl⟩|⟨x,t,rfl,rfl⟩<;>rcases isMix_shape hv with⟨j,u,rfl,rfl⟩|⟨y,u,rfl,rfl⟩
  .exact(intKind prog w).eqBool (a:=i) (b:=j) hu hv (by simpa using h)
  .exact SeqAt.EqAt.int_str _ _ _ _ _ _ _ _ (h)
  .exact SeqAt.EqAt.str_int _ _ _ _ _ _ _ _ (h)
  .exact(PySem.strKind prog w).eqBool (a:=x) (b:=y) hu hv (by simpa using h)
 «strs»:=fun k x t v h=>by
  rcases isMix_shape h with⟨i,t',rfl,e⟩|⟨y,t',rfl,e⟩
  .contradiction
  .cases e;exact(PySem.strKind prog w).«strs» x x t v h
end mix
noncomputable abbrev tKind(C:Cx):HeapKind C.prog C.w (List (Int ⊕ Str)):=tupleKind (mixKind C.prog C.w)
noncomputable def TRows(C:Cx)(X:Nat→Prop)(h:Heap)(mu:List (Nat×Nat)):List ((Str×Int)×PV)→List (List (Int ⊕ Str)×Addr×Value)→Prop
 |[],xs=>xs=[]
 |((s,i),p)::m,xs=>∃a v r,xs=([.inr s,.inl i],a,v)::r∧¬X a∧VRel C X h mu p v∧TRows C X h mu m r
noncomputable def ObjRel(C:Cx)(X:Nat→Prop)(h:Heap)(mu:List (Nat×Nat))(p:Nat×Nat):SObj→Prop
 | .list l=>p.2=p.1∧∃vs n,h.get? p.1=some {cls:=.type "list",data:=.seq vs.toArray n}∧vs.length≤lineN∧VRels C X h mu l vs
 | .dict m=>p.2=p.1∧p.1≠1∧∃vs,VRels C X h mu (m.map Prod.snd) vs∧h.DictOf (intKind C.prog C.w) p.1 ((m.map Prod.fst).zip vs)
 | .tdict m=>p.2=p.1∧p.1≠1∧∃xs,TRows C X h mu m xs∧h.DictOfH (tKind C) p.1 xs
 | .inst l=>∃vs,InstOf C h p.1 p.2 vs∧VRels C X h mu l vs
theorem valueAt_lookup(k:Int):∀kvs:List (Int×Value),valueAt kvs k=kvs.lookup k
 |[]=>rfl
 |(a,v)::r=>by
  unfold valueAt
  rw[List.find?_cons,List.lookup_cons]
  by_cases e:a=k
  .subst e;simp
  .have h1:decide (a=k)=false:=decide_eq_false e
   have h2:(k==a)=false:=beq_eq_false_iff_ne.mpr fun z=>e z.symm
   simp only[h1,h2]
   exact valueAt_lookup k r
theorem dictOf_map{C:Cx}{h:Heap}{a:Nat}{kvs:List (Int×Value)}(x:h.DictOf (intKind C.prog C.w) a kvs):h.MapOf (intKind C.prog C.w) a (fun k=>kvs.lookup k):=by
 have:=x.mapOf
 rwa [show valueAt kvs=fun k=>kvs.lookup k from funext fun k=>valueAt_lookup k kvs]at this
theorem TRows.move{C:Cx}{X X':Nat→Prop}{h h':Heap}{mu mu':List (Nat×Nat)}(m:Move X X' h h')(hm:∀(i:Nat)p,mu[i]? =some p→mu'[i]? =some p)
  (kd:(List (Int ⊕ Str)×Addr×Value)→Prop) (hkd:∀x,kd x→∃o,h.get? x.2.1=some o):
  ∀{l:List ((Str×Int)×PV)}{xs},(∀x∈xs,kd x)→TRows C X h mu l xs→TRows C X' h' mu' l xs
 |[],xs,_,x=>by exact x
 |((s,i),p)::r,xs,hk,x=>by
  refine x3_1 x fun a v r' zE zR=>?_;subst zE;refine x0_2 zR fun h1 h2 h3=>?_
  exact⟨a,v,r',rfl,fun q=>h1 (m.less a (hkd _ (hk _ (.head _))) q),VRel.move m hm h2,TRows.move m hm kd hkd (fun x hx=>hk x (.tail _ hx)) h3⟩
theorem TRows.notX{C:Cx}{X:Nat→Prop}{h:Heap}{mu:List (Nat×Nat)}:∀{l:List ((Str×Int)×PV)}{xs},TRows C X h mu l xs→∀x∈xs,¬X x.2.1
 |[],xs,x,y,hy=>by obtain rfl:_=_:=x;simp at hy
 |((s,i),p)::r,xs,x,y,hy=>by
  refine x3_1 x fun a v r' zE zR=>?_;subst zE;refine x0_2 zR fun h1 h2 h3=>?_
  rcases List.mem_cons.mp hy with rfl|hy
  .exact h1
  .exact TRows.notX h3 y hy
theorem tupleKey_keep{C:Cx}{h h':Heap}{k:List (Int ⊕ Str)}{a:Nat}(x:(tKind C).is h k a)(e:∀o,h.get? a=some o→h'.get? a=some o):(tKind C).is h' k a:=
 x3_1 (show IsTupleKey _ _ _ _ from x) fun o items n ho r=>(show IsTupleKey _ _ _ _ from⟨o,items,n,e o ho,r⟩)
theorem tupleKey_lt{C:Cx}{h:Heap}{k:List (Int ⊕ Str)}{a:Nat}(x:(tKind C).is h k a):∃o,h.get? a=some o:=
 x3_1 (show IsTupleKey _ _ _ _ from x) fun _ _ _ ho _=>⟨_,ho⟩
theorem ObjRel.move{C:Cx}{X X':Nat→Prop}{h h':Heap}{mu mu':List (Nat×Nat)}{p:Nat×Nat}{o:SObj}(m:Move X X' h h')(hm:∀(i:Nat)q,mu[i]? =some q→mu'[i]? =some q)
  (e1:∀o,h.get? p.1=some o→h'.get? p.1=some o) (e2:∀o,h.get? p.2=some o→h'.get? p.2=some o) (x:ObjRel C X h mu p o):ObjRel C X' h' mu' p o:=by
 cases o with
 |list l=>refine x0_1 x fun h1 zR=>x2_2 zR fun vs n h2 h3 h4=>?_;exact⟨h1,vs,n,e1 _ h2,h3,h4.move m hm⟩
 |dict l=>
  refine x0_2 x fun h1 h0 zR=>x1_1 zR fun vs h2 zR=>x3_1 zR fun o es ep ho hr=>?_
  exact⟨h1,h0,vs,h2.move m hm,o,es,ep,e1 _ ho,hr⟩
 |tdict l=>
  refine x0_2 x fun h1 h0 zR=>x1_1 zR fun xs h2 zR=>x3_5 zR fun o es ep ho hx hd he hk hn=>?_
  refine⟨h1,h0,xs,h2.move m hm (fun x=>(tKind C).is h x.1 x.2.1) (fun x hx=>tupleKey_lt hx) hk,o,es,ep,e1 _ ho,hx,hd,he,fun x hx=>tupleKey_keep (hk x hx) fun o e=>m.keep _ o e (h2.notX x hx),hn⟩
 |inst l=>refine x1_1 x fun vs h1 h2=>?_;exact⟨vs,instOf_keep h1 e1 e2,h2.move m hm⟩
theorem ObjRel.has{C:Cx}{X:Nat→Prop}{h:Heap}{mu:List (Nat×Nat)}{p:Nat×Nat}{o:SObj}(x:ObjRel C X h mu p o):(∃o,h.get? p.1=some o)∧∃o,h.get? p.2=some o:=by
 cases o with
 |list l=>refine x0_1 x fun h1 zR=>x2_2 zR fun vs n h2 h3 h4=>?_;rw[h1];exact⟨⟨_,h2⟩,_,h2⟩
 |dict l=>refine x0_2 x fun h1 h0 zR=>x1_1 zR fun vs h2 zR=>x3_1 zR fun o es ep ho hr=>?_;rw[h1];exact⟨⟨_,ho⟩,_,ho⟩
 |tdict l=>refine x0_2 x fun h1 h0 zR=>x1_1 zR fun xs h2 zR=>x3_1 zR fun o es ep ho hx=>?_;rw[h1];exact⟨⟨_,ho⟩,_,ho⟩
 |inst l=>obtain⟨vs,⟨h1,es,n,h2,h3⟩,h4⟩:=x;exact⟨⟨_,h1⟩,_,h2⟩
end Mine.Internal
namespace Mine.Internal
open PySem PySem.W PyProof.Rows PySem.Calls
structure Frm where
 env:Env
 slots:List Str
 base:Heap
 fx:Nat→Prop
 prot:List (Addr×Obj)
 mu0:List (Nat×Nat)
 wr:Bool
noncomputable def XS(fx:Nat→Prop)(mu:List (Nat×Nat))(a:Nat):Prop:=fx a∨∃p∈mu,a=p.1∨a=p.2
noncomputable def SlotHas(env:Env)(h:Heap)(n:Str)(v:Value):Prop:=
 (env.kindOf n=some .local∧∃m,h.Ns env.locals m∧m n=some v)∨
 ((env.kindOf n=some .cell∨env.kindOf n=some .free)∧∃c,env.cells.lookup n=some c∧h.IsCell c (some v))
noncomputable def Holder(env:Env)(a:Nat):Prop:=a=env.locals∨∃n,env.cells.lookup n=some a
structure Frm.Ok(C:Cx)(F:Frm):Prop where
 kin:C.K.In F.base
 lim:F.base.NoLimit
 kind:F.env.scope.kind=.function
 glob:F.env.globals=mainGlobals
 bltn:F.env.builtins=builtinsNs
 locfx:F.fx F.env.locals
 locbase:F.base.get? F.env.locals=none
 cellfx:∀n c,F.env.cells.lookup n=some c→F.fx c
 cellloc:∀n c,F.env.cells.lookup n=some c→c≠F.env.locals
 cell1:∀n n' c,F.env.cells.lookup n=some c→F.env.cells.lookup n'=some c→n=n'
 cellbase:F.wr=true→∀n c,F.env.kindOf n=some .cell→F.env.cells.lookup n=some c→F.base.get? c=none
 cellall:∀n,F.env.kindOf n=some .cell∨F.env.kindOf n=some .free→(F.env.cells.lookup n).isSome=true
 protfx:∀p∈F.prot,F.fx p.1∧F.base.get? p.1=none∧¬Holder F.env p.1∧p.2.isFreed=false
 prot1:(F.prot.map Prod.fst).Nodup
 fxtop:∀a,F.fx a→C.K.lookup a=none
 slots1:F.slots.Nodup
 locne:F.env.locals≠F.env.globals
 tops:∃mg mb,F.base.Ns mainGlobals mg∧F.base.Ns builtinsNs mb∧∀x:Str,x≠ "__name__"→mb x=bootBuiltins x
structure Sim(C:Cx)(F:Frm)(mu:List (Nat×Nat))(T:List (PV×Value))(st:St)(h:Heap):Prop where
 ok:F.Ok C
 keep:∀b o,F.base.get? b=some o→h.get? b=some o
 pre:∃nu,mu=F.mu0++nu
 ns:∃m,h.Ns F.env.locals m
 cells:∀n c,F.env.cells.lookup n=some c→∃v,h.IsCell c v
 prot:∀p∈F.prot,h.get? p.1=some p.2
 vals:∀p∈T,VRel C (XS F.fx mu) h mu p.1 p.2
 vars:∀(i:Nat)n pv,F.slots[i]? =some n→st.rho[i]? =some (some pv)→∃v,SlotHas F.env h n v∧VRel C (XS F.fx mu) h mu pv v
 len:st.sto.length=mu.length
 objs:∀(i:Nat)o p,st.sto[i]? =some o→mu[i]? =some p→ObjRel C (XS F.fx mu) h mu p o
 muoff:∀p∈mu,¬F.fx p.1∧¬F.fx p.2∧F.base.get? p.1=none∧F.base.get? p.2=none
 mu1:∀(i j:Nat)p q,mu[i]? =some p→mu[j]? =some q→(p.1=q.1∨p.1=q.2∨p.2=q.1∨p.2=q.2)→i=j
 has:∀a:Nat,XS F.fx mu a→∃o,h.get? a=some o
section
variable {C:Cx} {F:Frm} {mu:List (Nat×Nat)} {T:List (PV×Value)} {st:St} {h h':Heap}
theorem Sim.bound(S:Sim C F mu T st h)(a:Nat)(x:XS F.fx mu a):a<h.objs.size:=x1_0 (S.has a x) fun _ e=>Heap.lt_size e
theorem Sim.kin(S:Sim C F mu T st h):C.K.In h:=fun a o e=>S.keep a o (S.ok.kin a o e)
theorem Sim.lim(S:Sim C F mu T st h):h.NoLimit:=S.ok.lim.keeps S.keep
theorem Sim.top(S:Sim C F mu T st h){a:Nat}{o:Obj}(e:C.K.lookup a=some o):¬XS F.fx mu a:=by
 rintro(q|⟨p,hp,q⟩)
 .rw[S.ok.fxtop a q]at e;contradiction
 .have hb:=S.ok.kin a o e
  have:=S.muoff p hp
  rcases q with rfl|rfl
  .rw[this.2.2.1]at hb;contradiction
  .rw[this.2.2.2]at hb;contradiction
theorem SlotHas.keep{env:Env}{n:Str}{v:Value}(x:SlotHas env h n v)(e:∀a o,Holder env a→h.get? a=some o→h'.get? a=some o):SlotHas env h' n v:=by
 rcases x with⟨k,m,⟨o,es,ep,ho,r⟩,hm⟩|⟨k,c,hc,o,ho,hd⟩
 .exact .inl ⟨k,m,⟨o,es,ep,e _ _ (.inl rfl) ho,r⟩,hm⟩
 .exact .inr ⟨k,c,hc,o,e _ _ (.inr ⟨n,hc⟩) ho,hd⟩
theorem Move.refl_grow{X:Nat→Prop}(k:∀b o,h.get? b=some o→h'.get? b=some o):Move X X h h':=⟨fun b o e _=>k b o e,fun _ _ x=>x⟩
theorem holder_fx(S:Sim C F mu T st h){a:Nat}(x:Holder F.env a):F.fx a:=by
 rcases x with rfl|⟨n,hn⟩
 .exact S.ok.locfx
 .exact S.ok.cellfx n a hn
theorem Sim.grow(S:Sim C F mu T st h)(k:∀b o,h.get? b=some o→h'.get? b=some o):Sim C F mu T st h' where
 ok:=S.ok
 keep:=fun b o e=>k b o (S.keep b o e)
 pre:=S.pre
 ns:=x1_0 S.ns fun m hm=>⟨m,hm.keeps k⟩
 cells:=fun n c e=>x1_0 (S.cells n c e) fun v hv=>⟨v,hv.keeps k⟩
 prot:=fun p hp=>k _ _ (S.prot p hp)
 vals:=fun p hp=>(S.vals p hp).move (.refl_grow k) fun _ _ e=>e
 vars:=fun i n pv e1 e2=>x1_1 (S.vars i n pv e1 e2) fun v h1 h2=>⟨v,h1.keep fun a o _ e=>k a o e,h2.move (.refl_grow k) fun _ _ e=>e⟩
 len:=S.len
 objs:=fun i o p e1 e2=>(S.objs i o p e1 e2).move (.refl_grow k) (fun _ _ e=>e) (fun o e=>k _ o e) (fun o e=>k _ o e)
 muoff:=S.muoff
 mu1:=S.mu1
 has:=fun a x=>x1_0 (S.has a x) fun o e=>⟨o,k a o e⟩
theorem Sim.push(S:Sim C F mu T st h)(o:Obj):Sim C F mu T st (h.push o):=S.grow (fun _ _ e=>Heap.get?_push_of_some o e)
theorem Sim.fresh(S:Sim C F mu T st h):¬XS F.fx mu h.objs.size:=fun q=>Nat.lt_irrefl _ (S.bound _ q)
theorem Sim.add(S:Sim C F mu T st h){p:PV}{v:Value}(x:VRel C (XS F.fx mu) h mu p v):Sim C F mu ((p,v)::T) st h:=
 {S with vals:=fun q hq=>by rcases List.mem_cons.mp hq with rfl|hq;exact x;exact S.vals q hq}
theorem Sim.sub(S:Sim C F mu T st h){T':List (PV×Value)}(hs:∀p∈T',p∈T):Sim C F mu T' st h:={S with vals:=fun p hp=>S.vals p (hs p hp)}
theorem Sim.tail{x:PV×Value}(S:Sim C F mu (x::T) st h):Sim C F mu T st h:=S.sub fun p hp=>.tail _ hp
theorem Sim.hd{p:PV}{v:Value}(S:Sim C F mu ((p,v)::T) st h):VRel C (XS F.fx mu) h mu p v:=S.vals _ (.head _)
theorem Sim.newTup(S:Sim C F mu T st h){l:List PV}{vs:List Value}(x:VRels C (XS F.fx mu) h mu l vs)(hl:l.length≤lineN):
  Sim C F mu ((.tup l,.ref h.objs.size)::T) st (h.push {cls:=.type "tuple",data:=.seq vs.toArray}):=by
 have k:∀b o,h.get? b=some o→(h.push {cls:=.type "tuple",data:=.seq vs.toArray}).get? b=some o:=fun _ _ e=>Heap.get?_push_of_some _ e
 refine(S.push _).add ?_
 exact⟨_,vs,rfl,S.fresh,⟨_,Heap.get?_push_size _ rfl,rfl,_,rfl⟩,by rw[x.length];exact hl,x.move (.refl_grow k) fun _ _ e=>e⟩
theorem Sim.newListF(S:Sim C F mu T st h){l:List PV}{vs:List Value}{h':Heap}{a n:Nat}(x:VRels C (XS F.fx mu) h mu l vs)(hl:l.length≤lineN)
  (k:∀b o,h.get? b=some o→h'.get? b=some o) (sz:h.objs.size≤h'.objs.size) (ha:h.objs.size≤a) (hg:h'.get? a=some {cls:=.type "list",data:=.seq vs.toArray n}):
  Sim C F mu ((.list l,.ref a)::T) st h':=by
 refine(S.grow k).add ?_
 exact⟨_,vs,n,rfl,fun q=>absurd (S.bound _ q) (by exact Nat.not_lt.mpr ha),hg,by rw[x.length];exact hl,x.move (.refl_grow k) fun _ _ e=>e⟩
theorem Sim.newLive(S:Sim C F mu T st h){p:Nat×Nat}{o:SObj}(k:∀b o,h.get? b=some o→h'.get? b=some o)
  (h1:h.objs.size≤p.1) (h2:h.objs.size≤p.2) (h3:p.1<h'.objs.size) (h4:p.2<h'.objs.size)
  (x:ObjRel C (XS F.fx (mu++[p])) h' (mu++[p]) p o):Sim C F (mu++[p]) ((.ref st.sto.length,.ref p.1)::T) ⟨st.rho,st.sto++[o]⟩ h':=by
 have sz:h.objs.size≤h'.objs.size:=by exact o0 h1 h3
 have mv:Move (XS F.fx mu) (XS F.fx (mu++[p])) h h':=⟨fun b o e _=>k b o e,fun b zQ q=>by
  obtain⟨_,hb⟩:=zQ
  have hb:b<h.objs.size:=Heap.lt_size hb
  rcases q with q|⟨q,hq,e⟩
  .exact .inl q
  .rcases List.mem_append.mp hq with hq|hq
   .exact .inr ⟨q,hq,e⟩
   .rw[List.mem_singleton]at hq;subst hq;rcases e with rfl|rfl<;>omega⟩
 have hm:∀(i:Nat)q,mu[i]? =some q→(mu++[p])[i]? =some q:=fun i q e=>by
  rw[List.getElem?_append_left (List.getElem?_eq_some_iff.mp e).1];exact e
 have nb:∀a:Nat,h.objs.size≤a→F.base.get? a=none:=fun a ha=>by
  cases q:F.base.get? a with
  |none=>rfl
  |some o=>exact absurd (Heap.lt_size (S.keep _ _ q)) (Nat.not_lt.mpr ha)
 have nfx:∀a:Nat,h.objs.size≤a→¬F.fx a:=fun a ha q=>absurd (S.bound a (.inl q)) (Nat.not_lt.mpr ha)
 have old:∀q∈mu,q.1<h.objs.size∧q.2<h.objs.size:=fun q hq=>⟨S.bound _ (.inr ⟨q,hq,.inl rfl⟩),S.bound _ (.inr ⟨q,hq,.inr rfl⟩)⟩
 exact{
  ok:=S.ok
  keep:=fun b o e=>k b o (S.keep b o e)
  pre:=x1_0 S.pre fun nu e=>⟨nu++[p],by rw[e,List.append_assoc]⟩
  ns:=x1_0 S.ns fun m hm=>⟨m,hm.keeps k⟩
  cells:=fun n c e=>x1_0 (S.cells n c e) fun v hv=>⟨v,hv.keeps k⟩
  prot:=fun p hp=>k _ _ (S.prot p hp)
  vals:=fun q hq=>by
   rcases List.mem_cons.mp hq with rfl|hq
   .show VRel _ _ _ _ (.ref _) _
    exact⟨p,by rw[S.len];simp,rfl⟩
   .exact(S.vals q hq).move mv hm
  vars:=fun i n pv e1 e2=>x1_1 (S.vars i n pv e1 e2) fun v h1 h2=>⟨v,h1.keep fun a o _ e=>k a o e,h2.move mv hm⟩
  len:=by simp[S.len]
  objs:=fun i o' q e1 e2=>by
   have hlt:i<(mu++[p]).length:=(List.getElem?_eq_some_iff.mp e2).1
   rw[List.length_append,List.length_singleton]at hlt
   by_cases hi:i<mu.length
   .rw[List.getElem?_append_left hi]at e2
    rw[List.getElem?_append_left (by rw[S.len];exact hi)]at e1
    exact(S.objs i o' q e1 e2).move mv hm (fun o e=>k _ o e) (fun o e=>k _ o e)
   .obtain rfl:i=mu.length:=by exact o1 hlt hi
    rw[List.getElem?_append_right (by exact Nat.le_refl _)]at e2
    rw[List.getElem?_append_right (by rw[S.len];exact Nat.le_refl _)]at e1
    simp[S.len]at e1 e2
    subst e1;subst e2
    exact x
  muoff:=fun q hq=>by
   rcases List.mem_append.mp hq with hq|hq
   .exact S.muoff q hq
   .rw[List.mem_singleton]at hq;subst hq
    exact⟨nfx _ h1,nfx _ h2,nb _ h1,nb _ h2⟩
  mu1:=fun i j q r e1 e2 e=>by
   have l1:i<(mu++[p]).length:=(List.getElem?_eq_some_iff.mp e1).1
   have l2:j<(mu++[p]).length:=(List.getElem?_eq_some_iff.mp e2).1
   rw[List.length_append,List.length_singleton]at l1 l2
   by_cases hi:i<mu.length
   .rw[List.getElem?_append_left hi]at e1
    by_cases hj:j<mu.length
    .rw[List.getElem?_append_left hj]at e2
     exact S.mu1 i j q r e1 e2 e
    .obtain rfl:j=mu.length:=by exact o1 l2 hj
     rw[List.getElem?_append_right (by exact Nat.le_refl _)]at e2
     simp at e2;subst e2
     have:=old q (List.mem_of_getElem? e1)
     exact o2 h1 h2 hi e this
   .obtain rfl:i=mu.length:=by exact o1 l1 hi
    rw[List.getElem?_append_right (by exact Nat.le_refl _)]at e1
    simp at e1;subst e1
    by_cases hj:j<mu.length
    .rw[List.getElem?_append_left hj]at e2
     have:=old r (List.mem_of_getElem? e2)
     exact o3 h1 h2 e hj this
    .exact o4 l2 hj
  has:=fun a q=>by
   rcases q with q|⟨q,hq,e⟩
   .obtain⟨o,e⟩:=S.has a (.inl q);exact⟨o,k a o e⟩
   .rcases List.mem_append.mp hq with hq|hq
    .obtain⟨o,e'⟩:=S.has a (.inr ⟨q,hq,e⟩);exact⟨o,k a o e'⟩
    .rw[List.mem_singleton]at hq;subst hq;rcases e with rfl|rfl
     .exact x.has.1
     .exact x.has.2}
theorem Sim.upd(S:Sim C F mu T st h){i:Nat}{p:Nat×Nat}{o:SObj}{a:Nat}(hp:mu[i]? =some p)(ha:a=p.1∨a=p.2)(hs:Heap.SameBut a h h')
  (x:Move (XS F.fx mu) (XS F.fx mu) h h'→ObjRel C (XS F.fx mu) h' mu p o):Sim C F mu T ⟨st.rho,st.sto.set i o⟩ h':=by
 have hpm:=List.mem_of_getElem? hp
 have hX:XS F.fx mu a:=.inr ⟨p,hpm,ha⟩
 have off:=S.muoff p hpm
 have nfx:¬F.fx a:=by rcases ha with rfl|rfl;exact off.1;exact off.2.1
 have nb:F.base.get? a=none:=by rcases ha with rfl|rfl;exact off.2.2.1;exact off.2.2.2
 have mv:Move (XS F.fx mu) (XS F.fx mu) h h':=⟨fun b o e q=>(hs.2 b fun z=>q (z▸hX)).trans e,fun _ _ q=>q⟩
 have kp:∀b o,b≠a→h.get? b=some o→h'.get? b=some o:=fun b o n e=>(hs.2 b n).trans e
 have nh:∀b,Holder F.env b→b≠a:=fun b hb z=>nfx (z▸holder_fx S hb)
 exact{
  ok:=S.ok
  keep:=fun b o e=>kp b o (fun z=>by rw[z,nb]at e;contradiction) (S.keep b o e)
  pre:=S.pre
  ns:=x1_0 S.ns fun m hm=>⟨m,hm.sameBut hs (nh _ (.inl rfl))⟩
  cells:=fun n c e=>x1_0 (S.cells n c e) fun v hv=>⟨v,hv.sameBut hs (nh _ (.inr ⟨n,e⟩))⟩
  prot:=fun q hq=>kp _ _ (fun z=>nfx (z▸(S.ok.protfx q hq).1)) (S.prot q hq)
  vals:=fun q hq=>(S.vals q hq).move mv fun _ _ e=>e
  vars:=fun i n pv e1 e2=>x1_1 (S.vars i n pv e1 e2) fun v h1 h2=>⟨v,h1.keep fun b o hb e=>kp b o (nh b hb) e,h2.move mv fun _ _ e=>e⟩
  len:=by simp[S.len]
  objs:=fun j o' q e1 e2=>by
   by_cases hij:i=j
   .subst hij
    rw[hp]at e2;obtain rfl:=Option.some.inj e2
    have:i<st.sto.length:=by rw[S.len];exact(List.getElem?_eq_some_iff.mp hp).1
    simp[List.getElem?_set,this]at e1
    subst e1
    exact x mv
   .simp[List.getElem?_set,hij]at e1
    have ne:∀b,(b=q.1∨b=q.2)→b≠a:=fun b hb z=>hij (S.mu1 i j p q hp e2 (by rcases hb with rfl|rfl<;>rcases ha with rfl|rfl<;>simp_all))
    exact(S.objs j o' q e1 e2).move mv (fun _ _ e=>e) (fun o e=>kp _ o (ne _ (.inl rfl)) e) (fun o e=>kp _ o (ne _ (.inr rfl)) e)
  muoff:=S.muoff
  mu1:=S.mu1
  has:=fun b q=>by
   by_cases hb:b=a
   .subst hb
    rcases ha with rfl|rfl
    .exact(x mv).has.1
    .exact(x mv).has.2
   .obtain⟨o,e⟩:=S.has b q;exact⟨o,kp b o hb e⟩}
theorem Sim.store(S:Sim C F mu T st h){i:Nat}{n:Str}{pv:PV}{v:Value}{a:Nat}(hi:F.slots[i]? =some n)(ha:Holder F.env a)(hab:F.base.get? a=none)(hs:Heap.SameBut a h h')
  (hv:VRel C (XS F.fx mu) h mu pv v) (hsl:SlotHas F.env h' n v) (hns:∃m,h'.Ns F.env.locals m) (hcl:∀n c,F.env.cells.lookup n=some c→∃v,h'.IsCell c v)
  (hoth:∀n' v',n'≠n→SlotHas F.env h n' v'→SlotHas F.env h' n' v'):Sim C F mu T ⟨st.rho.set i (some pv),st.sto⟩ h':=by
 have hfx:=holder_fx S ha
 have hX:XS F.fx mu a:=.inl hfx
 have mv:Move (XS F.fx mu) (XS F.fx mu) h h':=⟨fun b o e q=>(hs.2 b fun z=>q (z▸hX)).trans e,fun _ _ q=>q⟩
 have kp:∀b o,b≠a→h.get? b=some o→h'.get? b=some o:=fun b o n e=>(hs.2 b n).trans e
 exact{
  ok:=S.ok
  keep:=fun b o e=>kp b o (fun z=>by rw[z,hab]at e;contradiction) (S.keep b o e)
  pre:=S.pre
  ns:=hns
  cells:=hcl
  prot:=fun q hq=>kp _ _ (fun z=>(S.ok.protfx q hq).2.2.1 (z▸ha)) (S.prot q hq)
  vals:=fun q hq=>(S.vals q hq).move mv fun _ _ e=>e
  vars:=fun j n' pv' e1 e2=>by
   by_cases hij:i=j
   .subst hij
    rw[hi]at e1;obtain rfl:=Option.some.inj e1
    have hlt:i<st.rho.length:=by
     have:=(List.getElem?_eq_some_iff.mp e2).1
     simpa using this
    simp[List.getElem?_set,hlt]at e2
    subst e2
    exact⟨v,hsl,hv.move mv fun _ _ e=>e⟩
   .simp[List.getElem?_set,hij]at e2
    refine x1_1 (S.vars j n' pv' e1 e2) fun v' h1 h2=>?_
    refine⟨v',hoth n' v' (fun z=>hij ?_) h1,h2.move mv fun _ _ e=>e⟩
    subst z
    exact(List.getElem?_inj (List.getElem?_eq_some_iff.mp hi).1 S.ok.slots1).mp (hi.trans e1.symm)
  len:=S.len
  objs:=fun j o' q e1 e2=>by
   have off:=S.muoff q (List.mem_of_getElem? e2)
   exact(S.objs j o' q e1 e2).move mv (fun _ _ e=>e) (fun o e=>kp _ o (fun z=>off.1 (z▸hfx)) e) (fun o e=>kp _ o (fun z=>off.2.1 (z▸hfx)) e)
  muoff:=S.muoff
  mu1:=S.mu1
  has:=fun b q=>by
   by_cases hb:b=a
   .subst hb
    rcases ha with rfl|⟨n,hn⟩
    .refine x4_1 hns fun m o es ep ho _=>?_;exact⟨o,ho⟩
    .refine x2_1 (hcl n _ hn) fun v o ho _=>?_;exact⟨o,ho⟩
   .obtain⟨o,e⟩:=S.has b q;exact⟨o,kp b o hb e⟩}
end
end Mine.Internal
namespace Mine.Internal
open PySem PySem.W PyProof.Rows PySem.Calls
set_option genCtorIdx true in
inductive Bop where
 |add|sub|mul|fdiv|mod
set_option genCtorIdx true in
inductive Cop where
 |eq|ne|lt|le|gt|ge|is|isNot|isIn|notIn
set_option genCtorIdx true in
inductive Bi where
 |len|abs|int|list|all|repr|str
set_option genCtorIdx true in
inductive Meth where
 |append|extend|insert|pop
mutual
inductive PE where
 |lit (v:PV)
 |var (x:Nat)
 |bin (op:Bop) (a b:PE)
 |not (a:PE)
 |and (l:List PE)
 |or (l:List PE)
 |ife (t a b:PE)
 |chain (a:PE) (l:List (Cop×PE))
 |tup (l:List PE)
 |list (l:List PE)
 |dict0
 |dict1 (k v:PE)
 |call (f:Nat) (args:List PE)
 |callv (x:Nat) (args:List PE)
 |unit (args:List PE)
 |bi (b:Bi) (a:PE)
 |isinst (t:String) (a:PE)
 |meth (m:Meth) (o:PE) (args:List PE)
 |attr (o:PE) (k:Nat)
 |sub (o i:PE)
 |upto (o hi:PE)
 |from_ (o lo:PE)
 |comp (elt:PE) (src:PI) (ifs:List PE) (caps:List Nat)
inductive PI where
 |val (e:PE)
 |range1 (b:PE)
 |range2 (a b:PE)
 |enum (e:PE)
end
inductive PT where
 |var (x:Nat)
 |tup (l:List PT)
 |attr (o:PE) (k:Nat)
 |sub (o i:PE)
inductive PS where
 |assign (t:PT) (e:PE)
 |expr (e:PE)
 |ite (t:PE) (a b:List PS)
 |for_ (t:PT) (src:PI) (body:List PS)
 |while_ (t:PE) (body:List PS)
 |ret (e:PE)
 |brk
 |cont
 |raise
 |try_ (body:List PS)
structure Room(A:Around)(d:Nat):Prop where
 handled:A.handled=none
 guards:A.guards=some []
 depth:A.depth+4*d≤900
 units:A.units+20*d≤9000
noncomputable abbrev Sto:=List SObj
structure Same(s s':Shared):Prop where
 gens:s'.gens=s.gens
 drawn:s'.drawn=s.drawn
 os:s'.os=s.os
theorem Same.refl(s:Shared):Same s s:=⟨rfl,rfl,rfl⟩
theorem Same.trans{a b c:Shared}(x:Same a b)(y:Same b c):Same a c:=⟨y.gens.trans x.gens,y.drawn.trans x.drawn,y.os.trans x.os⟩
noncomputable def CallOK(C:Cx)(d:Nat)(f:Nat)(args:List PV)(sto:Sto)(Q:PV→Sto→Prop):Prop:=
 ∀(F:Frm)(A:Around)(s:Shared)(mu:List (Nat×Nat))(T:List (PV×Value))(rho:List (Option PV))(vals:List Value),Room A d→Sim C F mu T ⟨rho,sto⟩ s.heap→VRels C (XS F.fx mu) s.heap mu args vals→
  codeAny (model C.prog C.w) A (.call (.ref (C.fa f)) ⟨vals,[]⟩)
   (fun r s'=>∃v,r=.ok (.ret v)∧∃mu' pv sto',Same s s'∧Sim C F mu' ((pv,v)::T) ⟨rho,sto'⟩ s'.heap∧Q pv sto') s
theorem Room.mono{A:Around}{d e:Nat}(r:Room A d)(h:e≤d):Room A e:=⟨r.handled,r.guards,by have:=r.depth;exact o5 h this,by have:=r.units;exact o234 h this⟩
mutual
noncomputable def toD:PV→Option PyData
 | .none=>some .none
 | .bool b=>some (.bool b)
 | .int i=>some (.int i)
 | .str s=>some (.str s)
 | .tup l=>(toDs l).map .tuple
 | .list l=>(toDs l).map .list
 |_=>none
noncomputable def toDs:List PV→Option (List PyData)
 |[]=>some []
 |p::ps=>(toD p).bind fun d=>(toDs ps).map fun r=>d::r
end
noncomputable def ifP{α:Type}(b:Bool)(x y:α):α:=match b with
 |true=>x
 |false=>y
noncomputable def opP{α β:Type}(o:Option α)(y:β)(f:α→β):β:=match o with
 |some a=>f a
 |none=>y
theorem op_some{α β:Type}{o:Option α}{f:α→Option β}{b:β}(h:opP o none f=some b):∃a,o=some a∧f a=some b:=by
 cases o with
 |none=>contradiction
 |some a=>exact⟨a,rfl,h⟩
theorem if_some{β:Type}{z:Bool}{x:Option β}{b:β}(h:ifP z x none=some b):z=true∧x=some b:=by
 cases z with
 |false=>contradiction
 |true=>exact⟨rfl,h⟩
theorem op_cases{α β:Type}{o:Option α}{y:Option β}{f:α→Option β}{b:β}(h:opP o y f=some b):(o=none∧y=some b)∨∃a,o=some a∧f a=some b:=by
 cases o with
 |none=>exact .inl ⟨rfl,h⟩
 |some a=>exact .inr ⟨a,rfl,h⟩
theorem op_at{α β:Type}{o:Option α}{a:α}{y:β}{f:α→β}(h:o=some a):opP o y f=f a:=by rw[h];rfl
theorem if_t{α:Type}{p:Prop}[Decidable p]{x y:α}(h:p):ifP (decide p) x y=x:=by rw[decide_eq_true h];rfl
theorem op_true{α:Type}{o:Option α}{f:α→Bool}(h:opP o false f=true):∃a,o=some a∧f a=true:=by
 cases o with
 |none=>exact nF h
 |some a=>exact⟨a,rfl,h⟩
theorem ba{a b:Bool}(h:(a&&b)=true):a=true∧b=true:=(Bool.and_eq_true a b).mp h
noncomputable def asInt:PV→Option Int
 | .int i=>some i
 |_=>none
noncomputable def asBool:PV→Option Bool
 | .bool i=>some i
 |_=>none
noncomputable def asStr:PV→Option Str
 | .str i=>some i
 |_=>none
noncomputable def asTup:PV→Option (List PV)
 | .tup i=>some i
 |_=>none
theorem asInt_is{p:PV}{i:Int}(h:asInt p=some i):p=.int i:=by
 cases p with
 |int j=>obtain rfl:=Option.some.inj h;rfl
 |_=>contradiction
theorem asBool_is{p:PV}{i:Bool}(h:asBool p=some i):p=.bool i:=by
 cases p with
 |bool j=>obtain rfl:=Option.some.inj h;rfl
 |_=>contradiction
theorem asStr_is{p:PV}{i:Str}(h:asStr p=some i):p=.str i:=by
 cases p with
 |str j=>obtain rfl:=Option.some.inj h;rfl
 |_=>contradiction
theorem asTup_is{p:PV}{i:List PV}(h:asTup p=some i):p=.tup i:=by
 cases p with
 |tup j=>obtain rfl:=Option.some.inj h;rfl
 |_=>contradiction
noncomputable def oList:SObj→Option (List PV)
 | .list i=>some i
 |_=>none
noncomputable def oInst:SObj→Option (List PV)
 | .inst i=>some i
 |_=>none
theorem oList_is{p:SObj}{i:List PV}(h:oList p=some i):p=.list i:=by
 cases p with
 |list j=>obtain rfl:=Option.some.inj h;rfl
 |_=>exact nN h
theorem oInst_is{p:SObj}{i:List PV}(h:oInst p=some i):p=.inst i:=by
 cases p with
 |inst j=>obtain rfl:=Option.some.inj h;rfl
 |_=>exact nN h
noncomputable def asKey(p:PV):Option (Str×Int):=opP (asTup p) none fun l=>opP l.head? none fun a=>opP (asStr a) none fun s=>opP l.tail.head? none fun b=>opP (asInt b) none fun k=>ifP l.tail.tail.isEmpty (some (s,k)) none
theorem asKey_is{p:PV}{q:Str×Int}(h:asKey p=some q):p=.tup [.str q.1,.int q.2]:=by
 refine x1_1 (op_some h) fun l h1 h=>?_
 refine x1_1 (op_some h) fun a h2 h=>?_
 refine x1_1 (op_some h) fun s h3 h=>?_
 refine x1_1 (op_some h) fun b h4 h=>?_
 refine x1_1 (op_some h) fun k h5 h=>?_
 obtain⟨h6,h⟩:=if_some h
 obtain rfl:=Option.some.inj h
 rw[asTup_is h1,show PV.str s=a from(asStr_is h3).symm,show PV.int k=b from(asInt_is h5).symm]
 cases l with
 |nil=>exact nN h2
 |cons x l=>cases l with
  |nil=>exact nN h4
  |cons y l=>cases l with
   |nil=>rw[Option.some.inj h2,Option.some.inj h4]
   |cons z l=>exact nF h6
noncomputable def lstOf(sto:Sto):PV→Option (List PV)
 | .list l=>some l
 | .ref i=>opP sto[i]? none oList
 |_=>none
noncomputable def dataOf(sto:Sto):PV→Option PyData
 | .ref i=>opP (opP sto[i]? none oList) none fun l=>(toDs l).map .list
 |p=>toD p
noncomputable def intsOf:List PV→Option (List Int)
 |[]=>some []
 |p::r=>opP (asInt p) none fun i=>(intsOf r).map fun l=>i::l
noncomputable def boolsOf:List PV→Option (List Bool)
 |[]=>some []
 |p::r=>opP (asBool p) none fun i=>(boolsOf r).map fun l=>i::l
noncomputable def lenV(sto:Sto):PV→Option Nat
 | .tup l=>some l.length
 |p=>(lstOf sto p).map List.length
noncomputable def small(i:Int):Bool:=decide (-9223372036854775808<i)&&decide (i<9223372036854775808)
noncomputable def int2{β:Type}(a b:PV)(f:Int→Int→Option β):Option β:=opP (asInt a) none fun i=>opP (asInt b) none fun j=>f i j
theorem int2_is{β:Type}{a b:PV}{f:Int→Int→Option β}{v:β}(h:int2 a b f=some v):∃i j,a=.int i∧b=.int j∧f i j=some v:=by
 refine x1_1 (op_some h) fun i h1 h=>?_
 refine x1_1 (op_some h) fun j h2 h=>?_
 exact⟨i,j,asInt_is h1,asInt_is h2,h⟩
noncomputable def binV(op:Bop)(a b:PV):Option PV:=match op with
 | .add=>opP (asTup a) (opP (asStr a) (int2 a b fun i j=>some (.int (i+j))) fun s=>opP (asStr b) none fun t=>if s.length+t.length≤lineN then some (.str (s++t))else none)
   fun l=>opP (asTup b) none fun r=>if l.length+r.length≤lineN then some (.tup (l++r))else none
 | .sub=>int2 a b fun i j=>some (.int (i-j))
 | .mul=>opP (asTup a) (int2 a b fun i j=>if small i&&small j then some (.int (i*j))else none) fun l=>opP (asInt b) none fun k=>if k=0 then some (.tup [])else if k=1 then some (.tup l)else none
 | .fdiv=>int2 a b fun i j=>if j==16 then some (.int (i.fdiv j))else none
 | .mod=>int2 a b fun i j=>if j != 0 then some (.int (i.fmod j))else none
noncomputable def deepEq(sto:Sto)(a b:PV):Option Bool:=
 (dataOf sto a).bind fun da=>(dataOf sto b).bind fun db=>if SeqAt.shaped da&&SeqAt.shaped db then some (PyData.eqv da db)else none
noncomputable def eqV(sto:Sto)(a b:PV):Option Bool:=opP (asInt a) (opP (asBool a) (opP (asStr a) (deepEq sto a b)
  fun x=>opP (asStr b) (deepEq sto a b) fun y=>some (x==y)) fun x=>opP (asBool b) (deepEq sto a b) fun y=>some (x==y)) fun x=>opP (asInt b) (deepEq sto a b) fun y=>some (x==y)
noncomputable def isNone:PV→Bool
 | .none=>true
 |_=>false
noncomputable def memL(l:List PV)(k:Int):Option Bool:=(intsOf l).map fun ns=>ns.contains k
noncomputable def inO(k:Int):SObj→Option Bool
 | .list l=>memL l k
 | .dict m=>some ((m.map Prod.fst).contains k)
 |_=>none
noncomputable def inP(sto:Sto)(k:Int):PV→Option Bool
 | .dict ks l=>ifP (decide (ks.length≤l.length)) (some (ks.contains k)) none
 | .tup l=>memL l k
 | .list l=>memL l k
 | .ref i=>opP sto[i]? none (inO k)
 |_=>none
noncomputable def inV(sto:Sto)(a b:PV):Option Bool:=opP (asInt a) none fun k=>inP sto k b
noncomputable def cmpV(sto:Sto)(op:Cop)(a b:PV):Option Bool:=match op with
 | .eq=>eqV sto a b
 | .ne=>(eqV sto a b).map (! ·)
 | .lt=>int2 a b fun i j=>some (decide (i<j))
 | .le=>int2 a b fun i j=>some (decide (i≤j))
 | .gt=>int2 a b fun i j=>some (decide (j<i))
 | .ge=>int2 a b fun i j=>some (decide (j≤i))
 | .is=>ifP (isNone b) (some (isNone a)) none
 | .isNot=>ifP (isNone b) (some (!isNone a)) none
 | .isIn=>inV sto a b
 | .notIn=>(inV sto a b).map (! ·)
noncomputable def lookI(ks:List Int)(l:List PV)(k:Int):Option PV:=(ks.zip l).lookup k
noncomputable def lookT(m:List ((Str×Int)×PV))(k:Str×Int):Option PV:=(m.find? fun x=>x.1==k).map Prod.snd
noncomputable def subL(l:List PV)(i:PV):Option PV:=opP (asInt i) none fun k=>ifP (decide (0≤k)) l[k.toNat]? none
noncomputable def subD(ks:List Int)(l:List PV)(i:PV):Option PV:=opP (asInt i) none fun k=>lookI ks l k
noncomputable def subO(i:PV):SObj→Option PV
 | .list l=>subL l i
 | .dict m=>subD (m.map Prod.fst) (m.map Prod.snd) i
 | .tdict m=>opP (asKey i) none fun q=>lookT m q
 | .inst _=>none
noncomputable def subV(sto:Sto)(o i:PV):Option PV:=match o with
 | .tup l=>subL l i
 | .list l=>subL l i
 | .dict ks l=>subD ks l i
 | .ref j=>opP sto[j]? none (subO i)
 |_=>none
noncomputable def attrV(sto:Sto)(o:PV)(k:Nat):Option PV:=match o with
 | .inst l=>l[k]?
 | .ref i=>opP (opP sto[i]? none oInst) none fun l=>l[k]?
 |_=>none
noncomputable def putV(o:SObj)(k v:PV):Option SObj:=match o with
 | .list l=>opP (asInt k) none fun k=>ifP (decide (0≤k∧k.toNat<l.length)) (some (.list (l.set k.toNat v))) none
 | .dict m=>opP (asInt k) none fun k=>ifP (decide (m.length<lineN∧(m.map Prod.fst).contains k=false)) (some (.dict (m++[(k,v)]))) none
 | .tdict m=>opP (asKey k) none fun q=>ifP (decide (m.length<lineN∧lookT m q=none)) (some (.tdict (m++[(q,v)]))) none
 | .inst _=>none
noncomputable def putA(o:SObj)(k:Nat)(v:PV):Option SObj:=match o with
 | .inst l=>if k<l.length then some (.inst (l.set k v))else if k=l.length∧k<100 then some (.inst (l++[v]))else none
 |_=>none
noncomputable def isinstV(t:String):PV→Option Bool
 | .int _=>if t="int" then some true else if t="bool"∨t="str"∨t="tuple" then some false else none
 | .str _=>if t="str" then some true else if t="bool"∨t="int"∨t="tuple" then some false else none
 | .tup _=>if t="tuple" then some true else if t="bool"∨t="int"∨t="str" then some false else none
 | .none=>if t="bool"∨t="int"∨t="str"∨t="tuple" then some false else none
 |_=>none
noncomputable def okIdx(k:Int):Prop:=0≤k∧k<4611686018427387904
set_option genCtorIdx true in
inductive Out where
 |next|brk|cont
 |ret (v:PV)
noncomputable def opt{α:Type}(x:Option α)(Q:α→Prop):Prop:=∃a,x=some a∧Q a
noncomputable def fresh(l:List PV)(Q:PV→St→Prop)(st:St):Prop:=Q (.list l) st∨Q (.ref st.sto.length) ⟨st.rho,st.sto++[.list l]⟩
inductive Src where
 |frozen (l:List PV)
 |live (i:Nat) (l:List PV)
noncomputable def Src.items:Src→List PV
 | .frozen l=>l
 | .live _ l=>l
noncomputable def Src.ok:Src→Sto→Prop
 | .frozen _,_=>True
 | .live i l,sto=>sto[i]? =some (.list l)
noncomputable def rngI(a b:Int):List PV:=(List.range (b-a).toNat).map fun(k:Nat)=>PV.int (a+k)
noncomputable def enumd(l:List PV):List PV:=(List.range l.length).zipWith (fun(k:Nat) x=>PV.tup [.int k,x]) l
noncomputable def putSto(st:St)(i:Nat)(o:SObj):St:=⟨st.rho,st.sto.set i o⟩
noncomputable def liveList(sto:Sto)(p:PV):Prop:=∃i l,p=.ref i∧sto[i]? =some (.list l)
noncomputable def methL(m:Meth)(i:Nat)(l:List PV)(args:List PV)(Q:PV→St→Prop)(st:St):Prop:=match m with
 | .append=>∃v,args=[v]∧l.length<lineN∧Q .none (putSto st i (.list (l++[v])))
 | .extend=>∃v r,args=[v]∧lstOf st.sto v=some r∧(∀j,v=.ref j→j≠i)∧l.length+r.length≤lineN∧Q .none (putSto st i (.list (l++r)))
 | .insert=>∃v,args=[.int 0,v]∧l.length<lineN∧Q .none (putSto st i (.list (v::l)))
 | .pop=>(∃v,args=[]∧l.getLast?=some v∧Q v (putSto st i (.list l.dropLast)))∨∃v,args=[.int 0]∧l.head?=some v∧Q v (putSto st i (.list l.tail))
noncomputable def methW(m:Meth)(o:PV)(args:List PV)(Q:PV→St→Prop)(st:St):Prop:=∃i l,o=.ref i∧st.sto[i]? =some (.list l)∧methL m i l args Q st
noncomputable def biW(b:Bi)(a:PV)(Q:PV→St→Prop)(st:St):Prop:=
 match b with
 | .len=>opt (lenV st.sto a) fun n=>Q (.int n) st
 | .abs=>∃i,a=.int i∧Q (.int (if i<0 then-i else i)) st
 | .int=>∃i,a=.int i∧Q (.int i) st
 | .list=>opt (lstOf st.sto a) fun l=>fresh l Q st
 | .all=>∃l bs,a=.list l∧boolsOf l=some bs∧Q (.bool (bs.all id)) st
 | .repr=>opt (dataOf st.sto a) fun d=>d.showable=true∧d.depth≤64∧d.shown.length≤lineN∧d.hasDict=false∧isDisplay d=true∧Q (.str d.shown) st
 | .str=>opt (dataOf st.sto a) fun d=>d.showable=true∧d.depth≤64∧d.shown.length≤lineN∧d.hasDict=false∧isDisplay d=true∧Q (.str d.shown) st
noncomputable def boolQ(Q:Bool→St→Prop)(v:PV)(st:St):Prop:=match v with
 | .bool b=>Q b st
 |_=>False
theorem boolQ_is{Q:Bool→St→Prop}{v:PV}{st:St}(h:boolQ Q v st):∃b,v=.bool b∧Q b st:=by
 cases v with
 |bool b=>exact⟨b,rfl,h⟩
 |_=>exact h.elim
mutual
noncomputable def wpE(C:Cx)(d:Nat):PE→(PV→St→Prop)→St→Prop
 | .lit v,Q,st=>Q v st
 | .var x,Q,st=>opt (st.rho[x]?).join fun v=>Q v st
 | .bin op a b,Q,st=>wpE C d a (fun x st=>wpE C d b (fun y st=>
   (opt (binV op x y) fun v=>Q v st)∨(op=.add∧opt (lstOf st.sto x) fun l=>opt (lstOf st.sto y) fun r=>l.length+r.length≤lineN∧fresh (l++r) Q st)) st) st
 | .not a,Q,st=>wpE C d a (boolQ fun b st=>Q (.bool !b) st) st
 | .and l,Q,st=>wpAll C d true l (fun b st=>Q (.bool b) st) st
 | .or l,Q,st=>wpAll C d false l (fun b st=>Q (.bool b) st) st
 | .ife t a b,Q,st=>wpE C d t (boolQ fun z st=>(z=true→wpE C d a Q st)∧(z=false→wpE C d b Q st)) st
 | .chain a l,Q,st=>wpE C d a (fun x st=>wpC C d x l (fun b st=>Q (.bool b) st) st) st
 | .tup l,Q,st=>wpEs C d l (fun vs st=>Q (.tup vs) st) st
 | .list l,Q,st=>wpEs C d l (fun vs st=>fresh vs Q st) st
 | .dict0,Q,st=>Q (.ref st.sto.length) ⟨st.rho,st.sto++[.dict []]⟩∨Q (.ref st.sto.length) ⟨st.rho,st.sto++[.tdict []]⟩
 | .dict1 k v,Q,st=>wpE C d k (fun k st=>wpE C d v (fun v st=>∃i,k=.int i∧Q (.ref st.sto.length) ⟨st.rho,st.sto++[.dict [(i,v)]]⟩) st) st
 | .call f args,Q,st=>wpEs C d args (fun vs st=>CallOK C d f vs st.sto fun v sto=>Q v ⟨st.rho,sto⟩) st
 | .callv x args,Q,st=>opt (st.rho[x]?).join fun g=>∃f,g=.fn f∧wpEs C d args (fun vs st=>CallOK C d f vs st.sto fun v sto=>Q v ⟨st.rho,sto⟩) st
 | .unit args,Q,st=>3≤d∧wpEs C d args (fun vs st=>CallOK C 2 0 (.ref st.sto.length::vs) (st.sto++[.inst []]) fun v sto=>isNone v=true∧Q (.ref st.sto.length) ⟨st.rho,sto⟩) st
 | .bi b a,Q,st=>wpE C d a (fun v st=>biW b v Q st) st
 | .isinst t a,Q,st=>wpE C d a (fun v st=>opt (isinstV t v) fun b=>Q (.bool b) st) st
 | .meth m o args,Q,st=>wpE C d o (fun o st=>liveList st.sto o∧wpEs C d args (fun vs st=>methW m o vs Q st) st) st
 | .attr o k,Q,st=>wpE C d o (fun o st=>opt (attrV st.sto o k) fun v=>Q v st) st
 | .sub o i,Q,st=>wpE C d o (fun o st=>wpE C d i (fun i st=>opt (subV st.sto o i) fun v=>Q v st) st) st
 | .upto o hi,Q,st=>wpE C d o (fun o st=>wpE C d hi (fun hi st=>∃k,hi=.int k∧okIdx k∧((∃l,o=.tup l∧k.toNat≤l.length∧Q (.tup (l.take k.toNat)) st)∨∃l,lstOf st.sto o=some l∧fresh (l.take k.toNat) Q st)) st) st
 | .from_ o lo,Q,st=>wpE C d o (fun o st=>wpE C d lo (fun lo st=>∃k,lo=.int k∧okIdx k∧((∃l,o=.tup l∧k.toNat≤l.length∧Q (.tup (l.drop k.toNat)) st)∨∃l,lstOf st.sto o=some l∧fresh (l.drop k.toNat) Q st)) st) st
 | .comp elt src ifs caps,Q,st=>wpI C d src (fun src st=>∃I:Nat→List PV→Sto→Prop,I 0 [] st.sto∧
   (∀k x acc sto,src.items[k]? =some x→I k acc sto→src.ok sto∧
    wpAll C d true ifs (fun b st1=>st1.rho=some x::caps.map (fun c=>(st.rho[c]?).join)∧(b=true→wpE C d elt (fun v st2=>st2.rho=some x::caps.map (fun c=>(st.rho[c]?).join)∧acc.length<lineN∧I (k+1) (acc++[v]) st2.sto) st1)∧(b=false→I (k+1) acc st1.sto)) ⟨some x::caps.map fun c=>(st.rho[c]?).join,sto⟩)∧
   (∀acc sto,I src.items.length acc sto→src.ok sto∧fresh acc Q ⟨st.rho,sto⟩)) st
noncomputable def wpEs(C:Cx)(d:Nat):List PE→(List PV→St→Prop)→St→Prop
 |[],Q,st=>Q [] st
 |e::r,Q,st=>wpE C d e (fun v st=>wpEs C d r (fun vs st=>Q (v::vs) st) st) st
noncomputable def wpAll(C:Cx)(d:Nat)(all:Bool):List PE→(Bool→St→Prop)→St→Prop
 |[],Q,st=>Q all st
 |e::r,Q,st=>wpE C d e (boolQ fun b st=>(b=all→wpAll C d all r Q st)∧(b=(!all)→Q (!all) st)) st
noncomputable def wpC(C:Cx)(d:Nat)(x:PV):List (Cop×PE)→(Bool→St→Prop)→St→Prop
 |[],Q,st=>Q true st
 |(op,e)::r,Q,st=>wpE C d e (fun y st=>opt (cmpV st.sto op x y) fun b=>(b=true→wpC C d y r Q st)∧(b=false→Q false st)) st
noncomputable def wpI(C:Cx)(d:Nat):PI→(Src→St→Prop)→St→Prop
 | .val e,Q,st=>wpE C d e (fun v st=>(∃l,(v=.list l∨v=.tup l)∧Q (.frozen l) st)∨∃i l,v=.ref i∧lstOf st.sto (.ref i)=some l∧Q (.live i l) st) st
 | .range1 b,Q,st=>wpE C d b (fun b st=>∃i,b=.int i∧0≤i∧i≤lineN∧Q (.frozen (rngI 0 i)) st) st
 | .range2 a b,Q,st=>wpE C d a (fun a st=>wpE C d b (fun b st=>∃i j,a=.int i∧b=.int j∧0≤i∧i≤lineN∧0≤j∧j≤lineN∧Q (.frozen (rngI i j)) st) st) st
 | .enum e,Q,st=>wpE C d e (fun v st=>∃l,v=.list l∧Q (.frozen (enumd l)) st) st
end
noncomputable def wpT(C:Cx)(d:Nat)(e:PE)(Q:Bool→St→Prop)(st:St):Prop:=wpE C d e (boolQ Q) st
end Mine.Internal
namespace Mine.Internal
open PySem PySem.W PyProof.Rows PySem.Calls
noncomputable def LiftV(C:Cx)(F:Frm)(T:List (PV×Value))(Q:PV→St→Prop)(s:Shared)(v:Value)(s':Shared):Prop:=
 ∃mu' pv st',Same s s'∧Sim C F mu' ((pv,v)::T) st' s'.heap∧Q pv st'
noncomputable def LiftX{α:Type}(C:Cx)(F:Frm)(T:List (PV×Value))(Q:α→St→Prop)(s:Shared)(b:α)(s':Shared):Prop:=
 ∃mu' st',Same s s'∧Sim C F mu' T st' s'.heap∧Q b st'
noncomputable abbrev noE:Value→Shared→Prop:=fun _ _=>False
section
variable {C:Cx} {F:Frm} {A:Around} {mu:List (Nat×Nat)} {T:List (PV×Value)} {st:St} {s:Shared} {Q:PV→St→Prop}
noncomputable abbrev vr(C:Cx)(F:Frm)(mu:List (Nat×Nat))(h:Heap)(p:PV)(v:Value):Prop:=VRel C (XS F.fx mu) h mu p v
theorem vr_int{h:Heap}{i:Int}{t:Tok}:vr C F mu h (.int i) (.int i t):=by exact⟨t,rfl⟩
theorem vr_str{h:Heap}{i:Str}{t:Tok}:vr C F mu h (.str i) (.str i t):=by exact⟨t,rfl⟩
theorem vr_bool{h:Heap}{b:Bool}:vr C F mu h (.bool b) (.bool b):=by rfl
theorem vr_none{h:Heap}:vr C F mu h .none .none:=by rfl
theorem vr_int'{h:Heap}{i:Int}{v:Value}(x:vr C F mu h (.int i) v):∃t,v=.int i t:=by exact x
theorem vr_str'{h:Heap}{i:Str}{v:Value}(x:vr C F mu h (.str i) v):∃t,v=.str i t:=by exact x
theorem vr_bool'{h:Heap}{b:Bool}{v:Value}(x:vr C F mu h (.bool b) v):v=.bool b:=by exact x
theorem vr_none'{h:Heap}{v:Value}(x:vr C F mu h .none v):v=.none:=by exact x
theorem lift_here{pv:PV}{v:Value}{tk:Nat}(S:Sim C F mu T st s.heap)(x:vr C F mu s.heap pv v)(q:Q pv st):LiftV C F T Q s v {s with toks:=tk}:=
 ⟨mu,pv,st,⟨rfl,rfl,rfl⟩,S.add x,q⟩
theorem lift_same{s₀:Shared}{v:Value}{s':Shared}(e:Same s₀ s)(x:LiftV C F T Q s v s'):LiftV C F T Q s₀ v s':=
 let⟨mu',pv,st',e',r⟩:=x;⟨mu',pv,st',e.trans e',r⟩
theorem liftX_same{α:Type}{Q:α→St→Prop}{s₀:Shared}{v:α}{s':Shared}(e:Same s₀ s)(x:LiftX C F T Q s v s'):LiftX C F T Q s₀ v s':=
 x2_1 x fun mu' st' e' r=>⟨mu',st',e.trans e',r⟩
theorem lift_sub{T':List (PV×Value)}{v:Value}{s':Shared}(hs:∀p∈T',p∈T)(x:LiftV C F T Q s v s'):LiftV C F T' Q s v s':=
 let⟨mu',pv,st',e',S,q⟩:=x
 ⟨mu',pv,st',e',S.sub fun p hp=>by
  rcases List.mem_cons.mp hp with rfl|hp
  .exact .head _
  .exact .tail _ (hs p hp),q⟩
theorem small_bits{a:Int}(h:small a=true):Builtin.Int.intBits a≤64:=by
 unfold small at h
 simp only[Bool.and_eq_true,decide_eq_true_eq]at h
 exact PySem.intBits_le_64 (by omega) (by omega)
noncomputable def Bop.toOp:Bop→Operator
 | .add=>.Add| .sub=>.Sub| .mul=>.Mult| .fdiv=>.FloorDiv| .mod=>.Mod
theorem lineN_is:lineN=sizeLine:=by rw[sizeLine_eq];rfl
theorem lst_of(S:Sim C F mu T st s.heap){p:PV}{v:Value}{l:List PV}(e:lstOf st.sto p=some l)(x:vr C F mu s.heap p v):
  ∃a vs n,v=.ref a∧s.heap.get? a=some {cls:=.type "list",data:=.seq vs.toArray n}∧vs.length≤lineN∧VRels C (XS F.fx mu) s.heap mu l vs:=by
 cases p with
 |list l=>
  obtain rfl:=Option.some.inj e
  exact x3_4 x fun a vs n h1 _ h3 h4 h5=>⟨a,vs,n,h1,h3,h4,h5⟩
 |ref i=>
  refine x1_1 (op_some e) fun o hi e=>?_
  obtain rfl:=oList_is e
  exact x1_1 x fun p h1 h2=>x0_1 (S.objs i _ p hi h1) fun _ zR=>x2_2 zR fun vs n h3 h4 h5=>⟨p.1,vs,n,h2,h3,h4,h5⟩
 |_=>exact nN e
theorem fresh_sim(S:Sim C F mu T st s.heap){l:List PV}{vs:List Value}{h':Heap}{a n:Nat}{tk:Nat}(x:VRels C (XS F.fx mu) s.heap mu l vs)(hl:l.length≤lineN)
  (k:∀b o,s.heap.get? b=some o→h'.get? b=some o) (sz:s.heap.objs.size≤h'.objs.size) (ha:s.heap.objs.size≤a) (hg:h'.get? a=some {cls:=.type "list",data:=.seq vs.toArray n})
  (q:fresh l Q st):LiftV C F T Q s (.ref a) {s with heap:=h',toks:=tk}:=by
 rcases q with q|q
 .exact⟨mu,_,st,⟨rfl,rfl,rfl⟩,S.newListF x hl k sz ha hg,q⟩
 .have hlt:a<h'.objs.size:=Heap.lt_size hg
  refine⟨mu++[(a,a)],_,_,⟨rfl,rfl,rfl⟩,S.newLive (p:=(a,a)) k ha ha hlt hlt ?_,q⟩
  refine⟨rfl,vs,n,hg,by rw[x.length];exact hl,x.move ⟨fun b o e _=>k b o e,fun b ⟨_,hb⟩ q=>?_⟩ fun i q e=>by
   rw[List.getElem?_append_left (List.getElem?_eq_some_iff.mp e).1];exact e⟩
  have hb:b<s.heap.objs.size:=Heap.lt_size hb
  rcases q with q|⟨q,hq,e⟩
  .exact .inl q
  .rcases List.mem_append.mp hq with hq|hq
   .exact .inr ⟨q,hq,e⟩
   .rw[List.mem_singleton]at hq;subst hq
    rcases e with rfl|rfl<;>exact absurd hb (Nat.not_lt.mpr ha)
theorem add_lists0{l b:Addr}{vs ws:List Value}{R:Value→Shared→Prop}(hl:s.heap.IsList l vs.toArray)(hb:s.heap.IsList b ws.toArray)(hsz:vs.length+ws.length≤sizeLine)
  (h:R (.ref s.heap.objs.size) {s with heap:=s.heap.push {cls:=.type "list",data:=.seq (vs++ws).toArray}}):wpAny (model C.prog C.w) A (binaryOp .Add (.ref l) (.ref b)) R noE s:=by
 obtain⟨⟨cls,dd,data,sl⟩,ho,hc,n,hd⟩:=id hl
 obtain⟨⟨cls2,dd2,data2,sl2⟩,ho2,hc2,n2,hd2⟩:=id hb
 simp only at hc hd hc2 hd2
 subst hc hd hc2 hd2
 refine concat_meets ⟨_,ho,rfl⟩ ⟨_,ho2,rfl⟩ noFill_list_add seq_list_add PySem.F.slot_list_add PySem.F.entry_list_add (PySem.F.args_list_add_2 _ _)
  (list_addW l b vs.toArray ws.toArray n n2 dd dd2 sl sl2 (by rw[List.size_toArray,List.size_toArray];exact hsz)) ⟨ho,ho2,?_⟩
 have e:vs.toArray++ws.toArray=(vs++ws).toArray:=List.append_toArray _ _
 rw[e];exact h
theorem add_tups0{l b:Addr}{vs ws:List Value}{R:Value→Shared→Prop}(hl:IsTup s.heap l vs.toArray)(hb:IsTup s.heap b ws.toArray)(hsz:vs.length+ws.length≤sizeLine)
  (h0:vs=[]→R (.ref b) s) (h1:ws=[]→R (.ref l) s)
  (h:R (.ref s.heap.objs.size) {s with heap:=s.heap.push {cls:=.type "tuple",data:=.seq (vs++ws).toArray}}):wpAny (model C.prog C.w) A (binaryOp .Add (.ref l) (.ref b)) R noE s:=by
 obtain⟨⟨cls,dd,data,sl⟩,ho,hc,n,hd⟩:=id hl
 obtain⟨⟨cls2,dd2,data2,sl2⟩,ho2,hc2,n2,hd2⟩:=id hb
 simp only at hc hd hc2 hd2
 subst hc hd hc2 hd2
 by_cases hv:vs=[]
 .exact concat_meets ⟨_,ho,rfl⟩ ⟨_,ho2,rfl⟩ noFill_tuple_add seq_tuple_add PySem.F.slot_tuple_add PySem.F.entry_tuple_add (PySem.F.args_tuple_add_2 _ _)
   (tuple_addW0 l b vs.toArray ws.toArray n n2 dd dd2 sl sl2 (hv▸rfl)) ⟨ho,ho2,h0 hv⟩
 by_cases hw:ws=[]
 .exact concat_meets ⟨_,ho,rfl⟩ ⟨_,ho2,rfl⟩ noFill_tuple_add seq_tuple_add PySem.F.slot_tuple_add PySem.F.entry_tuple_add (PySem.F.args_tuple_add_2 _ _)
   (tuple_addW1 l b vs.toArray ws.toArray n n2 dd dd2 sl sl2 (by simp[hv]) (hw▸rfl)) ⟨ho,ho2,h1 hw⟩
 refine concat_meets ⟨_,ho,rfl⟩ ⟨_,ho2,rfl⟩ noFill_tuple_add seq_tuple_add PySem.F.slot_tuple_add PySem.F.entry_tuple_add (PySem.F.args_tuple_add_2 _ _)
  (tuple_addW2 l b vs.toArray ws.toArray n n2 dd dd2 sl sl2 (by simp[hv]) (by simp[hw]) (by rw[List.size_toArray,List.size_toArray];exact hsz)) ⟨ho,ho2,?_⟩
 have e:vs.toArray++ws.toArray=(vs++ws).toArray:=List.append_toArray _ _
 rw[e];exact h
theorem noFill_tuple_mul:fillsNumberSlot (.type "tuple") "mul"=pure false:=
 PySem.fillsNumberSlot_seq (id:="tuple.__mul__") (r:=some (.builtin "tuple.__rmul__")) PySem.F.slot_tuple_mul.lookup (by decide+kernel) PySem.F.slot_tuple_rmul.lookup (by decide+kernel)
theorem repeat_tuple:seqRepeat? (.type "tuple")=pure (some (.builtin "tuple.__mul__")):=by
 unfold seqRepeat?
 rw[PySem.seqSlot_of (T:="tuple") (name:="__mul__") (id:="tuple.__mul__") PySem.F.slot_tuple_mul.lookup (by decide+kernel),PySem.seqSlot_of (T:="tuple") (name:="__rmul__") (id:="tuple.__rmul__") PySem.F.slot_tuple_rmul.lookup (by decide+kernel)]
 rfl
theorem rmul_int_tuple(a:Int)(t:Tok)(l:Addr)(items:Array Value)(n:Nat)(dd:Option Addr)(sl:Array (Option Value)):
  Meets (Builtin.«int.__rmul__» ⟨[.int a t,.ref l],[]⟩) (fun _ R s=>s.heap.get? l=some {cls:=.type "tuple",dict:=dd,data:=.seq items n,slots:=sl}∧R (.ok (.ret Value.notImplemented)) s):=
 .of_wp fun prog w A R s h=>by obtain⟨hp,g,d,tk,os⟩:=s;obtain⟨hl,h⟩:=h;wp_walk;exact⟨_,rfl,h⟩
theorem mul_tuple_0(l:Addr)(items:Array Value)(n:Nat)(u:Tok)(dd:Option Addr)(sl:Array (Option Value))(hi:¬items.isEmpty=true):
  Meets (Builtin.«tuple.__mul__» ⟨[.ref l,.int 0 u],[]⟩) (fun _ R s=>s.heap.get? l=some {cls:=.type "tuple",dict:=dd,data:=.seq items n,slots:=sl}∧R (.ok (.ret (.ref s.heap.objs.size))) {s with heap:=s.heap.push {cls:=.type "tuple",data:=.seq #[]}}):=
 .of_wp fun prog w A R s h=>by
  have hi':(items.isEmpty||((0:Int)==1))=false:=by simpa using hi
  obtain⟨hp,g,d,tk,os⟩:=s;obtain⟨hl,h⟩:=h;wp_walk;exact⟨_,rfl,h⟩
theorem mul_tuple_e(l:Addr)(items:Array Value)(n:Nat)(k:Int)(u:Tok)(dd:Option Addr)(sl:Array (Option Value))(hk:k=0∨k=1)(hi:(items.isEmpty||k==1)=true):
  Meets (Builtin.«tuple.__mul__» ⟨[.ref l,.int k u],[]⟩) (fun _ R s=>s.heap.get? l=some {cls:=.type "tuple",dict:=dd,data:=.seq items n,slots:=sl}∧R (.ok (.ret (.ref l))) s):=
 .of_wp fun prog w A R s h=>by obtain⟨hp,g,d,tk,os⟩:=s;obtain⟨hl,h⟩:=h;rcases hk with rfl|rfl<;>(wp_walk;first|exact⟨_,rfl,h⟩|(refine wpAny_ite_true (decide_eq_true hi) ?_;wp_walk;exact⟨_,rfl,h⟩))
theorem mul_tups0{l:Addr}{vs:List Value}{k:Int}{u:Tok}{R:Value→Shared→Prop}(hl:IsTup s.heap l vs.toArray)(hk:k=0∨k=1)
  (h1:vs=[]∨k=1→R (.ref l) s) (h0:k=0→R (.ref s.heap.objs.size) {s with heap:=s.heap.push {cls:=.type "tuple",data:=.seq #[]}}):wpAny (model C.prog C.w) A (binaryOp .Mult (.ref l) (.int k u)) R noE s:=by
 obtain⟨⟨cls,dd,data,sl⟩,ho,hc,n,hd⟩:=id hl
 simp only at hc hd
 subst hc hd
 refine wpAny_binaryOp_repeat_ref (T:="tuple") (U:="int") (by decide) ⟨_,ho,rfl⟩ (fun s'=>typeIs_int s' k u) noFill_tuple_mul PySem.F.fills_int_mul PySem.F.slot_int_rmul repeat_tuple PySem.F.slot_int_index.lookup
  (call_meets PySem.F.slot_int_rmul (typeIs_int s k u) PySem.F.entry_int_rmul (PySem.F.args_int_rmul_2 _ _) (rmul_int_tuple k u l vs.toArray n dd sl)
   ⟨ho,rfl,⟨_,ho,rfl⟩,?_⟩)
 by_cases hi:(vs.toArray.isEmpty||k==1)=true
 .refine call_meets PySem.F.slot_tuple_mul ⟨_,ho,rfl⟩ PySem.F.entry_tuple_mul (PySem.F.args_tuple_mul_2 _ _) (mul_tuple_e l vs.toArray n k u dd sl hk hi) ⟨ho,h1 ?_⟩
  rw[Bool.or_eq_true,beq_iff_eq]at hi
  exact hi.imp (by simp) id
 .rw[Bool.or_eq_true,not_or,beq_iff_eq]at hi
  obtain rfl:k=0:=hk.resolve_right hi.2
  exact call_meets PySem.F.slot_tuple_mul ⟨_,ho,rfl⟩ PySem.F.entry_tuple_mul (PySem.F.args_tuple_mul_2 _ _) (mul_tuple_0 l vs.toArray n u dd sl hi.1) ⟨ho,h0 rfl⟩
theorem if_then{β:Type}{p:Prop}[Decidable p]{x:Option β}{b:β}(h:(if p then x else none)=some b):p∧x=some b:=by
 by_cases hp:p
 .rw[if_pos hp]at h;exact⟨hp,h⟩
 .rw[if_neg hp]at h;exact nN h
theorem op_bin{op:Bop}{x y:PV}{a b:Value}(S:Sim C F mu T st s.heap)(hx:vr C F mu s.heap x a)(hy:vr C F mu s.heap y b)
  (h:(opt (binV op x y) fun v=>Q v st)∨(op=.add∧opt (lstOf st.sto x) fun l=>opt (lstOf st.sto y) fun r=>l.length+r.length≤lineN∧fresh (l++r) Q st)):wpAny (model C.prog C.w) A (binaryOp op.toOp a b) (LiftV C F T Q s) noE s:=by
 rcases h with⟨v,e,q⟩|h
 .cases op with
  |add=>
   rcases op_cases e with⟨_,e⟩|⟨ta,e1,e⟩
   .rcases op_cases e with⟨_,e⟩|⟨ta,e1,e⟩
    .refine x2_1 (int2_is e) fun i j zE zR=>?_;subst zE;refine x0_1 zR fun zE e=>?_;subst zE
     obtain rfl:=Option.some.inj e
     obtain⟨t,rfl⟩:=vr_int' hx;obtain⟨u,rfl⟩:=vr_int' hy
     exact add_int (lift_here S vr_int q)
    .refine x1_1 (op_some e) fun tb e2 e=>?_
     obtain rfl:=asStr_is e1
     obtain rfl:=asStr_is e2
     obtain⟨hs,e⟩:=if_then e
     obtain rfl:=Option.some.inj e
     obtain⟨t,rfl⟩:=vr_str' hx;obtain⟨u,rfl⟩:=vr_str' hy
     exact add_str (fun t' tk=>lift_here S vr_str q) (by rw[←lineN_is];exact hs)
   .refine x1_1 (op_some e) fun tb e2 e=>?_
    obtain rfl:=asTup_is e1
    obtain rfl:=asTup_is e2
    obtain⟨hs,e⟩:=if_then e
    obtain rfl:=Option.some.inj e
    refine x2_1 ((show VRel _ _ _ _ (.tup _) _ from hx) |> fun z=>by exact z) fun l vs zE zR=>?_;subst zE;refine x0_3 zR fun nx h3 h4 h5=>?_
    refine x2_1 ((show VRel _ _ _ _ (.tup _) _ from hy) |> fun z=>by exact z) fun l' vs' zE zR=>?_;subst zE;refine x0_3 zR fun nx' h3' h4' h5'=>?_
    have L:=h5.length
    have L':=h5'.length
    refine add_tups0 h3 h3' (by rw[←lineN_is];exact o6 hs L L') (fun e=>?_) (fun e=>?_) ?_
    .subst e
     obtain rfl:ta=[]:=List.length_eq_zero_iff.mp (L.symm)
     exact lift_here S hy (by simpa using q)
    .subst e
     obtain rfl:tb=[]:=List.length_eq_zero_iff.mp (L'.symm)
     exact lift_here S hx (by simpa using q)
    .exact⟨mu,_,st,⟨rfl,rfl,rfl⟩,S.newTup (h5.append h5') (by rw[List.length_append];exact hs),q⟩
  |sub=>
   refine x2_1 (int2_is e) fun i j zE zR=>?_;subst zE;refine x0_1 zR fun zE e=>?_;subst zE
   obtain rfl:=Option.some.inj e
   obtain⟨t,rfl⟩:=vr_int' hx;obtain⟨u,rfl⟩:=vr_int' hy
   exact sub_int (lift_here S vr_int q)
  |mul=>
   rcases op_cases e with⟨_,e⟩|⟨ta,e1,e⟩
   .refine x2_1 (int2_is e) fun i j zE zR=>?_;subst zE;refine x0_1 zR fun zE e=>?_;subst zE
    obtain⟨hs,e⟩:=if_then e
    obtain rfl:=Option.some.inj e
    obtain⟨t,rfl⟩:=vr_int' hx;obtain⟨u,rfl⟩:=vr_int' hy
    rw[Bool.and_eq_true]at hs
    exact mul_int (lift_here S vr_int q) (.of_left (small_bits hs.1))
   .refine x1_1 (op_some e) fun k e2 e3=>?_
    obtain rfl:=asTup_is e1
    obtain rfl:=asInt_is e2
    clear e
    obtain⟨u,rfl⟩:=vr_int' hy
    refine x2_1 ((show VRel _ _ _ _ (.tup _) _ from hx) |> fun z=>by exact z) fun l vs zE zR=>?_;subst zE;refine x0_3 zR fun nx h3 h4 h5=>?_
    have L:=h5.length
    by_cases hk:k=0
    .subst hk;obtain rfl:=Option.some.inj e3
     refine mul_tups0 h3 (.inl rfl) (fun e=>?_) fun _=>⟨mu,_,st,⟨rfl,rfl,rfl⟩,S.newTup VRels.nil (Nat.zero_le _),q⟩
     rcases e with rfl|e
     .obtain rfl:ta=[]:=List.length_eq_zero_iff.mp (L.symm)
      exact lift_here S hx q
     .omega
    .rw[if_neg hk]at e3
     obtain⟨hk,e3⟩:=if_then e3
     obtain rfl:=Option.some.inj e3;subst hk
     exact mul_tups0 h3 (.inr rfl) (fun _=>lift_here S hx q) (fun e=>by exact absurd e (by decide))
  |fdiv=>
   refine x2_1 (int2_is e) fun i j zE zR=>?_;subst zE;refine x0_1 zR fun zE e=>?_;subst zE
   obtain⟨hs,e⟩:=if_then e
   obtain rfl:=Option.some.inj e
   obtain⟨t,rfl⟩:=vr_int' hx;obtain⟨u,rfl⟩:=vr_int' hy
   rw[beq_iff_eq]at hs
   subst hs
   exact floordiv_int (by decide) (lift_here S vr_int q) (.inl (PyProof.noPylong_small (by decide)))
  |mod=>
   refine x2_1 (int2_is e) fun i j zE zR=>?_;subst zE;refine x0_1 zR fun zE e=>?_;subst zE
   obtain⟨hs,e⟩:=if_then e
   obtain rfl:=Option.some.inj e
   obtain⟨t,rfl⟩:=vr_int' hx;obtain⟨u,rfl⟩:=vr_int' hy
   exact mod_int' (by simpa using hs) (lift_here S vr_int q)
 .refine x0_1 h fun zE zR=>?_;subst zE;refine x1_1 zR fun l e1 zR=>x1_2 zR fun r e2 hsz q=>?_
  refine x3_1 (lst_of S e1 hx) fun aa vs n zE zR=>?_;subst zE;refine x0_2 zR fun hl h4 h5=>?_
  refine x3_1 (lst_of S e2 hy) fun bb ws n' zE zR=>?_;subst zE;refine x0_2 zR fun hr h4' h5'=>?_
  have L:=h5.length
  have L':=h5'.length
  refine add_lists0 ⟨_,hl,rfl,n,rfl⟩ ⟨_,hr,rfl,n',rfl⟩ (by rw[←lineN_is];exact o6 hsz L L') ?_
  exact fresh_sim (n:=0) S (h5.append h5') (by rw[List.length_append];exact hsz) (fun _ _ e=>Heap.get?_push_of_some _ e) (by rw[Heap.size_push];exact Nat.le_add_right _ _) (Nat.le_refl _) (Heap.get?_push_size _ rfl) q
end
end Mine.Internal
namespace Mine.Internal
open PySem PySem.W PyProof.Rows PySem.Calls
section
variable {C:Cx} {F:Frm} {A:Around} {mu:List (Nat×Nat)} {T:List (PV×Value)} {st:St} {s:Shared} {Q:PV→St→Prop}
theorem vr_tup'{X:Nat→Prop}{h:Heap}{l:List PV}{v:Value}(x:VRel C X h mu (.tup l) v):∃a vs,v=.ref a∧¬X a∧IsTup h a vs.toArray∧vs.length≤lineN∧VRels C X h mu l vs:=by exact x
theorem vr_list'{X:Nat→Prop}{h:Heap}{l:List PV}{v:Value}(x:VRel C X h mu (.list l) v):∃a vs n,v=.ref a∧¬X a∧h.get? a=some {cls:=.type "list",data:=.seq vs.toArray n}∧vs.length≤lineN∧VRels C X h mu l vs:=by exact x
theorem vr_dict'{X:Nat→Prop}{h:Heap}{ks:List Int}{l:List PV}{v:Value}(x:VRel C X h mu (.dict ks l) v):∃a vs,v=.ref a∧¬X a∧a≠1∧VRels C X h mu l vs∧h.MapOf (intKind C.prog C.w) a (fun k=>(ks.zip vs).lookup k):=by exact x
theorem vr_inst'{X:Nat→Prop}{h:Heap}{l:List PV}{v:Value}(x:VRel C X h mu (.inst l) v):∃a dx vs,v=.ref a∧¬X a∧¬X dx∧InstOf C h a dx vs∧VRels C X h mu l vs:=by exact x
theorem vr_ref'{X:Nat→Prop}{h:Heap}{i:Nat}{v:Value}(x:VRel C X h mu (.ref i) v):∃p,mu[i]? =some p∧v=.ref p.1:=by exact x
theorem vr_fn'{X:Nat→Prop}{h:Heap}{i:Nat}{v:Value}(x:VRel C X h mu (.fn i) v):v=.ref (C.fa i):=by exact x
theorem vrs_cons'{X:Nat→Prop}{h:Heap}{p:PV}{l:List PV}{vs:List Value}(x:VRels C X h mu (p::l) vs):∃v r,vs=v::r∧VRel C X h mu p v∧VRels C X h mu l r:=by exact x
theorem vrs_nil'{X:Nat→Prop}{h:Heap}{vs:List Value}(x:VRels C X h mu [] vs):vs=[]:=by exact x
mutual
theorem reads_of{X:Nat→Prop}{h:Heap}:∀{p:PV}{v:Value}{d:PyData},toD p=some d→VRel C X h mu p v→∃as,Reads h v d as
 | .none,v,d,e,x=>by obtain rfl:=Option.some.inj e;obtain rfl:_=_:=x;exact⟨[],.none⟩
 | .bool b,v,d,e,x=>by obtain rfl:=Option.some.inj e;obtain rfl:_=_:=x;exact⟨[],.bool b⟩
 | .int i,v,d,e,x=>by obtain rfl:=Option.some.inj e;obtain⟨t,rfl⟩:=x;exact⟨[],.int i t⟩
 | .str i,v,d,e,x=>by obtain rfl:=Option.some.inj e;obtain⟨t,rfl⟩:=x;exact⟨[],.str i t⟩
 | .tup l,v,d,e,x=>by
  refine x1_1 (Option.map_eq_some_iff.mp e) fun ds e1 zL=>?_;subst zL
  obtain⟨a,vs,rfl,_,⟨o,ho,hc,n,hd⟩,_,hr⟩:=vr_tup' x
  obtain⟨as,ha⟩:=readsAll_of e1 hr
  exact⟨as,.tuple ho hc hd ha⟩
 | .list l,v,d,e,x=>by
  refine x1_1 (Option.map_eq_some_iff.mp e) fun ds e1 zL=>?_;subst zL
  refine x3_1 (vr_list' x) fun a vs n zE zR=>?_;subst zE;refine x0_3 zR fun _ ho _ hr=>?_
  obtain⟨as,ha⟩:=readsAll_of e1 hr
  exact⟨_,.list ho rfl rfl ha⟩
 | .dict ks l,v,d,e,x=>by exact nN e
 | .inst l,v,d,e,x=>by exact nN e
 | .ref i,v,d,e,x=>by exact nN e
 | .fn n,v,d,e,x=>by exact nN e
theorem readsAll_of{X:Nat→Prop}{h:Heap}:∀{l:List PV}{vs:List Value}{ds:List PyData},toDs l=some ds→VRels C X h mu l vs→∃as,ReadsAll h vs ds as
 |[],vs,ds,e,x=>by obtain rfl:=Option.some.inj e;obtain rfl:_=_:=x;exact⟨[],.nil⟩
 |p::ps,vs,ds,e,x=>by
  refine x1_1 (Option.bind_eq_some_iff.mp e) fun d e1 e2=>?_
  refine x1_1 (Option.map_eq_some_iff.mp e2) fun r e3 zL=>?_;subst zL
  refine x2_1 x fun v r' zE zR=>?_;subst zE;refine x0_1 zR fun h2 h3=>?_
  obtain⟨as,ha⟩:=reads_of e1 h2
  obtain⟨bs,hb⟩:=readsAll_of e3 h3
  exact⟨_,.cons ha hb⟩
end
theorem reads_data(S:Sim C F mu T st s.heap){p:PV}{v:Value}{d:PyData}(e:dataOf st.sto p=some d)(x:vr C F mu s.heap p v):∃as,Reads s.heap v d as:=by
 cases p with
 |ref i=>
  refine x1_1 (op_some e) fun l hl e=>?_
  refine x1_1 (op_some hl) fun o hi hl=>?_
  obtain rfl:=oList_is hl
  refine x1_1 (Option.map_eq_some_iff.mp e) fun ds e1 zL=>?_;subst zL
  refine x1_1 (vr_ref' x) fun p h1 zL=>?_;subst zL
  refine x0_1 (S.objs i _ p hi h1) fun _ zR=>x2_2 zR fun vs n h3 h4 h5=>?_
  obtain⟨as,ha⟩:=readsAll_of e1 h5
  exact⟨_,.list h3 rfl rfl ha⟩
 |_=>exact reads_of e x
theorem ints_are{X:Nat→Prop}{h:Heap}:∀{l:List PV}{vs:List Value}{ns:List Int},intsOf l=some ns→VRels C X h mu l vs→IntsAre vs ns
 |[],vs,ns,e,x=>by obtain rfl:=Option.some.inj e;obtain rfl:=vrs_nil' x;exact .nil
 |p::r,vs,ns,e,x=>by
  refine x1_1 (op_some e) fun i hi e=>?_
  refine x1_1 (Option.map_eq_some_iff.mp e) fun ms e1 zL=>?_;subst zL
  refine x2_1 (vrs_cons' x) fun v r' zE zR=>?_;subst zE;refine x0_1 zR fun h2 h3=>?_
  obtain rfl:=asInt_is hi
  obtain⟨t,rfl⟩:=h2
  exact .cons i t (ints_are e1 h3)
noncomputable def hitI(k:Int):Value→Bool
 | .int n _=>n==k
 |_=>false
theorem hit_any(k:Int):∀{vs:List Value}{ns:List Int},IntsAre vs ns→vs.any (hitI k)=ns.contains k
 |_,_,.nil=>rfl
 |_,_,.cons n t r=>by rw[List.any_cons,hit_any k r,List.contains_cons];show(n==k||_)=(k==n||_);rw[Bool.beq_comm]
theorem hit_eq(k:Int)(u:Tok)(B:Around)(s:Shared):∀{vs:List Value}{ns:List Int},IntsAre vs ns→∀y∈vs.toArray,SeqAt.EqAt B s y (.int k u) (hitI k y)
 |_,_,.nil,y,hy=>by simp at hy
 |_,_,.cons n t r,y,hy=>by
  rcases List.mem_cons.mp (by simpa using hy)with rfl|hy
  .exact SeqAt.EqAt.int_int n t k u
  .exact hit_eq k u B s r y (by simpa using hy)
noncomputable def Cop.toOp:Cop→CmpOp
 | .eq=>.Eq| .ne=>.NotEq| .lt=>.Lt| .le=>.LtE| .gt=>.Gt| .ge=>.GtE| .is=>.Is| .isNot=>.IsNot| .isIn=>.In| .notIn=>.NotIn
theorem isNone_is{p:PV}{v:Value}{h:Heap}(x:vr C F mu h p v):(v==Value.none)=isNone p:=by
 cases p with
 |none=>rw[vr_none' x];rfl
 |bool b=>rw[vr_bool' x];rfl
 |int i=>obtain⟨t,rfl⟩:=vr_int' x;rfl
 |str i=>obtain⟨t,rfl⟩:=vr_str' x;rfl
 |tup l=>refine x2_1 (vr_tup' x) fun a vs zE _=>?_;subst zE;rfl
 |list l=>refine x3_1 (vr_list' x) fun a vs n zE _=>?_;subst zE;rfl
 |dict ks l=>refine x2_1 (vr_dict' x) fun a vs zE _=>?_;subst zE;rfl
 |inst l=>refine x3_1 (vr_inst' x) fun a dx vs zE _=>?_;subst zE;rfl
 |ref i=>refine x1_1 (vr_ref' x) fun p _ zL=>?_;subst zL;rfl
 |fn n=>rw[vr_fn' x];rfl
theorem plain_none{p:PV}{v:Value}{h:Heap}(x:vr C F mu h p v):PySem.plainIs v .none=true:=by
 cases p with
 |none=>rw[vr_none' x];rfl
 |bool b=>rw[vr_bool' x];rfl
 |int i=>obtain⟨t,rfl⟩:=vr_int' x;rfl
 |str i=>obtain⟨t,rfl⟩:=vr_str' x;rfl
 |tup l=>refine x2_1 (vr_tup' x) fun a vs zE _=>?_;subst zE;rfl
 |list l=>refine x3_1 (vr_list' x) fun a vs n zE _=>?_;subst zE;rfl
 |dict ks l=>refine x2_1 (vr_dict' x) fun a vs zE _=>?_;subst zE;rfl
 |inst l=>refine x3_1 (vr_inst' x) fun a dx vs zE _=>?_;subst zE;rfl
 |ref i=>refine x1_1 (vr_ref' x) fun p _ zL=>?_;subst zL;rfl
 |fn n=>rw[vr_fn' x];rfl
theorem lookup_zip_isSome{X:Nat→Prop}{h:Heap}:∀{ks:List Int}{l:List PV}{vs:List Value},ks.length≤l.length→VRels C X h mu l vs→∀k,((ks.zip vs).lookup k).isSome=ks.contains k
 |[],_,_,_,_,_=>rfl
 |a::ks,[],_,hl,_,_=>if_pos hl
 |a::ks,p::l,vs,hl,x,k=>by
  refine x2_1 (vrs_cons' x) fun v r zE zR=>?_;subst zE;refine x0_1 zR fun _ h3=>?_
  rw[List.zip_cons_cons,List.lookup_cons,List.contains_cons]
  cases e:k==a with
  |true=>rfl
  |false=>simpa using lookup_zip_isSome (Nat.le_of_succ_le_succ hl) h3 k
theorem lookup_zip{X:Nat→Prop}{h:Heap}:∀{ks:List Int}{l:List PV}{vs:List Value}{k:Int}{p:PV},VRels C X h mu l vs→(ks.zip l).lookup k=some p→∃v,(ks.zip vs).lookup k=some v∧VRel C X h mu p v
 |[],_,_,_,_,_,e=>by exact nN e
 |a::ks,[],_,_,_,_,e=>by exact nN e
 |a::ks,q::l,vs,k,p,x,e=>by
  refine x2_1 (vrs_cons' x) fun v r zE zR=>?_;subst zE;refine x0_1 zR fun h2 h3=>?_
  rw[List.zip_cons_cons,List.lookup_cons]at e ⊢
  cases e':k==a with
  |true=>rw[e']at e;obtain rfl:=Option.some.inj e;exact⟨v,rfl,h2⟩
  |false=>rw[e']at e;exact lookup_zip h3 e
theorem lift_bool{b:Bool}{tk:Nat}(S:Sim C F mu T st s.heap)(q:Q (.bool b) st):LiftV C F T Q s (.bool b) {s with toks:=tk}:=lift_here S vr_bool q
theorem op_deepEq{a b:PV}{x y:Value}{r:Bool}(hA:Room A 1)(S:Sim C F mu T st s.heap)(hx:vr C F mu s.heap a x)(hy:vr C F mu s.heap b y)(e:deepEq st.sto a b=some r):
  (Q (.bool r) st→wpAny (model C.prog C.w) A (compareOp .Eq x y) (LiftV C F T Q s) noE s)∧(Q (.bool !r) st→wpAny (model C.prog C.w) A (compareOp .NotEq x y) (LiftV C F T Q s) noE s):=by
 refine x1_1 (Option.bind_eq_some_iff.mp e) fun da e1 e2=>?_
 refine x1_1 (Option.bind_eq_some_iff.mp e2) fun db e3 e4=>?_
 split at e4
 .rename_i hs
  obtain rfl:=Option.some.inj e4
  rw[Bool.and_eq_true]at hs
  obtain⟨as,ra⟩:=reads_data S e1 hx
  obtain⟨bs,rb⟩:=reads_data S e3 hy
  have hu:A.units+64<cLine:=by have:=hA.units;exact o7 this
  exact⟨fun q=>SeqAt.compareEq_shaped ra rb hs.1 hs.2 hu (lift_bool (tk:=s.toks) S q),fun q'=>SeqAt.compareNe_shaped ra rb hs.1 hs.2 hu (lift_bool (tk:=s.toks) S q')⟩
 .exact nN e4
theorem op_eq{a b:PV}{x y:Value}{r:Bool}(hA:Room A 1)(S:Sim C F mu T st s.heap)(hx:vr C F mu s.heap a x)(hy:vr C F mu s.heap b y)(e:eqV st.sto a b=some r):
  (Q (.bool r) st→wpAny (model C.prog C.w) A (compareOp .Eq x y) (LiftV C F T Q s) noE s)∧(Q (.bool !r) st→wpAny (model C.prog C.w) A (compareOp .NotEq x y) (LiftV C F T Q s) noE s):=by
 have deep:=fun e=>op_deepEq hA S hx hy e (Q:=Q) (T:=T) (r:=r)
 rcases op_cases e with⟨_,e⟩|⟨i,e1,e⟩
 .rcases op_cases e with⟨_,e⟩|⟨i,e1,e⟩
  .rcases op_cases e with⟨_,e⟩|⟨i,e1,e⟩
   .exact deep e
   .rcases op_cases e with⟨_,e⟩|⟨j,e2,e⟩
    .exact deep e
    .obtain rfl:=asStr_is e1
     obtain rfl:=asStr_is e2
     obtain rfl:=Option.some.inj e
     obtain⟨t,rfl⟩:=vr_str' hx;obtain⟨u,rfl⟩:=vr_str' hy
     exact⟨fun q=>eq_str (lift_bool (tk:=s.toks) S q),fun q=>ne_str (lift_bool (tk:=s.toks) S q)⟩
  .rcases op_cases e with⟨_,e⟩|⟨j,e2,e⟩
   .exact deep e
   .obtain rfl:=asBool_is e1
    obtain rfl:=asBool_is e2
    obtain rfl:=Option.some.inj e
    obtain rfl:=vr_bool' hx;obtain rfl:=vr_bool' hy
    exact⟨fun q=>eq_bool (lift_bool (tk:=s.toks) S q),fun q=>ne_bool (lift_bool (tk:=s.toks) S q)⟩
 .rcases op_cases e with⟨_,e⟩|⟨j,e2,e⟩
  .exact deep e
  .obtain rfl:=asInt_is e1
   obtain rfl:=asInt_is e2
   obtain rfl:=Option.some.inj e
   obtain⟨t,rfl⟩:=vr_int' hx;obtain⟨u,rfl⟩:=vr_int' hy
   exact⟨fun q=>eq_int (lift_bool (tk:=s.toks) S q),fun q=>ne_int (lift_bool (tk:=s.toks) S q)⟩
theorem op_inInts{k:Int}{u:Tok}{a:Addr}{vs:List Value}{ns:List Int}(S:Sim C F mu T st s.heap)(hi:IntsAre vs ns)(hl:s.heap.IsList a vs.toArray∨IsTup s.heap a vs.toArray):
  (Q (.bool (ns.contains k)) st→wpAny (model C.prog C.w) A (compareOp .In (.int k u) (.ref a)) (LiftV C F T Q s) noE s)∧(Q (.bool !(ns.contains k)) st→wpAny (model C.prog C.w) A (compareOp .NotIn (.int k u) (.ref a)) (LiftV C F T Q s) noE s):=by
 have e:vs.toArray.any (hitI k)=ns.contains k:=by rw[←hit_any k hi];simp
 rcases hl with hl|hl
 .exact⟨fun q=>SeqAt.in_listAt (hitI k) hl (hit_eq k u _ _ hi) (by rw[e];exact lift_bool (tk:=s.toks) S q),fun q=>SeqAt.notIn_listAt (hitI k) hl (hit_eq k u _ _ hi) (by rw[e];exact lift_bool (tk:=s.toks) S q)⟩
 .exact⟨fun q=>SeqAt.in_tupleAt (hitI k) hl (hit_eq k u _ _ hi) (by rw[e];exact lift_bool (tk:=s.toks) S q),fun q=>SeqAt.notIn_tupleAt (hitI k) hl (hit_eq k u _ _ hi) (by rw[e];exact lift_bool (tk:=s.toks) S q)⟩
theorem op_inMap{k:Int}{u:Tok}{a:Addr}{f:Int→Option Value}{r:Bool}(S:Sim C F mu T st s.heap)(h1:a≠1)(hm:s.heap.MapOf (intKind C.prog C.w) a f)(e:(f k).isSome=r):
  (Q (.bool r) st→wpAny (model C.prog C.w) A (compareOp .In (.int k u) (.ref a)) (LiftV C F T Q s) noE s)∧(Q (.bool !r) st→wpAny (model C.prog C.w) A (compareOp .NotIn (.int k u) (.ref a)) (LiftV C F T Q s) noE s):=by
 have hs:(a==sysModules)=false:=beq_eq_false_iff_ne.mpr h1
 have hk:(intKind C.prog C.w).is k (.int k u)=true:=beq_self_eq_true _
 exact⟨fun q=>wpAny_in_of hk hs hm (by rw[e];exact lift_bool S q),fun q=>wpAny_notIn_of hk hs hm (by rw[e];exact lift_bool S q)⟩
theorem op_in{a b:PV}{x y:Value}{r:Bool}(S:Sim C F mu T st s.heap)(hx:vr C F mu s.heap a x)(hy:vr C F mu s.heap b y)(e:inV st.sto a b=some r):
  (Q (.bool r) st→wpAny (model C.prog C.w) A (compareOp .In x y) (LiftV C F T Q s) noE s)∧(Q (.bool !r) st→wpAny (model C.prog C.w) A (compareOp .NotIn x y) (LiftV C F T Q s) noE s):=by
 replace e:=op_some e
 obtain⟨k,hk,e⟩:=e
 obtain rfl:=asInt_is hk
 obtain⟨t,rfl⟩:=vr_int' hx
 cases b with
 |dict ks l=>
  obtain⟨hl,e⟩:=if_some e
  obtain rfl:=Option.some.inj e
  refine x2_1 (vr_dict' hy) fun a vs zE zR=>?_;subst zE;refine x0_3 zR fun _ h1 h2 h3=>?_
  exact op_inMap S h1 h3 (lookup_zip_isSome (of_decide_eq_true hl) h2 _)
 |tup l=>
  refine x1_1 (Option.map_eq_some_iff.mp e) fun ns e1 zL=>?_;subst zL
  refine x2_1 (vr_tup' hy) fun a vs zE zR=>?_;subst zE;refine x0_3 zR fun _ h1 _ h3=>?_
  exact op_inInts S (ints_are e1 h3) (.inr h1)
 |list l=>
  refine x1_1 (Option.map_eq_some_iff.mp e) fun ns e1 zL=>?_;subst zL
  refine x3_1 (vr_list' hy) fun a vs n zE zR=>?_;subst zE;refine x0_3 zR fun _ h1 _ h3=>?_
  exact op_inInts S (ints_are e1 h3) (.inl ⟨_,h1,rfl,n,rfl⟩)
 |ref i=>
  refine x1_1 (vr_ref' hy) fun p hp zL=>?_;subst zL
  obtain⟨o,hi,e⟩:=op_some e
  cases o with
  |list l=>
   refine x1_1 (Option.map_eq_some_iff.mp e) fun ns e1 zL=>?_;subst zL
   refine x0_1 (S.objs _ _ p hi hp) fun _ zR=>x2_2 zR fun vs n h3 _ h5=>?_
   exact op_inInts S (ints_are e1 h5) (.inl ⟨_,h3,rfl,n,rfl⟩)
  |dict m=>
   obtain rfl:=Option.some.inj e
   refine x0_2 (S.objs _ _ p hi hp) fun _ h1 zR=>x1_1 zR fun vs h2 h3=>?_
   exact op_inMap S h1 (dictOf_map h3) (lookup_zip_isSome (by simp) h2 _)
  |_=>exact nN e
 |_=>exact nN e
theorem op_cmp{op:Cop}{a b:PV}{x y:Value}{r:Bool}(hA:Room A 1)(S:Sim C F mu T st s.heap)(hx:vr C F mu s.heap a x)(hy:vr C F mu s.heap b y)(e:cmpV st.sto op a b=some r)
  (q:Q (.bool r) st):wpAny (model C.prog C.w) A (compareOp op.toOp x y) (LiftV C F T Q s) noE s:=by
 have isn:∀{z:Bool},ifP (isNone b) (some z) none=some r→b=.none∧z=r:=fun{z} h=>by
  obtain⟨h1,h⟩:=if_some h
  cases b with
  |none=>obtain rfl:=Option.some.inj h;exact⟨rfl,rfl⟩
  |_=>exact nF h1
 cases op with
 |eq=>exact(op_eq hA S hx hy e).1 q
 |ne=>
  refine x1_1 (Option.map_eq_some_iff.mp e) fun r' e' zL=>?_;subst zL
  exact(op_eq hA S hx hy e').2 q
 |lt=>
  refine x2_1 (int2_is e) fun i j zE zR=>?_;subst zE;refine x0_1 zR fun zE e=>?_;subst zE
  obtain rfl:=Option.some.inj e;obtain⟨t,rfl⟩:=vr_int' hx;obtain⟨u,rfl⟩:=vr_int' hy;exact lt_int (lift_bool (tk:=s.toks) S q)
 |le=>
  refine x2_1 (int2_is e) fun i j zE zR=>?_;subst zE;refine x0_1 zR fun zE e=>?_;subst zE
  obtain rfl:=Option.some.inj e;obtain⟨t,rfl⟩:=vr_int' hx;obtain⟨u,rfl⟩:=vr_int' hy;exact le_int (lift_bool (tk:=s.toks) S q)
 |gt=>
  refine x2_1 (int2_is e) fun i j zE zR=>?_;subst zE;refine x0_1 zR fun zE e=>?_;subst zE
  obtain rfl:=Option.some.inj e;obtain⟨t,rfl⟩:=vr_int' hx;obtain⟨u,rfl⟩:=vr_int' hy;exact gt_int (lift_bool (tk:=s.toks) S q)
 |ge=>
  refine x2_1 (int2_is e) fun i j zE zR=>?_;subst zE;refine x0_1 zR fun zE e=>?_;subst zE
  obtain rfl:=Option.some.inj e;obtain⟨t,rfl⟩:=vr_int' hx;obtain⟨u,rfl⟩:=vr_int' hy;exact ge_int (lift_bool (tk:=s.toks) S q)
 |is=>
  obtain⟨rfl,rfl⟩:=isn e
  obtain rfl:=vr_none' hy
  exact wpAny_is_plain (plain_none hx) (by rw[isNone_is hx];exact lift_bool (tk:=s.toks) S q)
 |isNot=>
  obtain⟨rfl,rfl⟩:=isn e
  obtain rfl:=vr_none' hy
  exact wpAny_isNot_plain (plain_none hx) (by rw[isNone_is hx];exact lift_bool (tk:=s.toks) S q)
 |isIn=>exact(op_in S hx hy e).1 q
 |notIn=>
  refine x1_1 (Option.map_eq_some_iff.mp e) fun r' e' zL=>?_;subst zL
  exact(op_in S hx hy e').2 q
end
end Mine.Internal
namespace Mine.Internal
open PySem PySem.W PyProof.Rows PySem.Calls
section
variable {C:Cx} {F:Frm} {A:Around} {mu:List (Nat×Nat)} {T:List (PV×Value)} {st:St} {s:Shared} {Q:PV→St→Prop}
noncomputable def notSlice:Expr→Bool
 | .Slice .. =>false
 |_=>true
theorem subscripted_plain{slice:Expr}(h:notSlice slice=true)(o i:Value):subscripted slice false o i=operate [o,i] (getItem o i):=by
 cases slice<;>first|rfl|contradiction
theorem lookT_of{X:Nat→Prop}{h:Heap}:∀{m:List ((Str×Int)×PV)}{xs:List (List (Int ⊕ Str)×Addr×Value)}{k:Str×Int}{p:PV},TRows C X h mu m xs→lookT m k=some p→
  ∃a v,atKey xs [.inr k.1,.inl k.2]=some (a,v)∧VRel C X h mu p v
 |[],_,_,_,_,e=>nN e
 |((y,i),q)::m,xs,k,p,x,e=>by
  refine x3_1 x fun a v r zE zR=>?_;subst zE;refine x0_2 zR fun _ h2 h3=>?_
  unfold lookT at e
  rw[List.find?_cons]at e
  by_cases hk:(y,i)=k
  .subst hk
   rw[show(((y,i),q).1==(y,i))=true from beq_self_eq_true _]at e
   obtain rfl:=Option.some.inj e
   exact⟨a,v,by simp[atKey],h2⟩
  .rw[show(((y,i),q).1==k)=false from beq_eq_false_iff_ne.mpr hk]at e
   refine x2_1 (lookT_of (k:=k) h3 e) fun a' v' e' h'=>?_
   refine⟨a',v',?_,h'⟩
   unfold atKey at e' ⊢
   rw[List.find?_cons]
   have:decide ([Sum.inr y,Sum.inl i]=([Sum.inr k.1,Sum.inl k.2]:List (Int ⊕ Str)))=false:=by
    apply decide_eq_false
    intro z
    apply hk
    simp only[List.cons.injEq,Sum.inr.injEq,Sum.inl.injEq,and_true]at z
    exact Prod.ext z.1 z.2
   simp only[this]
   exact e'
theorem key_pair{h:Heap}{X:Nat→Prop}{y:Str}{k:Int}{v:Value}(x:VRel C X h mu (.tup [.str y,.int k]) v):∃a,v=.ref a∧¬X a∧(tKind C).is h [.inr y,.inl k] a:=by
 obtain⟨a,vs,rfl,nx,⟨o,ho,hc,n,hd⟩,_,hr⟩:=vr_tup' x
 refine x2_1 (vrs_cons' hr) fun v1 r1 zE zR=>?_;subst zE;refine x0_1 zR fun h1 hr=>?_
 obtain⟨v2,r2,rfl,h2,hr⟩:=vrs_cons' hr
 obtain rfl:=vrs_nil' hr
 obtain⟨t1,rfl⟩:=h1
 obtain⟨t2,rfl⟩:=h2
 refine⟨a,rfl,nx,?_⟩
 show IsTupleKey _ _ _ _
 refine⟨o,_,n,ho,hc,hd,?_⟩
 refine .cons ?_ (.cons ?_ .nil)
 .simp[mixKind,isMix,Value.isStrOf]
 .simp[mixKind,isMix,Value.isInt]
theorem line_fits{n:Nat}{k:Int}(h:n≤lineN)(h2:k.toNat<n):k<2^63:=by
 unfold lineN at h
 omega
theorem sub_list{a:Addr}{vs:List Value}{n:Nat}{k:Int}{u:Tok}{l:List PV}{p:PV}{value slice:Expr}(S:Sim C F mu T st s.heap)(ho:s.heap.get? a=some {cls:=.type "list",data:=.seq vs.toArray n})
  (hl:vs.length≤lineN) (hr:VRels C (XS F.fx mu) s.heap mu l vs) (h0:0≤k) (e:l[k.toNat]? =some p) (q:Q p st) (hs:notSlice slice=true):
  wpAny (model C.prog C.w) A (subscriptTail value slice (.ref a) (.int k u)) (LiftV C F T Q s) noE s:=by
 refine x1_1 (hr.get e) fun v hv hx=>?_
 have hlt:k.toNat<vs.length:=(List.getElem?_eq_some_iff.mp hv).1
 have hL:s.heap.IsList a vs.toArray:=⟨_,ho,rfl,n,rfl⟩
 exact tail_any hL.typeIs PySem.slot_list_getitem.lookup (wpAny_getItem_list hL h0 (line_fits hl hlt) (by simpa using hv) (lift_here (tk:=s.toks) S hx q)) (subscripted_plain hs _ _)
theorem sub_map{a:Addr}{ks:List Int}{l:List PV}{vs:List Value}{k:Int}{u:Tok}{p:PV}{value slice:Expr}(S:Sim C F mu T st s.heap)(hm:s.heap.MapOf (intKind C.prog C.w) a (fun k=>(ks.zip vs).lookup k))
  (hr:VRels C (XS F.fx mu) s.heap mu l vs) (e:lookI ks l k=some p) (q:Q p st) (hs:notSlice slice=true):
  wpAny (model C.prog C.w) A (subscriptTail value slice (.ref a) (.int k u)) (LiftV C F T Q s) noE s:=by
 refine x1_1 (lookup_zip hr e) fun v hv hx=>?_
 exact tail_any hm.typeIs PySem.slot_dict_getitem.lookup (wpAny_getItem_of (beq_self_eq_true _) hm hv (lift_here S hx q)) (subscripted_plain hs _ _)
theorem subL_is{l:List PV}{i p:PV}(e:subL l i=some p):∃k,i=.int k∧0≤k∧l[k.toNat]? =some p:=by
 refine x1_1 (op_some e) fun k hk e=>?_
 obtain⟨h,e⟩:=if_some e
 exact⟨k,asInt_is hk,of_decide_eq_true h,e⟩
theorem op_sub{o i p:PV}{x y:Value}{value slice:Expr}(hA:Room A 1)(S:Sim C F mu T st s.heap)(hx:vr C F mu s.heap o x)(hy:vr C F mu s.heap i y)(e:subV st.sto o i=some p)(q:Q p st)(hs:notSlice slice=true):
  wpAny (model C.prog C.w) A (subscriptTail value slice x y) (LiftV C F T Q s) noE s:=by
 cases o with
 |tup l=>
  .replace e:=subL_is e
   refine x1_1 e fun k zE zR=>?_;subst zE;refine x0_1 zR fun h0 e=>?_
   obtain⟨t,rfl⟩:=vr_int' hy
   refine x2_1 (vr_tup' hx) fun a vs zE zR=>?_;subst zE;refine x0_3 zR fun _ h1 h2 h3=>?_
   refine x1_1 (h3.get e) fun v hv hx=>?_
   have hlt:=(List.getElem?_eq_some_iff.mp hv).1
   refine item_tupleT h1 (by omega) (line_fits h2 hlt) (j:=_) (seq_at h0 hlt) hv (lift_here (tk:=s.toks) S hx q) (subscripted_plain hs _ _)
 |list l=>
  .replace e:=subL_is e
   refine x1_1 e fun k zE zR=>?_;subst zE;refine x0_1 zR fun h0 e=>?_
   obtain⟨t,rfl⟩:=vr_int' hy
   refine x3_1 (vr_list' hx) fun a vs n zE zR=>?_;subst zE;refine x0_3 zR fun _ h1 h2 h3=>?_
   exact sub_list S h1 h2 h3 h0 e q hs
 |dict ks l=>
  replace e:=op_some e
  obtain⟨k,hk,e⟩:=e
  obtain rfl:=asInt_is hk
  obtain⟨t,rfl⟩:=vr_int' hy
  refine x2_1 (vr_dict' hx) fun a vs zE zR=>?_;subst zE;refine x0_3 zR fun _ _ h2 h3=>?_
  exact sub_map S h3 h2 e q hs
 |ref j=>
  refine x1_1 (vr_ref' hx) fun pp hp zL=>?_;subst zL
  replace e:=op_some e
  obtain⟨ob,hi,e⟩:=e
  cases ob with
  |list l=>
   .replace e:=subL_is e
    obtain⟨k,rfl,h0,e⟩:=e
    obtain⟨t,rfl⟩:=vr_int' hy
    refine x0_1 (S.objs _ _ _ hi hp) fun _ zR=>x2_2 zR fun vs n h1 h2 h3=>?_
    exact sub_list S h1 h2 h3 h0 e q hs
  |dict m=>
   replace e:=op_some e
   obtain⟨k,hk,e⟩:=e
   obtain rfl:=asInt_is hk
   obtain⟨t,rfl⟩:=vr_int' hy
   refine x0_2 (S.objs _ _ _ hi hp) fun _ _ zR=>x1_1 zR fun vs h2 h3=>?_
   exact sub_map S (dictOf_map h3) h2 e q hs
  |tdict m=>
   replace e:=op_some e
   obtain⟨⟨y,k⟩,hk,e⟩:=e
   obtain rfl:=asKey_is hk
   refine x0_2 (S.objs _ _ _ hi hp) fun _ _ zR=>x1_1 zR fun xs h2 h3=>?_
   refine x1_1 (key_pair hy) fun a zE zR=>?_;subst zE;refine x0_1 zR fun _ hk=>?_
   refine x2_1 (lookT_of h2 e) fun a' v' e' hx'=>?_
   have hu:(tKind C).room A.in1:=by show A.units+1<cLine;have:=hA.units;exact o10 this
   exact tail_any h3.typeIs PySem.slot_dict_getitem.lookup (wpAny_getItem_heap hu hk h3 e' (lift_here S hx' q)) (subscripted_plain hs _ _)
  |inst l=>exact nN e
 |_=>exact nN e
where
 seq_at {k:Int} {n:Nat} (h0:0≤k) (h:k.toNat<n):seqIndex? k n=some k.toNat:=by
  unfold seqIndex?
  have:¬k<0:=by exact o8 h0
  simp[this]
  exact o9 h0 h
end
end Mine.Internal
namespace Mine.Internal
open PySem PySem.W PyProof.Rows PySem.Calls
section
variable {C:Cx} {F:Frm} {A:Around} {mu:List (Nat×Nat)} {T:List (PV×Value)} {st:St} {s:Shared} {Q:PV→St→Prop}
theorem adjust_upto(b n:Nat)(hb:b≤n):Builtin.Slice.sliceAdjust none (some (b:Int)) 1 (n:Int)=(0,(b:Int)):=by
 unfold Builtin.Slice.sliceAdjust
 have h1:¬((1:Int)<0):=by exact o11
 have h2:¬((b:Int)<0):=by exact o12
 simp only[h1,h2,if_false]
 congr 1
 exact o13 hb
theorem places_upto(b:Nat):Builtin.Slice.slicePlaces 0 (b:Int) 1=b:=by
 have:=places_from 0 b (Nat.zero_le _)
 simpa using this
theorem sliceApplied_upto{sl:Addr}{b n:Nat}{u:Tok}{R:Int×Int×Nat→Shared→Prop}{E:Value→Shared→Prop}(hs:s.heap.IsSliceOf sl .none (.int b u) .none)(hb:b≤n)(h:R ((0:Int),1,b) s):
  wpAny (model C.prog C.w) A (Builtin.Slice.sliceApplied (.ref sl) (pure (n:Int))) R E s:=by
 refine x1_2 (id hs) fun os hos hcs hds=>?_
 refine wpAny_bind (wpAny_bind (wpAny_field hos hds (x:=.none) rfl (wpAny_bind (wpAny_field hos hds (x:=.int b u) rfl (wpAny_bind (wpAny_field hos hds (x:=.none) rfl (wpAny_pure ?_)))))))
 refine wpAny_bind (slicePart_none ?_)
 show wpAny _ _ (if((1:Int)==0)=true then _ else _) _ _ s
 rw[if_neg (by decide)]
 refine wpAny_bind (slicePart_none (wpAny_bind (slicePart_int (wpAny_bind (wpAny_pure ?_)))))
 show wpAny _ _ (match Builtin.Slice.sliceAdjust none (some (b:Int)) 1 (n:Int)with|(lo,hi)=>pure (lo,(1:Int),Builtin.Slice.slicePlaces lo hi 1)) _ _ s
 rw[adjust_upto b n hb]
 show wpAny _ _ (pure ((0:Int),(1:Int),Builtin.Slice.slicePlaces (0:Int) (b:Int) 1)) _ _ s
 rw[places_upto b]
 exact wpAny_pure h
theorem exact_tuple{t:Addr}{items:Array Value}{R:Bool→Shared→Prop}{E:Value→Shared→Prop}(ht:IsTup s.heap t items)(h:R true s):wpAny (model C.prog C.w) A (Builtin.Tuple.tupleIsExact (.ref t)) R E s:=by
 exact wpAny_bind (wpAny_typeOf ht.typeIs (wpAny_pure h))
theorem getItem_tuple_part{t sl:Addr}{items:Array Value}{lo n:Nat}{R:Value→Shared→Prop}(ht:IsTup s.heap t items)(hTs:s.TypeIs (.ref sl) "slice")
  (ap:∀(B:Around)(R:Int×Int×Nat→Shared→Prop)(E:Value→Shared→Prop),R ((lo:Int),1,n) s→wpAny (model C.prog C.w) B (Builtin.Slice.sliceApplied (.ref sl) (pure (items.size:Int))) R E s)
  (hn:lo+n≤items.size) (hsz:items.size≤sizeLine)
  (h1:lo=0→n=items.size→R (.ref t) s)
  (h:R (.ref s.heap.objs.size) {s with heap:=s.heap.push {cls:=.type "tuple",data:=.seq ((items.toList.drop lo).take n).toArray}}):
  wpAny (model C.prog C.w) A (getItem (.ref t) (.ref sl)) R noE s:=by
 have hpick:((List.range n).filterMap fun(k:Nat)=>items[((lo:Int)+(k:Int)*1).toNat]?).toArray=((items.toList.drop lo).take n).toArray:=by
  have e:(fun(k:Nat)=>items[((lo:Int)+(k:Int)*1).toNat]?)=fun k=>items[lo+k]? :=by
   funext k
   have:((lo:Int)+(k:Int)*1).toNat=lo+k:=by exact(Nat.add_assoc _ _ _).symm
   rw[this]
  rw[e]
  have:=PySem.pick_run items lo n
  rw[List.filterMap_map]at this
  have e2:((fun x=>items[x]?) ∘ fun x=>lo+x)=fun k=>items[lo+k]? :=rfl
  rw[e2]at this
  rw[this]
 have hdrop:sizeOk (.seq ((items.toList.drop lo).take n).toArray):=by
  show((items.toList.drop lo).take n).toArray.size≤sizeLine
  rw[List.size_toArray,List.length_take,List.length_drop,Array.length_toList]
  exact o14 hn hsz
 unfold getItem
 try with_reducible refine wpAny_holding ?_
 first|refine wpAny_bind (wpAny_pure ?_)|skip
 refine wpAny_bind (wpAny_sequenceKey ht.typeIs (by decide) ?_)
 refine wpAny_bind (wpAny_callSpecial?_slot (name:=Str.ofString "__getitem__") ht.typeIs PyProof.Rows.slot_tuple_getitem
  (wpAny_call_entry PyProof.Rows.slot_tuple_getitem ht.typeIs PyProof.Rows.entry_tuple_getitem ?_ (PyProof.Rows.args_tuple_getitem _ _)))
 show wpAny _ _ (Builtin.Tuple.tupleItemsOf (.ref t)>>=_) _ _ s
 refine wpAny_bind (tupleItemsOf_ ht ?_)
 refine wpAny_bind (wpAny_typeOf hTs ?_)
 rw[if_pos (by decide)]
 refine wpAny_bind (ap _ _ _ ?_)
 show wpAny _ _ (if((lo:Int)==0&&(1:Int)==1&&n==items.size)=true then _ else _) _ _ s
 by_cases hw:lo=0∧n=items.size
 .rw[if_pos (by simp[hw.1,hw.2])]
  exact wpAny_bind (exact_tuple ht (wpAny_ite_true (rfl) (wpAny_bind (wpAny_rule (wpAny_pure ⟨_,rfl,wpAny_pure (h1 hw.1 hw.2)⟩)))))
 .rw[if_neg (by
   simp only[Bool.and_eq_true,beq_iff_eq,and_true]
   intro z
   exact hw ⟨by exact o15 z,z.2⟩),hpick]
  first
   |exact wpAny_bind (m:=Builtin.Tuple.tupleExact _) (wpAny_newObj_type (wpAny_pure ⟨_,rfl,wpAny_pure h⟩) hdrop)
   |exact wpAny_bind (m:=Builtin.Tuple.tupleExact _) (wpAny_newObj_type (wpAny_bind (wpAny_pure (wpAny_pure ⟨_,rfl,wpAny_pure h⟩))) hdrop)
noncomputable def isSl(slice:Expr):Bool:=match slice with
 | .Slice _ _ none _=>true
 |_=>false
theorem subscripted_sl{slice:Expr}(h:isSl slice=true)(o i:Value):subscripted slice false o i=operate [i,o] (getItem o i):=by
 unfold isSl at h
 split at h
 .rfl
 .contradiction
theorem op_upto{o:PV}{x:Value}{k:Int}{u:Tok}{sl:Addr}{value slice:Expr}(S:Sim C F mu T st s.heap)(hx:vr C F mu s.heap o x)(hsl:s.heap.IsSliceOf sl .none (.int k u) .none)(hk:okIdx k)(hs:isSl slice=true)
  (q:(∃l,o=.tup l∧k.toNat≤l.length∧Q (.tup (l.take k.toNat)) st)∨∃l,lstOf st.sto o=some l∧fresh (l.take k.toNat) Q st):
  wpAny (model C.prog C.w) A (subscriptTail value slice x (.ref sl)) (LiftV C F T Q s) noE s:=by
 obtain⟨b,rfl⟩:=Int.eq_ofNat_of_zero_le hk.1
 simp only[Int.toNat_natCast]at q
 have hTs:s.TypeIs (.ref sl) "slice":=x1_2 hsl fun os hos hcs _=>⟨os,hos,hcs⟩
 rcases q with⟨l,rfl,q⟩|⟨l,e,q⟩
 .refine x2_1 (vr_tup' hx) fun a vs zE zR=>?_;subst zE;refine x0_3 zR fun nx h1 h2 h3=>?_
  have L:=h3.length
  refine tail_any h1.typeIs PySem.F.slot_tuple_getitem.lookup ?_ (subscripted_sl hs _ _)
  refine getItem_tuple_part (lo:=0) (n:=b) h1 hTs (fun B R E z=>sliceApplied_upto hsl (by rw[List.size_toArray];omega) z) (by rw[List.size_toArray];omega) (by rw[List.size_toArray, ←lineN_is];exact h2) (fun _ e=>?_) ?_
  .refine lift_here (tk:=s.toks) S hx ?_
   have:=q.2
   rw[List.take_of_length_le (by rw[List.size_toArray]at e;exact o16 L e)]at this
   exact this
  .have z:=S.newTup (h3.take b) (by rw[List.length_take];omega)
   exact⟨mu,_,st,⟨rfl,rfl,rfl⟩,z,q.2⟩
 .refine x3_1 (lst_of S e hx) fun a vs n zE zR=>?_;subst zE;refine x0_2 zR fun h1 h2 h3=>?_
  have hL:s.heap.IsList a vs.toArray:=⟨_,h1,rfl,n,rfl⟩
  refine tail_any hL.typeIs PySem.slot_list_getitem.lookup (wpAny_getItem_list_slice hL hsl .none (.int _ _) .none (by decide) ?_ (by rw[List.size_toArray, ←lineN_is];exact h2)) (subscripted_sl hs _ _)
  rw[PySem.slicePick_upto']
  have L:=h3.length
  exact fresh_sim (n:=0) (tk:=s.toks) S (h3.take b) (by rw[List.length_take];exact o17 h2 L) (fun _ _ e=>Heap.get?_push_of_some _ e) (by rw[Heap.size_push];exact o235) (Nat.le_refl _) (by simpa using Heap.get?_push_size _ rfl) q
theorem op_from{o:PV}{x:Value}{k:Int}{u:Tok}{sl:Addr}{value slice:Expr}(S:Sim C F mu T st s.heap)(hx:vr C F mu s.heap o x)(hsl:s.heap.IsSliceOf sl (.int k u) .none .none)(hk:okIdx k)(hs:isSl slice=true)
  (q:(∃l,o=.tup l∧k.toNat≤l.length∧Q (.tup (l.drop k.toNat)) st)∨∃l,lstOf st.sto o=some l∧fresh (l.drop k.toNat) Q st):
  wpAny (model C.prog C.w) A (subscriptTail value slice x (.ref sl)) (LiftV C F T Q s) noE s:=by
 obtain⟨b,rfl⟩:=Int.eq_ofNat_of_zero_le hk.1
 simp only[Int.toNat_natCast]at q
 have hTs:s.TypeIs (.ref sl) "slice":=x1_2 hsl fun os hos hcs _=>⟨os,hos,hcs⟩
 rcases q with⟨l,rfl,q⟩|⟨l,e,q⟩
 .refine x2_1 (vr_tup' hx) fun a vs zE zR=>?_;subst zE;refine x0_3 zR fun nx h1 h2 h3=>?_
  have L:=h3.length
  refine tail_any h1.typeIs PySem.F.slot_tuple_getitem.lookup ?_ (subscripted_sl hs _ _)
  refine getItem_tuple_part (lo:=b) (n:=vs.length-b) h1 hTs (fun B R E z=>?_) (by rw[List.size_toArray];omega) (by rw[List.size_toArray, ←lineN_is];exact h2) (fun e _=>?_) ?_
  .have:=sliceApplied_from (prog:=C.prog) (w:=C.w) (A:=B) (E:=E) (Q:=R) hsl (n:=vs.toArray.size) (by rw[List.size_toArray];omega) (by rw[List.size_toArray];exact z)
   exact this
  .subst e
   exact lift_here (tk:=s.toks) S hx (q.2)
  .have z:=S.newTup (h3.drop b) (by rw[List.length_drop];omega)
   refine⟨mu,_,st,⟨rfl,rfl,rfl⟩,?_,q.2⟩
   have e:List.take (vs.length-b) (List.drop b vs)=List.drop b vs:=List.take_of_length_le (by rw[List.length_drop];exact Nat.le_refl _)
   simpa [e]using z
 .refine x3_1 (lst_of S e hx) fun a vs n zE zR=>?_;subst zE;refine x0_2 zR fun h1 h2 h3=>?_
  have hL:s.heap.IsList a vs.toArray:=⟨_,h1,rfl,n,rfl⟩
  refine tail_any hL.typeIs PySem.slot_list_getitem.lookup (wpAny_getItem_list_slice hL hsl (.int _ _) .none .none (by decide) ?_ (by rw[List.size_toArray, ←lineN_is];exact h2)) (subscripted_sl hs _ _)
  rw[PySem.slicePick_from']
  have L:=h3.length
  exact fresh_sim (n:=0) (tk:=s.toks) S (h3.drop b) (by rw[List.length_drop];exact o18 h2 L) (fun _ _ e=>Heap.get?_push_of_some _ e) (by rw[Heap.size_push];exact o235) (Nat.le_refl _) (by simpa using Heap.get?_push_size _ rfl) q
end
end Mine.Internal
namespace Mine.Internal
open PySem PySem.W PyProof.Rows PySem.Calls
theorem key_is{e:DictEntry}{n m:Str}{t:Tok}(h:e.key=.str n t):e.key.isStr m=(n==m):=by rw[h];rfl
theorem fields_get:∀{ns:List Str}{es:List DictEntry}{vs:List Value}{k:Nat}{n:Str}{v:Value},ns.Nodup→FieldsOk ns es vs→ns[k]? =some n→vs[k]? =some v→
  ∃e,es.find? (·.key.isStr n)=some e∧e.val=v
 |[],[],[],k,n,v,_,_,e,_=>by exact nN e
 |[],e::es,vs,k,n,v,_,x,_,_=>by exact nomatch vs<;>exact x.elim
 |[],[],w::vs,k,n,v,_,x,_,_=>x.elim
 |m::ns,[],[],k,n,v,_,_,_,e=>by exact nN e
 |m::ns,[],w::vs,k,n,v,_,x,_,_=>x.elim
 |m::ns,e::es,[],k,n,v,_,x,_,_=>x.elim
 |m::ns,e::es,w::vs,k,n,v,hn,x,h1,h2=>by
  obtain⟨⟨t,hk⟩,hv,hr⟩:=x
  rw[List.nodup_cons]at hn
  cases k with
  |zero=>
   simp at h1 h2
   subst h1 h2
   exact⟨e,by rw[List.find?_cons,key_is hk,beq_self_eq_true],hv⟩
  |succ k=>
   simp at h1 h2
   have hne:m≠n:=fun q=>hn.1 (q▸List.mem_of_getElem? h1)
   refine x1_1 (fields_get hn.2 hr h1 h2) fun e' h3 h4=>?_
   exact⟨e',by rw[List.find?_cons,key_is hk,beq_eq_false_iff_ne.mpr hne];exact h3,h4⟩
theorem fields_idx:∀{ns:List Str}{es:List DictEntry}{vs:List Value}{k:Nat}{n:Str},ns.Nodup→FieldsOk ns es vs→ns[k]? =some n→k≤vs.length→
  es.findIdx? (·.key.isStr n)=if k<vs.length then some k else none
 |[],[],[],k,n,_,_,e,_=>by exact nN e
 |[],e::es,vs,k,n,_,x,_,_=>by exact nomatch vs<;>exact x.elim
 |[],[],w::vs,k,n,_,x,_,_=>x.elim
 |m::ns,[],[],k,n,_,_,_,e=>rfl
 |m::ns,[],w::vs,k,n,_,x,_,_=>x.elim
 |m::ns,e::es,[],k,n,_,x,_,_=>x.elim
 |m::ns,e::es,w::vs,k,n,hn,x,h1,h2=>by
  obtain⟨⟨t,hk⟩,hv,hr⟩:=x
  rw[List.nodup_cons]at hn
  cases k with
  |zero=>
   simp at h1
   subst h1
   simp[List.findIdx?_cons,key_is hk]
  |succ k=>
   simp at h1
   have hne:m≠n:=fun q=>hn.1 (q▸List.mem_of_getElem? h1)
   have:=fields_idx hn.2 hr h1 (Nat.le_of_succ_le_succ h2)
   rw[List.findIdx?_cons,key_is hk,beq_eq_false_iff_ne.mpr hne,this]
   simp only[Bool.false_eq_true,if_false,List.length_cons,Nat.add_lt_add_iff_right]
   split<;>rfl
theorem fields_set:∀{ns:List Str}{es:List DictEntry}{vs:List Value}{k:Nat}{v:Value},FieldsOk ns es vs→FieldsOk ns (es.modify k fun e=>{e with val:=v}) (vs.set k v)
 |[],[],[],k,v,x=>by simpa using x
 |[],e::es,vs,k,v,x=>by exact nomatch vs<;>exact x.elim
 |[],[],w::vs,k,v,x=>x.elim
 |m::ns,[],[],k,v,x=>by simpa using x
 |m::ns,[],w::vs,k,v,x=>x.elim
 |m::ns,e::es,[],k,v,x=>x.elim
 |m::ns,e::es,w::vs,k,v,x=>by
  refine x0_2 x fun hk hv hr=>?_
  cases k with
  |zero=>simp only[List.modify_zero_cons,List.set_cons_zero];exact⟨hk,rfl,hr⟩
  |succ k=>simp only[List.modify_succ_cons,List.set_cons_succ];exact⟨hk,hv,fields_set hr⟩
theorem fields_push:∀{ns:List Str}{es:List DictEntry}{vs:List Value}{n:Str}{v:Value}{h:Int}{t:Tok},FieldsOk ns es vs→ns[vs.length]? =some n→FieldsOk ns (es++[⟨h,.str n t,v⟩]) (vs++[v])
 |[],[],[],n,v,h,t,x,e=>by exact nN e
 |[],e::es,vs,n,v,h,t,x,_=>by exact nomatch vs<;>exact x.elim
 |[],[],w::vs,n,v,h,t,x,_=>x.elim
 |m::ns,[],[],n,v,h,t,x,e=>by
  simp at e;subst e
  exact⟨⟨t,rfl⟩,rfl,by cases ns<;>trivial⟩
 |m::ns,[],w::vs,n,v,h,t,x,_=>x.elim
 |m::ns,e::es,[],n,v,h,t,x,_=>x.elim
 |m::ns,e::es,w::vs,n,v,h,t,x,q=>by
  refine x0_2 x fun hk hv hr=>?_
  exact⟨hk,hv,fields_push hr (by simpa using q)⟩
theorem fields_strs:∀{ns:List Str}{es:List DictEntry}{vs:List Value},FieldsOk ns es vs→∀e∈es,e.refKey=false
 |[],[],[],_,e,he=>by exact nM he
 |[],e::es,vs,x,_,_=>by exact nomatch vs<;>exact x.elim
 |[],[],w::vs,x,_,_=>x.elim
 |m::ns,[],[],_,e,he=>by exact nM he
 |m::ns,[],w::vs,x,_,_=>x.elim
 |m::ns,e::es,[],x,_,_=>x.elim
 |m::ns,e::es,w::vs,x,e',he=>by
  obtain⟨⟨t,hk⟩,hv,hr⟩:=x
  rcases List.mem_cons.mp he with rfl|he
  .unfold DictEntry.refKey;rw[hk]
  .exact fields_strs hr e' he
theorem fields_len:∀{ns:List Str}{es:List DictEntry}{vs:List Value},FieldsOk ns es vs→es.length=vs.length
 |[],[],[],_=>rfl
 |[],e::es,vs,x=>by exact nomatch vs<;>exact x.elim
 |[],[],w::vs,x=>x.elim
 |m::ns,[],[],_=>rfl
 |m::ns,[],w::vs,x=>x.elim
 |m::ns,e::es,[],x=>x.elim
 |m::ns,e::es,w::vs,x=>by simp[fields_len x.2.2]
theorem fields_le:∀{ns:List Str}{es:List DictEntry}{vs:List Value},FieldsOk ns es vs→vs.length≤ns.length
 |_,[],[],_=>Nat.zero_le _
 |[],e::es,vs,x=>by exact nomatch vs<;>exact x.elim
 |[],[],w::vs,x=>x.elim
 |m::ns,[],w::vs,x=>x.elim
 |m::ns,e::es,[],x=>x.elim
 |m::ns,e::es,w::vs,x=>by simpa using fields_le x.2.2
theorem fields_few{C:Cx}{h:Heap}{a dx:Nat}{vs:List Value}(x:InstOf C h a dx vs):vs.length≤C.fields.length:=let⟨_,_,_,_,h3⟩:=x;fields_le h3
structure UnitOk(C:Cx):Prop where
 few:C.fields.length≤100
 nodup:C.fields.Nodup
 cls:∃cd,clsIn C.K C.cu=some cd∧cd.hasDict=true
 noattr:∀f∈C.fields,findIn C.K (.ref C.cu) f=some none
 notcopied:∀f∈C.fields,copiedNames.contains f=false
 ga:findIn C.K (.ref C.cu) "__getattribute__"=some (some (.builtin "object.__getattribute__"))
 sa:findIn C.K (.ref C.cu) "__setattr__"=some (some (.builtin "object.__setattr__"))
 plain:plainOver C.K C.cu=true
 makes:makesIn C.K C.cu=true
 init:findIn C.K (.ref C.cu) "__init__"=some (some (.ref (C.fa 0)))
 initfn:typeIn C.K (.ref (C.fa 0))=some (.type "function")
section
variable {C:Cx} {F:Frm} {A:Around} {mu:List (Nat×Nat)} {T:List (PV×Value)} {st:St} {s:Shared} {Q:PV→St→Prop}
theorem inst_at{a dx:Nat}{vs:List Value}{h:Heap}(x:InstOf C h a dx vs):∃od,InstAt h a (instObj C.cu dx) C.cu (some od)∧∃es n,od={cls:=.type "dict",data:=.dict es n}∧h.get? dx=some od∧FieldsOk C.fields es.toList vs:=by
 refine x0_1 x fun h1 zR=>x2_1 zR fun es n h2 h3=>?_
 exact⟨_,⟨h1,rfl,rfl,h2⟩,es,n,rfl,h2,h3⟩
theorem handed_of{p:PV}{v:Value}{h:Heap}(x:vr C F mu h p v):handedIn v=true:=by
 cases p with
 |none=>rw[vr_none' x];rfl
 |bool b=>rw[vr_bool' x];rfl
 |int i=>obtain⟨t,rfl⟩:=vr_int' x;rfl
 |str i=>obtain⟨t,rfl⟩:=vr_str' x;rfl
 |tup l=>refine x2_1 (vr_tup' x) fun a vs zE _=>?_;subst zE;rfl
 |list l=>refine x3_1 (vr_list' x) fun a vs n zE _=>?_;subst zE;rfl
 |dict ks l=>refine x2_1 (vr_dict' x) fun a vs zE _=>?_;subst zE;rfl
 |inst l=>refine x3_1 (vr_inst' x) fun a dx vs zE _=>?_;subst zE;rfl
 |ref i=>refine x1_1 (vr_ref' x) fun p _ zL=>?_;subst zL;rfl
 |fn n=>rw[vr_fn' x];rfl
theorem get_inst{a dx:Nat}{l:List PV}{vs:List Value}{k:Nat}{f:Str}{p:PV}(U:UnitOk C)(S:Sim C F mu T st s.heap)(hi:InstOf C s.heap a dx vs)(hr:VRels C (XS F.fx mu) s.heap mu l vs)
  (hf:C.fields[k]? =some f) (e:l[k]? =some p) (q:Q p st):wpAny (model C.prog C.w) A (getAttr (.ref a) f true) (LiftV C F T Q s) noE s:=by
 refine x1_1 (inst_at hi) fun od I zR=>x2_1 zR fun es n zE zR=>?_;subst zE;refine x0_1 zR fun hd hF=>?_
 refine x1_1 (hr.get e) fun v hv hx=>?_
 refine x1_1 (fields_get U.nodup hF hf hv) fun en h1 h2=>?_
 refine x1_1 U.cls fun cd hc hdict=>?_
 have hm:=List.mem_of_getElem? hf
 have hl:lookIn f {cls:=.type "dict",data:=.dict es n}=some (some v):=by unfold lookIn;simp only[h1,h2]
 refine get_value S.kin I U.ga ?_ (handed_of hx) (lift_here S hx q)
 unfold findObj
 rw[hc,Option.bind_some,U.noattr f hm,Option.bind_some]
 simp only[Option.bind_some]
 unfold W.ownOf
 rw[hdict,if_pos rfl]
 show(lookIn f _).bind _=_
 rw[hl]
 rfl
theorem op_attr{o p:PV}{x:Value}{k:Nat}{f:Str}(U:UnitOk C)(S:Sim C F mu T st s.heap)(hx:vr C F mu s.heap o x)(hf:C.fields[k]? =some f)(e:attrV st.sto o k=some p)(q:Q p st):
  wpAny (model C.prog C.w) A (getAttr x f true) (LiftV C F T Q s) noE s:=by
 cases o with
 |inst l=>
  refine x3_1 (vr_inst' hx) fun a dx vs zE zR=>?_;subst zE;refine x0_3 zR fun _ _ h1 h2=>?_
  exact get_inst U S h1 h2 hf e q
 |ref i=>
  refine x1_1 (vr_ref' hx) fun pp hp zL=>?_;subst zL
  refine x1_1 (op_some e) fun l hl e=>?_
  refine x1_1 (op_some hl) fun o hi hl=>?_
  obtain rfl:=oInst_is hl
  exact x1_1 (S.objs _ _ _ hi hp) fun vs h1 h2=>get_inst U S h1 h2 hf e q
 |_=>exact nN e
theorem put_fields{es:Array DictEntry}{n:Nat}{vs:List Value}{k:Nat}{f:Str}{v:Value}{h:Int}{t:Tok}(U:UnitOk C)(hF:FieldsOk C.fields es.toList vs)(hf:C.fields[k]? =some f)(hk:k≤vs.length):
  ∃es' n',Obj.putName f h (.str f t) v {cls:=.type "dict",data:=.dict es n}={cls:=.type "dict",data:=.dict es' n'}∧FieldsOk C.fields es'.toList (if k<vs.length then vs.set k v else vs++[v]):=by
 rw[Obj.putName_eq]
 unfold Obj.putNameByArray
 have hi:es.findIdx? (fun x=>x.key.isStr f)=if k<vs.length then some k else none:=by
  obtain⟨es⟩:=es
  rw[List.findIdx?_toArray]
  exact fields_idx U.nodup hF hf hk
 simp only
 rw[hi]
 by_cases hlt:k<vs.length
 .rw[if_pos hlt,if_pos hlt]
  refine⟨_,n,rfl,?_⟩
  simpa using fields_set hF
 .rw[if_neg hlt,if_neg hlt]
  obtain rfl:k=vs.length:=by exact Nat.le_antisymm hk (Nat.not_lt.mp hlt)
  refine⟨_,n+1,rfl,?_⟩
  simpa using fields_push hF hf
theorem set_inst0{a dx:Nat}{vs:List Value}{k:Nat}{f:Str}{v:Value}{R:Unit→Shared→Prop}(U:UnitOk C)(X:C.K.In s.heap)(hi:InstOf C s.heap a dx vs)(hf:C.fields[k]? =some f)(hk:k≤vs.length)(hl:vs.length≤100)
  (h:∀h' tk,Heap.SameBut dx s.heap h'→InstOf C h' a dx (if k<vs.length then vs.set k v else vs++[v])→R () {s with heap:=h',toks:=tk}):
  wpAny (model C.prog C.w) A (setAttr (.ref a) f v) R noE s:=by
 refine x1_1 (inst_at hi) fun od I zR=>x2_1 zR fun es n zE zR=>?_;subst zE;refine x0_1 zR fun hd hF=>?_
 refine x1_1 U.cls fun cd hc hdict=>?_
 have hm:=List.mem_of_getElem? hf
 refine set_plain X I U.sa ?_
 have ht:takerIn C.K C.cu f=some none:=by unfold takerIn;rw[U.noattr f hm];rfl
 refine osa_open (s:={s with toks:=s.toks+1}) X I U.plain ht fun b=>?_
 refine x2_1 (put_fields (n:=n) (v:=v) (h:=PyData.keyHash C.w.params f) (t:=s.toks+1) U hF hf hk) fun es' n' e1 e2=>?_
 have ne:a≠dx:=fun q=>by
  have h1:=hi.1
  rw[q,hd]at h1
  exact nomatch h1
 have hnew:(s.heap.update dx (Obj.putName f (PyData.keyHash C.w.params f) (.str f (s.toks+1)) v)).get? dx=some {cls:=.type "dict",data:=.dict es' n'}:=by
  rw[Heap.get?_update_self _ hd (by rw[e1];rfl),e1]
 refine wpAny_bind (wpAny_pure (wpAny_bind (wpAny_bind (wpAny_loadPart (I.at_) (wpAny_bind (looks_clsIn (h:=s.heap) X hc _ _ _ _ (fun _ _ e=>e) ?_))))))
 rw[hdict]
 refine wpAny_pure (a:=some dx) (wpAny_bind (wpAny_pure (wpAny_bind ?_)))
 refine wpAny_bind (wpAny_bind (wpAny_askSetting (wpAny_pure (wpAny_bind (wpAny_mkText (wpAny_bind (wpAny_loadPart hd ?_)))))))
 dsimp only
 have c:(!es.any (·.key.isStr f)&&es.any (·.refKey))=false:=by
  have:es.any (·.refKey)=false:=by
   rw[Array.any_eq_false']
   intro e he
   rw[fields_strs hF e (he.1)]
   simp
  rw[this,Bool.and_false]
 rw[aRefKeyMayBeTheName_at,c]
 refine wpAny_updatePart hd ?_
 refine wpAny_bind (wpAny_lookBehind hnew (pastItsLine_dict ?_) ?_)
 .have:=fields_len e2
  rw[Array.length_toList]at this
  rw[this,sizeLine_eq]
  split
  .simp;exact o236 hl
  .simp;exact Nat.le_trans hl (Nat.le_add_left _ _)
 .exact wpAny_pure (h _ _ (Heap.SameBut.update ..) ⟨(Heap.get?_update_other s.heap _ (Ne.symm ne)).trans hi.1,es',n',hnew,e2⟩)
theorem op_setAttr{i k:Nat}{f:Str}{p:PV}{x v:Value}{o o':SObj}{R:Unit→St→Prop}(U:UnitOk C)(S:Sim C F mu T st s.heap)(hx:vr C F mu s.heap (.ref i) x)(hv:vr C F mu s.heap p v)(hf:C.fields[k]? =some f)
  (ho:st.sto[i]? =some o) (e:putA o k p=some o') (q:R () (putSto st i o')):
  wpAny (model C.prog C.w) A (setAttr x f v) (LiftX C F T R s) noE s:=by
 refine x1_1 (vr_ref' hx) fun pp hp zL=>?_;subst zL
 unfold putA at e
 split at e
 .rename_i l
  refine x1_1 (S.objs _ _ _ ho hp) fun vs h1 h2=>?_
  have L:=h2.length
  have hk:k≤vs.length∧vs.length≤100:=by
   split at e
   .rename_i hlt
    have:=U.few
    have:=fields_few h1
    exact o19 L hlt (by assumption) this
   .split at e
    .exact o20 L (by assumption)
    .exact nN e
  refine set_inst0 U S.kin h1 hf hk.1 hk.2 fun h' tk hs hI=>?_
  refine⟨mu,_,⟨rfl,rfl,rfl⟩,S.upd hp (.inr rfl) hs fun mv=>?_,q⟩
  have h2':=h2.move mv fun _ _ e=>e
  have hv':=VRel.move mv (fun _ _ e=>e) hv
  split at e
  .rename_i hlt
   obtain rfl:=Option.some.inj e
   rw[if_pos (by exact Nat.le_trans hlt (Nat.le_of_eq L.symm))]at hI
   exact⟨_,hI,h2'.set hv'⟩
  .rename_i hlt
   split at e
   .obtain rfl:=Option.some.inj e
    rw[if_neg (by exact L▸hlt)]at hI
    exact⟨_,hI,h2'.append (.cons hv' .nil)⟩
   .exact nN e
 .exact nN e
end
end Mine.Internal
namespace Mine.Internal
open PySem PySem.W PyProof.Rows PySem.Calls
section
variable {C:Cx} {F:Frm} {A:Around} {mu:List (Nat×Nat)} {T:List (PV×Value)} {st:St} {s:Shared} {Q:PV→St→Prop}
theorem liftX_here{α:Type}{R:α→St→Prop}{b:α}{tk:Nat}(S:Sim C F mu T st s.heap)(q:R b st):LiftX C F T R s b {s with toks:=tk}:=⟨mu,st,⟨rfl,rfl,rfl⟩,S,q⟩
theorem list_upd(S:Sim C F mu T st s.heap){i:Nat}{p:Nat×Nat}{vs vs':List Value}{n:Nat}{l':List PV}{f:Array Value→Array Value}(hp:mu[i]? =some p)(ho:s.heap.get? p.1=some {cls:=.type "list",data:=.seq vs.toArray n})
  (h2:p.2=p.1) (he:f vs.toArray=vs'.toArray) (hr:VRels C (XS F.fx mu) s.heap mu l' vs') (hl:l'.length≤lineN):
  Sim C F mu T (putSto st i (.list l')) (s.heap.update p.1 (Obj.mapSeq f)):=by
 refine S.upd hp (.inl rfl) (Heap.SameBut.update ..) fun mv=>?_
 have q:=PySem.IsL.update ho f
 refine⟨h2,vs',_,by rw[he]at q;exact q,by rw[hr.length];exact hl,hr.move mv fun _ _ e=>e⟩
theorem typeIs_list{a:Nat}{vs:Array Value}{n:Nat}(ho:s.heap.get? a=some {cls:=.type "list",data:=.seq vs n}):s.TypeIs (.ref a) "list":=⟨_,ho,rfl⟩
theorem VRels.last{X:Nat→Prop}{h:Heap}{l:List PV}{vs:List Value}{p:PV}(x:VRels C X h mu l vs)(e:l.getLast?=some p):∃v,vs[vs.length-1]? =some v∧VRel C X h mu p v:=by
 rw[List.getLast?_eq_getElem?]at e
 rw[x.length]
 exact x.get e
noncomputable def Meth.id:Meth→String
 | .append=>"list.append"| .extend=>"list.extend"| .insert=>"list.insert"| .pop=>"list.pop"
theorem op_meth{m:Meth}{o:PV}{x:Value}{args:List PV}{vals:List Value}(S:Sim C F mu T st s.heap)(hx:vr C F mu s.heap o x)(ha:VRels C (XS F.fx mu) s.heap mu args vals)(q:methW m o args Q st):
  wpAny (model C.prog C.w) A (call (.builtin m.id) (x::vals)) (LiftV C F T Q s) noE s:=by
 obtain⟨i,l,rfl,hi,q⟩:=q
 .refine x1_1 (vr_ref' hx) fun p hp zL=>?_;subst zL
  .refine x0_1 (S.objs _ _ _ hi hp) fun h0 zR=>x2_2 zR fun vs n ho hl hr=>?_
   have L:=hr.length
   have hsz:vs.toArray.size≤sizeLine:=by rw[List.size_toArray, ←lineN_is];exact hl
   cases m with
   |append=>
    obtain⟨_,rfl,q⟩:=q
    refine x2_1 (vrs_cons' ha) fun v r zE zR=>?_;subst zE;refine x0_1 zR fun hv hrest=>?_
    obtain rfl:=vrs_nil' hrest
    refine append_at ho (fun h' hs ho'=>?_) hsz
    refine⟨mu,.none,_,⟨rfl,rfl,rfl⟩,Sim.add (S.upd hp (.inl rfl) hs fun mv=>?_) vr_none,q.2⟩
    exact⟨h0,vs++[v],n+1,by simpa using ho',by simp;omega,(hr.append (.cons hv .nil)).move mv fun _ _ e=>e⟩
   |extend=>
    obtain⟨_,r,rfl,e,hne,hlen,q⟩:=q
    refine x2_1 (vrs_cons' ha) fun v r zE zR=>?_;subst zE;refine x0_1 zR fun hv hrest=>?_
    obtain rfl:=vrs_nil' hrest
    obtain⟨b,ws,n2,rfl,hb,hb2,hbr⟩:=lst_of S e hv
    have L2:=hbr.length
    have hsz2:vs.toArray.size+ws.toArray.size≤sizeLine:=by rw[List.size_toArray,List.size_toArray, ←lineN_is];exact o21 L hlen L2
    refine call_meets PySem.F.slot_list_extend (typeIs_list ho) PySem.F.entry_list_extend (PySem.F.args_list_extend_2 _ _) (PySem.AutoSeq1.list_extend_list_list_0 p.1 vs.toArray n b ws.toArray n2 ?_ hsz (by exact Nat.le_succ_of_le hsz2)) ⟨ho,hb,?_⟩
    .unfold Builtin.List.listTooLong
     simp only[Bool.and_eq_true,decide_eq_true_eq,not_and,Bool.not_eq_true']
     intro _
     exact Nat.not_lt.mpr hsz2
    .exact⟨mu,.none,_,⟨rfl,rfl,rfl⟩,(list_upd S hp ho h0 (vs':=vs++ws) (List.append_toArray _ _) (hr.append hbr) (by simpa using hlen)).add vr_none,q⟩
   |insert=>
    obtain⟨_,rfl,q⟩:=q
    refine x2_1 (vrs_cons' ha) fun v0 r zE zR=>?_;subst zE;refine x0_1 zR fun hv0 hrest=>?_
    obtain⟨v,r,rfl,hv,hrest⟩:=vrs_cons' hrest
    obtain rfl:=vrs_nil' hrest
    obtain⟨t,rfl⟩:=vr_int' hv0
    refine call_meets PySem.F.slot_list_insert (typeIs_list ho) PySem.F.entry_list_insert (PySem.F.args_list_insert_3 _ _ _) (PySem.AutoSeq1.list_insert_list_int_val_1 p.1 vs.toArray n 0 t v (by decide) hsz) ⟨ho,?_⟩
    refine⟨mu,.none,_,⟨rfl,rfl,rfl⟩,(list_upd S hp ho h0 (vs':=v::vs) ?_ (.cons hv hr) (by simp;omega)).add vr_none,q.2⟩
    simp
   |pop=>
    rcases q with⟨w,rfl,e,q⟩|⟨w,rfl,e,q⟩
    .obtain rfl:=vrs_nil' ha
     refine x1_1 (hr.last e) fun v hv hw=>?_
     refine PyProof.Rows.Copied.pop_at ho (by simpa using hv) (fun h' hs ho'=>?_) hsz
     have S':=S.add hw
     refine⟨mu,w,_,⟨rfl,rfl,rfl⟩,S'.upd hp (.inl rfl) hs fun mv=>?_,q⟩
     refine⟨h0,vs.dropLast,n+1,ho',by simp;exact Nat.le_succ_of_le hsz,?_⟩
     have:=(hr.take (l.length-1)).move mv fun _ _ e=>e
     rw[←List.dropLast_eq_take, ←L, ←List.dropLast_eq_take]at this
     exact this
    .refine x2_1 (vrs_cons' ha) fun v0 r zE zR=>?_;subst zE;refine x0_1 zR fun hv0 hrest=>?_
     obtain rfl:=vrs_nil' hrest
     obtain⟨t,rfl⟩:=vr_int' hv0
     rw[List.head?_eq_getElem?]at e
     refine x1_1 (hr.get e) fun v hv hw=>?_
     have hpos:0<vs.length:=(List.getElem?_eq_some_iff.mp hv).1
     refine call_meets PySem.F.slot_list_pop (typeIs_list ho) PySem.F.entry_list_pop (PySem.F.args_list_pop_2 _ _) (PySem.MeetsSeq.list_pop_at p.1 vs.toArray n 0 t 0 v (by decide) ?_ (by simpa using hv) hsz) ⟨ho,?_⟩
     .exact op_sub.seq_at (k:=0) (Int.le_refl _) (by rw[List.size_toArray];exact hpos)
     .refine⟨mu,w,_,⟨rfl,rfl,rfl⟩,(list_upd S hp ho h0 (vs':=vs.tail) ?_ (by simpa using hr.drop 1) (by simp;exact o22 hl L)).add ?_,q⟩
      .cases vs with
       |nil=>simp at hpos
       |cons a r=>simp[Array.eraseIdxIfInBounds]
      .exact hw.move ⟨fun b o e nx=>(Heap.get?_update_other s.heap _ (fun z=>nx (z▸.inr ⟨p,List.mem_of_getElem? hp,.inl rfl⟩))).trans e,fun _ _ x=>x⟩ fun _ _ e=>e
theorem op_setItem{i:Nat}{k p:PV}{x y v:Value}{o o':SObj}{R:Unit→St→Prop}(hA:Room A 1)(S:Sim C F mu T st s.heap)(hx:vr C F mu s.heap (.ref i) x)(hy:vr C F mu s.heap k y)(hv:vr C F mu s.heap p v)
  (ho:st.sto[i]? =some o) (e:putV o k p=some o') (q:R () (putSto st i o')):
  wpAny (model C.prog C.w) A (setItem x y v) (LiftX C F T R s) noE s:=by
 refine x1_1 (vr_ref' hx) fun pp hp zL=>?_;subst zL
 cases o with
 |list l=>
  .replace e:=op_some e
   obtain⟨j,hj',e⟩:=e
   obtain⟨hj,e⟩:=if_some e
   replace hj:=of_decide_eq_true hj
   obtain rfl:=Option.some.inj e
   obtain rfl:=asInt_is hj'
   obtain⟨t,rfl⟩:=vr_int' hy
   refine x0_1 (S.objs _ _ _ ho hp) fun h0 zR=>x2_2 zR fun vs n h1 hl hr=>?_
   have L:=hr.length
   refine ki_setAt (n:=n) h1 hj.1 (line_fits hl (by exact o23 hj L)) (by rw[List.size_toArray];exact o237 hj L) ?_
   exact⟨mu,_,⟨rfl,rfl,rfl⟩,list_upd S hp h1 h0 (vs':=vs.set j.toNat v) (by simp) (hr.set hv) (by simp;exact L▸hl),q⟩
 |dict m=>
  .replace e:=op_some e
   obtain⟨j,hj',e⟩:=e
   obtain⟨hj,e⟩:=if_some e
   replace hj:=of_decide_eq_true hj
   obtain rfl:=Option.some.inj e
   obtain rfl:=asInt_is hj'
   obtain⟨t,rfl⟩:=vr_int' hy
   refine x0_2 (S.objs _ _ _ ho hp) fun h0 h1 zR=>x1_1 zR fun vs hr hd=>?_
   have L:=hr.length
   rw[List.length_map]at L
   refine wpAny_setItem_pairs (knd:=intKind C.prog C.w) (k:=j) (beq_self_eq_true _) hd (fun h' hd' hs=>?_) ?_
   .refine⟨mu,_,⟨rfl,rfl,rfl⟩,S.upd hp (.inl rfl) hs fun mv=>?_,q⟩
    refine⟨h0,h1,vs++[v],?_,?_⟩
    .have:=(hr.append (.cons hv .nil)).move mv fun _ _ e=>e
     simpa using this
    .have hno:((m.map Prod.fst).zip vs).any (fun kv=>decide (kv.1=j))=false:=by
      rw[List.any_eq_false]
      intro kv hkv
      have h3:=hj.2
      have:=(List.of_mem_zip hkv).1
      simp only[decide_eq_true_eq]
      intro z
      subst z
      rw[List.contains_eq_mem,decide_eq_false_iff_not]at h3
      exact h3 this
     unfold stored at hd'
     rw[hno]at hd'
     simp only[Bool.false_eq_true,if_false]at hd'
     have ez:(m.map Prod.fst++[j]).zip (vs++[v])=(m.map Prod.fst).zip vs++[(j,v)]:=by
      rw[List.zip_append (by rw[List.length_map];exact L.symm)]
      rfl
     simpa [ez]using hd'
   .rw[List.length_zip,List.length_map, ←lineN_is]
    omega
 |tdict m=>
  .replace e:=op_some e
   obtain⟨⟨y',j⟩,hj',e⟩:=e
   obtain⟨hj,e⟩:=if_some e
   replace hj:=of_decide_eq_true hj
   obtain rfl:=Option.some.inj e
   obtain rfl:=asKey_is hj'
   refine x0_2 (S.objs _ _ _ ho hp) fun h0 h1 zR=>x1_1 zR fun xs hr hd=>?_
   refine x1_1 (key_pair hy) fun a zE zR=>?_;subst zE;refine x0_1 zR fun nx hk=>?_
   have hu:(tKind C).room A.in1:=by show A.units+1<cLine;have:=hA.units;exact o10 this
   have hlen:∀{m:List ((Str×Int)×PV)}{xs},TRows C (XS F.fx mu) s.heap mu m xs→xs.length=m.length:=fun{m}=>by
    induction m with
    |nil=>intro xs x;obtain rfl:_=_:=x;rfl
    |cons q r ih=>intro xs x;obtain⟨⟨y,i⟩,p⟩:=q;refine x3_1 x fun a v r' zE zR=>?_;subst zE;refine x0_2 zR fun _ _ h3=>?_;simp[ih h3]
   have hnone:∀{m:List ((Str×Int)×PV)}{xs},TRows C (XS F.fx mu) s.heap mu m xs→lookT m (y',j)=none→atKey xs [.inr y',.inl j]=none:=fun{m}=>by
    induction m with
    |nil=>intro xs x _;obtain rfl:_=_:=x;rfl
    |cons q r ih=>
     intro xs x e
     obtain⟨⟨y,i⟩,p⟩:=q
     refine x3_1 x fun a v r' zE zR=>?_;subst zE;refine x0_2 zR fun _ _ h3=>?_
     unfold lookT at e
     rw[List.find?_cons]at e
     by_cases hk:(y,i)=(y',j)
     .rw[show(((y,i),p).1==(y',j))=true from beq_iff_eq.mpr hk]at e
      exact nS e
     .rw[show(((y,i),p).1==(y',j))=false from beq_eq_false_iff_ne.mpr hk]at e
      have h5:=ih h3 e
      unfold atKey at h5 ⊢
      rw[List.find?_cons]
      have:decide ([Sum.inr y,Sum.inl i]=([Sum.inr y',Sum.inl j]:List (Int ⊕ Str)))=false:=by
       apply decide_eq_false
       intro z
       apply hk
       simp only[List.cons.injEq,Sum.inr.injEq,Sum.inl.injEq,and_true]at z
       exact Prod.ext z.1 z.2
      simp only[this]
      exact h5
   refine wpAny_setItem_heap hu hk hd (fun h' hd' hs=>?_) ?_
   .refine⟨mu,_,⟨rfl,rfl,rfl⟩,S.upd hp (.inl rfl) hs fun mv=>?_,q⟩
    refine x3_5 (id hd) fun _ _ _ _ _ _ _ hkk _=>?_
    rw[storedH_new (hnone hr hj.2)]at hd'
    refine⟨h0,h1,_,?_,hd'⟩
    have hr':=TRows.move mv (fun _ _ e=>e) (fun x=>x∈xs) (fun x hx=>tupleKey_lt (hkk x hx)) (fun x hx=>hx) hr
    have happ:∀{m:List ((Str×Int)×PV)}{xs},TRows C (XS F.fx mu) h' mu m xs→TRows C (XS F.fx mu) h' mu (m++[((y',j),p)]) (xs++[([.inr y',.inl j],a,v)]):=fun{m}=>by
     induction m with
     |nil=>intro xs x;obtain rfl:_=_:=x;exact⟨a,v,[],rfl,nx,VRel.move mv (fun _ _ e=>e) hv,by rfl⟩
     |cons q r ih=>
      intro xs x
      obtain⟨⟨y,i⟩,p⟩:=q
      refine x3_1 x fun a' v' r' zE zR=>?_;subst zE;refine x0_2 zR fun h1 h2 h3=>?_
      rw[List.cons_append]
      exact⟨a',v',_,rfl,h1,h2,ih h3⟩
    exact happ hr'
   .rw[hlen hr, ←lineN_is];omega
 |inst l=>exact nN e
end
end Mine.Internal
namespace Mine.Internal
open PySem PySem.W PyProof.Rows PySem.Calls
section
variable {C:Cx} {F:Frm} {A:Around} {mu:List (Nat×Nat)} {T:List (PV×Value)} {st:St} {s:Shared} {Q:PV→St→Prop}
noncomputable def Bi.fn:Bi→Value
 | .len=>.builtin "len"| .abs=>.builtin "abs"| .int=>.type "int"| .list=>.type "list"| .all=>.builtin "all"| .repr=>.builtin "repr"| .str=>.type "str"
theorem lift_grow{pv:PV}{v:Value}{h':Heap}{tk:Nat}(S:Sim C F mu T st s.heap)(k:∀b o,s.heap.get? b=some o→h'.get? b=some o)(x:vr C F mu h' pv v)(q:Q pv st):LiftV C F T Q s v {s with heap:=h',toks:=tk}:=
 ⟨mu,pv,st,⟨rfl,rfl,rfl⟩,(S.grow k).add x,q⟩
theorem data_ref{h:Heap}{X:Nat→Prop}{sto:Sto}{p:PV}{v:Value}{d:PyData}(e:dataOf sto p=some d)(hd:isDisplay d=true)(x:VRel C X h mu p v):∃a,v=.ref a:=by
 cases p with
 |none=>obtain rfl:=Option.some.inj e;exact nF hd
 |bool b=>obtain rfl:=Option.some.inj e;exact nF hd
 |int b=>obtain rfl:=Option.some.inj e;exact nF hd
 |str b=>obtain rfl:=Option.some.inj e;exact nF hd
 |tup l=>refine x2_1 (vr_tup' x) fun a vs zE _=>?_;subst zE;exact⟨a,rfl⟩
 |list l=>refine x3_1 (vr_list' x) fun a vs n zE _=>?_;subst zE;exact⟨a,rfl⟩
 |dict ks l=>exact nN e
 |inst l=>exact nN e
 |ref i=>refine x1_1 (vr_ref' x) fun p _ zL=>?_;subst zL;exact⟨_,rfl⟩
 |fn n=>exact nN e
theorem bools_at{X:Nat→Prop}{h:Heap}:∀{l:List PV}{vs:List Value}{bs:List Bool},boolsOf l=some bs→VRels C X h mu l vs→vs=bs.map Value.bool
 |[],vs,bs,e,x=>by obtain rfl:=Option.some.inj e;exact vrs_nil' x
 |p::r,vs,ns,e,x=>by
  refine x1_1 (op_some e) fun i hi e=>?_
  refine x1_1 (Option.map_eq_some_iff.mp e) fun ms e1 zL=>?_;subst zL
  refine x2_1 (vrs_cons' x) fun v r' zE zR=>?_;subst zE;refine x0_1 zR fun h2 h3=>?_
  obtain rfl:=asBool_is hi
  rw[bools_at e1 h3,show v=.bool i from h2]
  rfl
theorem range_all(bs:List Bool):(List.range bs.length).all (fun i=>(bs[i]?).getD false)=bs.all id:=by
 have:((List.range bs.length).map fun i=>(bs[i]?).getD false)=bs:=by
  apply List.ext_getElem
  .simp
  .intro i h1 h2
   simp at h1
   simp[h1]
 conv=>rhs;rw[←this]
 rw[List.all_map]
 rfl
theorem op_all{l:Nat}{vs:List Value}{bs:List Bool}{n:Nat}(hA:Room A 1)(S:Sim C F mu T st s.heap)(h1:s.heap.get? l=some {cls:=.type "list",data:=.seq vs.toArray n})(e:vs=bs.map Value.bool)(q:Q (.bool (bs.all id)) st):
  wpAny (model C.prog C.w) A (call (.builtin "all") [.ref l]) (LiftV C F T Q s) noE s:=by
 have hl:l<s.heap.objs.size:=Heap.lt_size h1
 have hL:s.heap.IsList l vs.toArray:=⟨_,h1,rfl,n,rfl⟩
 refine call_all_walk (wpAny_pyIter_list hL ?_)
 refine⟨s.heap.objs.size,_,_,_,_,_,fun i=>(bs[i]?).getD false,rfl,Walks.list (prog:=C.prog) (w:=C.w) (A:=A.in1) hA.handled s.heap.objs.size l (Nat.ne_of_lt hl) vs.toArray,?_,?_,fun h' tk hk=>?_⟩
 .exact⟨⟨_,Heap.get?_push_size _ rfl,rfl,rfl⟩,⟨_,Heap.get?_push_of_some _ h1,rfl,n,rfl⟩⟩
 .intro i v s' R E hv hR
  subst e
  simp only[List.getElem?_toArray,List.getElem?_map,Option.map_eq_some_iff]at hv
  refine x1_1 hv fun b hb zL=>?_;subst zL
  refine wpAny_pure (a:=b) ?_
  have:(bs[i]?).getD false=b:=by rw[hb];rfl
  exact this▸hR
 .have e2:vs.toArray.size=bs.length:=by subst e;simp
  rw[e2,range_all]
  refine lift_grow S (fun b o eb=>hk b o ?_ (Heap.get?_push_of_some _ eb)) vr_bool q
  simp only[List.mem_singleton]
  exact Nat.ne_of_lt (Heap.lt_size eb)
theorem lenV_is{sto:Sto}{p:PV}{n:Nat}(e:lenV sto p=some n):(∃l,p=.tup l∧n=l.length)∨∃l,lstOf sto p=some l∧l.length=n:=by
 cases p with
 |tup l=>exact .inl ⟨l,rfl,(Option.some.inj e).symm⟩
 |_=>exact .inr (Option.map_eq_some_iff.mp e)
theorem op_bi{b:Bi}{a:PV}{x:Value}(hA:Room A 1)(S:Sim C F mu T st s.heap)(hx:vr C F mu s.heap a x)(q:biW b a Q st):
  wpAny (model C.prog C.w) A (call b.fn [x]) (LiftV C F T Q s) noE s:=by
 cases b with
 |len=>
  refine x1_1 q fun n e q=>?_
  rcases lenV_is e with⟨l,rfl,rfl⟩|⟨l,e1,zL⟩
  .refine x2_1 (vr_tup' hx) fun a vs zE zR=>?_;subst zE;refine x0_3 zR fun _ h1 h2 h3=>?_
   have L:=h3.length
   refine PyProof.Rows.len_tuple h1 (by rw[List.size_toArray];unfold lineN at h2;omega) ?_
   rw[List.size_toArray,L]
   exact lift_here S vr_int q
  .subst zL
   refine x3_1 (lst_of S e1 hx) fun a vs n zE zR=>?_;subst zE;refine x0_2 zR fun h1 h2 h3=>?_
   have L:=h3.length
   refine call_len_list ⟨_,h1,rfl,n,rfl⟩ (by rw[List.size_toArray];unfold lineN at h2;omega) ?_
   rw[List.size_toArray,L]
   exact lift_here S vr_int q
 |abs=>
  obtain⟨i,rfl,q⟩:=q
  obtain⟨t,rfl⟩:=vr_int' hx
  exact call_abs_int fun u tk=>lift_here S vr_int q
 |int=>
  obtain⟨i,rfl,q⟩:=q
  obtain⟨t,rfl⟩:=vr_int' hx
  exact call_int_int (lift_here (tk:=s.toks) S vr_int q)
 |list=>
  refine x1_1 q fun l e q=>?_
  refine x3_1 (lst_of S e hx) fun a vs n zE zR=>?_;subst zE;refine x0_2 zR fun h1 h2 h3=>?_
  have L:=h3.length
  refine call_list_seq a (.inl rfl) h1 rfl rfl (fun h' c' k hg=>?_) (by rw[List.size_toArray, ←lineN_is];exact h2)
  exact fresh_sim S h3 (by exact L▸h2) k (Nat.le_of_lt (Heap.lt_size hg)) (Nat.le_refl _) hg q
 |all=>
  refine x2_1 q fun l bs zE zR=>?_;subst zE;refine x0_1 zR fun e q=>?_
  refine x3_1 (vr_list' hx) fun a vs n zE zR=>?_;subst zE;refine x0_3 zR fun _ h1 h2 h3=>?_
  exact op_all hA S h1 (bools_at e h3) q
 |repr=>
  refine x1_6 q fun d e h1 h2 h3 h4 h5 q=>?_
  obtain⟨a,rfl⟩:=data_ref e h5 hx
  obtain⟨as,r⟩:=reads_data S e hx
  refine repr_of_reads' r h1 (fun z=>by rw[h4]at z;contradiction) hA.guards ?_ (fun _ _ e=>e) (fun h' u tk k=>lift_grow S k vr_str q) (by rw[←lineN_is];exact h3)
  have:=hA.units;exact o24 h2 this
 |str=>
  refine x1_6 q fun d e h1 h2 h3 h4 h5 q=>?_
  obtain⟨a,rfl⟩:=data_ref e h5 hx
  obtain⟨as,r⟩:=reads_data S e hx
  refine str_of_reads r h1 (fun z=>by rw[h4]at z;contradiction) hA.guards ?_ (fun _ _ e=>e) (fun h' u tk k=>lift_grow S k vr_str q) (by rw[←lineN_is];exact h3)
  have:=hA.units;exact o25 h2 this
end
end Mine.Internal
namespace Mine.Internal
open PySem PySem.W PyProof.Rows PySem.Calls
mutual
noncomputable def wpA(C:Cx)(d:Nat):PT→PV→(St→Prop)→St→Prop
 | .var x,v,Q,st=>Q ⟨st.rho.set x (some v),st.sto⟩
 | .tup ts,v,Q,st=>∃vs,v=.tup vs∧vs.length=ts.length∧wpAs C d ts vs Q st
 | .attr o k,v,Q,st=>wpE C d o (fun o st=>∃i ob ob',o=.ref i∧st.sto[i]? =some ob∧putA ob k v=some ob'∧Q (putSto st i ob')) st
 | .sub o i,v,Q,st=>wpE C d o (fun o st=>wpE C d i (fun i st=>∃j ob ob',o=.ref j∧st.sto[j]? =some ob∧putV ob i v=some ob'∧Q (putSto st j ob')) st) st
noncomputable def wpAs(C:Cx)(d:Nat):List PT→List PV→(St→Prop)→St→Prop
 |[],_,Q,st=>Q st
 |t::ts,vs,Q,st=>∃v r,vs=v::r∧wpA C d t v (fun st=>wpAs C d ts r Q st) st
end
mutual
noncomputable def wpS(C:Cx)(d:Nat):PS→(Out→St→Prop)→St→Prop
 | .assign t e,Q,st=>wpE C d e (fun v st=>wpA C d t v (fun st=>Q .next st) st) st
 | .expr e,Q,st=>wpE C d e (fun _ st=>Q .next st) st
 | .ite t a b,Q,st=>wpT C d t (fun z st=>(z=true→wpSs C d a Q st)∧(z=false→wpSs C d b Q st)) st
 | .for_ t src body,Q,st=>wpI C d src (fun src st=>∃I:Nat→St→Prop,I 0 st∧
   (∀k x st,src.items[k]? =some x→I k st→src.ok st.sto∧wpA C d t x (fun st=>wpSs C d body (fun o st=>match o with
    | .next=>I (k+1) st
    | .cont=>I (k+1) st
    | .brk=>Q .next st
    | .ret v=>Q (.ret v) st) st) st)∧
   (∀st,I src.items.length st→src.ok st.sto∧Q .next st)) st
 | .while_ t body,Q,st=>∃(I:Nat→St→Prop) (n:Nat),I n st∧∀n st,I n st→wpT C d t (fun z st=>(z=true→wpSs C d body (fun o st=>match o with
    | .next=>∃m,m<n∧I m st
    | .cont=>∃m,m<n∧I m st
    | .brk=>Q .next st
    | .ret v=>Q (.ret v) st) st)∧(z=false→Q .next st)) st
 | .ret e,Q,st=>wpE C d e (fun v st=>Q (.ret v) st) st
 | .brk,Q,st=>Q .brk st
 | .cont,Q,st=>Q .cont st
 | .raise,_,_=>False
 | .try_ body,Q,st=>wpSs C d body Q st
noncomputable def wpSs(C:Cx)(d:Nat):List PS→(Out→St→Prop)→St→Prop
 |[],Q,st=>Q .next st
 |p::r,Q,st=>wpS C d p (fun o st=>match o with
  | .next=>wpSs C d r Q st
  |o=>Q o st) st
end
inductive GV where
 |val (p:PV)
 |fn (n:Nat)
 |unit
 |bi (b:Bi)
 |isinst
 |ty (t:String)
 |range
 |enum
noncomputable def tyOf:GV→Option String
 | .ty t=>some t
 | .bi .int=>some "int"
 | .bi .str=>some "str"
 |_=>none
structure CC where
 names:List (Str×NameKind)
 slots:List Str
 glob:List (Str×GV)
 fields:List Str
 wr:Bool
noncomputable def idxS(x:Str):List Str→Option Nat
 |[]=>none
 |y::r=>if y==x then some 0 else(idxS x r).map (· +1)
noncomputable def CC.isVar(c:CC)(x:Str):Bool:=match c.names.lookup x with
 |some .local=>true
 |some .cell=>true
 |some .free=>x != "__classdict__"
 |_=>false
noncomputable def CC.var(c:CC)(x:Str):Option Nat:=if c.isVar x&&x != "__debug__" then idxS x c.slots else none
noncomputable def CC.isGlob(c:CC)(x:Str):Bool:=match c.names.lookup x with
 |some .globalImplicit=>true
 |_=>false
noncomputable def CC.gv(c:CC)(x:Str):Option GV:=if c.isGlob x&&x != "__debug__" then c.glob.lookup x else none
noncomputable def bad:PE:=.bi .abs (.lit .none)
noncomputable def bopOf:Operator→Option Bop
 | .Add=>some .add| .Sub=>some .sub| .Mult=>some .mul| .FloorDiv=>some .fdiv| .Mod=>some .mod
 |_=>none
noncomputable def copOf:CmpOp→Cop
 | .Eq=>.eq| .NotEq=>.ne| .Lt=>.lt| .LtE=>.le| .Gt=>.gt| .GtE=>.ge| .Is=>.is| .IsNot=>.isNot| .In=>.isIn| .NotIn=>.notIn
noncomputable def methOf(x:Str):Option Meth:=if x== "append" then some .append else if x== "extend" then some .extend else if x== "insert" then some .insert else if x== "pop" then some .pop else none
noncomputable def plainE:Expr→Bool
 | .Starred .. =>false
 |_=>true
noncomputable def isSet:Expr→Bool
 | .Set .. =>true
 |_=>false
noncomputable def calm:Expr→Bool
 | .Call .. =>false
 |_=>true
noncomputable def relabelN(c:CC)(names:List (Str×NameKind)):List (Str×NameKind):=
 names.map fun(n,k)=>if(k==.free&&true&&c.names.lookup n==some .cell)then(n,.cell)else(n,k)
noncomputable def freesOf(names:List (Str×NameKind)):List Str:=(names.filter fun p=>p.2==.free).map Prod.fst
noncomputable def idxAll(l:List Str):List Str→Option (List Nat)
 |[]=>some []
 |x::r=>match idxS x l,idxAll l r with
  |some i,some is=>some (i::is)
  |_,_=>none
noncomputable def compOk(c:CC)(scope:Scope)(x:Str):Bool:=
 scope.names.all (fun p=>p.2 != .cell)&&scope.kind==.function&&scope.names.all (fun p=>p.2 != .local||scope.names.lookup p.1==some .local)&&scope.names.lookup x==some .local
 &&(scope.names.all fun p=>p.2 != .free||(c.isVar p.1&&c.names.lookup p.1 != some .local))&&(scope.names.all fun p=>p.2 != .free||scope.names.lookup p.1==some .free)&&decide (freesOf scope.names).Nodup&& !(freesOf scope.names).contains x
noncomputable def cIN(f:Expr→PE)(z:PI)(g:GV)(args:List Expr):PI:=match g with
 | .range=>(match args with
  |[b]=>ifP (plainE b) (.range1 (f b)) (.val bad)
  |[a,b]=>ifP (plainE a&&plainE b) (.range2 (f a) (f b)) (.val bad)
  |_=>z)
 | .enum=>(match args with
  |[a]=>ifP (plainE a) (.enum (f a)) (.val bad)
  |_=>z)
 |_=>z
noncomputable def callOf(e:Expr):Option (Str×List Expr):=match e with
 | .Call f args kws _=>(match f with
  | .Name g _=>(match kws with
   |[]=>some (g,args)
   |_=>none)
  |_=>none)
 |_=>none
noncomputable def cI(f:Expr→PE)(c:CC)(e:Expr):PI:=opP (callOf e) (.val (f e)) fun q=>opP (c.var q.1) (opP (c.gv q.1) (.val (f e)) fun g=>cIN f (.val (f e)) g q.2) fun _=>.val (f e)
noncomputable def isEnumPI:PI→Bool
 | .enum _=>true
 |_=>false
noncomputable def isTupX:Expr→Bool
 | .Tuple .. =>true
 |_=>false
noncomputable def nameOf:Expr→Option (Str×Pos)
 | .Name y p=>some (y,p)
 |_=>none
noncomputable def compPart(g:Comprehension):Option (Str×Expr×List Expr):=opP (nameOf g.target) none fun q=>ifP (g.is_async==0) (some (q.1,g.iter,g.ifs)) none
noncomputable def compParts:List Comprehension→Option (Str×Expr×List Expr)
 |[g]=>compPart g
 |_=>none
noncomputable def cNameG:GV→PE
 | .val p=>.lit p
 | .fn f=>.lit (.fn f)
 |_=>bad
noncomputable def cConst:Const→PE
 | .int i=>.lit (.int i)
 | .str x=>.lit (.str x)
 | .bool b=>.lit (.bool b)
 | .none=>.lit .none
 |_=>bad
noncomputable def cUn:UnaryOp→PE→PE
 | .Not,x=>.not x
 |_,_=>bad
noncomputable def cBool:BoolOp→List PE→PE
 | .And,l=>.and l
 | .Or,l=>.or l
noncomputable def cDict:List (Option PE)→List PE→PE
 |[],[]=>.dict0
 |[some k],[v]=>.dict1 k v
 |_,_=>bad
noncomputable def cCallG(F:Expr→PE)(c:CC)(g:GV)(args:List Expr):PE:=match g with
 | .fn g=>ifP (!args.isEmpty&&args.all plainE) (.call g (args.map F)) bad
 | .unit=>ifP (!args.isEmpty&&args.all plainE) (.unit (args.map F)) bad
 | .bi b=>(match args with
  |[a]=>ifP (plainE a) (.bi b (F a)) bad
  |_=>bad)
 | .isinst=>(match args with
  |[a,t]=>opP (nameOf t) bad fun q=>opP (c.gv q.1) bad fun g=>opP (tyOf g) bad fun T=>ifP (plainE a) (.isinst T (F a)) bad
  |_=>bad)
 |_=>bad
noncomputable def cCall(F:Expr→PE)(c:CC)(f:Expr)(args:List Expr)(kws:List Keyword)(pos:Pos):PE:=match kws with
 |[]=>(match f with
  | .Name x _=>opP (c.var x) (opP (c.gv x) bad fun g=>cCallG F c g args) fun i=>ifP (!args.isEmpty&&args.all plainE) (.callv i (args.map F)) bad
  | .Attribute o m ap=>opP (methOf m) bad fun m=>ifP (args.all plainE&&calm o&&(ap.endLine==pos.line)&&decide (args.length<5)) (.meth m (F o) (args.map F)) bad
  |_=>bad)
 |_=>bad
noncomputable def cSub(F:Expr→PE)(o i:Expr):PE:=match i with
 | .Slice lo hi stp _=>(match lo,hi,stp with
  |none,some hi,none=>.upto (F o) (F hi)
  |some lo,none,none=>.from_ (F o) (F lo)
  |_,_,_=>bad)
 |i=>.sub (F o) (F i)
noncomputable def cE:Nat→CC→Expr→PE
 |0,_,_=>bad
 |n+1,c,e=>match e with
  | .Name x _=>opP (c.var x) (opP (c.gv x) bad cNameG) .var
  | .Constant k _ _=>cConst k
  | .BinOp l op r _=>opP (bopOf op) bad fun o=>.bin o (cE n c l) (cE n c r)
  | .UnaryOp op x _=>cUn op (cE n c x)
  | .BoolOp op l _=>ifP (!l.isEmpty) (cBool op (l.map (cE n c))) bad
  | .IfExp t a b _=>.ife (cE n c t) (cE n c a) (cE n c b)
  | .Compare l ops rs _=>ifP (ops.length==rs.length&& !ops.isEmpty&&rs.all (fun r=> !isSet r)) (.chain (cE n c l) ((ops.map copOf).zip (rs.map (cE n c)))) bad
  | .Tuple l _ _=>ifP (l.all plainE&&decide (l.length≤100)) (.tup (l.map (cE n c))) bad
  | .List l _=>ifP (l.all plainE&&decide (l.length≤100)) (.list (l.map (cE n c))) bad
  | .Dict ks vs _=>cDict (ks.map (Option.map (cE n c))) (vs.map (cE n c))
  | .Call f args kws pos=>cCall (cE n c) c f args kws pos
  | .Attribute o x _=>opP (idxS x c.fields) bad fun k=>ifP (calm o) (.attr (cE n c o) k) bad
  | .Subscript o i _=>cSub (cE n c) o i
  | .ListComp elt gens scope _=>opP (compParts gens) bad fun q=>opP (idxAll c.slots (freesOf scope.names)) bad fun caps=>
    ifP (compOk c scope q.1&& !isSet q.2.1&& !isEnumPI (cI (cE n c) c q.2.1))
     (.comp (cE n ⟨relabelN c scope.names,q.1::freesOf scope.names,c.glob,c.fields,false⟩ elt) (cI (cE n c) c q.2.1) (q.2.2.map (cE n ⟨relabelN c scope.names,q.1::freesOf scope.names,c.glob,c.fields,false⟩)) caps) bad
  |_=>bad
noncomputable def CC.canStore(c:CC)(x:Str):Bool:=match c.names.lookup x with
 |some .local=>true
 |some .cell=>c.wr
 |_=>false
noncomputable def cT:Nat→CC→Expr→Option PT
 |0,_,_=>none
 |n+1,c,e=>match e with
  | .Name x _=>ifP (c.canStore x) ((c.var x).map .var) none
  | .Tuple l _ _=>ifP (l.all plainE&&decide (l.length≤100)) ((l.mapM (cT n c)).map .tup) none
  | .Attribute o x _=>opP (idxS x c.fields) none fun k=>ifP (calm o) (some (.attr (cE n c o) k)) none
  | .Subscript o i _=>ifP (notSlice i) (some (.sub (cE n c o) (cE n c i))) none
  |_=>none
noncomputable def isComp:Expr→Bool
 | .ListComp .. =>true
 | .SetComp .. =>true
 | .DictComp .. =>true
 |_=>false
noncomputable def localAt(c:CC)(line:Nat):Expr→Option Str
 | .Name id pos=>if c.names.lookup id==some .local&&pos.line==line then some id else none
 |_=>none
noncomputable def hasStar(vs:List Expr):Bool:=vs.any fun
 | .Starred .. =>true
 |_=>false
noncomputable def swp(c:CC)(ts vs:List Expr):Option (Option (List Str)):=
 if !(ts.length==2||ts.length==3)||vs.length != ts.length then some none
 else if hasStar vs then some none
 else
  let names:=ts.filterMap (localAt c ((ts.head?.map (·.pos.line)).getD 0))
  if names.length != ts.length||names.eraseDups.length != names.length then some none
  else if vs.all (foldedForSure 8)then some none
  else if vs.all (constantsAlone 8)then none
  else some (some names)
noncomputable def storeIdx(c:CC)(x:Str):Option Nat:=if c.canStore x then c.var x else none
noncomputable def tupOf:Expr→Option (List Expr)
 | .Tuple l _ _=>some l
 |_=>none
noncomputable def isAttr:Expr→Bool
 | .Attribute .. =>true
 |_=>false
noncomputable def scopeOf:Expr→Option Scope
 | .ListComp _ _ s _=>some s
 |_=>none
noncomputable def usedOk(c:CC)(y:Str)(yp:Pos)(v:Expr)(scope:Scope):Bool:=c.names.lookup y==some .local&&yp.line==v.pos.line&& !(scope.names.any fun p=>p.1==y&&(p.2==.local||p.2==.cell))
noncomputable def cAsC(c:CC)(t v:Expr):Bool:=opP (nameOf t) (isAttr t) fun q=>opP (scopeOf v) false (usedOk c q.1 q.2 v)
noncomputable def cSwap(pe:PE)(pt:PT)(c:CC):Option (List Str)→PS
 |none=>.assign pt pe
 |some names=>opP (names.mapM (storeIdx c)) .raise fun is=>ifP (decide is.Nodup) (.assign (.tup (is.map .var)) pe) .raise
noncomputable def cAsN(pe:PE)(pt:PT)(c:CC)(t v:Expr):PS:=opP (tupOf t) (.assign pt pe) fun ts=>opP (tupOf v) (.assign pt pe) fun vs=>opP (swp c ts vs) .raise (cSwap pe pt c)
noncomputable def cAssign(pe:PE)(opt:Option PT)(c:CC)(t v:Expr):PS:=opP opt .raise fun pt=>ifP (isComp v) (ifP (cAsC c t v) (.assign pt pe) .raise) (cAsN pe pt c t v)
noncomputable def cS:Nat→CC→Stmt→PS
 |0,_,_=>.raise
 |n+1,c,s=>match s with
  | .Assign ts v _=>(match ts with
   |[t]=>ifP (plainE t) (cAssign (cE n c v) (cT n c t) c t v) .raise
   |_=>.raise)
  | .Expr e _=>ifP (isComp e) .raise (.expr (cE n c e))
  | .If t a b _=>.ite (cE n c t) (a.map (cS n c)) (b.map (cS n c))
  | .For t iter body els _=>(match els with
   |[]=>opP (cT n c t) .raise fun pt=>ifP (!isSet iter&&(!isEnumPI (cI (cE n c) c iter)||isTupX t)) (.for_ pt (cI (cE n c) c iter) (body.map (cS n c))) .raise
   |_=>.raise)
  | .While t body els _=>(match els with
   |[]=>.while_ (cE n c t) (body.map (cS n c))
   |_=>.raise)
  | .Return e _=>(match e with
   |some e=>.ret (cE n c e)
   |none=>.ret (.lit .none))
  | .Break _=>.brk
  | .Continue _=>.cont
  | .Try body hs els fin _=>(match hs,els,fin with
   |_::_,[],[]=>.try_ (body.map (cS n c))
   |_,_,_=>.raise)
  |_=>.raise
end Mine.Internal
namespace Mine.Internal
open PySem PySem.W PyProof.Rows PySem.Calls
noncomputable def TopV(C:Cx)(p:PV)(v:Value):Prop:=∀h:Heap,C.K.In h→VRel C (fun a=>C.K.lookup a=none) h [] p v
noncomputable def GlobV(C:Cx)(x:Str):GV→Prop
 | .val p=>∃v,nsIn C.K mainGlobals x=some (some v)∧TopV C p v
 | .fn n=>nsIn C.K mainGlobals x=some (some (.ref (C.fa n)))
 | .unit=>nsIn C.K mainGlobals x=some (some (.ref C.cu))
 | .bi b=>nsIn C.K mainGlobals x=some none∧x≠ "__name__"∧bootBuiltins x=some b.fn
 | .isinst=>nsIn C.K mainGlobals x=some none∧x≠ "__name__"∧bootBuiltins x=some (.builtin "isinstance")
 | .ty T=>nsIn C.K mainGlobals x=some none∧x≠ "__name__"∧bootBuiltins x=some (.type T)
 | .range=>nsIn C.K mainGlobals x=some none∧x≠ "__name__"∧bootBuiltins x=some (.type "range")
 | .enum=>nsIn C.K mainGlobals x=some none∧x≠ "__name__"∧bootBuiltins x=some (.type "enumerate")
structure CxOk(C:Cx)(glob:List (Str×GV)):Prop where
 unit:UnitOk C
 glob:∀x g,glob.lookup x=some g→GlobV C x g
 fns:∀n,∃o fd,C.K.lookup (C.fa n)=some o∧o.data=.func fd
 keepU:keepIn C.K (.ref C.cu)=true
structure EnvC(C:Cx)(F:Frm)(c:CC):Prop where
 names:F.env.scope.names=c.names
 slots:F.slots=c.slots
 fields:C.fields=c.fields
 wr:c.wr=true→F.wr=true
 ok:CxOk C c.glob
noncomputable def SndE(C:Cx)(c:CC)(e:Expr)(pe:PE):Prop:=∀(F:Frm),EnvC C F c→∀(A:Around)(d:Nat)(s:Shared)(mu:List (Nat×Nat))(T:List (PV×Value))(st:St)(Q:PV→St→Prop),Room A d→1≤d→Sim C F mu T st s.heap→
 wpE C d pe Q st→wpAny (model C.prog C.w) A (eval e F.env) (LiftV C F T Q s) noE s
noncomputable def SndT(C:Cx)(c:CC)(e:Expr)(pe:PE):Prop:=∀(F:Frm),EnvC C F c→∀(A:Around)(d:Nat)(s:Shared)(mu:List (Nat×Nat))(T:List (PV×Value))(st:St)(Q:Bool→St→Prop),Room A d→1≤d→Sim C F mu T st s.heap→
 wpT C d pe Q st→wpAny (model C.prog C.w) A (isTrue e F.env (eval e F.env)) (LiftX C F T Q s) noE s
noncomputable def LiftB(C:Cx)(F:Frm)(T:List (PV×Value))(Q:Bool→St→Prop)(s:Shared)(v:Value)(s':Shared):Prop:=∃b,v=.bool b∧LiftX C F T Q s b s'
noncomputable def SndB(C:Cx)(c:CC)(e:Expr)(pe:PE):Prop:=∀(F:Frm),EnvC C F c→∀(A:Around)(d:Nat)(s:Shared)(mu:List (Nat×Nat))(T:List (PV×Value))(st:St)(Q:Bool→St→Prop),Room A d→1≤d→Sim C F mu T st s.heap→
 wpT C d pe Q st→wpAny (model C.prog C.w) A (eval e F.env) (LiftB C F T Q s) noE s
structure Snd(C:Cx)(c:CC)(e:Expr)(pe:PE):Prop where
 E:SndE C c e pe
 T:SndT C c e pe
 B:SndB C c e pe
section
variable {C:Cx} {F:Frm} {c:CC} {A:Around} {d:Nat} {mu:List (Nat×Nat)} {T:List (PV×Value)} {st:St} {s:Shared} {Q:PV→St→Prop}
theorem Room.one{A:Around}{d:Nat}(r:Room A d)(h:1≤d):Room A 1:=r.mono h
theorem thenV{m:Sem Value}{R:Value→Shared→Prop}(x:wpAny (model C.prog C.w) A m (LiftV C F T Q s) noE s)
  (k:∀a s₁ mu₁ pa st₁,Same s s₁→Sim C F mu₁ ((pa,a)::T) st₁ s₁.heap→Q pa st₁→R a s₁):wpAny (model C.prog C.w) A m R noE s:=
 wpAny_mono x (fun a s₁ h=>x3_2 h (k a s₁)) (fun _ _ h=>h)
theorem thenX{α:Type}{m:Sem α}{R:α→Shared→Prop}{Q:α→St→Prop}(x:wpAny (model C.prog C.w) A m (LiftX C F T Q s) noE s)
  (k:∀a s₁ mu₁ st₁,Same s s₁→Sim C F mu₁ T st₁ s₁.heap→Q a st₁→R a s₁):wpAny (model C.prog C.w) A m R noE s:=
 wpAny_mono x (fun a s₁ h=>x2_2 h (k a s₁)) (fun _ _ h=>h)
theorem thenB{m:Sem Value}{R:Value→Shared→Prop}{Q:Bool→St→Prop}(x:wpAny (model C.prog C.w) A m (LiftB C F T Q s) noE s)
  (k:∀b s₁ mu₁ st₁,Same s s₁→Sim C F mu₁ T st₁ s₁.heap→Q b st₁→R (.bool b) s₁):wpAny (model C.prog C.w) A m R noE s:=
 wpAny_mono x (fun a s₁ h=>x1_1 h fun b e0 h=>e0▸x2_2 h (k b s₁)) (fun _ _ h=>h)
theorem doneV{T':List (PV×Value)}{s₁:Shared}{m:Sem Value}(x:wpAny (model C.prog C.w) A m (LiftV C F T' Q s₁) noE s₁)(e:Same s s₁)(hs:∀p∈T,p∈T'):wpAny (model C.prog C.w) A m (LiftV C F T Q s) noE s₁:=
 wpAny_mono x (fun _ _ y=>lift_same e (lift_sub hs y)) (fun _ _ h=>h)
theorem liftX_sub{α:Type}{Q:α→St→Prop}{T':List (PV×Value)}{v:α}{s':Shared}(hs:∀p∈T,p∈T')(x:LiftX C F T' Q s v s'):LiftX C F T Q s v s':=
 x2_2 x fun mu' st' e' S q=>⟨mu',st',e',S.sub hs,q⟩
theorem doneX{α:Type}{Q:α→St→Prop}{T':List (PV×Value)}{s₁:Shared}{m:Sem α}(x:wpAny (model C.prog C.w) A m (LiftX C F T' Q s₁) noE s₁)(e:Same s s₁)(hs:∀p∈T,p∈T'):wpAny (model C.prog C.w) A m (LiftX C F T Q s) noE s₁:=
 wpAny_mono x (fun _ _ y=>liftX_same e (liftX_sub hs y)) (fun _ _ h=>h)
theorem doneB{Q:Bool→St→Prop}{T':List (PV×Value)}{s₁:Shared}{m:Sem Value}(x:wpAny (model C.prog C.w) A m (LiftB C F T' Q s₁) noE s₁)(e:Same s s₁)(hs:∀p∈T,p∈T'):wpAny (model C.prog C.w) A m (LiftB C F T Q s) noE s₁:=
 wpAny_mono x (fun _ _ h=>x1_1 h fun b e0 y=>⟨b,e0,liftX_same e (liftX_sub hs y)⟩) (fun _ _ h=>h)
theorem sub1{T:List (PV×Value)}{x:PV×Value}:∀p∈T,p∈x::T:=fun _ h=>.tail _ h
theorem sub2{T:List (PV×Value)}{x y:PV×Value}:∀p∈T,p∈x::y::T:=fun _ h=>.tail _ (.tail _ h)
theorem truthy_b{b:Bool}{R:Bool→Shared→Prop}{E:Value→Shared→Prop}(h:R b s):wpAny (model C.prog C.w) A (truthy (.bool b)) R E s:=wpAny_pure (a:=b) h
theorem Snd.plain{e:Expr}{pe:PE}(hE:SndE C c e pe)(_:∀d Q st,wpT C d pe Q st=wpE C d pe (boolQ Q) st)
  (he:∀env whole,isTrue e env whole=(do let v ←whole;standAt e.pos;holding [v] (truthy v))):Snd C c e pe:=by
 have hB:SndB C c e pe:=fun F hc A d s mu T st Q r h1 S q=>by
  refine thenV (hE F hc A d s mu T st _ r h1 S q) fun a s₁ mu₁ pa st₁ e S₁ q=>?_
  refine x1_1 (boolQ_is q) fun b zE q=>?_;subst zE
  obtain rfl:=vr_bool' S₁.hd
  exact⟨_,rfl,mu₁,st₁,e,S₁.tail,q⟩
 exact⟨hE,fun F hc A d s mu T st Q r h1 S q=>isTrue_plain (thenB (hB F hc A d s mu T st Q r h1 S q) fun b s₁ mu₁ st₁ e S₁ q=>truthy_b ⟨mu₁,st₁,e,S₁,q⟩) (he _ _),hB⟩
theorem bad_no{d:Nat}{Q:PV→St→Prop}{st:St}(q:wpE C d bad Q st):False:=by refine x1_1 q fun i e _=>?_;contradiction
theorem Snd.bad{e:Expr}:Snd C c e bad:=by
 refine⟨fun F hc A d s mu T st Q r h1 S q=>?_,fun F hc A d s mu T st Q r h1 S q=>?_,fun F hc A d s mu T st Q r h1 S q=>?_⟩
 all_goals exact(bad_no q).elim
theorem idxS_at{x:Str}:∀{l:List Str}{i:Nat},idxS x l=some i→l[i]? =some x
 |[],i,e=>if_pos e
 |y::r,i,e=>by
  unfold idxS at e
  split at e
  .rename_i h
   obtain rfl:=Option.some.inj e
   rw[beq_iff_eq]at h
   simp[h]
  .refine x1_1 (Option.map_eq_some_iff.mp e) fun j e' zL=>?_;subst zL
   simpa using idxS_at e'
theorem Sim.mg(S:Sim C F mu T st s.heap):∃mg mb,s.heap.Ns F.env.globals mg∧s.heap.Ns F.env.builtins mb∧(∀x:Str,x≠ "__name__"→mb x=bootBuiltins x)∧
  (∀x v,nsIn C.K mainGlobals x=some (some v)→mg x=some v)∧(∀x,nsIn C.K mainGlobals x=some none→mg x=none):=by
 refine x2_2 S.ok.tops fun mg mb h1 h2 h3=>?_
 exact⟨mg,mb,S.ok.glob▸h1.keeps S.keep,S.ok.bltn▸h2.keeps S.keep,h3,fun x v e=>mg_of S.ok.kin h1 e,fun x e=>mg_none_of S.ok.kin h1 e⟩
theorem neDebug{x:Str}(h:(x != "__debug__")=true):(x==("__debug__":Str))=false:=by simpa using h
theorem var_kind{x:Str}{i:Nat}(hc:EnvC C F c)(e:c.var x=some i):F.slots[i]? =some x∧(x==("__debug__":Str))=false∧
  (F.env.kindOf x=some .local∨F.env.kindOf x=some .cell∨(F.env.kindOf x=some .free∧(x==("__classdict__":Str))=false)):=by
 unfold CC.var at e
 split at e
 .rename_i h
  rw[Bool.and_eq_true]at h
  refine⟨hc.slots▸idxS_at e,neDebug h.2,?_⟩
  have h1:=h.1
  unfold CC.isVar at h1
  unfold Env.kindOf
  rw[hc.names]
  split at h1
  .rename_i q;exact .inl q
  .rename_i q;exact .inr (.inl q)
  .rename_i q;exact .inr (.inr ⟨q,by simpa using h1⟩)
  .exact nF h1
 .exact nN e
theorem gv_kind{x:Str}{g:GV}(hc:EnvC C F c)(e:c.gv x=some g):F.env.kindOf x=some .globalImplicit∧(x==("__debug__":Str))=false∧GlobV C x g:=by
 unfold CC.gv at e
 split at e
 .rename_i h
  rw[Bool.and_eq_true]at h
  refine⟨?_,neDebug h.2,hc.ok.glob _ _ e⟩
  have h1:=h.1
  unfold CC.isGlob at h1
  unfold Env.kindOf
  rw[hc.names]
  split at h1
  .rename_i q;exact q
  .exact nF h1
 .exact nN e
theorem name_top{x:Str}{pos:Pos}{v:Value}{R:Value→Shared→Prop}(hc:EnvC C F c)(S:Sim C F mu T st s.heap)(hk:F.env.kindOf x=some .globalImplicit)(hd:(x==("__debug__":Str))=false)
  (e:nsIn C.K mainGlobals x=some (some v)) (h:R v s):wpAny (model C.prog C.w) A (eval (.Name x pos) F.env) R noE s:=by
 refine x2_4 S.mg fun mg mb h1 h2 h3 h4 h5=>?_
 exact Name_function_global S.ok.kind hk (loadGlobal_global h1 (h4 x v e) h) hd
theorem name_boot{x:Str}{pos:Pos}{v:Value}{R:Value→Shared→Prop}(hc:EnvC C F c)(S:Sim C F mu T st s.heap)(hk:F.env.kindOf x=some .globalImplicit)(hd:(x==("__debug__":Str))=false)
  (e:nsIn C.K mainGlobals x=some none∧x≠ "__name__"∧bootBuiltins x=some v) (h:R v s):wpAny (model C.prog C.w) A (eval (.Name x pos) F.env) R noE s:=by
 refine x2_4 S.mg fun mg mb h1 h2 h3 h4 h5=>?_
 exact Name_function_global S.ok.kind hk (loadGlobal_builtin h1 (h5 x e.1) h2 ((h3 x e.2.1).trans e.2.2) h) hd
theorem name_var{x:Str}{pos:Pos}{i:Nat}{p:PV}{R:Value→Shared→Prop}(hc:EnvC C F c)(S:Sim C F mu T st s.heap)(e:c.var x=some i)(hp:(st.rho[i]?).join=some p)
  (h:∀v,vr C F mu s.heap p v→R v s):wpAny (model C.prog C.w) A (eval (.Name x pos) F.env) R noE s:=by
 refine x0_2 (var_kind hc e) fun h1 h2 h3=>?_
 obtain⟨v,h4,h5⟩:=S.vars i x p h1 (by
  cases q:st.rho[i]? with
  |none=>rw[q]at hp;exact nN hp
  |some y=>rw[q]at hp;rw[show y=some p from hp])
 refine wpAny_Name ?_ h2
 rcases h4 with⟨k,m,hm,hv⟩|⟨k,cc,hcc,hv⟩
 .exact wpAny_loadName_local S.ok.kind k hm hv (h v h5)
 .rcases h3 with q|q|⟨q,q'⟩
  .rw[q]at k;simp at k
  .exact wpAny_loadName_cell S.ok.kind q hcc hv (h v h5)
  .exact wpAny_loadName_free S.ok.kind q hcc hv (h v h5) q'
theorem TopV.here{p:PV}{v:Value}(x:TopV C p v)(S:Sim C F mu T st s.heap):vr C F mu s.heap p v:=
 (x s.heap S.kin).move ⟨fun b o e _=>e,fun b _ q=>by
  cases hb:C.K.lookup b with
  |none=>rfl
  |some o=>exact absurd q (S.top hb)⟩ (fun i p e=>by exact nN e)
theorem snd_ifP{e:Expr}{b:Bool}{x:PE}(h:b=true→Snd C c e x):Snd C c e (ifP b x Mine.Internal.bad):=by
 cases b with
 |true=>exact h rfl
 |false=>exact Snd.bad
theorem snd_opP{α:Type}{e:Expr}{o:Option α}{y:PE}{f:α→PE}(h0:o=none→Snd C c e y)(h:∀a,o=some a→Snd C c e (f a)):Snd C c e (opP o y f):=by
 cases o with
 |none=>exact h0 rfl
 |some a=>exact h a rfl
theorem snd_name{x:Str}{pos:Pos}{n:Nat}:Snd C c (.Name x pos) (cE (n+1) c (.Name x pos)):=by
 refine snd_opP (fun hv=>snd_opP (fun _=>Snd.bad) fun g hg=>?_) fun i hv=>Snd.plain (fun F hc A d s mu T st Q r h1 S q=>?_) (fun _ _ _=>rfl) (fun _ _=>rfl)
 .cases g with
  |val p=>
   refine Snd.plain (fun F hc A d s mu T st Q r h1 S q=>?_) (fun _ _ _=>rfl) (fun _ _=>rfl)
   refine x0_2 (gv_kind hc hg) fun k hd zR=>x1_1 zR fun v e tv=>?_
   exact name_top hc S k hd e (lift_here (tk:=s.toks) S (tv.here S) q)
  |fn f=>
   refine Snd.plain (fun F hc A d s mu T st Q r h1 S q=>?_) (fun _ _ _=>rfl) (fun _ _=>rfl)
   refine x0_2 (gv_kind hc hg) fun k hd e=>?_
   exact name_top hc S k hd e (lift_here (tk:=s.toks) S (by rfl) q)
  |_=>exact Snd.bad
 .refine x1_1 q fun p e q=>?_
  exact name_var hc S hv e fun v h=>lift_here (tk:=s.toks) S h q
theorem snd_lit{e:Expr}{p:PV}(h:∀(F:Frm)(A:Around)(s:Shared)(R:Value→Shared→Prop),(∀v tk,(∀mu,vr C F mu s.heap p v)→R v {s with toks:=tk})→wpAny (model C.prog C.w) A (eval e F.env) R noE s)
  (he:∀env whole,isTrue e env whole=(do let v ←whole;standAt e.pos;holding [v] (truthy v))):Snd C c e (.lit p):=by
 refine Snd.plain (fun F hc A d s mu T st Q r h1 S q=>?_) (fun _ _ _=>rfl) he
 exact h F A s _ fun v tk hv=>lift_here S (hv mu) q
theorem snd_const{k:Const}{n m:Nat}{pos:Pos}:Snd C c (.Constant k m pos) (cE (n+1) c (.Constant k m pos)):=by
 cases k with
 |int i=>exact snd_lit (fun F A s R h=>wpAny_Constant_int (h _ _ fun mu=>vr_int)) (fun _ _=>rfl)
 |str i=>exact snd_lit (fun F A s R h=>wpAny_Constant_str (h _ _ fun mu=>vr_str)) (fun _ _=>rfl)
 |bool i=>exact snd_lit (fun F A s R h=>wpAny_Constant_bool (h (.bool i) s.toks fun mu=>vr_bool)) (fun _ _=>rfl)
 |none=>exact snd_lit (fun F A s R h=>wpAny_Constant_none (h .none s.toks fun mu=>vr_none)) (fun _ _=>rfl)
 |_=>exact Snd.bad
theorem snd_bin{l r:Expr}{op:Operator}{o:Bop}{pl pr:PE}{pos:Pos}(hl:Snd C c l pl)(hr:Snd C c r pr)(ho:bopOf op=some o):Snd C c (.BinOp l op r pos) (.bin o pl pr):=by
 refine Snd.plain (fun F hc A d s mu T st Q rm h1 S q=>?_) (fun _ _ _=>rfl) (fun _ _=>rfl)
 have e:op=o.toOp:=by cases op<;>simp[bopOf]at ho<;>subst ho<;>rfl
 subst e
 refine wpAny_BinOp (thenV (hl.E F hc A d s mu T st _ rm h1 S q) fun a s₁ mu₁ pa st₁ e₁ S₁ q₁=>thenV (hr.E F hc A d s₁ mu₁ _ st₁ _ rm h1 S₁ q₁) fun b s₂ mu₂ pb st₂ e₂ S₂ q₂=>?_)
 exact doneV (op_bin S₂ (S₂.vals (pa,a) (.tail _ (.head _))) S₂.hd q₂) (e₁.trans e₂) sub2
theorem snd_not{x:Expr}{px:PE}{pos:Pos}(hx:Snd C c x px):Snd C c (.UnaryOp .Not x pos) (.not px):=by
 have hB:SndB C c (.UnaryOp .Not x pos) (.not px):=fun F hc A d s mu T st Q rm h1 S q=>by
  skip
  refine wpAny_UnaryOp (thenB (hx.B F hc A d s mu T st _ rm h1 S q) fun b s₁ mu₁ st₁ e₁ S₁ q₁=>?_)
  refine wpAny_bind (m:=truthy (.bool b)) (wpAny_pure (wpAny_pure ?_))
  exact⟨_,rfl,mu₁,st₁,e₁,S₁,q₁⟩
 refine⟨fun F hc A d s mu T st Q rm h1 S q=>?_,fun F hc A d s mu T st Q rm h1 S q=>?_,hB⟩
 .refine thenB (hB F hc A d s mu T st (fun b st=>Q (.bool b) st) rm h1 S (by exact q)) fun b s₁ mu₁ st₁ e₁ S₁ q₁=>?_
  exact lift_same e₁ (lift_here (tk:=s₁.toks) S₁ vr_bool q₁)
 .skip
  refine isTrue_not (thenX (hx.T F hc A d s mu T st _ rm h1 S q) fun b s₁ mu₁ st₁ e₁ S₁ q₁=>?_)
  exact⟨mu₁,st₁,e₁,S₁,q₁⟩
theorem SndE.ofB{e:Expr}{pe:PE}(hB:SndB C c e pe)(h:∀d(Q:PV→St→Prop)st,wpE C d pe Q st=wpT C d pe (fun b st=>Q (.bool b) st) st):SndE C c e pe:=fun F hc A d s mu T st Q rm h1 S q=>by
 rw[h]at q
 refine thenB (hB F hc A d s mu T st _ rm h1 S q) fun b s₁ mu₁ st₁ e₁ S₁ q₁=>?_
 exact lift_same e₁ (lift_here (tk:=s₁.toks) S₁ vr_bool q₁)
end
end Mine.Internal
namespace Mine.Internal
open PySem PySem.W PyProof.Rows PySem.Calls
section
variable {C:Cx} {F:Frm} {c:CC} {A:Around} {d:Nat} {mu:List (Nat×Nat)} {T:List (PV×Value)} {st:St} {s:Shared} {Q:PV→St→Prop}
noncomputable def Snds(C:Cx)(c:CC)(es:List Expr)(f:Expr→PE):Prop:=∀e∈es,Snd C c e (f e)
theorem Snds.hd{e:Expr}{es:List Expr}{f:Expr→PE}(h:Snds C c (e::es) f):Snd C c e (f e):=h e (.head _)
theorem Snds.tl{e:Expr}{es:List Expr}{f:Expr→PE}(h:Snds C c (e::es) f):Snds C c es f:=fun x hx=>h x (.tail _ hx)
theorem all_T(b0:Bool){f:Expr→PE}{pos:Pos}(hc:EnvC C F c)(rm:Room A d)(h1:1≤d){Q:Bool→St→Prop}:∀{es:List Expr}{s:Shared}{mu:List (Nat×Nat)}{T:List (PV×Value)}{st:St}{whole:Sem Value},Snds C c es f→Sim C F mu T st s.heap→
  wpAll C d b0 (es.map f) Q st→wpAny (model C.prog C.w) A (isTrue (.BoolOp (if b0 then .And else .Or) es pos) F.env whole) (LiftX C F T Q s) noE s
 |[],s,mu,T,st,whole,hs,S,q=>by
  replace q:Q b0 st:=q
  cases b0 with
  |true=>exact isTrue_and_nil (liftX_here (tk:=s.toks) S q)
  |false=>exact isTrue_or_nil (liftX_here (tk:=s.toks) S q)
 |e::es,s,mu,T,st,whole,hs,S,q=>by
  replace q:wpT C d (f e) (fun b st=>(b=b0→wpAll C d b0 (es.map f) Q st)∧(b=(!b0)→Q (!b0) st)) st:=q
  cases b0 with
  |true=>
   refine isTrue_and (thenX (hs.hd.T F hc A d s mu T st _ rm h1 S q) fun b s₁ mu₁ st₁ e₁ S₁ q₁=>?_)
   cases b with
   |true=>exact doneX (all_T true hc rm h1 hs.tl S₁ (q₁.1 rfl)) e₁ (fun _ h=>h)
   |false=>exact⟨mu₁,st₁,e₁,S₁,q₁.2 rfl⟩
  |false=>
   refine isTrue_or (thenX (hs.hd.T F hc A d s mu T st _ rm h1 S q) fun b s₁ mu₁ st₁ e₁ S₁ q₁=>?_)
   cases b with
   |false=>exact doneX (all_T false hc rm h1 hs.tl S₁ (q₁.1 rfl)) e₁ (fun _ h=>h)
   |true=>exact⟨mu₁,st₁,e₁,S₁,q₁.2 rfl⟩
theorem all_B(b0:Bool){f:Expr→PE}{pos:Pos}(hc:EnvC C F c)(rm:Room A d)(h1:1≤d){Q:Bool→St→Prop}:∀{es:List Expr}{s:Shared}{mu:List (Nat×Nat)}{T:List (PV×Value)}{st:St},es≠[]→Snds C c es f→Sim C F mu T st s.heap→
  wpAll C d b0 (es.map f) Q st→wpAny (model C.prog C.w) A (eval (.BoolOp (if b0 then .And else .Or) es pos) F.env) (LiftB C F T Q s) noE s
 |[],s,mu,T,st,hne,hs,S,q=>absurd rfl hne
 |[e],s,mu,T,st,hne,hs,S,q=>by
  simp only[List.map_cons,List.map_nil,wpAll]at q
  refine BoolOp_one (thenB (hs.hd.B F hc A d s mu T st _ rm h1 S q) fun b s₁ mu₁ st₁ e₁ S₁ q₁=>⟨b,rfl,mu₁,st₁,e₁,S₁,?_⟩)
  cases b0<;>cases b
  .exact q₁.1 rfl
  .exact q₁.2 rfl
  .exact q₁.2 rfl
  .exact q₁.1 rfl
 |e::e'::es,s,mu,T,st,hne,hs,S,q=>by
  simp only[List.map_cons]at q
  cases b0 with
  |true=>
   refine BoolOp_and (thenB (hs.hd.B F hc A d s mu T st _ rm h1 S q) fun b s₁ mu₁ st₁ e₁ S₁ q₁=>truthy_b ?_)
   cases b with
   |true=>exact doneB (all_B true hc rm h1 (by simp) hs.tl S₁ (q₁.1 rfl)) e₁ (fun _ h=>h)
   |false=>exact⟨_,rfl,mu₁,st₁,e₁,S₁,q₁.2 rfl⟩
  |false=>
   refine BoolOp_or (thenB (hs.hd.B F hc A d s mu T st _ rm h1 S q) fun b s₁ mu₁ st₁ e₁ S₁ q₁=>truthy_b ?_)
   cases b with
   |false=>exact doneB (all_B false hc rm h1 (by simp) hs.tl S₁ (q₁.1 rfl)) e₁ (fun _ h=>h)
   |true=>exact⟨_,rfl,mu₁,st₁,e₁,S₁,q₁.2 rfl⟩
theorem snd_and{es:List Expr}{f:Expr→PE}{pos:Pos}(hne:es≠[])(hs:Snds C c es f):Snd C c (.BoolOp .And es pos) (.and (es.map f)):=by
 have hB:SndB C c (.BoolOp .And es pos) (.and (es.map f)):=fun F hc A d s mu T st Q rm h1 S q=>all_B true hc rm h1 hne hs S q
 exact⟨SndE.ofB hB fun d Q st=>rfl,fun F hc A d s mu T st Q rm h1 S q=>all_T true hc rm h1 hs S q,hB⟩
theorem snd_or{es:List Expr}{f:Expr→PE}{pos:Pos}(hne:es≠[])(hs:Snds C c es f):Snd C c (.BoolOp .Or es pos) (.or (es.map f)):=by
 have hB:SndB C c (.BoolOp .Or es pos) (.or (es.map f)):=fun F hc A d s mu T st Q rm h1 S q=>all_B false hc rm h1 hne hs S q
 exact⟨SndE.ofB hB fun d Q st=>rfl,fun F hc A d s mu T st Q rm h1 S q=>all_T false hc rm h1 hs S q,hB⟩
theorem snd_ife{t a b:Expr}{pt pa pb:PE}{pos:Pos}(ht:Snd C c t pt)(ha:Snd C c a pa)(hb:Snd C c b pb):Snd C c (.IfExp t a b pos) (.ife pt pa pb):=by
 refine⟨fun F hc A d s mu T st Q rm h1 S q=>?_,fun F hc A d s mu T st Q rm h1 S q=>?_,fun F hc A d s mu T st Q rm h1 S q=>?_⟩
 .replace q:wpT C d pt (fun z st=>(z=true→wpE C d pa Q st)∧(z=false→wpE C d pb Q st)) st:=q
  refine wpAny_IfExp (thenX (ht.T F hc A d s mu T st _ rm h1 S q) fun z s₁ mu₁ st₁ e₁ S₁ q₁=>?_)
  cases z with
  |true=>exact doneV (ha.E F hc A d s₁ mu₁ T st₁ Q rm h1 S₁ (q₁.1 rfl)) e₁ (fun _ h=>h)
  |false=>exact doneV (hb.E F hc A d s₁ mu₁ T st₁ Q rm h1 S₁ (q₁.2 rfl)) e₁ (fun _ h=>h)
 .skip
  refine isTrue_IfExp (thenX (ht.T F hc A d s mu T st _ rm h1 S q) fun z s₁ mu₁ st₁ e₁ S₁ q₁=>?_)
  cases z with
  |true=>exact doneX (ha.T F hc A d s₁ mu₁ T st₁ Q rm h1 S₁ (q₁.1 rfl)) e₁ (fun _ h=>h)
  |false=>exact doneX (hb.T F hc A d s₁ mu₁ T st₁ Q rm h1 S₁ (q₁.2 rfl)) e₁ (fun _ h=>h)
 .skip
  refine wpAny_IfExp (thenX (ht.T F hc A d s mu T st _ rm h1 S q) fun z s₁ mu₁ st₁ e₁ S₁ q₁=>?_)
  cases z with
  |true=>exact doneB (ha.B F hc A d s₁ mu₁ T st₁ Q rm h1 S₁ (q₁.1 rfl)) e₁ (fun _ h=>h)
  |false=>exact doneB (hb.B F hc A d s₁ mu₁ T st₁ Q rm h1 S₁ (q₁.2 rfl)) e₁ (fun _ h=>h)
theorem copOf_toOp(op:CmpOp):(copOf op).toOp=op:=by cases op<;>rfl
theorem chain_both{f:Expr→PE}{pos:Pos}(hc:EnvC C F c)(rm:Room A d)(h1:1≤d){Q:Bool→St→Prop}:∀{rs:List Expr}{ops:List CmpOp}{s:Shared}{mu:List (Nat×Nat)}{T:List (PV×Value)}{st:St}{p:PV}{x:Value},Snds C c rs f→ops.length=rs.length→ops≠[]→
  Sim C F mu ((p,x)::T) st s.heap→wpC C d p ((ops.map copOf).zip (rs.map f)) Q st→
  wpAny (model C.prog C.w) A (compareChain pos x ops (evalEach rs F.env)) (LiftB C F T Q s) noE s∧wpAny (model C.prog C.w) A (testChain pos x ops (evalEach rs F.env)) (LiftX C F T Q s) noE s
 |[],[],s,mu,T,st,p,x,hs,hl,hne,S,q=>absurd rfl hne
 |[],_::_,s,mu,T,st,p,x,hs,hl,hne,S,q=>absurd hl (Nat.succ_ne_zero _)
 |_::_,[],s,mu,T,st,p,x,hs,hl,hne,S,q=>absurd rfl hne
 |[r],[op],s,mu,T,st,p,x,hs,hl,hne,S,q=>by
  simp only[List.map_cons,List.map_nil,List.zip_cons_cons,List.zip_nil_right,wpC]at q
  have key:∀{R:Value→Shared→Prop},(∀b s₂,LiftX C F T Q s b s₂→R (.bool b) s₂)→wpAny (model C.prog C.w) A (eval r F.env) (fun y s₁=>wpAny (model C.prog C.w) A (compareOp op x y) R noE s₁) noE s:=fun k=>by
   refine thenV (hs.hd.E F hc A d s mu _ st _ rm h1 S q) fun y s₁ mu₁ py st₁ e₁ S₁ q₁=>?_
   refine x1_1 q₁ fun b eb q₁=>?_
   rw[←copOf_toOp op]
   refine thenV (op_cmp (Q:=fun v st'=>∃b',v=.bool b'∧Q b' st') (rm.one h1) S₁ (S₁.vals (p,x) (.tail _ (.head _))) S₁.hd eb ⟨b,rfl,?_⟩) fun z s₂ mu₂ pz st₂ e₂ S₂ q₂=>?_
   .cases b
    .exact q₁.2 rfl
    .exact q₁.1 rfl
   .obtain⟨b',rfl,q₂⟩:=q₂
    obtain rfl:=vr_bool' S₂.hd
    exact k b' s₂ ⟨mu₂,st₂,e₁.trans e₂,S₂.sub fun p hp=>.tail _ (.tail _ (.tail _ hp)),q₂⟩
  exact⟨chain_last (key fun b s₂ h=>⟨b,rfl,h⟩),test_last (key fun b s₂ h=>truthy_b h)⟩
 |[_],_::_::_,s,mu,T,st,p,x,hs,hl,hne,S,q=>by simp at hl
 |_::_::_,[_],s,mu,T,st,p,x,hs,hl,hne,S,q=>by simp at hl
 |r::r'::rs,op::op'::ops,s,mu,T,st,p,x,hs,hl,hne,S,q=>by
  simp only[List.map_cons,List.zip_cons_cons]at q
  have key:∀{R:Value→Shared→Prop},(∀b y s₂,(b=true→∃mu₂ py st₂,Same s s₂∧Sim C F mu₂ ((py,y)::T) st₂ s₂.heap∧wpC C d py (((op'::ops).map copOf).zip ((r'::rs).map f)) Q st₂)→(b=false→LiftX C F T Q s false s₂)→
    (wpAny (model C.prog C.w) A (truthy (.bool b)) (fun t s₃=>R (if t then y else .bool b) s₃) noE s₂))→True:=fun _=>trivial
  have key2:wpAny (model C.prog C.w) A (eval r F.env) (fun y s₁=>wpAny (model C.prog C.w) A (compareOp op x y) (fun v s₂=>∃b,v=.bool b∧(b=true→∃mu₂ py st₂,Same s s₂∧Sim C F mu₂ ((py,y)::T) st₂ s₂.heap∧wpC C d py (((op'::ops).map copOf).zip ((r'::rs).map f)) Q st₂)∧(b=false→LiftX C F T Q s false s₂)) noE s₁) noE s:=by
   refine thenV (hs.hd.E F hc A d s mu _ st _ rm h1 S q) fun y s₁ mu₁ py st₁ e₁ S₁ q₁=>?_
   refine x1_1 q₁ fun b eb q₁=>?_
   rw[←copOf_toOp op]
   refine thenV (op_cmp (Q:=fun v st'=>v=.bool b∧st'=st₁) (rm.one h1) S₁ (S₁.vals (p,x) (.tail _ (.head _))) S₁.hd eb ⟨rfl,rfl⟩) fun z s₂ mu₂ pz st₂ e₂ S₂ q₂=>?_
   obtain⟨rfl,rfl⟩:=q₂
   obtain rfl:=vr_bool' S₂.hd
   refine⟨b,rfl,fun hb=>⟨mu₂,py,st₂,e₁.trans e₂,S₂.sub fun p hp=>?_,q₁.1 hb⟩,fun hb=>⟨mu₂,st₂,e₁.trans e₂,S₂.sub fun p hp=>.tail _ (.tail _ (.tail _ hp)),q₁.2 hb⟩⟩
   rcases List.mem_cons.mp hp with rfl|hp
   .exact .tail _ (.head _)
   .exact .tail _ (.tail _ (.tail _ hp))
  constructor
  .refine chain_link (wpAny_mono key2 (fun y s₁ h=>wpAny_mono h (fun v s₂ zQ=>?_) fun _ _ h=>h) fun _ _ h=>h)
   refine x1_2 zQ fun b e ht hf=>?_
   subst e
   refine truthy_b ?_
   cases b with
   |true=>
    refine x3_2 (ht rfl) fun mu₂ py st₂ e₂ S₂ q₂=>?_
    exact doneB (chain_both hc rm h1 hs.tl (Nat.succ.inj hl) (by simp) S₂ q₂).1 e₂ (fun _ h=>h)
   |false=>exact⟨_,rfl,hf rfl⟩
  .refine test_link (wpAny_mono key2 (fun y s₁ h=>wpAny_mono h (fun v s₂ zQ=>?_) fun _ _ h=>h) fun _ _ h=>h)
   refine x1_2 zQ fun b e ht hf=>?_
   subst e
   refine truthy_b ?_
   cases b with
   |true=>
    refine x3_2 (ht rfl) fun mu₂ py st₂ e₂ S₂ q₂=>?_
    exact doneX (chain_both hc rm h1 hs.tl (Nat.succ.inj hl) (by simp) S₂ q₂).2 e₂ (fun _ h=>h)
   |false=>exact hf rfl
theorem lastMarks_none:∀{ops:List CmpOp}{rs:List Expr},rs.all (fun r=> !isSet r)=true→lastMarks ops rs=false
 |[],rs,_=>by rfl
 |op::ops,[],_=>by cases ops<;>rfl
 |[op],[r],h=>by
  simp only[List.all_cons,List.all_nil,Bool.and_true,Bool.not_eq_true']at h
  cases r<;>first|rfl|exact nT h
 |[op],r::r'::rs,h=>by
  have:=lastMarks_none (ops:=[]) (rs:=r'::rs) (by rw[List.all_cons,Bool.and_eq_true]at h;exact h.2)
  exact this
 |op::op'::ops,r::rs,h=>by
  have:=lastMarks_none (ops:=op'::ops) (rs:=rs) (by rw[List.all_cons,Bool.and_eq_true]at h;exact h.2)
  exact this
theorem snd_chain{l:Expr}{pl:PE}{ops:List CmpOp}{rs:List Expr}{f:Expr→PE}{pos:Pos}(hl:Snd C c l pl)(hs:Snds C c rs f)(hlen:ops.length=rs.length)(hne:ops≠[])(hset:rs.all (fun r=> !isSet r)=true):
  Snd C c (.Compare l ops rs pos) (.chain pl ((ops.map copOf).zip (rs.map f))):=by
 have hB:SndB C c (.Compare l ops rs pos) (.chain pl ((ops.map copOf).zip (rs.map f))):=fun F hc A d s mu T st Q rm h1 S q=>by
  skip
  show wpAny _ A (do compareChain pos (←eval l F.env) ops (markedEach ops rs (evalEach rs F.env))) _ _ s
  rw[markedEach_of_false _ _ _ (lastMarks_none hset)]
  exact wpAny_bind (thenV (hl.E F hc A d s mu T st _ rm h1 S q) fun x s₁ mu₁ p st₁ e₁ S₁ q₁=>doneB (chain_both hc rm h1 hs hlen hne S₁ q₁).1 e₁ (fun _ h=>h))
 refine⟨SndE.ofB hB fun d Q st=>rfl,fun F hc A d s mu T st Q rm h1 S q=>?_,hB⟩
 skip
 show wpAny _ A (do testChain pos (←eval l F.env) ops (markedEach ops rs (evalEach rs F.env))) _ _ s
 rw[markedEach_of_false _ _ _ (lastMarks_none hset)]
 exact wpAny_bind (thenV (hl.E F hc A d s mu T st _ rm h1 S q) fun x s₁ mu₁ p st₁ e₁ S₁ q₁=>doneX (chain_both hc rm h1 hs hlen hne S₁ q₁).2 e₁ (fun _ h=>h))
end
end Mine.Internal
namespace Mine.Internal
open PySem PySem.W PyProof.Rows PySem.Calls
noncomputable def Frm.add(F:Frm)(a:Nat)(o:Obj):Frm:={F with fx:=fun x=>F.fx x∨x=a,prot:=(a,o)::F.prot}
theorem EnvC.add{C:Cx}{F:Frm}{c:CC}{a:Nat}{o:Obj}(hc:EnvC C F c):EnvC C (F.add a o) c:=⟨hc.names,hc.slots,hc.fields,hc.wr,hc.ok⟩
section
variable {C:Cx} {F:Frm} {mu:List (Nat×Nat)} {T:List (PV×Value)} {st:St} {h h':Heap} {a:Nat} {o o':Obj}
theorem xs_add{x:Nat}:XS (F.add a o).fx mu x↔XS F.fx mu x∨x=a:=by
 constructor
 .rintro((q|q)|q)
  .exact .inl (.inl q)
  .exact .inr q
  .exact .inl (.inr q)
 .rintro((q|q)|q)
  .exact .inl (.inl q)
  .exact .inr q
  .exact .inl (.inr q)
theorem Sim.nofx(S:Sim C F mu T st h)(ha:h.objs.size≤a):¬XS F.fx mu a:=fun q=>absurd (S.bound a q) (Nat.not_lt.mpr ha)
theorem Sim.pushProt'(S:Sim C F mu T st h)(k:∀b o,h.get? b=some o→h'.get? b=some o)(hn:h.get? a=none)(hg:h'.get? a=some o)(hf:o.isFreed=false):Sim C (F.add a o) mu T st h':=by
 have nx:¬XS F.fx mu a:=fun q=>by obtain⟨o,e⟩:=S.has a q;rw[hn]at e;exact nN e
 have nb:F.base.get? a=none:=by
  cases q:F.base.get? a with
  |none=>rfl
  |some o=>exact absurd (hn.symm.trans (S.keep _ _ q)) (by simp)
 have mv:Move (XS F.fx mu) (XS (F.add a o).fx mu) h h':=⟨fun b o e _=>k b o e,fun b zQ q=>by
  obtain⟨_,hb⟩:=zQ
  rcases xs_add.mp q with q|q
  .exact q
  .rw[q,hn]at hb;exact nN hb⟩
 have nh:¬Holder F.env a:=fun q=>nx (.inl (holder_fx S q))
 exact{
  ok:={S.ok with
   locfx:=.inl S.ok.locfx
   cellfx:=fun n c e=>.inl (S.ok.cellfx n c e)
   protfx:=fun p hp=>by
    rcases List.mem_cons.mp hp with rfl|hp
    .exact⟨.inr rfl,nb,nh,hf⟩
    .refine x0_3 (S.ok.protfx p hp) fun h1 h2 h3 h4=>?_;exact⟨.inl h1,h2,h3,h4⟩
   prot1:=by
    show(a::F.prot.map Prod.fst).Nodup
    refine List.nodup_cons.mpr ⟨fun q=>?_,S.ok.prot1⟩
    refine x1_1 (List.mem_map.mp q) fun p hp zL=>?_;subst zL
    exact nx (.inl (S.ok.protfx p hp).1)
   fxtop:=fun b q=>by
    rcases q with q|rfl
    .exact S.ok.fxtop b q
    .cases e:C.K.lookup b with
     |none=>rfl
     |some o=>exact absurd (hn.symm.trans (S.kin _ _ e)) (by simp)}
  keep:=fun b o e=>k b o (S.keep b o e)
  pre:=S.pre
  ns:=x1_0 S.ns fun m hm=>⟨m,hm.keeps k⟩
  cells:=fun n c e=>x1_0 (S.cells n c e) fun v hv=>⟨v,hv.keeps k⟩
  prot:=fun p hp=>by
   rcases List.mem_cons.mp hp with rfl|hp
   .exact hg
   .exact k _ _ (S.prot p hp)
  vals:=fun p hp=>(S.vals p hp).move mv fun _ _ e=>e
  vars:=fun i n pv e1 e2=>x1_1 (S.vars i n pv e1 e2) fun v h1 h2=>⟨v,h1.keep fun a o _ e=>k a o e,h2.move mv fun _ _ e=>e⟩
  len:=S.len
  objs:=fun i ob p e1 e2=>(S.objs i ob p e1 e2).move mv (fun _ _ e=>e) (fun o e=>k _ o e) (fun o e=>k _ o e)
  muoff:=fun p hp=>by
   refine x0_3 (S.muoff p hp) fun h1 h2 h3 h4=>?_
   refine⟨?_,?_,h3,h4⟩
   .rintro(q|q)
    .exact h1 q
    .exact nx (.inr ⟨p,hp,.inl q.symm⟩)
   .rintro(q|q)
    .exact h2 q
    .exact nx (.inr ⟨p,hp,.inr q.symm⟩)
  mu1:=S.mu1
  has:=fun b q=>by
   rcases xs_add.mp q with q|rfl
   .obtain⟨o,e⟩:=S.has b q;exact⟨o,k b o e⟩
   .exact⟨_,hg⟩}
theorem Sim.pushProt(S:Sim C F mu T st h)(k:∀b o,h.get? b=some o→h'.get? b=some o)(ha:h.objs.size≤a)(hg:h'.get? a=some o)(hf:o.isFreed=false):Sim C (F.add a o) mu T st h':=
 S.pushProt' k (Heap.get?_none_of_le ha) hg hf
theorem Sim.protAt(S:Sim C (F.add a o) mu T st h):h.get? a=some o:=S.prot (a,o) (.head _)
theorem Sim.protFacts(S:Sim C (F.add a o) mu T st h):F.base.get? a=none∧¬Holder F.env a∧(∀p∈F.prot,p.1≠a)∧(∀p∈mu,p.1≠a∧p.2≠a):=by
 refine x0_3 (S.ok.protfx (a,o) (.head _)) fun _ h2 h3 _=>?_
 have h5:(a::F.prot.map Prod.fst).Nodup:=S.ok.prot1
 rw[List.nodup_cons]at h5
 refine⟨h2,h3,fun p hp z=>h5.1 (z▸List.mem_map_of_mem hp),fun p hp=>?_⟩
 refine x0_2 (S.muoff p hp) fun h6 h7 _=>?_
 exact⟨fun z=>h6 (.inr z),fun z=>h7 (.inr z)⟩
theorem Sim.dropProt(S:Sim C (F.add a o) mu T st h)(ok:F.Ok C)(na:¬F.fx a)(k:∀b ob,b≠a→h.get? b=some ob→h'.get? b=some ob):Sim C F mu T st h':=by
 refine x0_3 S.protFacts fun nb nh np nm=>?_
 have mv:Move (XS (F.add a o).fx mu) (XS F.fx mu) h h':=⟨fun b o e q=>k b o (fun z=>q (xs_add.mpr (.inr z))) e,fun b hb q=>xs_add.mpr (.inl q)⟩
 exact{
  ok:=ok
  keep:=fun b ob e=>k b ob (fun z=>by rw[z,nb]at e;exact nN e) (S.keep b ob e)
  pre:=S.pre
  ns:=x1_0 S.ns fun m zR=>x3_1 zR fun o es ep ho r=>⟨m,o,es,ep,k _ _ (fun z=>nh (z▸.inl rfl)) ho,r⟩
  cells:=fun n c e=>x2_1 (S.cells n c e) fun v o ho r=>⟨v,o,k _ _ (fun z=>nh (z▸.inr ⟨n,e⟩)) ho,r⟩
  prot:=fun p hp=>k _ _ (np p hp) (S.prot p (.tail _ hp))
  vals:=fun p hp=>(S.vals p hp).move mv fun _ _ e=>e
  vars:=fun i n pv e1 e2=>x1_1 (S.vars i n pv e1 e2) fun v h1 h2=>⟨v,h1.keep fun b o hb e=>k b o (fun z=>nh (z▸hb)) e,h2.move mv fun _ _ e=>e⟩
  len:=S.len
  objs:=fun i ob p e1 e2=>by
   have:=nm p (List.mem_of_getElem? e2)
   exact(S.objs i ob p e1 e2).move mv (fun _ _ e=>e) (fun o e=>k _ o this.1 e) (fun o e=>k _ o this.2 e)
  muoff:=fun p hp=>by
   refine x0_3 (S.muoff p hp) fun h1 h2 h3 h4=>?_
   exact⟨fun q=>h1 (.inl q),fun q=>h2 (.inl q),h3,h4⟩
  mu1:=S.mu1
  has:=fun b q=>by
   have hb:b≠a:=fun z=>by
    subst z
    rcases q with q|⟨p,hp,q⟩
    .exact na q
    .have:=nm p hp;rcases q with q|q<;>simp[q]at this
   obtain⟨ob,e⟩:=S.has b (xs_add.mpr (.inl q));exact⟨ob,k b ob hb e⟩}
theorem Sim.liveProt(S:Sim C (F.add a o) mu T st h)(ok:F.Ok C)(na:¬F.fx a)(k:∀b ob,b≠a→h.get? b=some ob→h'.get? b=some ob){ob:SObj}
  (x:Move (XS (F.add a o).fx mu) (XS F.fx (mu++[(a,a)])) h h'→(∀(i:Nat)q,mu[i]? =some q→(mu++[(a,a)])[i]? =some q)→ObjRel C (XS F.fx (mu++[(a,a)])) h' (mu++[(a,a)]) (a,a) ob):Sim C F (mu++[(a,a)]) ((.ref st.sto.length,.ref a)::T) ⟨st.rho,st.sto++[ob]⟩ h':=by
 refine x0_3 S.protFacts fun nb nh np nm=>?_
 have S0:=S.dropProt ok na k
 have xs:∀b,XS F.fx (mu++[(a,a)]) b↔XS F.fx mu b∨b=a:=fun b=>by
  constructor
  .rintro(q|⟨p,hp,q⟩)
   .exact .inl (.inl q)
   .rcases List.mem_append.mp hp with hp|hp
    .exact .inl (.inr ⟨p,hp,q⟩)
    .rw[List.mem_singleton]at hp;subst hp;rcases q with q|q<;>exact .inr q
  .rintro((q|⟨p,hp,q⟩)|q)
   .exact .inl q
   .exact .inr ⟨p,List.mem_append_left _ hp,q⟩
   .exact .inr ⟨(a,a),List.mem_append_right _ (List.mem_singleton.mpr rfl),.inl q⟩
 have mv:Move (XS (F.add a o).fx mu) (XS F.fx (mu++[(a,a)])) h h':=⟨fun b o e q=>k b o (fun z=>q (xs_add.mpr (.inr z))) e,fun b hb q=>xs_add.mpr ((xs b).mp q)⟩
 have hm:∀(i:Nat)q,mu[i]? =some q→(mu++[(a,a)])[i]? =some q:=fun i q e=>by
  rw[List.getElem?_append_left (List.getElem?_eq_some_iff.mp e).1];exact e
 have hx:=x mv hm
 exact{
  ok:=ok
  keep:=S0.keep
  pre:=x1_0 S0.pre fun nu e=>⟨nu++[(a,a)],by rw[e,List.append_assoc]⟩
  ns:=S0.ns
  cells:=S0.cells
  prot:=S0.prot
  vals:=fun q hq=>by
   rcases List.mem_cons.mp hq with rfl|hq
   .show VRel _ _ _ _ (.ref _) _
    exact⟨(a,a),by rw[S.len];simp,rfl⟩
   .exact(S.vals q hq).move mv hm
  vars:=fun i n pv e1 e2=>x1_1 (S.vars i n pv e1 e2) fun v h1 h2=>⟨v,h1.keep fun b o hb e=>k b o (fun z=>nh (z▸hb)) e,h2.move mv hm⟩
  len:=by simp[S.len]
  objs:=fun i o' q e1 e2=>by
   have hlt:i<(mu++[(a,a)]).length:=(List.getElem?_eq_some_iff.mp e2).1
   rw[List.length_append,List.length_singleton]at hlt
   by_cases hi:i<mu.length
   .rw[List.getElem?_append_left hi]at e2
    rw[List.getElem?_append_left (by rw[S.len];exact hi)]at e1
    have:=nm q (List.mem_of_getElem? e2)
    exact(S.objs i o' q e1 e2).move mv hm (fun o e=>k _ o this.1 e) (fun o e=>k _ o this.2 e)
   .obtain rfl:i=mu.length:=by exact o1 hlt hi
    rw[List.getElem?_append_right (by exact Nat.le_refl _)]at e2
    rw[List.getElem?_append_right (by rw[S.len];exact Nat.le_refl _)]at e1
    simp[S.len]at e1 e2
    subst e1;subst e2
    exact hx
  muoff:=fun q hq=>by
   rcases List.mem_append.mp hq with hq|hq
   .exact S0.muoff q hq
   .rw[List.mem_singleton]at hq;subst hq
    exact⟨na,na,nb,nb⟩
  mu1:=fun i j q r e1 e2 e=>by
   have l1:i<(mu++[(a,a)]).length:=(List.getElem?_eq_some_iff.mp e1).1
   have l2:j<(mu++[(a,a)]).length:=(List.getElem?_eq_some_iff.mp e2).1
   rw[List.length_append,List.length_singleton]at l1 l2
   by_cases hi:i<mu.length
   .rw[List.getElem?_append_left hi]at e1
    by_cases hj:j<mu.length
    .rw[List.getElem?_append_left hj]at e2
     exact S.mu1 i j q r e1 e2 e
    .obtain rfl:j=mu.length:=by exact o1 l2 hj
     rw[List.getElem?_append_right (by exact Nat.le_refl _)]at e2
     simp at e2;subst e2
     have:=nm q (List.mem_of_getElem? e1)
     simp only at e
     rcases e with e|e|e|e
     .exact absurd e this.1
     .exact absurd e this.1
     .exact absurd e this.2
     .exact absurd e this.2
   .obtain rfl:i=mu.length:=by exact o1 l1 hi
    rw[List.getElem?_append_right (by exact Nat.le_refl _)]at e1
    simp at e1;subst e1
    by_cases hj:j<mu.length
    .rw[List.getElem?_append_left hj]at e2
     have:=nm r (List.mem_of_getElem? e2)
     simp only at e
     rcases e with e|e|e|e
     .exact absurd e.symm this.1
     .exact absurd e.symm this.2
     .exact absurd e.symm this.1
     .exact absurd e.symm this.2
    .exact o4 l2 hj
  has:=fun b q=>by
   rcases(xs b).mp q with q|rfl
   .exact S0.has b q
   .exact hx.has.1}
theorem Sim.listProt(S:Sim C (F.add a o) mu T st h)(ok:F.Ok C)(na:¬F.fx a){l:List PV}{vs:List Value}{n:Nat}(ho:h.get? a=some {cls:=.type "list",data:=.seq vs.toArray n})(hl:vs.length≤lineN)
  (hr:VRels C (XS (F.add a o).fx mu) h mu l vs):Sim C F mu ((.list l,.ref a)::T) st h:=by
 refine x0_3 S.protFacts fun nb nh np nm=>?_
 have S0:=S.dropProt ok na (h':=h) fun b ob _ e=>e
 refine S0.add ?_
 refine⟨a,vs,n,rfl,?_,ho,hl,hr.move ⟨fun _ _ e _=>e,fun b _ q=>xs_add.mpr (.inl q)⟩ fun _ _ e=>e⟩
 rintro(q|⟨p,hp,q⟩)
 .exact na q
 .have:=nm p hp;rcases q with q|q<;>simp[q]at this
end
end Mine.Internal
namespace Mine.Internal
open PySem PySem.W PyProof.Rows PySem.Calls
noncomputable def LiftVs(C:Cx)(F:Frm)(T:List (PV×Value))(n:Nat)(Q:List PV→St→Prop)(s:Shared)(vs:List Value)(s':Shared):Prop:=
 ∃mu' ps st',Same s s'∧Sim C F mu' T st' s'.heap∧VRels C (XS F.fx mu') s'.heap mu' ps vs∧ps.length=n∧Q ps st'
section
variable {C:Cx} {F:Frm} {c:CC} {A:Around} {d:Nat} {mu:List (Nat×Nat)} {T:List (PV×Value)} {st:St} {s:Shared} {Q:PV→St→Prop}
theorem star_plain{e:Expr}{rest:List Expr}{env:Env}(h:plainE e=true):starEach (e::rest) env=(false,eval e env)::starEach rest env:=by
 cases e<;>first|rfl|exact nF h
theorem star_any:∀{es:List Expr}{env:Env}{pos:Pos},es.all plainE=true→(backTo pos (starEach es env)).any (·.1)=false
 |[],env,pos,_=>rfl
 |e::es,env,pos,h=>by
  rw[List.all_cons,Bool.and_eq_true]at h
  rw[star_plain h.1]
  have:=star_any (env:=env) (pos:=pos) h.2
  unfold backTo at this ⊢
  rw[List.map_cons,List.any_cons,this]
  rfl
theorem args_snd{f:Expr→PE}{pos:Pos}(hc:EnvC C F c)(rm:Room A d)(h1:1≤d):∀{es:List Expr}{s:Shared}{mu:List (Nat×Nat)}{T:List (PV×Value)}{st:St}{Q:List PV→St→Prop},Snds C c es f→es.all plainE=true→Sim C F mu T st s.heap→
  wpEs C d (es.map f) Q st→wpAny (model C.prog C.w) A (spliced (backTo pos (starEach es F.env))) (LiftVs C F T es.length Q s) noE s
 |[],s,mu,T,st,Q,hs,hp,S,q=>by
  exact args_nil ⟨mu,[],st,⟨rfl,rfl,rfl⟩,S,VRels.nil,rfl,q⟩
 |e::es,s,mu,T,st,Q,hs,hp,S,q=>by
  rw[List.all_cons,Bool.and_eq_true]at hp
  refine args_cons (thenV (hs.hd.E F hc A d s mu T st _ rm h1 S q) fun v s₁ mu₁ p st₁ e₁ S₁ q₁=>?_) (star_plain hp.1)
  refine wpAny_mono (args_snd hc rm h1 hs.tl hp.2 S₁ q₁) (fun vs s₂ zQ=>?_) fun _ _ h=>h
  refine x3_4 zQ fun mu₂ ps st₂ e₂ S₂ r₂ l₂ q₂=>?_
  exact⟨mu₂,p::ps,st₂,e₁.trans e₂,S₂.tail,.cons S₂.hd r₂,congrArg _ l₂,q₂⟩
theorem vrs_add{l:List PV}{vs:List Value}:∀{T:List (PV×Value)},Sim C F mu T st s.heap→VRels C (XS F.fx mu) s.heap mu l vs→Sim C F mu (l.zip vs++T) st s.heap:=by
 induction l generalizing vs with
 |nil=>intro T S x;simpa using S
 |cons p ps ih=>
  intro T S x
  refine x2_1 (vrs_cons' x) fun v r zE zR=>?_;subst zE;refine x0_1 zR fun h2 h3=>?_
  exact(ih S h3).add h2
theorem snd_tup{es:List Expr}{f:Expr→PE}{k:Nat}{pos:Pos}(hs:Snds C c es f)(hp:es.all plainE=true)(hl:es.length≤100):Snd C c (.Tuple es k pos) (.tup (es.map f)):=by
 refine Snd.plain (fun F hc A d s mu T st Q rm h1 S q=>?_) (fun _ _ _=>rfl) (fun _ _=>rfl)
 refine Tuple_ (wpAny_mono (args_snd hc rm h1 hs hp S q) (fun vs s₁ zQ=>?_) fun _ _ h=>h)
 refine x3_4 zQ fun mu₁ ps st₁ e₁ S₁ r₁ l₁ q₁=>?_
 have L:=r₁.length
 refine wpAny_newTuple ⟨mu₁,_,st₁,⟨e₁.gens,e₁.drawn,e₁.os⟩,S₁.newTup r₁ (by exact o26 hl l₁ L),q₁⟩ (by rw[←lineN_is];exact o238 hl l₁ L)
theorem snd_list{es:List Expr}{f:Expr→PE}{pos:Pos}(hs:Snds C c es f)(hp:es.all plainE=true)(hl:es.length≤100):Snd C c (.List es pos) (.list (es.map f)):=by
 refine Snd.plain (fun F hc A d s mu T st Q rm h1 S q=>?_) (fun _ _ _=>rfl) (fun _ _=>rfl)
 refine List_ (wpAny_mono (args_snd hc rm h1 hs hp S q) (fun vs s₁ zQ=>?_) fun _ _ h=>h)
 refine x3_4 zQ fun mu₁ ps st₁ e₁ S₁ r₁ l₁ q₁=>?_
 have L:=r₁.length
 refine wpAny_newList (lift_same e₁ (fresh_sim (tk:=s₁.toks) (n:=0) S₁ r₁ (by exact o26 hl l₁ L) (fun _ _ e=>Heap.get?_push_of_some _ e) (by rw[Heap.size_push];exact o235) (Nat.le_refl _) (Heap.get?_push_size _ rfl) q₁)) (by rw[←lineN_is];exact o238 hl l₁ L)
theorem Sim.size2(S:Sim C F mu T st s.heap):1<s.heap.objs.size:=by
 refine x2_1 S.ok.tops fun mg mb h1 _=>?_
 have:=(h1.keeps S.keep).lt
 have h2:1≤(mainGlobals:Nat):=by decide
 exact Nat.lt_of_le_of_lt h2 this
theorem snd_dict0{pos:Pos}:Snd C c (.Dict [] [] pos) .dict0:=by
 refine Snd.plain (fun F hc A d s mu T st Q rm h1 S q=>?_) (fun _ _ _=>rfl) (fun _ _=>rfl)
 have k:∀b o,s.heap.get? b=some o→(s.heap.push {cls:=.type "dict",data:=.dict #[]}).get? b=some o:=fun b o e=>Heap.get?_push_of_some _ e
 have lt:s.heap.objs.size<(s.heap.push {cls:=.type "dict",data:=.dict #[]}).objs.size:=by rw[Heap.size_push];exact Nat.le_refl _
 have ne:s.heap.objs.size≠1:=by have:=S.size2;exact Nat.ne_of_gt this
 refine wpAny_Dict_empty ?_
 rcases q with q|q
 .exact⟨_,_,_,⟨rfl,rfl,rfl⟩,S.newLive (p:=(s.heap.objs.size,s.heap.objs.size)) (o:=.dict []) k (Nat.le_refl _) (Nat.le_refl _) lt lt ⟨rfl,ne,[],VRels.nil,Heap.DictOf.new s.heap⟩,q⟩
 .exact⟨_,_,_,⟨rfl,rfl,rfl⟩,S.newLive (p:=(s.heap.objs.size,s.heap.objs.size)) (o:=.tdict []) k (Nat.le_refl _) (Nat.le_refl _) lt lt ⟨rfl,ne,[],by rfl,Heap.DictOfH.new s.heap⟩,q⟩
theorem snd_dict1{k v:Expr}{pk pv:PE}{pos:Pos}(hk:Snd C c k pk)(hv:Snd C c v pv):Snd C c (.Dict [some k] [v] pos) (.dict1 pk pv):=by
 refine Snd.plain (fun F hc A d s mu T st Q rm h1 S q=>?_) (fun _ _ _=>rfl) (fun _ _=>rfl)
 have kp:∀b o,s.heap.get? b=some o→(s.heap.push {cls:=.type "dict",data:=.dict #[]}).get? b=some o:=fun b o e=>Heap.get?_push_of_some _ e
 have ne:s.heap.objs.size≠1:=by have:=S.size2;exact Nat.ne_of_gt this
 have nx:¬F.fx s.heap.objs.size:=fun z=>S.fresh (.inl z)
 have S0:Sim C (F.add s.heap.objs.size {cls:=.type "dict",data:=.dict #[]}) mu T st (s.heap.push {cls:=.type "dict",data:=.dict #[]}):=S.pushProt kp (Nat.le_refl _) (Heap.get?_push_size _ rfl) rfl
 refine wpAny_Dict_walk (knd:=intKind C.prog C.w) rfl rfl (by simp) (Nat.succ_pos _) (pairTrees_cons_walk (thenV (hk.E (F.add s.heap.objs.size {cls:=.type "dict",data:=.dict #[]}) hc.add A d _ mu T st _ rm h1 S0 q) fun kv s₁ mu₁ p₁ st₁ e₁ S₁ q₁=>
  thenV (hv.E (F.add s.heap.objs.size {cls:=.type "dict",data:=.dict #[]}) hc.add A d s₁ mu₁ _ st₁ _ rm h1 S₁ q₁) fun vv s₂ mu₂ p₂ st₂ e₂ S₂ q₂=>pairTrees_nil_walk ?_))
 obtain⟨k,rfl,q₂⟩:=q₂
 .obtain⟨t,rfl⟩:=vr_int' (S₂.vals (PV.int k,kv) (.tail _ (.head _)))
  refine⟨[(k,vv)],⟨beq_self_eq_true _,rfl,trivial⟩,(Heap.DictOf.new s.heap).at (fun o e=>?_),fun h' hd hs=>?_⟩
  .have h3:=S₂.protAt
   rw[Heap.get?_push_size _ rfl]at e
   obtain rfl:=Option.some.inj e
   exact h3
  .have hS:=S₂.liveProt S.ok nx (h':=h') (fun b ob hb e=>(hs.2 b hb).trans e) (ob:=.dict [(k,p₂)]) fun mv hm=>⟨rfl,ne,[vv],.cons (VRel.move mv hm S₂.hd) .nil,hd⟩
   have e:=e₁.trans e₂
   refine⟨_,_,_,⟨e.gens,e.drawn,e.os⟩,hS.sub fun p hp=>?_,q₂⟩
   rcases List.mem_cons.mp hp with rfl|hp
   .exact .head _
   .exact .tail _ (.tail _ (.tail _ hp))
theorem snd_attr{o:Expr}{po:PE}{x:Str}{k:Nat}{pos:Pos}(ho:Snd C c o po)(hk:idxS x c.fields=some k)(hcalm:calm o=true):Snd C c (.Attribute o x pos) (.attr po k):=by
 refine Snd.plain (fun F hc A d s mu T st Q rm h1 S q=>?_) (fun _ _ _=>rfl) (fun _ _=>rfl)
 refine Attribute_any_ (thenV (ho.E F hc A d s mu T st _ rm h1 S q) fun v s₁ mu₁ p st₁ e₁ S₁ q₁=>?_) (by cases o<;>first|rfl|exact nF hcalm)
 refine x1_1 q₁ fun y ey q₁=>?_
 exact doneV (op_attr hc.ok.unit S₁ S₁.hd (hc.fields▸idxS_at hk) ey q₁) e₁ sub1
theorem snd_sub{o i:Expr}{po pi:PE}{pos:Pos}(ho:Snd C c o po)(hi:Snd C c i pi)(hn:notSlice i=true):Snd C c (.Subscript o i pos) (.sub po pi):=by
 refine Snd.plain (fun F hc A d s mu T st Q rm h1 S q=>?_) (fun _ _ _=>rfl) (fun _ _=>rfl)
 refine Subscript_ (thenV (ho.E F hc A d s mu T st _ rm h1 S q) fun v s₁ mu₁ p st₁ e₁ S₁ q₁=>thenV (hi.E F hc A d s₁ mu₁ _ st₁ _ rm h1 S₁ q₁) fun w s₂ mu₂ p₂ st₂ e₂ S₂ q₂=>?_)
 refine x1_1 q₂ fun y ey q₂=>?_
 exact doneV (op_sub (rm.one h1) S₂ (S₂.vals (p,v) (.tail _ (.head _))) S₂.hd ey q₂ hn) (e₁.trans e₂) sub2
theorem snd_upto{o hi:Expr}{po ph:PE}{p1 pos:Pos}(ho:Snd C c o po)(hh:Snd C c hi ph):Snd C c (.Subscript o (.Slice none (some hi) none p1) pos) (.upto po ph):=by
 refine Snd.plain (fun F hc A d s mu T st Q rm h1 S q=>?_) (fun _ _ _=>rfl) (fun _ _=>rfl)
 refine Subscript_ (thenV (ho.E F hc A d s mu T st _ rm h1 S q) fun v s₁ mu₁ p st₁ e₁ S₁ q₁=>wpAny_Slice ?_)
 rw[evalPart_none,evalPart_some]
 refine wpAny_pure (thenV (hh.E F hc A d s₁ mu₁ _ st₁ _ rm h1 S₁ q₁) fun w s₂ mu₂ p₂ st₂ e₂ S₂ q₂=>wpAny_pure ?_)
 obtain⟨k,rfl,q₂⟩:=q₂
 .obtain⟨t,rfl⟩:=vr_int' S₂.hd
  have S₃:=S₂.push {cls:=.type "slice",data:=.fields #[Value.none,Value.int k t,Value.none]}
  have hx:vr C F mu₂ _ p v:=S₃.vals (p,v) (.tail _ (.head _))
  refine doneV (op_upto S₃ hx ⟨_,Heap.get?_push_size _ rfl,rfl,rfl⟩ q₂.1 rfl q₂.2) ⟨(e₁.trans e₂).gens,(e₁.trans e₂).drawn,(e₁.trans e₂).os⟩ sub2
theorem snd_from{o lo:Expr}{po pl:PE}{p1 pos:Pos}(ho:Snd C c o po)(hh:Snd C c lo pl):Snd C c (.Subscript o (.Slice (some lo) none none p1) pos) (.from_ po pl):=by
 refine Snd.plain (fun F hc A d s mu T st Q rm h1 S q=>?_) (fun _ _ _=>rfl) (fun _ _=>rfl)
 refine Subscript_ (thenV (ho.E F hc A d s mu T st _ rm h1 S q) fun v s₁ mu₁ p st₁ e₁ S₁ q₁=>wpAny_Slice ?_)
 rw[evalPart_none,evalPart_some]
 refine thenV (hh.E F hc A d s₁ mu₁ _ st₁ _ rm h1 S₁ q₁) fun w s₂ mu₂ p₂ st₂ e₂ S₂ q₂=>wpAny_pure (wpAny_pure ?_)
 obtain⟨k,rfl,q₂⟩:=q₂
 .obtain⟨t,rfl⟩:=vr_int' S₂.hd
  have S₃:=S₂.push {cls:=.type "slice",data:=.fields #[Value.int k t,Value.none,Value.none]}
  have hx:vr C F mu₂ _ p v:=S₃.vals (p,v) (.tail _ (.head _))
  refine doneV (op_from S₃ hx ⟨_,Heap.get?_push_size _ rfl,rfl,rfl⟩ q₂.1 rfl q₂.2) ⟨(e₁.trans e₂).gens,(e₁.trans e₂).drawn,(e₁.trans e₂).os⟩ sub2
end
end Mine.Internal
namespace Mine.Internal
open PySem PySem.W PyProof.Rows PySem.Calls
section
variable {C:Cx} {F:Frm} {c:CC} {A:Around} {d:Nat} {mu:List (Nat×Nat)} {T:List (PV×Value)} {st:St} {s:Shared} {Q:PV→St→Prop}
theorem callWith_fn{b:Bi}{pos:Pos}{e:Expr}{R:Value→Shared→Prop}(hp:plainE e=true)(h:wpAny (model C.prog C.w) A (spliced (backTo pos (starEach [e] F.env))) (fun vs s₁=>wpAny (model C.prog C.w) A (call b.fn vs) R noE s₁) noE s):
  wpAny (model C.prog C.w) A (callWith pos b.fn [] (backTo pos (starEach [e] F.env)) []) R noE s:=by
 cases b with
 |len=>exact callWith_builtin1 h (star_plain hp) rfl
 |abs=>exact callWith_builtin1 h (star_plain hp) rfl
 |int=>exact callWith_type1 h (star_plain hp) rfl
 |list=>exact callWith_type1 h (star_plain hp) rfl
 |all=>exact callWith_builtin1 h (star_plain hp) rfl
 |repr=>exact callWith_builtin1 h (star_plain hp) rfl
 |str=>exact callWith_type1 h (star_plain hp) rfl
theorem snd_bi{b:Bi}{f:Str}{fp pos:Pos}{e:Expr}{pe:PE}(he:Snd C c e pe)(hp:plainE e=true)(hg:c.gv f=some (.bi b)):Snd C c (.Call (.Name f fp) [e] [] pos) (.bi b pe):=by
 refine Snd.plain (fun F hc A d s mu T st Q rm h1 S q=>?_) (fun _ _ _=>rfl) (fun _ _=>rfl)
 refine x0_2 (gv_kind hc hg) fun k hd hb=>?_
 refine wpAny_Call_ofName (name_boot hc S k hd hb (callWith_fn hp (args_cons (thenV (he.E F hc A d s mu T st _ rm h1 S q) fun v s₁ mu₁ p st₁ e₁ S₁ q₁=>args_nil ?_) (star_plain hp))))
 exact doneV (op_bi (rm.one h1) S₁ S₁.hd q₁) e₁ sub1
theorem op_isinst{t:String}{p:PV}{v:Value}{b:Bool}(S:Sim C F mu T st s.heap)(hx:vr C F mu s.heap p v)(e:isinstV t p=some b)(q:Q (.bool b) st):
  wpAny (model C.prog C.w) A (call (.builtin "isinstance") [v,.type t]) (LiftV C F T Q s) noE s:=by
 have q1:=lift_here (tk:=s.toks+1) S vr_bool q
 have q0:=lift_here (tk:=s.toks) S vr_bool q
 cases p with
 |int i=>
  obtain⟨u,rfl⟩:=vr_int' hx
  unfold isinstV at e
  dsimp only at e
  split at e
  .rename_i h;obtain rfl:=Option.some.inj e;subst h;exact PySem.IsiPair.int_int q0
  .split at e
   .rename_i h;obtain rfl:=Option.some.inj e;rcases h with rfl|rfl|rfl
    .exact PySem.IsiPair.int_bool q1
    .exact PySem.IsiPair.int_str q1
    .exact PySem.IsiPair.int_tuple q1
   .exact nN e
 |str i=>
  obtain⟨u,rfl⟩:=vr_str' hx
  unfold isinstV at e
  dsimp only at e
  split at e
  .rename_i h;obtain rfl:=Option.some.inj e;subst h;exact PySem.IsiPair.str_str q0
  .split at e
   .rename_i h;obtain rfl:=Option.some.inj e;rcases h with rfl|rfl|rfl
    .exact PySem.IsiPair.str_bool q1
    .exact PySem.IsiPair.str_int q1
    .exact PySem.IsiPair.str_tuple q1
   .exact nN e
 |tup l=>
  obtain⟨a,vs,rfl,_,⟨o,ho,hcl,_⟩,_⟩:=vr_tup' hx
  unfold isinstV at e
  dsimp only at e
  split at e
  .rename_i h;obtain rfl:=Option.some.inj e;subst h;exact PySem.IsiPair.tuple_tuple ho hcl q0
  .split at e
   .rename_i h;obtain rfl:=Option.some.inj e;rcases h with rfl|rfl|rfl
    .exact PySem.IsiPair.tuple_bool ho hcl q1
    .exact PySem.IsiPair.tuple_int ho hcl q1
    .exact PySem.IsiPair.tuple_str ho hcl q1
   .exact nN e
 |none=>
  obtain rfl:=vr_none' hx
  unfold isinstV at e
  dsimp only at e
  split at e
  .rename_i h;obtain rfl:=Option.some.inj e;rcases h with rfl|rfl|rfl|rfl
   .exact call_isinstance (isinstance_false_none (by decide+kernel) PySem.F.isi_meta_bool PySem.F.sub_NoneType_bool) q1
   .exact call_isinstance (isinstance_false_none (by decide+kernel) PySem.F.isi_meta_int PySem.F.sub_NoneType_int) q1
   .exact call_isinstance (isinstance_false_none (by decide+kernel) PySem.F.isi_meta_str PySem.F.sub_NoneType_str) q1
   .exact call_isinstance (isinstance_false_none (by decide+kernel) PySem.F.isi_meta_tuple PySem.F.sub_NoneType_tuple) q1
  .exact nN e
 |_=>exact nN e
theorem tyOf_glob{C:Cx}{x:Str}{g:GV}{ty:String}(h:GlobV C x g)(e:tyOf g=some ty):nsIn C.K mainGlobals x=some none∧x≠ "__name__"∧bootBuiltins x=some (.type ty):=by
 cases g with
 |ty t=>simp only[tyOf,Option.some.injEq]at e;subst e;exact h
 |bi b=>cases b<;>simp[tyOf]at e<;>subst e<;>exact h
 |_=>simp[tyOf]at e
theorem snd_isinst{f t:Str}{fp np pos:Pos}{e:Expr}{pe:PE}{ty:String}(he:Snd C c e pe)(hp:plainE e=true)(hg:c.gv f=some .isinst)(ht:(c.gv t).bind tyOf=some ty):
  Snd C c (.Call (.Name f fp) [e,.Name t np] [] pos) (.isinst ty pe):=by
 refine Snd.plain (fun F hc A d s mu T st Q rm h1 S q=>?_) (fun _ _ _=>rfl) (fun _ _=>rfl)
 refine x0_2 (gv_kind hc hg) fun k hd hb=>?_
 refine x1_1 (Option.bind_eq_some_iff.mp ht) fun g2 hg2 hty=>?_
 refine x0_2 (gv_kind hc hg2) fun k2 hd2 hb2=>?_
 have hb2:=tyOf_glob hb2 hty
 refine wpAny_Call_ofName (name_boot hc S k hd hb (callWith_builtin1 (args_cons (thenV (he.E F hc A d s mu T st _ rm h1 S q) fun v s₁ mu₁ p st₁ e₁ S₁ q₁=>args_cons (name_boot hc S₁ k2 hd2 hb2 (args_nil ?_)) rfl) (star_plain hp)) (star_plain hp) rfl))
 refine x1_1 q₁ fun b eb q₁=>?_
 exact doneV (op_isinst S₁ S₁.hd eb q₁) e₁ sub1
theorem fn_at(hc:EnvC C F c)(S:Sim C F mu T st s.heap)(g:Nat):∃o fd,o.data=.func fd∧∀(mu':List (Nat×Nat))(T':List (PV×Value))(st':St)(s':Shared),Sim C F mu' T' st' s'.heap→s'.heap.get? (C.fa g)=some o:=by
 refine x2_1 (hc.ok.fns g) fun o fd h1 h2=>?_
 exact⟨o,fd,h2,fun _ _ _ _ S'=>S'.kin _ _ h1⟩
theorem call_fn{g:Nat}{a:Expr}{r:List Expr}{f:Expr→PE}{pos:Pos}(hc:EnvC C F c)(rm:Room A d)(h1:1≤d)(S:Sim C F mu T st s.heap)(hs:Snds C c (a::r) f)(hp:(a::r).all plainE=true)
  (q:wpEs C d ((a::r).map f) (fun vs st=>CallOK C d g vs st.sto fun v sto=>Q v ⟨st.rho,sto⟩) st):
  wpAny (model C.prog C.w) A (callWith pos (.ref (C.fa g)) [] (backTo pos (starEach (a::r) F.env)) []) (LiftV C F T Q s) noE s:=by
 refine x2_1 (fn_at hc S g) fun o fd hd hg=>?_
 have hp':=hp
 rw[List.all_cons,Bool.and_eq_true]at hp'
 refine callWith_def hd (wpAny_mono (args_snd hc rm h1 hs hp S q) (fun vs s₁ zQ=>?_) fun _ _ h=>h) (star_plain hp'.1)
 refine x3_4 zQ fun mu₁ ps st₁ e₁ S₁ r₁ l₁ q₁=>?_
 refine⟨hg _ _ _ _ S₁,?_⟩
 refine wpAny_call (codeAny_mono (q₁ F A s₁ mu₁ T st₁.rho vs rm S₁ r₁) fun r s₂ zQ=>?_)
 refine x1_1 zQ fun v ev zR=>x3_2 zR fun mu₂ pv sto₂ e₂ S₂ q₂=>?_
 subst ev
 exact⟨mu₂,pv,_,e₁.trans e₂,S₂,q₂⟩
theorem snd_call{g:Nat}{x:Str}{np pos:Pos}{a:Expr}{r:List Expr}{f:Expr→PE}(hs:Snds C c (a::r) f)(hp:(a::r).all plainE=true)(hg:c.gv x=some (.fn g)):
  Snd C c (.Call (.Name x np) (a::r) [] pos) (.call g ((a::r).map f)):=by
 refine Snd.plain (fun F hc A d s mu T st Q rm h1 S q=>?_) (fun _ _ _=>rfl) (fun _ _=>rfl)
 refine x0_2 (gv_kind hc hg) fun k hd hb=>?_
 exact wpAny_Call_ofName (name_top hc S k hd hb (call_fn hc rm h1 S hs hp q))
theorem snd_callv{i:Nat}{x:Str}{np pos:Pos}{a:Expr}{r:List Expr}{f:Expr→PE}(hs:Snds C c (a::r) f)(hp:(a::r).all plainE=true)(hv:c.var x=some i):
  Snd C c (.Call (.Name x np) (a::r) [] pos) (.callv i ((a::r).map f)):=by
 refine Snd.plain (fun F hc A d s mu T st Q rm h1 S q=>?_) (fun _ _ _=>rfl) (fun _ _=>rfl)
 refine x1_1 q fun p e q=>?_
 obtain⟨f,rfl,q⟩:=q
 refine wpAny_Call_ofName (name_var hc S hv e fun v hx=>?_)
 obtain rfl:=vr_fn' hx
 exact call_fn hc rm h1 S hs hp q
theorem live_list(S:Sim C F mu T st s.heap){p:PV}{v:Value}(hx:vr C F mu s.heap p v)(h:liveList st.sto p):∃a vs n,v=.ref a∧s.heap.get? a=some {cls:=.type "list",data:=.seq vs n}:=by
 refine x2_1 h fun i l zE hi=>?_;subst zE
 refine x1_1 (vr_ref' hx) fun pp hp zL=>?_;subst zL
 refine x0_1 (S.objs _ _ _ hi hp) fun _ zR=>x2_1 zR fun vs n ho _=>?_
 exact⟨_,_,n,rfl,ho⟩
noncomputable def Meth.name:Meth→Str
 | .append=>"append"| .extend=>"extend"| .insert=>"insert"| .pop=>"pop"
theorem methOf_name{x:Str}{m:Meth}(h:methOf x=some m):x=m.name:=by
 unfold methOf at h
 split at h
 .rename_i e;obtain rfl:=Option.some.inj h;exact eq_of_beq e
 .split at h
  .rename_i e;obtain rfl:=Option.some.inj h;exact eq_of_beq e
  .split at h
   .rename_i e;obtain rfl:=Option.some.inj h;exact eq_of_beq e
   .split at h
    .rename_i e;obtain rfl:=Option.some.inj h;exact eq_of_beq e
    .exact nN h
theorem Meth.slot(m:Meth):Slot "list" m.name m.id∧typeOf (.builtin m.id)=pure (.type "method_descriptor"):=by
 cases m
 .exact⟨PySem.F.slot_list_append,PySem.F.type_list_append⟩
 .exact⟨PySem.F.slot_list_extend,PySem.F.type_list_extend⟩
 .exact⟨PySem.F.slot_list_insert,PySem.F.type_list_insert⟩
 .exact⟨PySem.F.slot_list_pop,PySem.F.type_list_pop⟩
theorem star_few:∀{es:List Expr}{env:Env}{pos:Pos},es.all plainE=true→(backTo pos (starEach es env)).all (fun x=> !x.1)=true
 |[],env,pos,_=>rfl
 |e::es,env,pos,h=>by
  rw[List.all_cons,Bool.and_eq_true]at h
  rw[star_plain h.1]
  have:=star_few (env:=env) (pos:=pos) h.2
  unfold backTo at this ⊢
  rw[List.map_cons,List.all_cons,this]
  rfl
theorem snd_meth{m:Meth}{x:Str}{o:Expr}{po:PE}{ap pos:Pos}{es:List Expr}{f:Expr→PE}(ho:Snd C c o po)(hs:Snds C c es f)(hp:es.all plainE=true)(hm:methOf x=some m)(hcalm:calm o=true)(hl:(ap.endLine==pos.line)=true)(hn:es.length<5):
  Snd C c (.Call (.Attribute o x ap) es [] pos) (.meth m po (es.map f)):=by
 refine Snd.plain (fun F hc A d s mu T st Q rm h1 S q=>?_) (fun _ _ _=>rfl) (fun _ _=>rfl)
 obtain rfl:=methOf_name hm
 refine wpAny_Call_method_late (by cases o<;>first|rfl|exact nF hcalm) ?_ hl rfl (thenV (ho.E F hc A d s mu T st _ rm h1 S q) fun v s₁ mu₁ p st₁ e₁ S₁ q₁=>?_)
 .rw[star_few hp]
  simp
  have:(backToKw pos (keywordEach [] F.env))=[]:=rfl
  refine⟨?_,by exact Nat.le_trans hn (Nat.le_add_left _ _)⟩
  intro a x hx
  rw[this]at hx
  exact nM hx
 .refine x3_1 (live_list S₁ S₁.hd q₁.1) fun a vs n zE hob=>?_;subst zE
  refine⟨"list",m.id,PySem.F.plainAttrs_list,m.slot.1,m.slot.2,⟨_,hob,rfl⟩,fun b e=>by cases e;exact⟨_,hob,rfl⟩,?_⟩
  have key:wpAny (model C.prog C.w) A (spliced (backTo pos (starEach es F.env))) (fun vs s₁=>wpAny (model C.prog C.w) A (call (.builtin m.id) ([Value.ref a]++vs)) (LiftV C F T Q s) noE s₁) noE s₁:=
   wpAny_mono (args_snd hc rm h1 hs hp S₁ q₁.2) (fun vs s₂ ⟨mu₂,ps,st₂,e₂,S₂,r₂,l₂,q₂⟩=>doneV (op_meth S₂ S₂.hd r₂ q₂) (e₁.trans e₂) sub1) fun _ _ h=>h
  cases es with
  |nil=>exact callWith_method0 (doneV (op_meth S₁ S₁.hd VRels.nil q₁.2) e₁ sub1)
  |cons e es=>
   rw[List.all_cons,Bool.and_eq_true]at hp
   exact callWith_method1 key (star_plain hp.1) (star_any hp.2)
end
end Mine.Internal
namespace Mine.Internal
open PySem PySem.W PyProof.Rows PySem.Calls
theorem tc_frames(args:Args):(Code.builtin "type.__call__" args).frames=0:=by
 rfl
theorem tc_guards(args:Args):(Code.builtin "type.__call__" args).guards=[]:=by
 rfl
theorem tc_room{A:Around}{d:Nat}{args:Args}(r:Room A d)(h:3≤d):Room (A.under (.builtin "type.__call__" args)) 2 where
 handled:=r.handled
 guards:=by
  show pushGuards (Code.builtin "type.__call__" args).guards A.guards=some []
  rw[tc_guards,r.guards]
  rfl
 depth:=by
  show A.depth+(Code.builtin "type.__call__" args).weight+_≤_
  have:=r.depth
  have hw:(Code.builtin "type.__call__" args).weight≤3:=by
   unfold Code.weight
   rw[tc_frames]
   have h1:(Code.builtin "type.__call__" args).isGuard=false:=rfl
   have h2:(Code.builtin "type.__call__" args).isCaller=false:=rfl
   rw[h1,h2]
   simp
   split<;>omega
  exact o27 h this hw
 units:=by
  show A.units+(Code.builtin "type.__call__" args).cUnits+_≤_
  have:=r.units
  have hw:(Code.builtin "type.__call__" args).cUnits=1:=by
   show 1+3*(Code.builtin "type.__call__" args).frames=1
   rw[tc_frames]
  exact o28 h this hw
section
variable {C:Cx} {F:Frm} {c:CC} {A:Around} {d:Nat} {mu:List (Nat×Nat)} {T:List (PV×Value)} {st:St} {s:Shared} {Q:PV→St→Prop}
theorem call_unit{vs:List Value}{ps:List PV}(hU:UnitOk C)(rm:Room A d)(h2:3≤d)(S:Sim C F mu T st s.heap)(hv:VRels C (XS F.fx mu) s.heap mu ps vs)
  (q:CallOK C 2 0 (.ref st.sto.length::ps) (st.sto++[.inst []]) fun v sto=>isNone v=true∧Q (.ref st.sto.length) ⟨st.rho,sto⟩):
  wpAny (model C.prog C.w) A (call (.ref C.cu) vs) (LiftV C F T Q s) noE s:=by
 refine wpAny_call ?_
 obtain⟨h,g,dr,t,os⟩:=s
 have k:∀b o,h.get? b=some o→((h.push emptyDict).push (instObj C.cu h.objs.size)).get? b=some o:=fun b o e=>Heap.get?_push_of_some _ (Heap.get?_push_of_some _ e)
 have hx:((h.push emptyDict).push (instObj C.cu h.objs.size)).get? (h.objs.size+1)=some (instObj C.cu h.objs.size):=by heap_get
 have hd:((h.push emptyDict).push (instObj C.cu h.objs.size)).get? h.objs.size=some emptyDict:=by heap_get
 refine make_core (makes_of S.kin hU.makes) (looks_findIn S.kin hU.init) (fun self=>bind_fn S.kin self hU.initfn) (.inl rfl) ?_
 have S':Sim C F (mu++[(h.objs.size+1,h.objs.size)]) ((.ref st.sto.length,.ref (h.objs.size+1))::T) ⟨st.rho,st.sto++[.inst []]⟩ ((h.push emptyDict).push (instObj C.cu h.objs.size)):=
  S.newLive (p:=(h.objs.size+1,h.objs.size)) (o:=.inst []) k (Nat.le_succ _) (Nat.le_refl _) (Heap.lt_size hx) (Heap.lt_size hd) ⟨[],⟨hx, #[],0,hd,by cases C.fields<;>trivial⟩,VRels.nil⟩
 have mv:Move (XS F.fx mu) (XS F.fx (mu++[(h.objs.size+1,h.objs.size)])) h ((h.push emptyDict).push (instObj C.cu h.objs.size)):=⟨fun b o e _=>k b o e,fun b zQ q=>by
  obtain⟨_,hb⟩:=zQ
  have hb:b<h.objs.size:=Heap.lt_size hb
  rcases q with q|⟨p,hp,q⟩
  .exact .inl q
  .rcases List.mem_append.mp hp with hp|hp
   .exact .inr ⟨p,hp,q⟩
   .rw[List.mem_singleton]at hp;subst hp
    rcases q with rfl|rfl
    .exact absurd hb (Nat.not_lt.mpr (Nat.le_succ _))
    .exact absurd hb (Nat.lt_irrefl _)⟩
 have hv':=hv.move mv (mu':=mu++[(h.objs.size+1,h.objs.size)]) fun i q e=>by rw[List.getElem?_append_left (List.getElem?_eq_some_iff.mp e).1];exact e
 refine codeAny_mono (q F _ ⟨(h.push emptyDict).push (instObj C.cu h.objs.size),g,dr,t,os⟩ _ _ st.rho _ (tc_room rm h2) S' (.cons S'.hd hv')) fun r s₂ zQ=>?_
 refine x1_1 zQ fun v ev zR=>x3_3 zR fun mu₂ pv sto₂ e₂ S₂ hn q₂=>?_
 subst ev
 have hvn:v=.none:=by
  have:=isNone_is S₂.hd
  rw[hn]at this
  exact eq_of_beq this
 subst hvn
 refine⟨rfl,mu₂,_,_,⟨e₂.gens,e₂.drawn,e₂.os⟩,S₂.tail,q₂⟩
theorem snd_unit{x:Str}{np pos:Pos}{a:Expr}{r:List Expr}{f:Expr→PE}(hs:Snds C c (a::r) f)(hp:(a::r).all plainE=true)(hg:c.gv x=some .unit):
  Snd C c (.Call (.Name x np) (a::r) [] pos) (.unit ((a::r).map f)):=by
 refine Snd.plain (fun F hc A d s mu T st Q rm h1 S q=>?_) (fun _ _ _=>rfl) (fun _ _=>rfl)
 refine x0_2 (gv_kind hc hg) fun k hd hb=>?_
 have hp':=hp
 rw[List.all_cons,Bool.and_eq_true]at hp'
 refine wpAny_Call_ofName (name_top hc S k hd hb (callWith_K S.kin hc.ok.keepU (wpAny_mono (args_snd hc rm h1 hs hp S q.2) (fun vs s₁ zQ=>?_) fun _ _ h=>h) (star_plain hp'.1) (star_any hp'.2)))
 refine x3_4 zQ fun mu₁ ps st₁ e₁ S₁ r₁ l₁ q₁=>?_
 refine⟨S₁.kin,?_⟩
 exact doneV (call_unit hc.ok.unit rm q.1 S₁ r₁ q₁) e₁ (fun _ h=>h)
end
end Mine.Internal
namespace Mine.Internal
open PySem PySem.W PyProof.Rows PySem.Calls
noncomputable def hide(h:Heap)(p:Nat→Bool):Heap:=⟨h.objs.mapIdx fun i o=>if p i then{o with data:=.freed}else o,h.life⟩
theorem hide_get(h:Heap)(p:Nat→Bool)(a:Nat):(hide h p).get? a=if p a then none else h.get? a:=by
 unfold hide Heap.get?
 simp only[Array.getElem?_mapIdx]
 cases e:h.objs[a]? with
 |none=>simp
 |some o=>
  obtain⟨c,d,data,sl⟩:=o
  simp only[Option.map_some]
  by_cases hp:p a=true
  .simp[hp]
  .simp[hp]
noncomputable def Frm.adds(F:Frm):List (Nat×Obj)→Frm
 |[]=>F
 |(a,o)::ps=>(F.adds ps).add a o
theorem adds_env(F:Frm):∀ps,(F.adds ps).env=F.env
 |[]=>rfl
 |(a,o)::ps=>adds_env F ps
theorem adds_slots(F:Frm):∀ps,(F.adds ps).slots=F.slots
 |[]=>rfl
 |(a,o)::ps=>adds_slots F ps
theorem adds_base(F:Frm):∀ps,(F.adds ps).base=F.base
 |[]=>rfl
 |(a,o)::ps=>adds_base F ps
theorem adds_mu0(F:Frm):∀ps,(F.adds ps).mu0=F.mu0
 |[]=>rfl
 |(a,o)::ps=>adds_mu0 F ps
theorem adds_wr(F:Frm):∀ps,(F.adds ps).wr=F.wr
 |[]=>rfl
 |(a,o)::ps=>adds_wr F ps
theorem adds_prot(F:Frm):∀ps,(F.adds ps).prot=ps++F.prot
 |[]=>rfl
 |(a,o)::ps=>by show(a,o)::(F.adds ps).prot=_;rw[adds_prot F ps];rfl
theorem adds_fx(F:Frm)(x:Nat):∀ps,(F.adds ps).fx x↔F.fx x∨x∈ps.map Prod.fst
 |[]=>by simp[Frm.adds]
 |(a,o)::ps=>by
  show(F.adds ps).fx x∨x=a↔_
  rw[adds_fx F x ps]
  simp only[List.map_cons,List.mem_cons]
  constructor
  .rintro((h|h)|h)
   .exact .inl h
   .exact .inr (.inr h)
   .exact .inr (.inl h)
  .rintro(h|h|h)
   .exact .inl (.inl h)
   .exact .inr h
   .exact .inl (.inr h)
theorem EnvC.adds{C:Cx}{F:Frm}{c:CC}(hc:EnvC C F c):∀ps,EnvC C (F.adds ps) c
 |[]=>hc
 |(a,o)::ps=>(EnvC.adds hc ps).add
noncomputable def offMu(mu:List (Nat×Nat))(ps:List (Nat×Obj))(a:Nat):Bool:=mu.any (fun p=>p.1==a||p.2==a)||ps.any (fun p=>p.1==a)
theorem offMu_true{mu:List (Nat×Nat)}{ps:List (Nat×Obj)}{a:Nat}:offMu mu ps a=true↔(∃p∈mu,a=p.1∨a=p.2)∨a∈ps.map Prod.fst:=by
 unfold offMu
 simp only[Bool.or_eq_true,List.any_eq_true,beq_iff_eq,List.mem_map]
 constructor
 .rintro(⟨p,hp,h⟩|⟨p,hp,h⟩)
  .exact .inl ⟨p,hp,h.imp Eq.symm Eq.symm⟩
  .exact .inr ⟨p,hp,h⟩
 .rintro(⟨p,hp,h⟩|⟨p,hp,h⟩)
  .exact .inl ⟨p,hp,h.imp Eq.symm Eq.symm⟩
  .exact .inr ⟨p,hp,h⟩
noncomputable def inner(F:Frm)(h:Heap)(mu:List (Nat×Nat))(ps:List (Nat×Obj))(env:Env)(slots:List Str)(own:Nat→Prop)(wr:Bool):Frm where
 env:=env
 slots:=slots
 base:=hide h (offMu mu ps)
 fx:=fun a=>F.fx a∨own a
 prot:=[]
 mu0:=mu
 wr:=wr
structure Entry(C:Cx)(F:Frm)(h:Heap)(env:Env)(slots:List Str)(own:Nat→Prop)(wr:Bool)(h':Heap):Prop where
 grow:∀b o,h.get? b=some o→h'.get? b=some o
 kind:env.scope.kind=.function
 glob:env.globals=mainGlobals
 bltn:env.builtins=builtinsNs
 new:∀a:Nat,own a→h.objs.size≤a∧∃o,h'.get? a=some o
 loc:own env.locals
 ns:∃m,h'.Ns env.locals m
 cell:∀n c,env.cells.lookup n=some c→(own c∨Holder F.env c)∧c≠env.locals∧∃v,h'.IsCell c v
 cellall:∀n,env.kindOf n=some .cell∨env.kindOf n=some .free→(env.cells.lookup n).isSome=true
 cell1:∀n n' c,env.cells.lookup n=some c→env.cells.lookup n'=some c→n=n'
 cellnew:wr=true→∀n c,env.kindOf n=some .cell→env.cells.lookup n=some c→own c
 slots1:slots.Nodup
section
variable {C:Cx} {F:Frm} {mu:List (Nat×Nat)} {T:List (PV×Value)} {st:St} {h h' h₁:Heap} {ps:List (Nat×Obj)} {env:Env} {slots:List Str} {own:Nat→Prop} {wr:Bool}
theorem base_in(S:Sim C (F.adds ps) mu T st h){b:Nat}{o:Obj}(e:F.base.get? b=some o):(hide h (offMu mu ps)).get? b=some o:=by
 rw[hide_get]
 have e':(F.adds ps).base.get? b=some o:=by rw[adds_base];exact e
 rw[if_neg,S.keep b o e']
 intro q
 rcases offMu_true.mp q with⟨p,hp,q⟩|q
 .have:=S.muoff p hp
  rcases q with rfl|rfl
  .exact absurd (this.2.2.1.symm.trans e') (by simp)
  .exact absurd (this.2.2.2.symm.trans e') (by simp)
 .refine x1_1 (List.mem_map.mp q) fun p hp zL=>?_;subst zL
  have:=(S.ok.protfx p (by rw[adds_prot];exact List.mem_append_left _ hp)).2.1
  exact absurd (this.symm.trans e') (by simp)
theorem base_out{b:Nat}{o:Obj}(e:(hide h (offMu mu ps)).get? b=some o):h.get? b=some o∧(∀p∈mu,b≠p.1∧b≠p.2)∧b∉ps.map Prod.fst:=by
 rw[hide_get]at e
 split at e
 .exact nN e
 .rename_i q
  rw[Bool.not_eq_true]at q
  refine⟨e,fun p hp=>⟨fun z=>?_,fun z=>?_⟩,fun z=>?_⟩
  .rw[offMu_true.mpr (.inl ⟨p,hp,.inl z⟩)]at q;exact nT q
  .rw[offMu_true.mpr (.inl ⟨p,hp,.inr z⟩)]at q;exact nT q
  .rw[offMu_true.mpr (.inr z)]at q;exact nT q
theorem xs_inner{x:Nat}:XS ((inner F h mu ps env slots own wr).adds ps).fx mu x↔XS (F.adds ps).fx mu x∨own x:=by
 unfold XS
 rw[adds_fx,adds_fx]
 constructor
 .rintro(((q|q)|q)|q)
  .exact .inl (.inl (.inl q))
  .exact .inr q
  .exact .inl (.inl (.inr q))
  .exact .inl (.inr q)
 .rintro(((q|q)|q)|q)
  .exact .inl (.inl (.inl q))
  .exact .inl (.inr q)
  .exact .inr q
  .exact .inl (.inl (.inr q))
theorem Sim.enter(S:Sim C (F.adds ps) mu T st h)(E:Entry C F h env slots own wr h'){rho:List (Option PV)}
  (hv:∀(i:Nat)n pv,slots[i]? =some n→rho[i]? =some (some pv)→∃v,SlotHas env h' n v∧VRel C (XS (F.adds ps).fx mu) h mu pv v):
  Sim C ((inner F h mu ps env slots own wr).adds ps) mu T ⟨rho,st.sto⟩ h':=by
 have nown:∀a:Nat,own a→¬XS (F.adds ps).fx mu a:=fun a q z=>absurd (S.bound a z) (Nat.not_lt.mpr (E.new a q).1)
 have mv:Move (XS (F.adds ps).fx mu) (XS ((inner F h mu ps env slots own wr).adds ps).fx mu) h h':=⟨fun b o e _=>E.grow b o e,fun b zQ q=>by
  obtain⟨_,hb⟩:=zQ
  rcases xs_inner.mp q with q|q
  .exact q
  .exact absurd (Heap.lt_size hb) (Nat.not_lt.mpr (E.new b q).1)⟩
 have hin:∀a,Holder (F.adds ps).env a→(F.adds ps).fx a:=fun a q=>holder_fx S q
 have pin:∀p∈ps,p∈(F.adds ps).prot:=fun p hp=>by rw[adds_prot];exact List.mem_append_left _ hp
 have fxin:∀a,Holder F.env a→F.fx a∨own a:=fun a q=>by
  have h1:Holder (F.adds ps).env a:=by rw[adds_env];exact q
  rcases(adds_fx F a ps).mp (hin a h1)with z|z
  .exact .inl z
  .refine x1_1 (List.mem_map.mp z) fun p hp zL=>?_;subst zL
   exact absurd h1 (S.ok.protfx p (pin p hp)).2.2.1
 have okI:((inner F h mu ps env slots own wr).adds ps).Ok C:={
  kin:=fun a o e=>by
   rw[adds_base]
   show(hide h (offMu mu ps)).get? a=some o
   have:=S.ok.kin a o e
   rw[adds_base]at this
   exact base_in S this
  lim:=by
   have h1:=S.ok.lim
   rw[adds_base]at h1 ⊢
   exact h1.keeps fun b o e=>base_in S e
  kind:=by rw[adds_env];exact E.kind
  glob:=by rw[adds_env];exact E.glob
  bltn:=by rw[adds_env];exact E.bltn
  locfx:=by rw[adds_env,adds_fx];exact .inl (.inr E.loc)
  locbase:=by
   rw[adds_env,adds_base]
   show(hide h (offMu mu ps)).get? env.locals=none
   rw[hide_get]
   split
   .rfl
   .exact Heap.get?_none_of_le (E.new _ E.loc).1
  cellfx:=fun n c e=>by
   rw[adds_env]at e
   rw[adds_fx]
   rcases(E.cell n c e).1 with q|q
   .exact .inl (.inr q)
   .exact .inl (fxin c q)
  cellloc:=fun n c e=>by rw[adds_env]at e ⊢;exact(E.cell n c e).2.1
  cellall:=fun n q=>by rw[adds_env]at q ⊢;exact E.cellall n q
  cell1:=fun n n' c e e'=>by rw[adds_env]at e e';exact E.cell1 n n' c e e'
  cellbase:=fun hw n c hk e=>by
   rw[adds_wr]at hw
   rw[adds_env]at hk e
   rw[adds_base]
   show(hide h (offMu mu ps)).get? c=none
   rw[hide_get]
   split
   .rfl
   .exact Heap.get?_none_of_le (E.new _ (E.cellnew hw n c hk e)).1
  protfx:=fun p hp=>by
   rw[adds_prot]at hp
   have hp:p∈ps:=by simpa [inner]using hp
   refine x0_3 (S.ok.protfx p (pin p hp)) fun h1 h2 h3 h4=>?_
   refine⟨(adds_fx _ _ _).mpr (.inr (List.mem_map_of_mem hp)),?_,?_,h4⟩
   .rw[adds_base]
    show(hide h (offMu mu ps)).get? p.1=none
    rw[hide_get,if_pos (offMu_true.mpr (.inr (List.mem_map_of_mem hp)))]
   .rw[adds_env]
    have np:¬own p.1:=fun q=>nown _ q (.inl h1)
    rintro(q|⟨n,q⟩)
    .exact np (by rw[q];exact E.loc)
    .rcases(E.cell n _ q).1 with z|z
     .exact np z
     .exact h3 (by rw[adds_env];exact z)
  prot1:=by
   have:=S.ok.prot1
   rw[adds_prot]at this ⊢
   rw[List.map_append]at this
   show((ps++[]).map Prod.fst).Nodup
   rw[List.append_nil]
   exact(List.nodup_append.mp this).1
  fxtop:=fun a q=>by
   cases e:C.K.lookup a with
   |none=>rfl
   |some o=>
    have hX:=S.top e
    rcases xs_inner.mp (.inl q:XS ((inner F h mu ps env slots own wr).adds ps).fx mu a)with q|q
    .exact absurd q hX
    .exact absurd (Heap.lt_size (S.kin _ _ e)) (Nat.not_lt.mpr (E.new a q).1)
  slots1:=by rw[adds_slots];exact E.slots1
  locne:=by
   rw[adds_env]
   show env.locals≠env.globals
   refine x2_1 S.ok.tops fun mg mb h1 _=>?_
   have:=(h1.keeps S.keep).lt
   rw[E.glob]
   intro z
   have h2:=(E.new _ E.loc).1
   rw[z]at h2
   exact absurd this (Nat.not_lt.mpr h2)
  tops:=by
   refine x2_2 S.ok.tops fun mg mb h1 h2 h3=>?_
   rw[adds_base]at h1 h2 ⊢
   exact⟨mg,mb,h1.keeps fun b o e=>base_in S e,h2.keeps fun b o e=>base_in S e,h3⟩}
 exact{
  ok:=okI
  keep:=fun b o e=>by rw[adds_base]at e;exact E.grow b o (base_out e).1
  pre:=⟨[],by rw[adds_mu0,List.append_nil];rfl⟩
  ns:=by rw[adds_env];exact E.ns
  cells:=fun n c e=>by rw[adds_env]at e;exact(E.cell n c e).2.2
  prot:=fun p hp=>by
   rw[adds_prot]at hp
   have hp:p∈ps:=by simpa [inner]using hp
   exact E.grow _ _ (S.prot p (pin p hp))
  vals:=fun p hp=>(S.vals p hp).move mv fun _ _ e=>e
  vars:=fun i n pv e1 e2=>by
   rw[adds_slots]at e1
   refine x1_1 (hv i n pv e1 e2) fun v h1 h2=>?_
   rw[adds_env]
   exact⟨v,h1,h2.move mv fun _ _ e=>e⟩
  len:=S.len
  objs:=fun i ob p e1 e2=>(S.objs i ob p e1 e2).move mv (fun _ _ e=>e) (fun o e=>E.grow _ o e) (fun o e=>E.grow _ o e)
  muoff:=fun p hp=>by
   refine x0_3 (S.muoff p hp) fun h1 h2 h3 h4=>?_
   refine⟨?_,?_,?_,?_⟩
   .intro q
    rw[adds_fx]at q
    rcases q with(q|q)|q
    .exact h1 ((adds_fx _ _ _).mpr (.inl q))
    .exact nown _ q (.inr ⟨p,hp,.inl rfl⟩)
    .exact h1 ((adds_fx _ _ _).mpr (.inr q))
   .intro q
    rw[adds_fx]at q
    rcases q with(q|q)|q
    .exact h2 ((adds_fx _ _ _).mpr (.inl q))
    .exact nown _ q (.inr ⟨p,hp,.inr rfl⟩)
    .exact h2 ((adds_fx _ _ _).mpr (.inr q))
   .rw[adds_base]
    show(hide h (offMu mu ps)).get? p.1=none
    rw[hide_get,if_pos (offMu_true.mpr (.inl ⟨p,hp,.inl rfl⟩))]
   .rw[adds_base]
    show(hide h (offMu mu ps)).get? p.2=none
    rw[hide_get,if_pos (offMu_true.mpr (.inl ⟨p,hp,.inr rfl⟩))]
  mu1:=S.mu1
  has:=fun b q=>by
   rcases xs_inner.mp q with q|q
   .obtain⟨o,e⟩:=S.has b q;exact⟨o,E.grow b o e⟩
   .exact(E.new b q).2}
theorem Sim.exit{ps':List (Nat×Obj)}{T' T'':List (PV×Value)}{mu' nu:List (Nat×Nat)}{st':St}{sto'':Sto}(S:Sim C (F.adds ps) mu T st h)(hps:ps'.map Prod.fst=ps.map Prod.fst)
  (Si:Sim C ((inner F h mu ps env slots own wr).adds ps') mu' T' st' h₁) (hnew:∀a:Nat,own a→h.objs.size≤a) (kk:∀(b:Nat)o,¬own b→h₁.get? b=some o→h'.get? b=some o)
  (hnu:∀p∈nu,p∈mu') (hmu1:∀(i j:Nat)p q,(mu++nu)[i]? =some p→(mu++nu)[j]? =some q→(p.1=q.1∨p.1=q.2∨p.2=q.1∨p.2=q.2)→i=j)
  (hlen:sto''.length=(mu++nu).length)
  (hobj:∀(i:Nat)o p,sto''[i]? =some o→(mu++nu)[i]? =some p→ObjRel C (XS (F.adds ps').fx (mu++nu)) h' (mu++nu) p o)
  (hT:∀p∈T'',VRel C (XS (F.adds ps').fx (mu++nu)) h' (mu++nu) p.1 p.2):Sim C (F.adds ps') (mu++nu) (T''++T) ⟨st.rho,sto''⟩ h':=by
 have fxe:∀a,(F.adds ps').fx a↔(F.adds ps).fx a:=fun a=>by rw[adds_fx,adds_fx,hps]
 have pre:=Si.pre
 rw[adds_mu0]at pre
 obtain⟨nu0,hmu'⟩:=pre
 have hmu':mu'=mu++nu0:=hmu'
 have old:∀p∈mu,p∈mu':=fun p hp=>by rw[hmu'];exact List.mem_append_left _ hp
 have allnu:∀p∈mu++nu,p∈mu':=fun p hp=>(List.mem_append.mp hp).elim (old p) (hnu p)
 have nown:∀(b:Nat)o,h.get? b=some o→¬own b:=fun b o e q=>absurd (Heap.lt_size e) (Nat.not_lt.mpr (hnew b q))
 have kb:∀b o,h.get? b=some o→¬XS (F.adds ps).fx mu b→h'.get? b=some o:=fun b o e q=>by
  refine kk b o (nown b o e) (Si.keep b o ?_)
  rw[adds_base]
  show(hide h (offMu mu ps)).get? b=some o
  rw[hide_get,if_neg,e]
  intro z
  rcases offMu_true.mp z with⟨p,hp,z⟩|z
  .exact q (.inr ⟨p,hp,z⟩)
  .exact q (.inl ((adds_fx _ _ _).mpr (.inr z)))
 have kf:∀b o,h.get? b=some o→(∀p∈mu,b≠p.1∧b≠p.2)→b∉ps.map Prod.fst→h'.get? b=some o:=fun b o e q q2=>by
  refine kk b o (nown b o e) (Si.keep b o ?_)
  rw[adds_base]
  show(hide h (offMu mu ps)).get? b=some o
  rw[hide_get,if_neg,e]
  intro z
  rcases offMu_true.mp z with⟨p,hp,z⟩|z
  .rcases z with z|z
   .exact(q p hp).1 z
   .exact(q p hp).2 z
  .exact q2 z
 have offmu:∀b,(F.adds ps).fx b→∀p∈mu,b≠p.1∧b≠p.2:=fun b q p hp=>⟨fun z=>(S.muoff p hp).1 (z▸q),fun z=>(S.muoff p hp).2.1 (z▸q)⟩
 have pin:∀p∈ps,p∈(F.adds ps).prot:=fun p hp=>by rw[adds_prot];exact List.mem_append_left _ hp
 have nps:∀b,Holder (F.adds ps).env b→b∉ps.map Prod.fst:=fun b q z=>by
  refine x1_1 (List.mem_map.mp z) fun p hp zL=>?_;subst zL
  exact(S.ok.protfx p (pin p hp)).2.2.1 q
 have kh:∀b o,Holder (F.adds ps).env b→h.get? b=some o→h'.get? b=some o:=fun b o q e=>kf b o e (offmu b (holder_fx S q)) (nps b q)
 have xs':∀b:Nat,(∃o,h.get? b=some o)→XS (F.adds ps').fx (mu++nu) b→XS (F.adds ps).fx mu b:=fun b zQ q=>by
  obtain⟨o,hb⟩:=zQ
  rcases q with q|⟨p,hp,q⟩
  .exact .inl ((fxe b).mp q)
  .rcases List.mem_append.mp hp with hp|hp
   .exact .inr ⟨p,hp,q⟩
   .have off:=(Si.muoff p (hnu p hp)).2.2
    rw[adds_base]at off
    have hb':(hide h (offMu mu ps)).get? b=none:=by
     rcases q with rfl|rfl
     .exact off.1
     .exact off.2
    rw[hide_get]at hb'
    split at hb'
    .rename_i z
     rcases offMu_true.mp z with⟨p,hp,z⟩|z
     .exact .inr ⟨p,hp,z⟩
     .exact .inl ((adds_fx _ _ _).mpr (.inr z))
    .rw[hb]at hb';exact nS hb'
 have mv:Move (XS (F.adds ps).fx mu) (XS (F.adds ps').fx (mu++nu)) h h':=⟨kb,xs'⟩
 have hm:∀(i:Nat)q,mu[i]? =some q→(mu++nu)[i]? =some q:=fun i q e=>by
  rw[List.getElem?_append_left (List.getElem?_eq_some_iff.mp e).1];exact e
 have env':(F.adds ps').env=(F.adds ps).env:=by rw[adds_env,adds_env]
 have base':(F.adds ps').base=(F.adds ps).base:=by rw[adds_base,adds_base]
 have protOf:∀p∈(F.adds ps').prot,p∈ps'∨p∈F.prot:=fun p hp=>by rw[adds_prot]at hp;exact List.mem_append.mp hp
 have old_of:∀p∈ps',∃q∈ps,q.1=p.1:=fun p hp=>by
  have:p.1∈ps.map Prod.fst:=hps▸List.mem_map_of_mem hp
  refine x1_1 (List.mem_map.mp this) fun q hq e=>?_
  exact⟨q,hq,e⟩
 have pinI:∀p∈ps',p∈((inner F h mu ps env slots own wr).adds ps').prot:=fun p hp=>by rw[adds_prot];exact List.mem_append_left _ hp
 have Finp:∀p∈F.prot,p∈(F.adds ps).prot:=fun p hp=>by rw[adds_prot];exact List.mem_append_right _ hp
 have nodup:=S.ok.prot1
 rw[adds_prot,List.map_append]at nodup
 have apart:∀p∈F.prot,p.1∉ps.map Prod.fst:=fun p hp z=>(List.nodup_append.mp nodup).2.2 _ z _ (List.mem_map_of_mem hp) rfl
 have ok':(F.adds ps').Ok C:={
  kin:=base'▸S.ok.kin
  lim:=base'▸S.ok.lim
  kind:=by rw[env'];exact S.ok.kind
  glob:=by rw[env'];exact S.ok.glob
  bltn:=by rw[env'];exact S.ok.bltn
  locfx:=by rw[env',fxe];exact S.ok.locfx
  locbase:=by rw[env',base'];exact S.ok.locbase
  cellfx:=fun n c e=>by rw[env']at e;rw[fxe];exact S.ok.cellfx n c e
  cellloc:=fun n c e=>by rw[env']at e ⊢;exact S.ok.cellloc n c e
  cellall:=fun n q=>by rw[env']at q ⊢;exact S.ok.cellall n q
  cell1:=fun n n' c e e'=>by rw[env']at e e';exact S.ok.cell1 n n' c e e'
  cellbase:=fun hw n c hk e=>by
   rw[adds_wr]at hw
   rw[env']at hk e
   rw[base']
   exact S.ok.cellbase (by rw[adds_wr];exact hw) n c hk e
  protfx:=fun p hp=>by
   rw[fxe,base',env']
   rcases protOf p hp with hp|hp
   .refine x1_1 (old_of p hp) fun q hq e=>?_
    refine x0_3 (S.ok.protfx q (pin q hq)) fun h1 h2 h3 h4=>?_
    rw[e]at h1 h2 h3
    exact⟨h1,h2,h3,(Si.ok.protfx p (pinI p hp)).2.2.2⟩
   .exact S.ok.protfx p (Finp p hp)
  prot1:=by rw[adds_prot,List.map_append,hps];exact nodup
  fxtop:=fun a q=>S.ok.fxtop a ((fxe a).mp q)
  slots1:=by rw[adds_slots];have:=S.ok.slots1;rw[adds_slots]at this;exact this
  locne:=by rw[env'];exact S.ok.locne
  tops:=base'▸S.ok.tops}
 exact{
  ok:=ok'
  keep:=fun b o e=>by
   rw[adds_base]at e
   exact kk b o (nown b o (base_out (base_in S e)).1) (Si.keep b o (by rw[adds_base];exact base_in S e))
  pre:=by
   obtain⟨mm,e⟩:=S.pre
   rw[adds_mu0]at e ⊢
   exact⟨mm++nu,by rw[e,List.append_assoc]⟩
  ns:=by
   rw[env']
   refine x4_1 S.ns fun m o es ep ho r=>?_
   exact⟨m,o,es,ep,kh _ _ (.inl rfl) ho,r⟩
  cells:=fun n c e=>by
   rw[env']at e
   refine x2_1 (S.cells n c e) fun v o ho r=>?_
   exact⟨v,o,kh _ _ (.inr ⟨n,e⟩) ho,r⟩
  prot:=fun p hp=>by
   rcases protOf p hp with hp|hp
   .refine x1_1 (old_of p hp) fun q hq e=>?_
    exact kk _ _ (nown p.1 q.2 (e▸S.prot q (pin q hq))) (Si.prot p (pinI p hp))
   .exact kf _ _ (S.prot p (Finp p hp)) (offmu _ (S.ok.protfx p (Finp p hp)).1) (apart p hp)
  vals:=fun p hp=>by
   rcases List.mem_append.mp hp with hp|hp
   .exact hT p hp
   .exact(S.vals p hp).move mv hm
  vars:=fun i n pv e1 e2=>by
   rw[adds_slots]at e1
   refine x1_1 (S.vars i n pv (by rw[adds_slots];exact e1) e2) fun v h1 h2=>?_
   rw[env']
   exact⟨v,h1.keep fun a o q e=>kh a o q e,h2.move mv hm⟩
  len:=hlen
  objs:=hobj
  muoff:=fun p hp=>by
   rw[fxe,fxe,base']
   rcases List.mem_append.mp hp with hp|hp
   .exact S.muoff p hp
   .refine x0_3 (Si.muoff p (hnu p hp)) fun h1 h2 h3 h4=>?_
    have f1:∀a,(F.adds ps).fx a→((inner F h mu ps env slots own wr).adds ps').fx a:=fun a q=>by
     rw[adds_fx]at q ⊢
     rcases q with q|q
     .exact .inl (.inl q)
     .exact .inr (hps▸q)
    have b1:∀a,(hide h (offMu mu ps)).get? a=none→(F.adds ps).base.get? a=none:=fun a e=>by
     rw[adds_base]
     cases z:F.base.get? a with
     |none=>rfl
     |some o=>exact absurd ((base_in S z).symm.trans e) (by simp)
    rw[adds_base]at h3 h4
    exact⟨fun q=>h1 (f1 _ q),fun q=>h2 (f1 _ q),b1 _ h3,b1 _ h4⟩
  mu1:=hmu1
  has:=fun b q=>by
   rcases q with q|⟨p,hp,q⟩
   .have q2:((inner F h mu ps env slots own wr).adds ps').fx b:=by
     rw[adds_fx]at q ⊢
     rcases q with q|q
     .exact .inl (.inl q)
     .exact .inr q
    obtain⟨o,e⟩:=Si.has b (.inl q2)
    obtain⟨o',e'⟩:=S.has b (.inl ((fxe b).mp q))
    exact⟨o,kk b o (nown b o' e') e⟩
   .obtain⟨o,e⟩:=Si.has b (.inr ⟨p,allnu p hp,q⟩)
    refine⟨o,kk b o (fun z=>?_) e⟩
    have off:=Si.muoff p (allnu p hp)
    have f2:((inner F h mu ps env slots own wr).adds ps').fx b:=(adds_fx _ _ _).mpr (.inl (.inr z))
    rcases q with rfl|rfl
    .exact off.1 f2
    .exact off.2.1 f2}
theorem Sim.exitAll{ps':List (Nat×Obj)}{T' T'':List (PV×Value)}{mu':List (Nat×Nat)}{st':St}(S:Sim C (F.adds ps) mu T st h)(hps:ps'.map Prod.fst=ps.map Prod.fst)
  (Si:Sim C ((inner F h mu ps env slots own wr).adds ps') mu' T' st' h₁) (hnew:∀a:Nat,own a→h.objs.size≤a) (kk:∀(b:Nat)o,¬own b→h₁.get? b=some o→h'.get? b=some o) (hT:∀p∈T'',p∈T'):Sim C (F.adds ps') mu' (T''++T) ⟨st.rho,st'.sto⟩ h':=by
 have pre:=Si.pre
 rw[adds_mu0]at pre
 obtain⟨nu,hmu'⟩:=pre
 have hmu':mu'=mu++nu:=hmu'
 subst hmu'
 have ownfx:∀b,own b→((inner F h mu ps env slots own wr).adds ps').fx b:=fun b z=>(adds_fx _ _ _).mpr (.inl (.inr z))
 have mv:Move (XS ((inner F h mu ps env slots own wr).adds ps').fx (mu++nu)) (XS (F.adds ps').fx (mu++nu)) h₁ h':=⟨fun b o e q=>kk b o (fun z=>q (.inl (ownfx b z))) e,fun b _ q=>by
  rcases q with q|q
  .refine .inl ?_
   rw[adds_fx]at q ⊢
   rcases q with q|q
   .exact .inl (.inl q)
   .exact .inr q
  .exact .inr q⟩
 refine S.exit hps Si hnew kk (fun p hp=>List.mem_append_right _ hp) Si.mu1 Si.len (fun i o p e1 e2=>?_) fun p hp=>(Si.vals p (hT p hp)).move mv fun _ _ e=>e
 have off:=Si.muoff p (List.mem_of_getElem? e2)
 exact(Si.objs i o p e1 e2).move mv (fun _ _ e=>e) (fun _ e=>kk _ _ (fun z=>off.1 (ownfx _ z)) e) (fun _ e=>kk _ _ (fun z=>off.2.1 (ownfx _ z)) e)
theorem Sim.pushAll{qs:List (Nat×Obj)}:∀{h'},Sim C F mu T st h→(∀b o,h.get? b=some o→h'.get? b=some o)→(∀p∈qs,h.get? p.1=none∧h'.get? p.1=some p.2∧p.2.isFreed=false)→(qs.map Prod.fst).Nodup→Sim C (F.adds qs) mu T st h':=by
 induction qs with
 |nil=>exact fun S k _ _=>S.grow k
 |cons p qs ih=>
  intro h' S k hq hn
  obtain⟨a,o⟩:=p
  rw[List.map_cons,List.nodup_cons]at hn
  have h1:=hq (a,o) (.head _)
  have S2:Sim C (F.adds qs) mu T st (hide h' (· ==a)):=ih S (fun b ob e=>by
    rw[hide_get,if_neg,k b ob e]
    intro z
    have:b=a:=eq_of_beq z
    rw[this,h1.1]at e;exact nN e) (fun p hp=>by
    refine x0_2 (hq p (.tail _ hp)) fun e1 e2 e3=>?_
    refine⟨e1,?_,e3⟩
    rw[hide_get,if_neg,e2]
    intro z
    have:p.1=a:=eq_of_beq z
    exact hn.1 (List.mem_map.mpr ⟨p,hp,this⟩)) hn.2
  refine S2.pushProt' (fun b ob e=>?_) ?_ h1.2.1 h1.2.2
  .rw[hide_get]at e
   split at e
   .exact nN e
   .exact e
  .rw[hide_get];simp
theorem Frm.Ok.drop{a:Nat}{o:Obj}(x:(F.add a o).Ok C):F.Ok C:=by
 refine x0_3 (x.protfx (a,o) (.head _)) fun _ nb nh _=>?_
 have hd:(a::F.prot.map Prod.fst).Nodup:=x.prot1
 rw[List.nodup_cons]at hd
 exact{x with
  locfx:=x.locfx.elim id fun z=>absurd (.inl z.symm) nh
  cellfx:=fun n c e=>(x.cellfx n c e).elim id fun z=>absurd (.inr ⟨n,z▸e⟩) nh
  protfx:=fun p hp=>by
   refine x0_3 (x.protfx p (.tail _ hp)) fun h1 h2 h3 h4=>?_
   refine⟨h1.elim id fun z=>absurd (z▸List.mem_map_of_mem hp) hd.1,h2,h3,h4⟩
  prot1:=hd.2
  fxtop:=fun b q=>x.fxtop b (.inl q)}
theorem Sim.dropAll{qs:List (Nat×Obj)}:∀{h},Sim C (F.adds qs) mu T st h→(∀a∈qs.map Prod.fst,¬F.fx a)→(∀(b:Nat)o,b∉qs.map Prod.fst→h.get? b=some o→h'.get? b=some o)→Sim C F mu T st h':=by
 induction qs with
 |nil=>exact fun S _ k=>S.grow fun b o e=>k b o (by simp) e
 |cons p qs ih=>
  intro h S hf k
  obtain⟨a,o⟩:=p
  have S1:Sim C ((F.adds qs).add a o) mu T st h:=S
  have nd:=S1.ok.prot1
  have hd:(a::(F.adds qs).prot.map Prod.fst).Nodup:=nd
  rw[List.nodup_cons]at hd
  have na:a∉qs.map Prod.fst:=fun z=>hd.1 (by rw[adds_prot,List.map_append];exact List.mem_append_left _ z)
  have nf:¬(F.adds qs).fx a:=fun z=>by
   rcases(adds_fx F a qs).mp z with z|z
   .exact hf a (.head _) z
   .exact na z
  have S2:Sim C (F.adds qs) mu T st (hide h (· ==a)):=S1.dropProt S1.ok.drop nf fun b ob hb e=>by
   rw[hide_get,if_neg,e]
   intro z
   exact hb (eq_of_beq z)
  refine ih S2 (fun b hb=>hf b (.tail _ hb)) fun b ob hb e=>?_
  rw[hide_get]at e
  split at e
  .exact nN e
  .rename_i z
   refine k b ob ?_ e
   simp only[List.map_cons,List.mem_cons,not_or]
   exact⟨fun y=>z (decide_eq_true y),hb⟩
theorem adds_append(F:Frm)(qs:List (Nat×Obj)):∀ps,F.adds (ps++qs)=(F.adds qs).adds ps
 |[]=>rfl
 |(a,o)::ps=>by show(F.adds (ps++qs)).add a o=((F.adds qs).adds ps).add a o;rw[adds_append F qs ps]
theorem Sim.enterQ{qs:List (Nat×Obj)}(S:Sim C F mu T st h)(E:Entry C F h env slots own wr h'){rho:List (Option PV)}
  (hq:∀p∈qs,h.objs.size≤p.1∧¬own p.1∧h'.get? p.1=some p.2∧p.2.isFreed=false) (hqn:(qs.map Prod.fst).Nodup)
  (hv:∀(i:Nat)n pv,slots[i]? =some n→rho[i]? =some (some pv)→∃v,SlotHas env h' n v∧VRel C (XS F.fx mu) h mu pv v):
  Sim C ((inner F h mu [] env slots own wr).adds qs) mu T ⟨rho,st.sto⟩ h':=by
 have hid:∀b:Nat,(qs.any fun p=>p.1==b)=true↔b∈qs.map Prod.fst:=fun b=>by
  simp only[List.any_eq_true,beq_iff_eq,List.mem_map]
 have nq:∀b o,h.get? b=some o→b∉qs.map Prod.fst:=fun b o e z=>by
  refine x1_1 (List.mem_map.mp z) fun p hp zL=>?_;subst zL
  exact absurd (Heap.lt_size e) (Nat.not_lt.mpr (hq p hp).1)
 have nown:∀b,own b→b∉qs.map Prod.fst:=fun b o z=>by
  refine x1_1 (List.mem_map.mp z) fun p hp zL=>?_;subst zL
  exact(hq p hp).2.1 o
 have hget:∀b,b∉qs.map Prod.fst→(hide h' fun b=>qs.any fun p=>p.1==b).get? b=h'.get? b:=fun b z=>by
  rw[hide_get,if_neg]
  exact fun y=>z ((hid b).mp y)
 have hh:∀b,Holder F.env b→b∉qs.map Prod.fst:=fun b q=>by
  obtain⟨o,e⟩:=S.has b (.inl (holder_fx S q))
  exact nq b o e
 have hcell:∀n c,env.cells.lookup n=some c→c∉qs.map Prod.fst:=fun n c e=>((E.cell n c e).1).elim (nown c) (hh c)
 have E':Entry C F h env slots own wr (hide h' fun b=>qs.any fun p=>p.1==b):={E with
  grow:=fun b o e=>by rw[hget b (nq b o e)];exact E.grow b o e
  new:=fun a q=>⟨(E.new a q).1,by rw[hget a (nown a q)];exact(E.new a q).2⟩
  ns:=by
   refine x4_1 E.ns fun m o es ep ho r=>?_
   exact⟨m,o,es,ep,(hget _ (nown _ E.loc)).trans ho,r⟩
  cell:=fun n c e=>by
   refine x0_2 (E.cell n c e) fun h1 h2 zR=>x2_1 zR fun v o ho r=>?_
   exact⟨h1,h2,v,o,(hget c (hcell n c e)).trans ho,r⟩}
 have S0:Sim C (inner F h mu [] env slots own wr) mu T ⟨rho,st.sto⟩ (hide h' fun b=>qs.any fun p=>p.1==b):=Sim.enter (ps:=[]) S E' fun i n pv e1 e2=>by
  refine x1_1 (hv i n pv e1 e2) fun v h1 h2=>?_
  refine⟨v,h1.keep fun a o ha e=>?_,h2⟩
  rw[hget]
  .exact e
  .rcases ha with rfl|⟨n,hn⟩
   .exact nown _ E.loc
   .exact hcell n a hn
 refine S0.pushAll (fun b o e=>?_) (fun p hp=>⟨?_,(hq p hp).2.2⟩) hqn
 .rw[hide_get]at e
  split at e
  .exact nN e
  .exact e
 .rw[hide_get,if_pos ((hid p.1).mpr (List.mem_map_of_mem hp))]
end
end Mine.Internal
namespace Mine.Internal
open PySem PySem.W PyProof.Rows PySem.Calls
structure ItrOk(C:Cx)(A:Around)(it:Value)(target:Expr)(items:List PV)(ok:Sto→Prop)(T₀:List (PV×Value))(St':Nat→List (Nat×Obj)→Prop)(addrs:List Nat):Prop where
 addr:∀k ps,St' k ps→ps.map Prod.fst=addrs
 next:∀(F:Frm)k ps x(s:Shared)mu T st,(∀a∈addrs,¬F.fx a)→St' k ps→items[k]? =some x→(∀p∈T₀,p∈T)→Sim C (F.adds ps) mu T st s.heap→ok st.sto→
  wpAny (model C.prog C.w) A (pyNext it) (fun r s₁=>∃v,r=some v∧wpAny (model C.prog C.w) A (letOwnedTupleGo target it v) (fun _ s₂=>∃ps',St' (k+1) ps'∧Same s s₂∧Sim C (F.adds ps') mu ((x,v)::T) st s₂.heap) noE s₁) noE s
 done:∀(F:Frm)ps(s:Shared)mu T st,St' items.length ps→(∀p∈T₀,p∈T)→Sim C (F.adds ps) mu T st s.heap→ok st.sto→
  wpAny (model C.prog C.w) A (pyNext it) (fun r s₁=>r=none∧Same s s₁∧∀(b:Nat)o,b∉addrs→s.heap.get? b=some o→s₁.heap.get? b=some o) noE s
 self:∀(F:Frm)k ps(s:Shared)mu T st(R:Value→Shared→Prop),St' k ps→Sim C (F.adds ps) mu T st s.heap→R it s→wpAny (model C.prog C.w) A (pyIter it) R noE s
section
variable {C:Cx} {F:Frm} {c:CC} {A:Around} {d:Nat} {mu:List (Nat×Nat)} {T T₀:List (PV×Value)} {st:St} {s:Shared} {Q:PV→St→Prop}
theorem Sim.setAll{h h':Heap}{ps ps':List (Nat×Obj)}(S:Sim C (F.adds ps) mu T st h)(hps:ps'.map Prod.fst=ps.map Prod.fst)(hf:∀a∈ps.map Prod.fst,¬F.fx a)(k:∀(b:Nat)o,b∉ps.map Prod.fst→h.get? b=some o→h'.get? b=some o)
  (hp:∀p∈ps',h'.get? p.1=some p.2∧p.2.isFreed=false):Sim C (F.adds ps') mu T st h':=by
 have hid:∀b:Nat,(ps.any fun p=>p.1==b)=true↔b∈ps.map Prod.fst:=fun b=>by
  simp only[List.any_eq_true,beq_iff_eq,List.mem_map]
 have S1:Sim C F mu T st (hide h' fun b=>ps.any fun p=>p.1==b):=S.dropAll hf fun b o hb e=>by
  rw[hide_get,if_neg,k b o hb e]
  exact fun z=>hb ((hid b).mp z)
 have nd:=S.ok.prot1
 rw[adds_prot,List.map_append]at nd
 refine S1.pushAll (fun b o e=>?_) (fun p hpp=>⟨?_,hp p hpp⟩) (hps▸(List.nodup_append.mp nd).1)
 .rw[hide_get]at e
  split at e
  .exact nN e
  .exact e
 .rw[hide_get,if_pos ((hid p.1).mpr (hps▸List.mem_map_of_mem hpp))]
theorem let_go{target:Expr}{I:Nat}{o:Obj}{cls:String}{fs:Array Value}{v:Value}{R:Unit→Shared→Prop}(ho:s.heap.get? I=some o)(hc:o.cls=.type cls)(hd:o.data=.fields fs)
  (hT:["enumerate","zip","dict_itemiterator","dict_reverseitemiterator","odict_iterator","itertools.zip_longest","itertools.pairwise"].contains cls=false) (h:R () s):
  wpAny (model C.prog C.w) A (letOwnedTupleGo target (.ref I) v) R noE s:=by
 obtain⟨oc,od,dd,sl⟩:=o
 subst hc hd
 unfold letOwnedTupleGo
 split
 .cases v with
  |ref a=>
   refine wpAny_bind (wpAny_load ho ?_)
   dsimp only
   rw[hT]
   exact wpAny_pure h
  |_=>exact wpAny_pure h
 .cases v with
  |ref a=>
   refine wpAny_bind (wpAny_load ho ?_)
   dsimp only
   rw[hT]
   exact wpAny_pure h
  |_=>exact wpAny_pure h
 .exact wpAny_pure h
theorem at_of{ps:List (Nat×Obj)}{h:Heap}{p:Nat×Obj}(S:Sim C (F.adds ps) mu T st h)(hp:p∈ps):h.get? p.1=some p.2:=S.prot p (by rw[adds_prot];exact List.mem_append_left _ hp)
theorem freed_fields{o:Obj}{fs:Array Value}(hd:o.data=.fields fs):o.isFreed=false:=by
 obtain⟨oc,od,dd,sl⟩:=o
 subst hd
 rfl
theorem itr_list{target:Expr}{p:PV}{a I:Nat}{items:List PV}{ok:Sto→Prop}(hh:A.handled=none)(hm:(p,Value.ref a)∈T₀)(hl:∀sto,ok sto→lstOf sto p=some items):
  ItrOk C A (.ref I) target items ok T₀ (fun k ps=>∃o,ps=[(I,o)]∧o.cls=.type "list_iterator"∧o.data=.fields #[.ref a,.int k 0]) [I] where
 addr:=fun k ps zQ=>by refine x1_1 zQ fun o e _=>?_;subst e;rfl
 next:=fun F k ps x s mu T st hf zQ hx hT S hok=>by
  refine x1_2 zQ fun o e hc hd=>?_
  subst e
  have hI:s.heap.IsListIter I a k:=⟨o,at_of S (.head _),hc,hd⟩
  have hv:VRel C _ s.heap mu p (.ref a):=S.vals (p,.ref a) (hT _ hm)
  refine x3_3 (lst_of S (hl _ hok) hv) fun a' vs n ea ho _ hr=>?_
  cases ea
  refine x1_1 (hr.get hx) fun v hvx hxv=>?_
  refine wpAny_pyNext_list_item hI ⟨_,ho,rfl,n,rfl⟩ (by simpa using hvx) fun h' hI' hs=>⟨v,rfl,?_⟩
  refine x1_2 hI' fun o' ho' hc' hd'=>?_
  refine let_go ho' hc' hd' (by decide) ⟨[(I,o')],⟨o',rfl,hc',hd'⟩,⟨rfl,rfl,rfl⟩,?_⟩
  have S1:=S.add hxv
  exact S1.setAll (ps':=[(I,o')]) rfl (hf) (fun b ob hb e=>(hs.2 b (by simpa using hb)).trans e) (by simp[ho',freed_fields hd'])
 done:=fun F ps s mu T st zQ hT S hok=>by
  refine x1_2 zQ fun o e hc hd=>?_
  subst e
  have hI:s.heap.IsListIter I a items.length:=⟨o,at_of S (.head _),hc,hd⟩
  have hv:VRel C _ s.heap mu p (.ref a):=S.vals (p,.ref a) (hT _ hm)
  refine x3_3 (lst_of S (hl _ hok) hv) fun a' vs n ea ho _ hr=>?_
  cases ea
  have L:=hr.length
  refine wpAny_pyNext_list_end hh hI ⟨_,ho,rfl,n,rfl⟩ (by simp[L]) fun h' hs=>⟨rfl,⟨rfl,rfl,rfl⟩,fun b ob hb e=>hs b ob (by simpa using hb) e⟩
 self:=fun F k ps s mu T st R zQ S h=>by
  refine x1_2 zQ fun o e hc hd=>?_
  subst e
  exact wpAny_pyIter_listiter (i:=k) (l:=a) ⟨o,at_of S (.head _),hc,hd⟩ h
theorem itr_tup{target:Expr}{a I:Nat}{items:List PV}{ok:Sto→Prop}(hh:A.handled=none)(hm:(PV.tup items,Value.ref a)∈T₀):
  ItrOk C A (.ref I) target items ok T₀ (fun k ps=>∃o,ps=[(I,o)]∧o.cls=.type "tuple_iterator"∧o.data=.fields #[.ref a,.int k 0]) [I] where
 addr:=fun k ps zQ=>by refine x1_1 zQ fun o e _=>?_;subst e;rfl
 next:=fun F k ps x s mu T st hf zQ hx hT S hok=>by
  refine x1_2 zQ fun o e hc hd=>?_
  subst e
  have hI:s.heap.IsTupleIter I a k:=⟨o,at_of S (.head _),hc,hd⟩
  have hv:VRel C _ s.heap mu (.tup items) (.ref a):=S.vals (_,.ref a) (hT _ hm)
  refine x2_4 (vr_tup' hv) fun a' vs ea _ ho _ hr=>?_
  cases ea
  refine x1_1 (hr.get hx) fun v hvx hxv=>?_
  refine wpAny_pyNext_tuple_item hI ho (by simpa using hvx) fun h' hI' hs=>⟨v,rfl,?_⟩
  refine x1_2 hI' fun o' ho' hc' hd'=>?_
  refine let_go ho' hc' hd' (by decide) ⟨[(I,o')],⟨o',rfl,hc',hd'⟩,⟨rfl,rfl,rfl⟩,?_⟩
  have S1:=S.add hxv
  exact S1.setAll (ps':=[(I,o')]) rfl (hf) (fun b ob hb e=>(hs.2 b (by simpa using hb)).trans e) (by simp[ho',freed_fields hd'])
 done:=fun F ps s mu T st zQ hT S hok=>by
  refine x1_2 zQ fun o e hc hd=>?_
  subst e
  have hI:s.heap.IsTupleIter I a items.length:=⟨o,at_of S (.head _),hc,hd⟩
  have hv:VRel C _ s.heap mu (.tup items) (.ref a):=S.vals (_,.ref a) (hT _ hm)
  refine x2_4 (vr_tup' hv) fun a' vs ea _ ho _ hr=>?_
  cases ea
  have L:=hr.length
  refine wpAny_pyNext_tuple_end hh hI ho (by simp[L]) fun h' hs=>⟨rfl,⟨rfl,rfl,rfl⟩,fun b ob hb e=>hs b ob (by simpa using hb) e⟩
 self:=fun F k ps s mu T st R zQ S h=>by
  refine x1_2 zQ fun o e hc hd=>?_
  subst e
  exact wpAny_pyIter_tupleiter (i:=k) (t:=a) ⟨o,at_of S (.head _),hc,hd⟩ h
theorem rngI_get{a b:Int}{k:Nat}{x:PV}(h:(rngI a b)[k]? =some x):x=.int (a+k)∧k<(b-a).toNat:=by
 unfold rngI at h
 rw[List.getElem?_map]at h
 refine x1_1 (Option.map_eq_some_iff.mp h) fun y h1 zL=>?_;subst zL
 have hlt:=(List.getElem?_eq_some_iff.mp h1).1
 rw[List.length_range]at hlt
 rw[List.getElem?_range hlt]at h1
 obtain rfl:=Option.some.inj h1
 exact⟨rfl,hlt⟩
theorem rngI_len(a b:Int):(rngI a b).length=(b-a).toNat:=by simp[rngI]
noncomputable abbrev rngObj(x left:Int):Obj:={cls:=.type "range_iterator",dict:=none,data:=.fields #[rawInt x,rawInt left,rawInt 1],slots:= #[]}
theorem itr_range{target:Expr}{I:Nat}{lo hi:Int}{ok:Sto→Prop}(hh:A.handled=none):
  ItrOk C A (.ref I) target (rngI lo hi) ok T₀ (fun k ps=>ps=[(I,rngObj (lo+k) ((hi-lo).toNat-k))]) [I] where
 addr:=fun k ps e=>by subst e;rfl
 next:=fun F k ps x s mu T st hf e hx hT S hok=>by
  subst e
  have hI:IsRangeIter s.heap I (lo+k) ((hi-lo).toNat-k) 1:=at_of S (.head _)
  obtain⟨rfl,hlt⟩:=rngI_get hx
  refine wpAny_pyNext_range_item hI (by exact o29 hlt) fun h' hI' hs=>⟨_,rfl,?_⟩
  refine let_go hI' rfl rfl (by decide) ⟨[(I,_)],rfl,⟨rfl,rfl,rfl⟩,?_⟩
  have S1:=S.add (p:=.int (lo+k)) (v:=.int (lo+k) s.toks) vr_int
  have e1:lo+(k:Int)+1=lo+((k+1:Nat):Int):=by push_cast;exact o30
  have e2:(((hi-lo).toNat:Int)-k-1)=((hi-lo).toNat:Int)-((k+1:Nat):Int):=by push_cast;exact o31
  rw[e1,e2]at hI'
  exact S1.setAll (ps':=[(I,rngObj (lo+((k+1:Nat):Int)) ((hi-lo).toNat-((k+1:Nat):Int)))]) rfl (hf) (fun b ob hb e=>(hs.2 b (by simpa using hb)).trans e) (fun p hp=>by
   rw[List.mem_singleton]at hp;subst hp;exact⟨hI',rfl⟩)
 done:=fun F ps s mu T st e hT S hok=>by
  subst e
  have hI:IsRangeIter s.heap I (lo+(rngI lo hi).length) ((hi-lo).toNat-(rngI lo hi).length) 1:=at_of S (.head _)
  refine wpAny_pyNext_range_end hh hI (by rw[rngI_len];exact o32) fun h' hs=>⟨rfl,⟨rfl,rfl,rfl⟩,fun b ob hb e=>hs b ob (by simpa using hb) e⟩
 self:=fun F k ps s mu T st R e S h=>by
  subst e
  exact wpAny_pyIter_rangeiter (at_of S (.head _)) h
theorem enumd_get{l:List PV}{k:Nat}{x:PV}(h:(enumd l)[k]? =some x):∃y,l[k]? =some y∧x=.tup [.int k,y]:=by
 unfold enumd at h
 rw[List.getElem?_zipWith]at h
 cases h1:(List.range l.length)[k]? with
 |none=>rw[h1]at h;simp at h
 |some j=>
  cases h2:l[k]? with
  |none=>rw[h1,h2]at h;simp at h
  |some y=>
   rw[h1,h2]at h
   simp at h
   have hlt:=(List.getElem?_eq_some_iff.mp h1).1
   rw[List.length_range]at hlt
   rw[List.getElem?_range hlt]at h1
   obtain rfl:=Option.some.inj h1
   exact⟨y,rfl,h.symm⟩
theorem enumd_len(l:List PV):(enumd l).length=l.length:=by simp[enumd]
noncomputable abbrev enumObj(I:Nat)(k:Int)(old:Value):Obj:={cls:=.type "enumerate",dict:=none,data:=.fields #[.none,.bool false,.ref I,rawInt k,.none,old],slots:= #[]}
theorem itr_enum{elts:List Expr}{tk:Nat}{tp:Pos}{a E I:Nat}{items:List PV}{ok:Sto→Prop}(hh:A.handled=none)(hEI:E≠I)(hm:(PV.list items,Value.ref a)∈T₀):
  ItrOk C A (.ref E) (.Tuple elts tk tp) (enumd items) ok T₀ (fun k ps=>∃old o,ps=[(E,enumObj I k old),(I,o)]∧o.cls=.type "list_iterator"∧o.data=.fields #[.ref a,.int k 0]) [E,I] where
 addr:=fun k ps zQ=>by refine x2_1 zQ fun old o e _=>?_;subst e;rfl
 next:=fun F k ps x s mu T st hf zQ hx hT S hok=>by
  refine x2_2 zQ fun old o e hc hd=>?_
  subst e
  have hE:IsEnum s.heap E I k old:=at_of S (.head _)
  have hI:s.heap.IsListIter I a k:=⟨o,at_of S (.tail _ (.head _)),hc,hd⟩
  refine x1_1 (enumd_get hx) fun y hy zL=>?_;subst zL
  have hv:VRel C _ s.heap mu (.list items) (.ref a):=S.vals (_,.ref a) (hT _ hm)
  refine x3_4 (vr_list' hv) fun a' vs n ea _ ho _ hr=>?_
  cases ea
  refine x1_1 (hr.get hy) fun v hvx hxv=>?_
  have hlE:E<s.heap.objs.size:=Heap.lt_size hE
  have hlI:I<s.heap.objs.size:=Heap.lt_size (at_of S (.tail _ (.head _)))
  refine wpAny_pyNext_enum_item hE hI ⟨_,ho,rfl,n,rfl⟩ (by simpa using hvx) hEI fun h₁ heo hI₁ ht₁ hz₁ hk₁=>⟨_,rfl,?_⟩
  refine wpAny_letOwnedTupleGo_enum heo fun h₂ he₂ hs₂=>?_
  refine x1_2 hI₁ fun o' ho' hc' hd'=>?_
  replace hs₂:Heap.SameBut E h₁ h₂:=hs₂
  have eq1:((k:Int)+1)=((k+1:Nat):Int):=by push_cast;rfl
  rw[eq1]at he₂
  have ho₂:h₂.get? I=some o':=(hs₂.2 _ (Ne.symm hEI)).trans ho'
  refine⟨[(E,enumObj I ((k+1:Nat):Int) v),(I,o')],⟨v,o',rfl,hc',hd'⟩,⟨rfl,rfl,rfl⟩,?_⟩
  have S1:=S.setAll (h':=h₂) (ps':=[(E,enumObj I ((k+1:Nat):Int) v),(I,o')]) rfl (hf) (fun b ob hb e=>by
   simp only[List.map_cons,List.map_nil,List.mem_cons,List.not_mem_nil,or_false,not_or]at hb
   exact(hs₂.2 _ hb.1).trans (hk₁ b ob hb.1 hb.2 e)) (fun p hp=>by
   rcases List.mem_cons.mp hp with rfl|hp
   .exact⟨he₂,rfl⟩
   .rw[List.mem_singleton]at hp;subst hp;exact⟨ho₂,freed_fields hd'⟩)
  refine S1.add ?_
  have hxv':VRel C (XS (F.adds [(E,enumObj I k old),(I,o)]).fx mu) s.heap mu y v:=hxv
  have fxe:∀b,XS (F.adds [(E,enumObj I ((k+1:Nat):Int) v),(I,o')]).fx mu b↔XS (F.adds [(E,enumObj I k old),(I,o)]).fx mu b:=fun b=>Iff.rfl
  have mv:Move (XS (F.adds [(E,enumObj I k old),(I,o)]).fx mu) (XS (F.adds [(E,enumObj I ((k+1:Nat):Int) v),(I,o')]).fx mu) s.heap h₂:=⟨fun b ob e q=>by
   have b1:b≠E:=fun z=>q (.inl ((adds_fx _ _ _).mpr (.inr (by simp[z]))))
   have b2:b≠I:=fun z=>q (.inl ((adds_fx _ _ _).mpr (.inr (by simp[z]))))
   exact(hs₂.2 _ b1).trans (hk₁ b ob b1 b2 e),fun b _ q=>q⟩
  refine⟨s.heap.objs.size,[.int k s.toks,v],rfl,?_,⟨_,(hs₂.2 _ (Nat.ne_of_gt hlE)).trans ht₁,rfl,_,rfl⟩,Nat.le_add_left _ _,.cons vr_int (.cons (hxv'.move mv fun _ _ e=>e) .nil)⟩
  intro q
  exact absurd (S.bound _ ((fxe _).mp q)) (Nat.lt_irrefl _)
 done:=fun F ps s mu T st zQ hT S hok=>by
  refine x2_2 zQ fun old o e hc hd=>?_
  subst e
  rw[enumd_len]at hd
  have hE:IsEnum s.heap E I (enumd items).length old:=at_of S (.head _)
  rw[enumd_len]at hE
  have hI:s.heap.IsListIter I a items.length:=⟨o,at_of S (.tail _ (.head _)),hc,hd⟩
  have hv:VRel C _ s.heap mu (.list items) (.ref a):=S.vals (_,.ref a) (hT _ hm)
  refine x3_4 (vr_list' hv) fun a' vs n ea _ ho _ hr=>?_
  cases ea
  have L:=hr.length
  refine wpAny_pyNext_enum_end hh hE hI ⟨_,ho,rfl,n,rfl⟩ (by simp[L]) fun h' hs=>⟨rfl,⟨rfl,rfl,rfl⟩,fun b ob hb e=>hs b ob (by simp at hb;exact hb.2) e⟩
 self:=fun F k ps s mu T st R zQ S h=>by
  refine x2_2 zQ fun old o e hc hd=>?_
  subst e
  exact wpAny_pyIter_enum (at_of S (.head _)) h
end
end Mine.Internal
namespace Mine.Internal
open PySem PySem.W PyProof.Rows PySem.Calls
noncomputable abbrev isTupE:=isTupX
noncomputable abbrev isEnumI:=isEnumPI
noncomputable def Started(C:Cx)(F:Frm)(A:Around)(T:List (PV×Value))(target:Expr)(Q:Src→St→Prop)(s:Shared)(it:Value)(s₂:Shared):Prop:=
 ∃mu' T' st' src St' addrs ps h₀,Same s s₂∧(∀p∈T,p∈T')∧ItrOk C A it target src.items src.ok T' St' addrs∧St' 0 ps∧Sim C F mu' T' st' h₀∧(∀b o,h₀.get? b=some o→s₂.heap.get? b=some o)∧h₀.objs.size≤s₂.heap.objs.size∧
  (∀p∈ps,h₀.objs.size≤p.1∧s₂.heap.get? p.1=some p.2∧p.2.isFreed=false)∧addrs.Nodup∧Q src st'
noncomputable def SndI(C:Cx)(c:CC)(e:Expr)(pi:PI):Prop:=∀(F:Frm),EnvC C F c→∀(A:Around)(d:Nat)(s:Shared)(mu:List (Nat×Nat))(T:List (PV×Value))(st:St)(Q:Src→St→Prop)(target:Expr),Room A d→1≤d→Sim C F mu T st s.heap→
 (isEnumI pi=true→isTupE target=true)→wpI C d pi Q st→wpAny (model C.prog C.w) A (eval e F.env) (fun xv s₁=>wpAny (model C.prog C.w) A (pyIter xv) (Started C F A T target Q s) noE s₁) noE s
section
variable {C:Cx} {F:Frm} {c:CC} {A:Around} {d:Nat} {mu:List (Nat×Nat)} {T T₀:List (PV×Value)} {st:St} {s:Shared}
theorem sndI_val{e:Expr}{pe:PE}(he:Snd C c e pe):SndI C c e (.val pe):=fun F hc A d s mu T st Q target rm h1 S _ q=>by
 refine thenV (he.E F hc A d s mu T st _ rm h1 S q) fun v s₁ mu₁ p st₁ e₁ S₁ q₁=>?_
 have lst:∀{a:Nat}{vs:List Value}{n:Nat}{items:List PV}(src:Src),v=.ref a→s₁.heap.get? a=some {cls:=.type "list",data:=.seq vs.toArray n}→src.items=items→(∀sto,src.ok sto→lstOf sto p=some items)→Q src st₁→
   wpAny (model C.prog C.w) A (pyIter v) (Started C F A T target Q s) noE s₁:=fun{a vs n items} src ev ho hi hl qs=>by
  subst ev
  refine wpAny_pyIter_list ⟨_,ho,rfl,n,rfl⟩ ?_
  refine⟨mu₁,(p,.ref a)::T,st₁,src,_,_,[(s₁.heap.objs.size,{cls:=.type "list_iterator",data:=.fields #[.ref a,.int 0 0]})],s₁.heap,⟨e₁.gens,e₁.drawn,e₁.os⟩,sub1,itr_list (p:=p) (a:=a) (I:=s₁.heap.objs.size) (by simpa using rm.handled) (.head _) (by rw[hi];exact hl),⟨_,rfl,rfl,rfl⟩,S₁,fun b o e=>Heap.get?_push_of_some _ e,by rw[Heap.size_push];exact Nat.le_add_right _ _,?_,nd1,qs⟩
  intro q hq
  rw[List.mem_singleton]at hq;subst hq
  exact⟨Nat.le_refl _,Heap.get?_push_size _ rfl,rfl⟩
 rcases q₁ with⟨l,rfl|rfl,q₁⟩|⟨i,l,rfl,el,q₁⟩
 .refine x3_4 (vr_list' S₁.hd) fun a vs n ev _ ho _ _=>?_
  exact lst (.frozen l) ev ho rfl (fun _ _=>rfl) q₁
 .refine x2_4 (vr_tup' S₁.hd) fun a vs ev _ ho _ _=>?_
  subst ev
  refine wpAny_pyIter_tuple ho ?_
  refine⟨mu₁,(.tup l,.ref a)::T,st₁,.frozen l,_,_,[(s₁.heap.objs.size,{cls:=.type "tuple_iterator",data:=.fields #[.ref a,.int 0 0]})],s₁.heap,⟨e₁.gens,e₁.drawn,e₁.os⟩,sub1,itr_tup (a:=a) (I:=s₁.heap.objs.size) (by simpa using rm.handled) (.head _),⟨_,rfl,rfl,rfl⟩,S₁,fun b o e=>Heap.get?_push_of_some _ e,by rw[Heap.size_push];exact Nat.le_add_right _ _,?_,nd1,q₁⟩
  intro q hq
  rw[List.mem_singleton]at hq;subst hq
  exact⟨Nat.le_refl _,Heap.get?_push_size _ rfl,rfl⟩
 .refine x3_3 (lst_of S₁ el S₁.hd) fun a vs n ev ho _ _=>?_
  exact lst (.live i l) ev ho rfl (fun sto hok=>by show opP sto[i]? none oList=_;rw[show sto[i]? =some (.list l)from hok];rfl) q₁
theorem start_range{lo hi:Int}{t u v:Tok}{r:Nat}{mu:List (Nat×Nat)}{s₀ s₁:Shared}{st:St}{Q:Src→St→Prop}{target:Expr}{h₀:Heap}(hh:A.handled=none)(e:Same s₀ s₁)(S:Sim C F mu T st h₀)(k:∀b o,h₀.get? b=some o→s₁.heap.get? b=some o)(sz:h₀.objs.size≤s₁.heap.objs.size)
  (hr:IsRange s₁.heap r lo hi 1 t u v) (b1:0≤lo) (b2:lo≤lineN) (b3:0≤hi) (b4:hi≤lineN) (hT:∀p∈T₀,p∈T) (q:Q (.frozen (rngI lo hi)) st):wpAny (model C.prog C.w) A (pyIter (.ref r)) (Started C F A T₀ target Q s₀) noE s₁:=by
 have hl:(lineN:Int)=16777216:=rfl
 refine wpAny_pyIter_range hr (small_one (by omega) (by omega) (by omega) (by omega)) ?_
 rw[rangeSize_nat]
 have I0:=itr_range (C:=C) (A:=A) (T₀:=T) (target:=target) (I:=s₁.heap.objs.size) (lo:=lo) (hi:=hi) (ok:=(Src.frozen (rngI lo hi)).ok) hh
 have e0:rngObj (lo+((0:Nat):Int)) ((hi-lo).toNat-((0:Nat):Int))=rngObj lo (hi-lo).toNat:=by simp
 refine⟨mu,T,st,.frozen (rngI lo hi),_,_,[(s₁.heap.objs.size,rngObj lo (hi-lo).toNat)],h₀,⟨e.gens,e.drawn,e.os⟩,hT,I0,by rw[e0],S,fun b o eb=>Heap.get?_push_of_some _ (k b o eb),by rw[Heap.size_push];exact Nat.le_succ_of_le sz,?_,nd1,q⟩
 intro q hq
 rw[List.mem_singleton]at hq;subst hq
 exact⟨sz,Heap.get?_push_size _ rfl,rfl⟩
theorem sndI_range1{x:Str}{np pos:Pos}{a:Expr}{pa:PE}(ha:Snd C c a pa)(hp:plainE a=true)(hg:c.gv x=some .range):SndI C c (.Call (.Name x np) [a] [] pos) (.range1 pa):=fun F hc A d s mu T st Q target rm h1 S _ q=>by
 refine x0_2 (gv_kind hc hg) fun k hd hb=>?_
 refine wpAny_Call_ofName (name_boot hc S k hd hb (callWith_type1 (args_cons (thenV (ha.E F hc A d s mu T st _ rm h1 S q) fun v s₁ mu₁ p st₁ e₁ S₁ q₁=>args_nil ?_) (star_plain hp)) (star_plain hp) rfl))
 obtain⟨b,rfl,q₁⟩:=q₁
 .obtain⟨t,rfl⟩:=vr_int' S₁.hd
  refine call_range_1 ?_
  exact start_range rm.handled ⟨e₁.gens,e₁.drawn,e₁.os⟩ S₁ (fun b o e=>Heap.get?_push_of_some _ e) (by rw[Heap.size_push];exact Nat.le_add_right _ _) (Heap.get?_push_size _ rfl) (by exact o241) (by exact o242) q₁.1 q₁.2.1 sub1 q₁.2.2
theorem sndI_range2{x:Str}{np pos:Pos}{a b:Expr}{pa pb:PE}(ha:Snd C c a pa)(hbb:Snd C c b pb)(hp:plainE a=true)(hp2:plainE b=true)(hg:c.gv x=some .range):SndI C c (.Call (.Name x np) [a,b] [] pos) (.range2 pa pb):=fun F hc A d s mu T st Q target rm h1 S _ q=>by
 refine x0_2 (gv_kind hc hg) fun k hd hb=>?_
 refine wpAny_Call_ofName (name_boot hc S k hd hb (callWith_type1 (args_cons (thenV (ha.E F hc A d s mu T st _ rm h1 S q) fun v s₁ mu₁ p st₁ e₁ S₁ q₁=>args_cons (thenV (hbb.E F hc A d s₁ mu₁ _ st₁ _ rm h1 S₁ q₁) fun w s₂ mu₂ p₂ st₂ e₂ S₂ q₂=>args_nil ?_) (star_plain hp2)) (star_plain hp)) (star_plain hp) (by rw[star_plain hp2];rfl)))
 obtain⟨a,b,rfl,rfl,q₂⟩:=q₂
 .obtain⟨t,rfl⟩:=vr_int' (S₂.vals (PV.int a,v) (.tail _ (.head _)))
  obtain⟨u,rfl⟩:=vr_int' S₂.hd
  refine call_range_2 ?_
  have e:=e₁.trans e₂
  exact start_range rm.handled ⟨e.gens,e.drawn,e.os⟩ S₂ (fun b o e=>Heap.get?_push_of_some _ e) (by rw[Heap.size_push];exact Nat.le_add_right _ _) (Heap.get?_push_size _ rfl) q₂.1 q₂.2.1 q₂.2.2.1 q₂.2.2.2.1 sub2 q₂.2.2.2.2
theorem sndI_enum{x:Str}{np pos:Pos}{a:Expr}{pa:PE}(ha:Snd C c a pa)(hp:plainE a=true)(hg:c.gv x=some .enum):SndI C c (.Call (.Name x np) [a] [] pos) (.enum pa):=fun F hc A d s mu T st Q target rm h1 S ht q=>by
 refine x0_2 (gv_kind hc hg) fun k hd hb=>?_
 refine wpAny_Call_ofName (name_boot hc S k hd hb (callWith_type1 (args_cons (thenV (ha.E F hc A d s mu T st _ rm h1 S q) fun v s₁ mu₁ p st₁ e₁ S₁ q₁=>args_nil ?_) (star_plain hp)) (star_plain hp) rfl))
 obtain⟨l,rfl,q₁⟩:=q₁
 .refine x3_4 (vr_list' S₁.hd) fun a vs n ev _ ho _ _=>?_
  subst ev
  refine call_enumerate_list ⟨_,ho,rfl,n,rfl⟩ fun h' hE hI hz kk=>?_
  refine wpAny_pyIter_enum hE ?_
  refine x1_2 (id hI) fun o ho' hc' hd'=>?_
  cases target with
  |Tuple elts tk tp=>
   have I0:=itr_enum (C:=C) (A:=A) (T₀:=(PV.list l,Value.ref a)::T) (elts:=elts) (tk:=tk) (tp:=tp) (a:=a) (E:=s₁.heap.objs.size+1) (I:=s₁.heap.objs.size) (items:=l) (ok:=(Src.frozen (enumd l)).ok) rm.handled (Nat.succ_ne_self _) (.head _)
   refine⟨mu₁,_,st₁,.frozen (enumd l),_,_,[(s₁.heap.objs.size+1,enumObj s₁.heap.objs.size 0 .none),(s₁.heap.objs.size,o)],s₁.heap,⟨e₁.gens,e₁.drawn,e₁.os⟩,sub1,I0,⟨.none,o,rfl,hc',hd'⟩,S₁,kk,by show _≤h'.objs.size;rw[hz];exact Nat.le_add_right _ _,?_,by simp,q₁⟩
   intro q hq
   rcases List.mem_cons.mp hq with rfl|hq
   .exact⟨Nat.le_succ _,hE,rfl⟩
   .rw[List.mem_singleton]at hq;subst hq
    exact⟨Nat.le_refl _,ho',freed_fields hd'⟩
  |_=>exact nF (ht rfl)
theorem Started.sim{s₂:Shared}{ps:List (Nat×Obj)}{h₀:Heap}{addrs:List Nat}{st':St}(S:Sim C F mu T st' h₀)(k:∀b o,h₀.get? b=some o→s₂.heap.get? b=some o)
  (hp:∀p∈ps,h₀.objs.size≤p.1∧s₂.heap.get? p.1=some p.2∧p.2.isFreed=false) (ha:ps.map Prod.fst=addrs) (hn:addrs.Nodup):Sim C (F.adds ps) mu T st' s₂.heap∧∀a∈addrs,¬F.fx a:=by
 refine⟨S.pushAll k (fun p h=>⟨Heap.get?_none_of_le (hp p h).1,(hp p h).2⟩) (ha▸hn),fun a h=>?_⟩
 subst ha
 refine x1_1 (List.mem_map.mp h) fun p hpp zL=>?_;subst zL
 exact fun z=>S.nofx (hp p hpp).1 (.inl z)
theorem store_var{i:Nat}{x:Str}{p:PV}{v:Value}{R:Unit→Shared→Prop}(S:Sim C F mu ((p,v)::T) st s.heap)(hi:F.slots[i]? =some x)(hk:F.env.kindOf x=some .local∨(F.env.kindOf x=some .cell∧F.wr=true))
  (h:∀s',Same s s'→Sim C F mu T ⟨st.rho.set i (some p),st.sto⟩ s'.heap→R () s'):wpAny (model C.prog C.w) A (storeName F.env x v) R noE s:=by
 obtain⟨m,hm⟩:=S.ns
 rcases hk with hk|⟨hk,hw⟩
 .refine wpAny_storeName_local hk hm (fun h' hn hs=>h {s with heap:=h',toks:=s.toks+1} ⟨rfl,rfl,rfl⟩ ?_) (by rw[S.ok.kind];rfl)
  refine(S.tail).store hi (.inl rfl) S.ok.locbase hs S.hd (.inl ⟨hk,_,hn,by simp⟩) ⟨_,hn⟩ (fun n c e=>?_) fun n' v' hne hsl=>?_
  .obtain⟨v',hv'⟩:=S.cells n c e
   exact⟨v',hv'.sameBut hs (S.ok.cellloc n c e)⟩
  .rcases hsl with⟨k',m',hm',hv'⟩|⟨k',cc,hcc,hv'⟩
   .refine .inl ⟨k',_,hn,?_⟩
    have:m=m':=by
     refine x3_3 hm fun o1 es1 ep1 ho1 hd1 _ hf1=>?_
     refine x3_3 hm' fun o2 es2 ep2 ho2 hd2 _ hf2=>?_
     rw[ho1]at ho2
     obtain rfl:=Option.some.inj ho2
     rw[hd1]at hd2
     cases hd2
     funext y
     rw[←hf1 y, ←hf2 y]
    subst this
    simp only[if_neg hne]
    exact hv'
   .exact .inr ⟨k',cc,hcc,hv'.sameBut hs (S.ok.cellloc n' cc hcc)⟩
 .obtain⟨cc,hcc⟩:=Option.isSome_iff_exists.mp (S.ok.cellall x (.inl hk))
  obtain⟨v₀,hv₀⟩:=S.cells x cc hcc
  refine wpAny_storeName_cell S.ok.kind hk hcc hv₀ fun h' hn hs=>h {s with heap:=h'} ⟨rfl,rfl,rfl⟩ ?_
  refine(S.tail).store hi (.inr ⟨x,hcc⟩) (S.ok.cellbase hw x cc hk hcc) hs S.hd (.inr ⟨.inl hk,cc,hcc,hn⟩) ⟨m,hm.sameBut hs (S.ok.cellloc x cc hcc).symm⟩ (fun n c e=>?_) fun n' v' hne hsl=>?_
  .by_cases hcn:c=cc
   .subst hcn;exact⟨_,hn⟩
   .obtain⟨v',hv'⟩:=S.cells n c e
    exact⟨v',hv'.sameBut hs hcn⟩
  .rcases hsl with⟨k',m',hm',hv'⟩|⟨k',c2,hc2,hv'⟩
   .exact .inl ⟨k',m',hm'.sameBut hs (S.ok.cellloc x cc hcc).symm,hv'⟩
   .exact .inr ⟨k',c2,hc2,hv'.sameBut hs fun z=>hne (S.ok.cell1 n' x cc (z▸hc2) hcc)⟩
theorem tests_snd{f:Expr→PE}(hc:EnvC C F c)(rm:Room A d)(h1:1≤d):∀{es:List Expr}{s:Shared}{mu:List (Nat×Nat)}{T:List (PV×Value)}{st:St}{Q:Bool→St→Prop},Snds C c es f→Sim C F mu T st s.heap→wpAll C d true (es.map f) Q st→
  wpAny (model C.prog C.w) A (forIn es true fun c r=>if r=true then do let ok ←isTrue c F.env (eval c F.env);pure (ForInStep.yield ok)else pure (ForInStep.yield r)) (LiftX C F T Q s) noE s
 |[],s,mu,T,st,Q,hs,S,q=>by
  replace q:Q true st:=q
  exact wpAny_pure (liftX_here (tk:=s.toks) S q)
 |e::es,s,mu,T,st,Q,hs,S,q=>by
  replace q:wpT C d (f e) (fun b st=>(b=true→wpAll C d true (es.map f) Q st)∧(b=(!true)→Q (!true) st)) st:=q
  simp only[List.forIn_cons,if_true]
  refine wpAny_bind (wpAny_bind (thenX (hs.hd.T F hc A d s mu T st _ rm h1 S q) fun b s₁ mu₁ st₁ e₁ S₁ q₁=>wpAny_pure ?_))
  cases b with
  |true=>exact doneX (tests_snd hc rm h1 hs.tl S₁ (q₁.1 rfl)) e₁ (fun _ h=>h)
  |false=>
   have key:∀(l:List Expr)(s':Shared)(R:Bool→Shared→Prop),R false s'→wpAny (model C.prog C.w) A (forIn l false fun c r=>if r=true then do let ok ←isTrue c F.env (eval c F.env);pure (ForInStep.yield ok)else pure (ForInStep.yield r)) R noE s':=by
    intro l
    induction l with
    |nil=>intro s' R h;exact wpAny_pure h
    |cons a l ih=>
     intro s' R h
     simp only[List.forIn_cons,Bool.false_eq_true,if_false]
     exact wpAny_bind (wpAny_pure (ih s' R h))
   exact key es s₁ _ ⟨mu₁,st₁,e₁,S₁,q₁.2 rfl⟩
theorem vrs_of_zip{X:Nat→Prop}{h:Heap}:∀{l:List PV}{vs:List Value},l.length=vs.length→(∀p∈l.zip vs,VRel C X h mu p.1 p.2)→VRels C X h mu l vs
 |[],[],_,_=>VRels.nil
 |[],_::_,e,_=>if_pos e
 |_::_,[],e,_=>absurd e (Nat.succ_ne_zero _)
 |p::l,v::vs,e,x=>.cons (x (p,v) (.head _)) (vrs_of_zip (Nat.succ.inj e) fun q hq=>x q (.tail _ hq))
end
end Mine.Internal
namespace Mine.Internal
open PySem PySem.W PyProof.Rows PySem.Calls
theorem freesOf_mem{names:List (Str×NameKind)}{n:Str}:n∈freesOf names↔(n,NameKind.free)∈names:=by
 unfold freesOf
 simp only[List.mem_map,List.mem_filter]
 constructor
 .rintro⟨⟨m,k⟩,⟨h1,h2⟩,rfl⟩
  have:k=NameKind.free:=eq_of_beq h2
  subst this
  exact h1
 .intro h
  exact⟨(n,.free),⟨h,by rfl⟩,rfl⟩
theorem closure_go(env:Env):∀(names:List (Str×NameKind))(acc:List (Str×Addr)),(∀n,(n,NameKind.free)∈names→(env.cells.lookup n).isSome=true)→
  ∃cl,(forIn names acc (fun(x:Str×NameKind) cs=>match x with
    |(name,kind)=>if(kind==NameKind.free)=true then do
      let __do_lift ←cellOf env name
      have cs:List (Str×Addr):=(name,__do_lift)::cs
      pure (ForInStep.yield cs)
     else pure (ForInStep.yield cs)):Sem _)=pure cl∧
   (∀n c,cl.lookup n=some c→acc.lookup n=some c∨(n∈freesOf names∧env.cells.lookup n=some c))∧∀n,n∈freesOf names∨(acc.lookup n).isSome=true→(cl.lookup n).isSome=true
 |[],acc,_=>⟨acc,rfl,fun n c e=>.inl e,fun n h=>h.elim (fun h=>nM h) id⟩
 |(n,k)::r,acc,h=>by
  rw[List.forIn_cons]
  by_cases hk:(k==NameKind.free)=true
  .have hk':k=NameKind.free:=eq_of_beq hk
   subst hk'
   obtain⟨c,hc⟩:=Option.isSome_iff_exists.mp (h n (.head _))
   refine x1_2 (closure_go env r ((n,c)::acc) fun m hm=>h m (.tail _ hm)) fun cl h1 h2 h3=>?_
   refine⟨cl,?_,fun m c' e=>?_,fun m hm=>h3 m ?_⟩
   .have:cellOf env n=pure c:=by unfold cellOf;rw[hc]
    simp only[hk,if_true,this,pure_bind]
    exact h1
   .rcases h2 m c' e with h5|⟨h5,h4⟩
    .rw[List.lookup_cons]at h5
     split at h5
     .rename_i q
      have:m=n:=eq_of_beq q
      subst this
      obtain rfl:=Option.some.inj h5
      exact .inr ⟨freesOf_mem.mpr (.head _),hc⟩
     .exact .inl h5
    .exact .inr ⟨freesOf_mem.mpr (.tail _ (freesOf_mem.mp h5)),h4⟩
   .rw[List.lookup_cons]
    rcases hm with hm|hm
    .rcases List.mem_cons.mp (freesOf_mem.mp hm)with e|hm
     .cases e;right;simp
     .exact .inl (freesOf_mem.mpr hm)
    .right
     split
     .rfl
     .exact hm
  .refine x1_2 (closure_go env r acc fun m hm=>h m (.tail _ hm)) fun cl h1 h2 h3=>?_
   refine⟨cl,?_,fun m c' e=>?_,fun m hm=>h3 m ?_⟩
   .simp only[hk,Bool.false_eq_true,if_false,pure_bind]
    exact h1
   .exact(h2 m c' e).imp id fun⟨h5,h6⟩=>⟨freesOf_mem.mpr (.tail _ (freesOf_mem.mp h5)),h6⟩
   .rcases hm with hm|hm
    .rcases List.mem_cons.mp (freesOf_mem.mp hm)with e|hm
     .cases e;exact absurd rfl hk
     .exact .inl (freesOf_mem.mpr hm)
    .exact .inr hm
theorem closure_ok(env:Env)(scope:Scope)(h:∀n,(n,NameKind.free)∈scope.names→(env.cells.lookup n).isSome=true):
  ∃cl,closureFor scope env=pure cl∧(∀n c,cl.lookup n=some c→n∈freesOf scope.names∧env.cells.lookup n=some c)∧∀n,n∈freesOf scope.names→cl.lookup n=env.cells.lookup n:=by
 refine x1_2 (closure_go env scope.names [] h) fun cl h1 h2 h3=>?_
 have h4:∀n c,cl.lookup n=some c→n∈freesOf scope.names∧env.cells.lookup n=some c:=fun n c e=>(h2 n c e).elim (fun z=>by exact nN z) id
 refine⟨cl,?_,h4,fun n hn=>?_⟩
 .skip
  show(forIn scope.names [] _>>=fun cs=>pure cs)=_
  rw[bind_pure]
  exact h1
 .obtain⟨c,e⟩:=Option.isSome_iff_exists.mp (h3 n (.inl hn))
  rw[e,(h4 n c e).2]
theorem mem_lookup{n:Str}{k:NameKind}:∀{l:List (Str×NameKind)},l.lookup n=some k→(n,k)∈l
 |[],e=>by exact nN e
 |(m,k')::r,e=>by
  rw[List.lookup_cons]at e
  split at e
  .rename_i q
   have:n=m:=eq_of_beq q
   subst this
   obtain rfl:=Option.some.inj e
   exact .head _
  .exact .tail _ (mem_lookup e)
theorem lookup_map_rel{f:Str→NameKind→Bool}{n:Str}:∀{names:List (Str×NameKind)},(names.map fun(n,k)=>if f n k then(n,NameKind.cell)else(n,k)).lookup n=(names.lookup n).map fun k=>if f n k then NameKind.cell else k
 |[]=>rfl
 |(m,k)::r=>by
  have ih:=lookup_map_rel (f:=f) (n:=n) (names:=r)
  show List.lookup n ((if f m k=true then(m,NameKind.cell)else(m,k))::_)=_
  have e:(if f m k=true then(m,NameKind.cell)else(m,k))=(m,if f m k=true then NameKind.cell else k):=by split<;>rfl
  rw[e,List.lookup_cons,List.lookup_cons]
  cases q:n==m with
  |true=>
   have:n=m:=eq_of_beq q
   subst this
   rfl
  |false=>exact ih
theorem idxAll_at{l:List Str}:∀{ns:List Str}{is:List Nat},idxAll l ns=some is→∀(j:Nat)(n:Str),ns[j]? =some n→∃i,is[j]? =some i∧l[i]? =some n
 |[],is,e,j,n,h=>by exact nN h
 |x::r,is,e,j,n,h=>by
  unfold idxAll at e
  split at e
  .rename_i i is' h1 h2
   obtain rfl:=Option.some.inj e
   cases j with
   |zero=>simp at h;subst h;exact⟨i,rfl,idxS_at h1⟩
   |succ j=>simpa using idxAll_at h2 j n (by simpa using h)
  .exact nN e
structure CompOk(c:CC)(scope:Scope)(x:Str):Prop where
 nocell:∀p∈scope.names,p.2≠.cell
 kind:scope.kind=.function
 locs:∀p∈scope.names,p.2=.local→scope.names.lookup p.1=some .local
 xloc:scope.names.lookup x=some .local
 frees:∀n,n∈freesOf scope.names→c.isVar n=true∧c.names.lookup n≠some .local∧scope.names.lookup n=some .free
 nodup:(x::freesOf scope.names).Nodup
theorem compOk_of{c:CC}{scope:Scope}{x:Str}(h:compOk c scope x=true):CompOk c scope x:=by
 unfold compOk at h
 simp only[Bool.and_eq_true,List.all_eq_true,bne_iff_ne,beq_iff_eq,Bool.or_eq_true,decide_eq_true_eq,Bool.not_eq_true',ne_eq]at h
 obtain⟨⟨⟨⟨⟨⟨⟨h1,h2⟩,h3⟩,h4⟩,h5⟩,h6⟩,h7⟩,h8⟩:=h
 refine⟨h1,h2,fun p hp e=>(h3 p hp).resolve_left fun z=>z e,h4,fun n hn=>?_,?_⟩
 .have hm:=freesOf_mem.mp hn
  have h5':=(h5 _ hm).resolve_left fun z=>z rfl
  exact⟨h5'.1,h5'.2,(h6 _ hm).resolve_left fun z=>z rfl⟩
 .rw[List.nodup_cons]
  refine⟨fun z=>?_,h7⟩
  rw[List.contains_eq_mem,decide_eq_false_iff_not]at h8
  exact h8 z
section
variable {C:Cx} {F:Frm} {c:CC} {A:Around} {d:Nat} {mu:List (Nat×Nat)} {T T₀:List (PV×Value)} {st:St} {s:Shared}
theorem relabel_names(S:Sim C F mu T st s.heap)(hc:EnvC C F c)(scope:Scope):(relabel scope F.env).names=relabelN c scope.names:=by
 unfold relabel relabelN
 have e1:(F.env.scope.kind==ScopeKind.function)=true:=by rw[S.ok.kind];rfl
 have e2:∀n,F.env.kindOf n=c.names.lookup n:=fun n=>by unfold Env.kindOf;rw[hc.names]
 simp only[e1,e2]
theorem relabel_lookup{scope:Scope}{n:Str}:(relabelN c scope.names).lookup n=(scope.names.lookup n).map fun k=>if(k==.free&&true&&c.names.lookup n==some .cell)then NameKind.cell else k:=by
 exact lookup_map_rel (f:=fun n k=>(k==.free&&true&&c.names.lookup n==some .cell))
theorem comp_entry{scope:Scope}{x:Str}{cl:List (Str×Addr)}{C':Nat}{h₀ h₄:Heap}(hc:EnvC C F c)(S:Sim C F mu T st h₀)(hs:(relabel scope F.env).names=relabelN c scope.names)(ok:CompOk c scope x)
  (hcl:∀n c,cl.lookup n=some c→n∈freesOf scope.names∧F.env.cells.lookup n=some c) (hcl2:∀n,n∈freesOf scope.names→cl.lookup n=F.env.cells.lookup n)
  (k:∀b o,h₀.get? b=some o→h₄.get? b=some o) (hC:h₀.objs.size≤C') (hn:∃m,h₄.Ns C' m):Entry C F h₀ (compEnvC scope cl C' F.env) (x::freesOf scope.names) (fun a=>a=C') false h₄ where
 grow:=k
 kind:=ok.kind
 glob:=S.ok.glob
 bltn:=S.ok.bltn
 new:=fun a e=>by subst e;exact⟨hC,x1_0 hn fun m zR=>x3_1 zR fun o es ep ho _=>⟨o,ho⟩⟩
 loc:=rfl
 ns:=hn
 cell:=fun n c' e=>by
  obtain⟨h1,h2⟩:=hcl n c' e
  obtain⟨v,hv⟩:=S.cells n c' h2
  refine⟨.inr (.inr ⟨n,h2⟩),?_,v,hv.keeps k⟩
  refine x1_1 hv fun o ho _=>?_
  exact Nat.ne_of_lt (Nat.lt_of_lt_of_le (Heap.lt_size ho) hC)
 cellall:=fun n q=>by
  have q':(relabelN c scope.names).lookup n=some .cell∨(relabelN c scope.names).lookup n=some .free:=by
   rw[←hs];exact q
  rw[relabel_lookup]at q'
  have hf:scope.names.lookup n=some .free:=by
   cases z:scope.names.lookup n with
   |none=>rw[z]at q';simp at q'
   |some k=>
    have hm:=mem_lookup z
    rw[z]at q'
    cases k with
    |free=>rfl
    |cell=>exact absurd rfl (ok.nocell _ hm)
    |_=>simp at q'
  have hm:n∈freesOf scope.names:=freesOf_mem.mpr (mem_lookup hf)
  show(cl.lookup n).isSome=true
  rw[hcl2 n hm]
  refine x0_2 (ok.frees n hm) fun h1 h2 _=>?_
  refine S.ok.cellall n ?_
  unfold CC.isVar at h1
  unfold Env.kindOf
  rw[hc.names]
  split at h1
  .rename_i z;exact absurd z h2
  .rename_i z;exact .inl z
  .rename_i z;exact .inr z
  .exact nF h1
 cell1:=fun n n' c' e e'=>S.ok.cell1 n n' c' (hcl n c' e).2 (hcl n' c' e').2
 cellnew:=fun z=>by exact nF z
 slots1:=ok.nodup
end
end Mine.Internal
namespace Mine.Internal
open PySem PySem.W PyProof.Rows PySem.Calls
noncomputable abbrev lstObj(vs:List Value)(n:Nat):Obj:={cls:=.type "list",data:=.seq vs.toArray n}
noncomputable def CompInv(C:Cx)(Fi:Frm)(T:List (PV×Value))(St':Nat→List (Nat×Obj)→Prop)(D:Nat)(caps:List (Option PV))(len:Nat)(I:Nat→List PV→Sto→Prop)(s₀:Shared)(m:Nat)(s':Shared):Prop:=
 ∃k acc accv nn mu sto y ps,m=len+1-k∧k≤len∧St' k ps∧Same s₀ s'∧accv.length=acc.length∧acc.length≤lineN∧
  Sim C (Fi.adds (ps++[(D,lstObj accv nn)])) mu (acc.zip accv++T) ⟨y::caps,sto⟩ s'.heap∧I k acc sto
section
variable {C:Cx} {F:Frm} {c:CC} {A:Around} {d:Nat} {mu:List (Nat×Nat)} {T T₀:List (PV×Value)} {st:St} {s:Shared}
theorem comp_loop{elt iter:Expr}{x:Str}{px:Pos}{ifs:List Expr}{scope:Scope}{pos:Pos}{it:Value}{D:Nat}{Fi:Frm}{c':CC}{f:Expr→PE}{pelt:PE}{src:Src}{St':Nat→List (Nat×Obj)→Prop}{addrs:List Nat}{caps:List (Option PV)}
  {I:Nat→List PV→Sto→Prop} {R:Result→Shared→Prop} {s₀:Shared}
  (hc':EnvC C Fi c') (rm:Room A d) (h1:1≤d) (helt:Snd C c' elt pelt) (hifs:Snds C c' ifs f) (itr:ItrOk C A it (.Name x px) src.items src.ok T St' addrs)
  (hx:Fi.slots[0]? =some x) (hk:Fi.env.kindOf x=some .local) (hDa:D∉addrs) (hDf:¬Fi.fx D) (haf:∀a∈addrs,¬Fi.fx a)
  (step:∀k x acc sto,src.items[k]? =some x→I k acc sto→src.ok sto∧
    wpAll C d true (ifs.map f) (fun b st1=>st1.rho=some x::caps∧(b=true→wpE C d pelt (fun v st2=>st2.rho=some x::caps∧acc.length<lineN∧I (k+1) (acc++[v]) st2.sto) st1)∧(b=false→I (k+1) acc st1.sto)) ⟨some x::caps,sto⟩)
  (fin:∀acc sto,I src.items.length acc sto→src.ok sto)
  (hR:∀s₁ s₂ acc accv nn mu sto y ps,Same s₀ s₂→accv.length=acc.length→acc.length≤lineN→ps.map Prod.fst=addrs→Sim C (Fi.adds (ps++[(D,lstObj accv nn)])) mu (acc.zip accv++T) ⟨y::caps,sto⟩ s₁→I src.items.length acc sto→
   (∀(b:Nat)o,b∉addrs→s₁.get? b=some o→s₂.heap.get? b=some o)→R (.ok .next) s₂)
  (n:Nat) (hI:CompInv C Fi T St' D caps src.items.length I s₀ n s):
  codeAny (model C.prog C.w) A (.compLoop (.ListComp elt [⟨.Name x px,iter,ifs,0⟩] scope pos) 0 it (.ref D) Fi.env) R s:=by
 refine codeAny_compLoop_tests (CompInv C Fi T St' D caps src.items.length I s₀) (fun n s' hI=>?_) n hI
 obtain⟨k,acc,accv,nn,mu,sto,y,ps,rfl,hk',hst,hsame,hlen,hline,S,hi⟩:=hI
 have adq:∀(qs:List (Nat×Obj)),ps.map Prod.fst=addrs→∀a,a∈addrs→¬(Fi.adds [(D,lstObj accv nn)]).fx a:=fun _ hp a ha z=>by
  rcases(adds_fx _ _ _).mp z with z|z
  .exact haf a ha z
  .simp at z;subst z;exact hDa ha
 have hpa:=itr.addr k ps hst
 rw[adds_append]at S
 have hsub:∀p∈T,p∈acc.zip accv++T:=fun p hp=>List.mem_append_right _ hp
 cases hx':src.items[k]? with
 |none=>
  have hkl:k=src.items.length:=by
   have:=List.getElem?_eq_none_iff.mp hx'
   exact Nat.le_antisymm hk' this
  subst hkl
  refine wpAny_mono (itr.done (Fi.adds [(D,lstObj accv nn)]) ps s' mu _ _ hst hsub S (fin acc sto hi)) (fun r s₁ zQ=>?_) fun _ _ h=>h.elim
  refine x0_2 zQ fun er es ek=>?_
  subst er
  rw[←adds_append]at S
  exact hR _ s₁ acc accv nn mu sto y ps (hsame.trans es) hlen hline hpa S hi ek
 |some xx=>
  obtain⟨hok,hw⟩:=step k xx acc sto hx' hi
  refine wpAny_mono (itr.next (Fi.adds [(D,lstObj accv nn)]) k ps xx s' mu _ _ (adq [] hpa) hst hx' hsub S hok) (fun r s₁ zQ=>?_) fun _ _ h=>h.elim
  refine x1_1 zQ fun v er hv=>?_
  subst er
  have hkn:=(List.getElem?_eq_some_iff.mp hx').1
  show wpAny _ A (letOwnedTupleGo (.Name x px) it v>>=fun _=>assign (.Name x px) Fi.env v) _ _ s₁
  refine wpAny_bind (wpAny_mono hv (fun _ s₂ zQ=>?_) fun _ _ h=>h.elim)
  refine x1_2 zQ fun ps' hst' es S₂=>?_
  have henv:((Fi.adds [(D,lstObj accv nn)]).adds ps').env=Fi.env:=by rw[adds_env,adds_env]
  have hslots:((Fi.adds [(D,lstObj accv nn)]).adds ps').slots=Fi.slots:=by rw[adds_slots,adds_slots]
  refine wpAny_mono (E:=noE) ?_ (fun _ _ h=>h) fun _ _ h=>h.elim
  refine wpAny_assign_Name ?_
  rw[←henv]
  refine store_var (i:=0) S₂ (by rw[hslots];exact hx) (.inl (by rw[henv];exact hk)) fun s₃ es₃ S₃=>?_
  rw[henv]
  have S₃:Sim C ((Fi.adds [(D,lstObj accv nn)]).adds ps') mu (acc.zip accv++T) ⟨some xx::caps,sto⟩ s₃.heap:=S₃
  have hc₃:EnvC C ((Fi.adds [(D,lstObj accv nn)]).adds ps') c':=(hc'.adds _).adds _
  have htests:=tests_snd hc₃ rm h1 hifs S₃ hw
  rw[henv]at htests
  refine wpAny_mono (thenX htests fun ok s₄ mu₄ st₄ e₄ S₄ q₄=>(?_:(fun ok s₃=>if ok=true then wpAny (model C.prog C.w) A (eval elt Fi.env) (fun x s₄=>
       wpAny (model C.prog C.w) A (call (.builtin "list.append") [.ref D,x]) (fun _ s₅=>∃m,m<src.items.length+1-k∧CompInv C Fi T St' D caps src.items.length I s₀ m s₅) (notedBy (model C.prog C.w) A Fi.env fun e s'=>R (.error e) s') s₄) (notedBy (model C.prog C.w) A Fi.env fun e s'=>R (.error e) s') s₃
      else∃m,m<src.items.length+1-k∧CompInv C Fi T St' D caps src.items.length I s₀ m s₃) ok s₄)) (fun _ _ h=>h) fun _ _ h=>h.elim
  refine x0_2 q₄ fun hrho ht hf=>?_
  have same₄:Same s₀ s₄:=hsame.trans (es.trans (es₃.trans e₄))
  obtain⟨rho₄,sto₄⟩:=st₄
  subst hrho
  cases ok with
  |false=>
   simp only[Bool.false_eq_true,if_false]
   rw[←adds_append]at S₄
   exact⟨_,by exact o33 hkn,k+1,acc,accv,nn,mu₄,sto₄,some xx,ps',rfl,hkn,hst',same₄,hlen,hline,S₄,hf rfl⟩
  |true=>
   simp only[if_true]
   have he:=helt.E _ hc₃ A d s₄ mu₄ _ _ _ rm h1 S₄ (ht rfl)
   rw[henv]at he
   refine wpAny_mono (thenV he fun z s₅ mu₅ pz st₅ e₅ S₅ q₅=>(?_:(fun x s₄=>
       wpAny (model C.prog C.w) A (call (.builtin "list.append") [.ref D,x]) (fun _ s₅=>∃m,m<src.items.length+1-k∧CompInv C Fi T St' D caps src.items.length I s₀ m s₅) (notedBy (model C.prog C.w) A Fi.env fun e s'=>R (.error e) s') s₄) z s₅)) (fun _ _ h=>h) fun _ _ h=>h.elim
   refine x0_2 q₅ fun hrho hlt hi'=>?_
   obtain⟨rho₅,sto₅⟩:=st₅
   subst hrho
   rw[←adds_append]at S₅
   have hpa':=itr.addr _ _ hst'
   have hD:s₅.heap.get? D=some (lstObj accv nn):=at_of S₅ (p:=(D,lstObj accv nn)) (ms)
   refine append_at hD (fun h' hs hD'=>?_) (by rw[List.size_toArray, ←lineN_is];exact hlen▸hline)
   have e1:accv.toArray.push z=(accv++[z]).toArray:=List.push_toArray _ _
   rw[e1]at hD'
   have nd:=S₅.ok.prot1
   rw[adds_prot,List.map_append]at nd
   have S₆:=S₅.setAll (h':=h') (ps':=ps'++[(D,lstObj (accv++[z]) (nn+1))]) (by simp) (fun a ha=>by
    simp only[List.map_append,List.map_cons,List.map_nil,List.mem_append,List.mem_singleton]at ha
    rcases ha with ha|rfl
    .exact haf a (hpa'▸ha)
    .exact hDf) (fun b o hb e=>(hs.2 b (by
     simp only[List.map_append,List.map_cons,List.map_nil,List.mem_append,List.mem_singleton,not_or]at hb
     exact hb.2)).trans e) (fun p hp=>by
    rcases List.mem_append.mp hp with hp|hp
    .refine⟨(hs.2 _ fun z=>?_).trans (at_of S₅ (List.mem_append_left _ hp)),(S₅.ok.protfx p (by rw[adds_prot];exact List.mem_append_left _ (List.mem_append_left _ hp))).2.2.2⟩
     exact hDa (hpa'▸z▸List.mem_map_of_mem hp)
    .rw[List.mem_singleton]at hp;subst hp;exact⟨hD',rfl⟩)
   refine⟨_,by exact o33 hkn,k+1,acc++[pz],accv++[z],nn+1,mu₅,sto₅,some xx,ps',rfl,hkn,hst',⟨(same₄.trans e₅).gens,(same₄.trans e₅).drawn,(same₄.trans e₅).os⟩,by simp[hlen],by simp;exact o243 hlt,S₆.sub fun p hp=>?_,hi'⟩
   rw[List.zip_append (by rw[hlen])]at hp
   simp only[List.append_assoc,List.mem_append,List.zip_cons_cons,List.zip_nil_right,List.mem_singleton]at hp
   rcases hp with hp|rfl|hp
   .exact .tail _ (List.mem_append_left _ hp)
   .exact .head _
   .exact .tail _ (List.mem_append_right _ hp)
end
end Mine.Internal
namespace Mine.Internal
open PySem PySem.W PyProof.Rows PySem.Calls
noncomputable def CompEnd(C:Cx)(F:Frm)(T:List (PV×Value))(Q:PV→St→Prop)(s:Shared)(C' D:Nat)(s':Shared):Prop:=
 ∃mu pv st' oC,Same s s'∧Sim C (F.add C' oC) mu ((pv,.ref D)::T) st' s'.heap∧(∃m,s'.heap.Ns C' m)∧¬F.fx C'∧Q pv st'
section
variable {C:Cx} {F:Frm} {c:CC} {A:Around} {d:Nat} {mu:List (Nat×Nat)} {T T₀:List (PV×Value)} {st:St} {s:Shared}
theorem comp_core{elt iter:Expr}{x:Str}{px:Pos}{ifs:List Expr}{scope:Scope}{pos:Pos}{f:Expr→PE}{pelt:PE}{psrc:PI}{caps:List Nat}{cl:List (Str×Addr)}{Q:PV→St→Prop}
  (hc:EnvC C F c) (rm:Room A d) (h1:1≤d) (S:Sim C F mu T st s.heap)
  (helt:Snd C ⟨relabelN c scope.names,x::freesOf scope.names,c.glob,c.fields,false⟩ elt pelt) (hifs:Snds C ⟨relabelN c scope.names,x::freesOf scope.names,c.glob,c.fields,false⟩ ifs f) (hsrc:SndI C c iter psrc)
  (hcaps:idxAll c.slots (freesOf scope.names)=some caps) (ok:CompOk c scope x) (hne:isEnumI psrc=false)
  (hcl:∀n c,cl.lookup n=some c→n∈freesOf scope.names∧F.env.cells.lookup n=some c) (hcl2:∀n,n∈freesOf scope.names→cl.lookup n=F.env.cells.lookup n)
  (q:wpE C d (.comp pelt psrc (ifs.map f) caps) Q st):
  wpAny (model C.prog C.w) A (eval iter F.env) (fun xv s₁=>wpAny (model C.prog C.w) A (pyIter xv) (fun it s₂=>wpAny (model C.prog C.w) A (newList []) (fun acc s₃=>
   wpAny (model C.prog C.w) A (newFunctionEnv scope F.env.globals cl [] F.env.qual none .none (some F.env)) (fun cenv s₄=>
    codeAny (model C.prog C.w) A (.compStart (.ListComp elt [⟨.Name x px,iter,ifs,0⟩] scope pos) 0 it acc {cenv with scope:=relabel scope F.env}) (fun r s'=>r=.ok .next∧∃D,acc=.ref D∧CompEnd C F T Q s cenv.locals D s') s₄) noE s₃) noE s₂) noE s₁) noE s:=by
 refine wpAny_mono (hsrc F hc A d s mu T st _ (.Name x px) rm h1 S (fun z=>by rw[hne]at z;exact nF z) q) (fun xv s₁ h₁=>wpAny_mono h₁ (fun it s₂ h₂=>?_) fun _ _ h=>h) fun _ _ h=>h
 refine x8_9 h₂ fun mu' T' st' src St' addrs ps h₀ e₂ hsub itr hst S₀ k₀ sz₀ hps hnd zR=>x1_2 zR fun I hI0 hstep hfin=>?_
 have hpa:=itr.addr 0 ps hst
 refine wpAny_newList ?_ (Nat.zero_le _)
 refine wpAny_newFunctionEnv ok.nocell (fun x hx=>by exact nM hx) (fun h₄ hn hs=>?_) ok.kind
 have szD:(s₂.heap.push (lstObj [] 0)).objs.size=s₂.heap.objs.size+1:=Heap.size_push ..
 have kD:∀b o,s₂.heap.get? b=some o→(s₂.heap.push (lstObj [] 0)).get? b=some o:=fun b o e=>Heap.get?_push_of_some _ e
 have k4:∀(b:Nat)o,(s₂.heap.push (lstObj [] 0)).get? b=some o→h₄.get? b=some o:=fun b o e=>(hs.2 b (Nat.ne_of_lt (Heap.lt_size e))).trans (Heap.get?_push_of_some _ e)
 have getD:h₄.get? s₂.heap.objs.size=some (lstObj [] 0):=k4 _ _ (Heap.get?_push_size _ rfl)
 have hn':∃m,h₄.Ns (s₂.heap.push (lstObj [] 0)).objs.size m:=⟨_,hn⟩
 obtain⟨D,hDe⟩:∃D:Nat,D=s₂.heap.objs.size:=⟨_,rfl⟩
 obtain⟨C',hCe⟩:∃C':Nat,C'=(s₂.heap.push (lstObj [] 0)).objs.size:=⟨_,rfl⟩
 have hCD:C'=D+1:=by rw[hCe,hDe];exact szD
 have E:=comp_entry (F:=F) (cl:=cl) (C':=C') (h₄:=h₄) (x:=x) hc S₀ (relabel_names (s:=s) S hc scope) ok hcl hcl2 (fun b o e=>k4 b o (kD b o (k₀ b o e))) (by rw[hCD,hDe];exact Nat.le_succ_of_le sz₀) (hCe▸hn')
 have qD:∀p∈ps,p.1<D:=fun p hp=>by rw[hDe];exact Heap.lt_size (hps p hp).2.1
 have hDa:D∉addrs:=fun z=>by
  rw[←hpa]at z
  refine x1_1 (List.mem_map.mp z) fun p hp e=>?_
  have:=qD p hp
  exact o34 szD hDe hCe e this
 have hv:∀(i:Nat)n pv,(x::freesOf scope.names)[i]? =some n→((none:Option PV)::caps.map fun c=>(st'.rho[c]?).join)[i]? =some (some pv)→
   ∃v,SlotHas (compEnvC scope cl C' F.env) h₄ n v∧VRel C (XS F.fx mu') h₀ mu' pv v:=fun i n pv e1 e2=>by
  cases i with
  |zero=>simp at e2
  |succ j=>
   simp only[List.getElem?_cons_succ]at e1 e2
   refine x1_1 (idxAll_at hcaps j n e1) fun ci g1 g2=>?_
   rw[List.getElem?_map,g1]at e2
   simp only[Option.map_some,Option.some.injEq]at e2
   have e3:st'.rho[ci]? =some (some pv):=by
    cases z:st'.rho[ci]? with
    |none=>rw[z]at e2;exact nN e2
    |some y=>rw[z]at e2;rw[show y=some pv from e2]
   refine x1_1 (S₀.vars ci n pv (by rw[hc.slots];exact g2) e3) fun v hsl hvr=>?_
   have hm:n∈freesOf scope.names:=List.mem_of_getElem? e1
   refine x0_2 (ok.frees n hm) fun _ f2 f3=>?_
   refine⟨v,?_,hvr⟩
   rcases hsl with⟨kk,_⟩|⟨kk,cc,hcc,hcell⟩
   .unfold Env.kindOf at kk
    rw[hc.names]at kk
    exact absurd kk f2
   .refine .inr ⟨?_,cc,(hcl2 n hm).trans hcc,hcell.keeps fun b o e=>k4 b o (kD b o (k₀ b o e))⟩
    have:(compEnvC scope cl C' F.env).kindOf n=(relabelN c scope.names).lookup n:=by
     show(relabel scope F.env).names.lookup n=_
     rw[relabel_names (s:=s) S hc scope]
    rw[this,relabel_lookup,f3]
    simp only[Option.map_some]
    split
    .exact .inl rfl
    .exact .inr rfl
 have S4:Sim C ((inner F h₀ mu' [] (compEnvC scope cl C' F.env) (x::freesOf scope.names) (fun a=>a=C') false).adds (ps++[(D,lstObj [] 0)])) mu' T' ⟨none::caps.map fun c=>(st'.rho[c]?).join,st'.sto⟩ h₄:=by
  refine S₀.enterQ E (fun p hp=>?_) ?_ hv
  .rcases List.mem_append.mp hp with hp|hp
   .have:=qD p hp
    exact⟨(hps p hp).1,by exact o35 szD hDe hCe this,k4 _ _ (kD _ _ (hps p hp).2.1),(hps p hp).2.2⟩
   .rw[List.mem_singleton]at hp;subst hp
    exact⟨by rw[hDe];exact sz₀,by simp only;exact o36 szD hDe hCe,hDe▸getD,rfl⟩
  .rw[List.map_append,hpa]
   refine List.nodup_append.mpr ⟨hnd,nd1,fun a ha b hb=>?_⟩
   simp only[List.map_cons,List.map_nil,List.mem_singleton]at hb
   subst hb
   exact fun z=>hDa (z▸ha)
 have hFi:EnvC C (inner F h₀ mu' [] (compEnvC scope cl C' F.env) (x::freesOf scope.names) (fun a=>a=C') false) ⟨relabelN c scope.names,x::freesOf scope.names,c.glob,c.fields,false⟩:=
  ⟨relabel_names (s:=s) S hc scope,rfl,hc.fields,fun z=>(by exact nF z),hc.ok⟩
 have nfx:∀a:Nat,h₀.objs.size≤a→a≠C'→¬(inner F h₀ mu' [] (compEnvC scope cl C' F.env) (x::freesOf scope.names) (fun a=>a=C') false).fx a:=fun a ha hne=>by
  rintro(z|z)
  .exact S₀.nofx ha (.inl z)
  .exact hne z
 have hDf:=nfx D (by rw[hDe];exact sz₀) (by exact o37 szD hDe hCe)
 have haf:∀a∈addrs,¬(inner F h₀ mu' [] (compEnvC scope cl C' F.env) (x::freesOf scope.names) (fun a=>a=C') false).fx a:=fun a ha=>by
  rw[←hpa]at ha
  refine x1_1 (List.mem_map.mp ha) fun p hp zL=>?_;subst zL
  have:=qD p hp
  exact nfx _ (hps p hp).1 (by exact o38 szD hDe hCe this)
 have nCf:¬F.fx C':=fun z=>S₀.nofx (by rw[hCD,hDe];exact Nat.le_succ_of_le sz₀) (.inl z)
 have e₄:Same s {s₂ with heap:=h₄,toks:=s₂.toks+([]:List (Str×Value)).length}:=⟨e₂.gens,e₂.drawn,e₂.os⟩
 have loop:codeAny (model C.prog C.w) A (.compLoop (.ListComp elt [⟨.Name x px,iter,ifs,0⟩] scope pos) 0 it (.ref D) (compEnvC scope cl C' F.env)) (fun r s'=>r=.ok .next∧∃D',Value.ref D=.ref D'∧CompEnd C F T Q s C' D' s')
   {s₂ with heap:=h₄,toks:=s₂.toks+([]:List (Str×Value)).length}:=by
  refine comp_loop (Fi:=inner F h₀ mu' [] (compEnvC scope cl C' F.env) (x::freesOf scope.names) (fun a=>a=C') false) (s₀:=s) (caps:=caps.map fun c=>(st'.rho[c]?).join) (I:=I) hFi rm h1 helt hifs itr rfl ?_ hDa hDf haf hstep (fun acc sto hi=>(hfin acc sto hi).1) ?_ (src.items.length+1-0) ?_
  .show(relabel scope F.env).names.lookup x=_
   rw[relabel_names (s:=s) S hc scope,relabel_lookup,ok.xloc]
   rfl
  .intro s₁ s' acc accv nn mu₁ sto y ps' hsame hlen hline hpa' S₁ hi kk
   refine⟨rfl,D,rfl,?_⟩
   have hq:=(hfin acc sto hi).2
   have hD1:s₁.get? D=some (lstObj accv nn):=at_of S₁ (p:=(D,lstObj accv nn)) (ms)
   rw[adds_append]at S₁
   have S₂:Sim C ((inner F h₀ mu' [] (compEnvC scope cl C' F.env) (x::freesOf scope.names) (fun a=>a=C') false).add D (lstObj accv nn)) mu₁ (acc.zip accv++T') ⟨y::caps.map fun c=>(st'.rho[c]?).join,sto⟩ s'.heap:=
    S₁.dropAll (F:=(inner F h₀ mu' [] (compEnvC scope cl C' F.env) (x::freesOf scope.names) (fun a=>a=C') false).adds [(D,lstObj accv nn)]) (fun a ha z=>by
     rcases(adds_fx _ _ _).mp z with z|z
     .exact haf a (hpa'▸ha) z
     .simp at z;subst z;exact hDa (hpa'▸ha)) (fun b o hb e=>kk b o (hpa'▸hb) e)
   have hns:=S₂.ns
   have hvr:=vrs_of_zip (mu:=mu₁) hlen.symm fun p hp=>S₂.vals p (List.mem_append_left _ hp)
   obtain⟨oC,hoC⟩:∃o,s'.heap.get? C'=some o:=x1_0 hns fun m zR=>x3_1 zR fun o es ep ho _=>⟨o,ho⟩
   have okF:F.Ok C:=S₀.ok
   have okI:=S₂.ok.drop
   have out:∀{pv:PV}{mu₂:List (Nat×Nat)}{T₂:List (PV×Value)}{st₂:St},Sim C (inner F h₀ mu' [] (compEnvC scope cl C' F.env) (x::freesOf scope.names) (fun a=>a=C') false) mu₂ ((pv,.ref D)::T₂) st₂ s'.heap→Q pv ⟨st'.rho,st₂.sto⟩→
     CompEnd C F T Q s C' D s':=fun{pv mu₂ T₂ st₂} Si qv=>by
    have S₃:Sim C F mu₂ ([(pv,.ref D)]++T') ⟨st'.rho,st₂.sto⟩ (hide s'.heap (· ==C')):=Sim.exitAll (ps:=[]) (ps':=[]) S₀ rfl Si (fun a e=>by subst e;rw[hCD,hDe];exact Nat.le_succ_of_le sz₀) (fun b o hb e=>by
     rw[hide_get,if_neg,e]
     exact fun z=>hb (eq_of_beq z)) (fun p hp=>by rw[List.mem_singleton]at hp;subst hp;exact .head _)
    have S₄:=S₃.pushProt' (a:=C') (h':=s'.heap) (o:=oC) (fun b o e=>by
     rw[hide_get]at e
     split at e
     .exact nN e
     .exact e) (by rw[hide_get];simp) hoC (by
      obtain⟨o1,o2,o3,o4⟩:=oC
      unfold Obj.isFreed
      split
      .rename_i heq
       cases heq
       unfold Heap.get? at hoC
       split at hoC
       .exact nN hoC
       .rename_i hne
        exact absurd hoC (hne _ _ _)
      .rfl)
    exact⟨mu₂,pv,_,oC,hsame,S₄.sub fun p hp=>by
     rcases List.mem_cons.mp hp with rfl|hp
     .exact .head _
     .exact .tail _ (hsub p hp),hns,nCf,qv⟩
   rcases hq with hq|hq
   .exact out (S₂.listProt okI hDf (n:=nn) S₂.protAt (by rw[hlen];exact hline) hvr) hq
   .have S₃:=S₂.liveProt okI hDf (h':=s'.heap) (fun b o _ e=>e) (ob:=.list acc) fun mv hm=>⟨rfl,accv,nn,S₂.protAt,by rw[hlen];exact hline,hvr.move mv hm⟩
    exact out S₃ hq
  .exact⟨0,[],[],0,mu',st'.sto,none,ps,rfl,Nat.zero_le _,hst,e₄,rfl,Nat.zero_le _,S4,hI0⟩
 subst hDe
 subst hCe
 refine codeAny_compStart_list loop ?_
 have S4':=S4
 rw[adds_append]at S4'
 refine wpAny_mono (E:=noE) (itr.self _ 0 ps _ mu' _ _ (fun it' s'=>codeAny (model C.prog C.w) A (.compLoop (.ListComp elt [⟨.Name x px,iter,ifs,0⟩] scope pos) 0 it' _ (compEnvC scope cl _ F.env)) _ s') hst S4' loop) (fun _ _ h=>h) fun _ _ h=>h.elim
end
end Mine.Internal
namespace Mine.Internal
open PySem PySem.W PyProof.Rows PySem.Calls
section
variable {C:Cx} {F:Frm} {c:CC} {A:Around} {d:Nat} {mu:List (Nat×Nat)} {T T₀:List (PV×Value)} {st:St} {s:Shared}
theorem folded_pure{iter:Expr}{env:Env}(h:isSet iter=false)(x:Value):foldedSetIterable iter env x=pure x:=by
 cases iter<;>first|rfl|contradiction
theorem comp_closure{scope:Scope}{x:Str}(hc:EnvC C F c)(S:Sim C F mu T st s.heap)(ok:CompOk c scope x):
  ∃cl,closureFor scope F.env=pure cl∧(∀n c,cl.lookup n=some c→n∈freesOf scope.names∧F.env.cells.lookup n=some c)∧∀n,n∈freesOf scope.names→cl.lookup n=F.env.cells.lookup n:=by
 refine closure_ok F.env scope fun n hn=>?_
 refine x0_2 (ok.frees n (freesOf_mem.mpr hn)) fun h1 h2 _=>?_
 refine S.ok.cellall n ?_
 unfold CC.isVar at h1
 unfold Env.kindOf
 rw[hc.names]
 split at h1
 .rename_i z;exact absurd z h2
 .rename_i z;exact .inl z
 .rename_i z;exact .inr z
 .contradiction
theorem snd_comp{elt iter:Expr}{x:Str}{px:Pos}{ifs:List Expr}{scope:Scope}{pos:Pos}{f:Expr→PE}{pelt:PE}{psrc:PI}{caps:List Nat}
  (helt:Snd C ⟨relabelN c scope.names,x::freesOf scope.names,c.glob,c.fields,false⟩ elt pelt) (hifs:Snds C ⟨relabelN c scope.names,x::freesOf scope.names,c.glob,c.fields,false⟩ ifs f) (hsrc:SndI C c iter psrc)
  (hcaps:idxAll c.slots (freesOf scope.names)=some caps) (ok:CompOk c scope x) (hne:isEnumI psrc=false) (hset:isSet iter=false):
  Snd C c (.ListComp elt [⟨.Name x px,iter,ifs,0⟩] scope pos) (.comp pelt psrc (ifs.map f) caps):=by
 refine Snd.plain (fun F hc A d s mu T st Q rm h1 S q=>?_) (fun _ _ _=>rfl) (fun _ _=>rfl)
 refine x1_2 (comp_closure hc S ok) fun cl hclos hcl hcl2=>?_
 rw[eval_ListComp]
 refine wpAny_comprehension_free (use:=none) rfl (folded_pure hset) hclos ok.kind ok.locs ?_
 refine wpAny_mono (comp_core (elt:=elt) (px:=px) (pos:=pos) hc rm h1 S helt hifs hsrc hcaps ok hne hcl hcl2 q) (fun xv s₁ h=>wpAny_mono h (fun it s₂ h=>wpAny_mono h (fun acc s₃ h=>wpAny_mono h (fun cenv s₄ h=>codeAny_mono h fun r s' zQ=>?_) fun _ _ h=>h) fun _ _ h=>h) fun _ _ h=>h) fun _ _ h=>h
 obtain⟨er,D,ed,he⟩:=zQ
 subst er ed
 refine x4_0 he fun mu' pv st' oC zR=>x0_4 zR fun e S' hn nf qv=>?_
 obtain⟨m,hm⟩:=hn
 refine⟨m,hm,fun h' hs=>?_⟩
 exact⟨mu',pv,st',⟨e.gens,e.drawn,e.os⟩,S'.dropProt S'.ok.drop nf fun b ob hb e=>(hs.2 b hb).trans e,qv⟩
theorem sndI_opP{α:Type}{e:Expr}{o:Option α}{y:PI}{f:α→PI}(h0:o=none→SndI C c e y)(h:∀a,o=some a→SndI C c e (f a)):SndI C c e (opP o y f):=by
 cases o with
 |none=>exact h0 rfl
 |some a=>exact h a rfl
theorem sndI_ifP{e:Expr}{b:Bool}{x:PI}(h:b=true→SndI C c e x):SndI C c e (ifP b x (.val Mine.Internal.bad)):=by
 cases b with
 |true=>exact h rfl
 |false=>exact sndI_val Snd.bad
theorem callOf_is{e:Expr}{g:Str}{args:List Expr}(h:callOf e=some (g,args)):∃p q,e=.Call (.Name g p) args [] q:=by
 cases e with
 |Call f l kws p=>
  cases f with
  |Name x q=>
   cases kws with
   |nil=>cases h;exact⟨_,_,rfl⟩
   |cons a l=>contradiction
  |_=>contradiction
 |_=>contradiction
theorem cI_snd{n:Nat}{e:Expr}(ih:∀e,Snd C c e (cE n c e)):SndI C c e (cI (cE n c) c e):=by
 have z:SndI C c e (.val (cE n c e)):=sndI_val (ih e)
 refine sndI_opP (fun _=>z) fun q hq=>sndI_opP (fun hv=>sndI_opP (fun _=>z) fun g hg=>?_) fun _ _=>z
 obtain⟨x,args⟩:=q
 refine x2_0 (callOf_is hq) fun p p' zL=>?_;subst zL
 cases g with
 |range=>
  match args with
  |[]=>exact z
  |[b]=>exact sndI_ifP fun hp=>sndI_range1 (ih _) hp hg
  |[a,b]=>
   refine sndI_ifP fun hp=>?_
   rw[Bool.and_eq_true]at hp
   exact sndI_range2 (ih _) (ih _) hp.1 hp.2 hg
  |_::_::_::_=>exact z
 |enum=>
  match args with
  |[]=>exact z
  |[a]=>exact sndI_ifP fun hp=>sndI_enum (ih _) hp hg
  |_::_::_=>exact z
 |_=>exact z
theorem nameOf_is{t:Expr}{y:Str}{p:Pos}(h:nameOf t=some (y,p)):t=.Name y p:=by
 cases t with
 |Name l k=>cases h;rfl
 |_=>contradiction
theorem compParts_is{gens:List Comprehension}{x:Str}{iter:Expr}{ifs:List Expr}(h:compParts gens=some (x,iter,ifs)):∃px,gens=[⟨.Name x px,iter,ifs,0⟩]:=by
 have one:∀g,compPart g=some (x,iter,ifs)→∃px,g=⟨.Name x px,iter,ifs,0⟩:=fun zQ h=>by
  obtain⟨t,it,is,a⟩:=zQ
  obtain⟨⟨y,p⟩,h1,h⟩:=op_some (o:=nameOf t) h
  obtain⟨h2,h⟩:=if_some (z:=a==0) h
  cases h
  exact⟨p,by rw[nameOf_is h1,eq_of_beq h2]⟩
 cases gens with
 |nil=>contradiction
 |cons g r=>
  cases r with
  |nil=>
   obtain⟨px,rfl⟩:=one g h
   exact⟨px,rfl⟩
  |cons _ _=>contradiction
theorem cDict_snd{F:Expr→PE}(ih:∀e,Snd C c e (F e)){ks:List (Option Expr)}{vs:List Expr}{p:Pos}:Snd C c (.Dict ks vs p) (cDict (ks.map (Option.map F)) (vs.map F)):=by
 match ks,vs with
 |[],[]=>exact snd_dict0
 |[],_::_=>exact Snd.bad
 |[some k],[v]=>exact snd_dict1 (ih k) (ih v)
 |[some k],[]=>exact Snd.bad
 |[some k],_::_::_=>exact Snd.bad
 |none::_,_=>exact Snd.bad
 |some _::_::_,_=>exact Snd.bad
theorem ne_args{args:List Expr}(h:(!args.isEmpty&&args.all plainE)=true):∃a r,args=a::r∧(a::r).all plainE=true:=by
 cases args with
 |nil=>contradiction
 |cons a r=>exact⟨a,r,rfl,h⟩
theorem cCall_snd{F:Expr→PE}(ih:∀e,Snd C c e (F e)){f:Expr}{args:List Expr}{kws:List Keyword}{pos:Pos}:Snd C c (.Call f args kws pos) (cCall F c f args kws pos):=by
 have ihs:∀es,Snds C c es F:=fun es e _=>ih e
 cases kws with
 |cons k ks=>exact Snd.bad
 |nil=>
  cases f with
  |Name x np=>
   refine snd_opP (fun hv=>snd_opP (fun _=>Snd.bad) fun g hg=>?_) fun i hv=>snd_ifP fun h=>?_
   .cases g with
    |fn g=>
     refine snd_ifP fun h=>?_
     refine x2_1 (ne_args h) fun a r zE h=>?_;subst zE
     exact snd_call (ihs _) h hg
    |unit=>
     refine snd_ifP fun h=>?_
     refine x2_1 (ne_args h) fun a r zE h=>?_;subst zE
     exact snd_unit (ihs _) h hg
    |bi b=>
     match args with
     |[]=>exact Snd.bad
     |[a]=>exact snd_ifP fun h=>snd_bi (ih _) h hg
     |_::_::_=>exact Snd.bad
    |isinst=>
     match args with
     |[]=>exact Snd.bad
     |[_]=>exact Snd.bad
     |_::_::_::_=>exact Snd.bad
     |[a,t]=>
      refine snd_opP (fun _=>Snd.bad) fun q hq=>?_
      obtain⟨t,p⟩:=q
      obtain rfl:=nameOf_is hq
      exact snd_opP (fun _=>Snd.bad) fun g' hg'=>snd_opP (fun _=>Snd.bad) fun T hT=>snd_ifP fun h=>snd_isinst (ih _) h hg (by rw[hg'];exact hT)
    |_=>exact Snd.bad
   .refine x2_1 (ne_args h) fun a r zE h=>?_;subst zE
    exact snd_callv (ihs _) h hv
  |Attribute o m ap=>
   refine snd_opP (fun _=>Snd.bad) fun m hm=>snd_ifP fun h=>?_
   simp only[Bool.and_eq_true,decide_eq_true_eq]at h
   exact snd_meth (ih o) (ihs _) h.1.1.1 hm h.1.1.2 h.1.2 h.2
  |_=>exact Snd.bad
theorem cSub_snd{F:Expr→PE}(ih:∀e,Snd C c e (F e)){o i:Expr}{p:Pos}:Snd C c (.Subscript o i p) (cSub F o i):=by
 cases i with
 |Slice lo hi stp p1=>
  match lo,hi,stp with
  |none,some hi,none=>exact snd_upto (ih o) (ih hi)
  |some lo,none,none=>exact snd_from (ih o) (ih lo)
  |none,none,_=>exact Snd.bad
  |none,some _,some _=>exact Snd.bad
  |some _,some _,_=>exact Snd.bad
  |some _,none,some _=>exact Snd.bad
 |_=>exact snd_sub (ih o) (ih _) rfl
theorem cE_snd:∀(n:Nat)(c:CC)(e:Expr),Snd C c e (cE n c e)
 |0,c,e=>Snd.bad
 |n+1,c,e=>by
  have ih:=cE_snd n c
  have ihs:∀es,Snds C c es (cE n c):=fun es e _=>ih e
  cases e with
  |Name x p=>exact snd_name
  |Constant k m p=>exact snd_const
  |BinOp l op r p=>exact snd_opP (fun _=>Snd.bad) fun o h=>snd_bin (ih l) (ih r) h
  |UnaryOp op x p=>
   cases op with
   |Not=>exact snd_not (ih x)
   |_=>exact Snd.bad
  |BoolOp op l p=>
   refine snd_ifP fun h=>?_
   cases op with
   |And=>exact snd_and (by simpa using h) (ihs l)
   |Or=>exact snd_or (by simpa using h) (ihs l)
  |IfExp t a b p=>exact snd_ife (ih t) (ih a) (ih b)
  |Compare l ops rs p=>
   refine snd_ifP fun h=>?_
   simp only[Bool.and_eq_true,beq_iff_eq,Bool.not_eq_true']at h
   exact snd_chain (ih l) (ihs rs) h.1.1 (by have:=h.1.2;intro z;subst z;simp at this) h.2
  |Tuple l k p=>
   refine snd_ifP fun h=>?_
   rw[Bool.and_eq_true,decide_eq_true_eq]at h
   exact snd_tup (ihs l) h.1 h.2
  |List l p=>
   refine snd_ifP fun h=>?_
   rw[Bool.and_eq_true,decide_eq_true_eq]at h
   exact snd_list (ihs l) h.1 h.2
  |Dict ks vs p=>exact cDict_snd ih
  |Call f args kws p=>exact cCall_snd ih
  |Attribute o x p=>exact snd_opP (fun _=>Snd.bad) fun k hk=>snd_ifP fun h=>snd_attr (ih o) hk h
  |Subscript o i p=>exact cSub_snd ih
  |ListComp elt gens scope p=>
   refine snd_opP (fun _=>Snd.bad) fun q hparts=>snd_opP (fun _=>Snd.bad) fun caps hcaps=>snd_ifP fun h=>?_
   obtain⟨x,iter,ifs⟩:=q
   obtain⟨px,rfl⟩:=compParts_is hparts
   simp only[Bool.and_eq_true,Bool.not_eq_true']at h
   exact snd_comp (cE_snd n _ _) (fun e _=>cE_snd n _ e) (cI_snd ih) hcaps (compOk_of h.1.1) h.2 h.1.2
  |_=>exact Snd.bad
end
end Mine.Internal
namespace Mine.Internal
open PySem PySem.W PyProof.Rows PySem.Calls
inductive All2{α β:Type}(R:α→β→Prop):List α→List β→Prop
 |nil:All2 R [] []
 |cons {a b l m}:R a b→All2 R l m→All2 R (a::l) (b::m)
theorem All2.len{α β:Type}{R:α→β→Prop}:∀{l:List α}{m:List β},All2 R l m→l.length=m.length
 |_,_,.nil=>rfl
 |_,_,.cons _ h=>by simp[h.len]
set_option backward.match.sparseCases true in
theorem assign_sub_eq(o i:Expr)(pos:Pos)(env:Env)(v:Value):assign (.Subscript o i pos) env v=(do let ov ←holding [v] (eval o env);let iv ←holding [v,ov] (eval i env);standAt pos;holding [v,ov,iv] (setItem ov iv v);release (match i with| .Slice _ _ none _=>[iv,v,ov]|_=>[v,ov,iv]) []):=rfl
noncomputable def LiftF(C:Cx)(F:Frm)(T:List (PV×Value))(Q:Out→St→Prop)(s:Shared)(f:Flow)(s':Shared):Prop:=match f with
 | .next=>∃mu' st',Same s s'∧Sim C F mu' T st' s'.heap∧Q .next st'
 | .brk=>∃mu' st',Same s s'∧Sim C F mu' T st' s'.heap∧Q .brk st'
 | .cont=>∃mu' st',Same s s'∧Sim C F mu' T st' s'.heap∧Q .cont st'
 | .ret v=>∃mu' pv st',Same s s'∧Sim C F mu' ((pv,v)::T) st' s'.heap∧Q (.ret pv) st'
noncomputable def SndS(C:Cx)(c:CC)(stm:Stmt)(ps:PS):Prop:=∀(F:Frm),EnvC C F c→∀(A:Around)(d:Nat)(s:Shared)(mu:List (Nat×Nat))(T:List (PV×Value))(st:St)(Q:Out→St→Prop),Room A d→1≤d→Sim C F mu T st s.heap→
 wpS C d ps Q st→wpAny (model C.prog C.w) A (exec stm F.env) (LiftF C F T Q s) noE s
noncomputable def SndA(C:Cx)(c:CC)(t:Expr)(pt:PT):Prop:=∀(F:Frm),EnvC C F c→∀(A:Around)(d:Nat)(s:Shared)(mu:List (Nat×Nat))(T:List (PV×Value))(st:St)(Q:St→Prop)(p:PV)(v:Value),Room A d→1≤d→Sim C F mu ((p,v)::T) st s.heap→
 wpA C d pt p Q st→wpAny (model C.prog C.w) A (assign t F.env v) (LiftX C F T (fun _=>Q) s) noE s
section
variable {C:Cx} {F:Frm} {c:CC} {A:Around} {d:Nat} {mu:List (Nat×Nat)} {T T₀:List (PV×Value)} {st:St} {s:Shared}
theorem liftF_same{Q:Out→St→Prop}{s₀:Shared}{f:Flow}{s':Shared}(e:Same s₀ s)(x:LiftF C F T Q s f s'):LiftF C F T Q s₀ f s':=by
 cases f with
 |next=>refine x2_1 x fun mu' st' e' r=>?_;exact⟨mu',st',e.trans e',r⟩
 |brk=>refine x2_1 x fun mu' st' e' r=>?_;exact⟨mu',st',e.trans e',r⟩
 |cont=>refine x2_1 x fun mu' st' e' r=>?_;exact⟨mu',st',e.trans e',r⟩
 |ret v=>refine x3_1 x fun mu' pv st' e' r=>?_;exact⟨mu',pv,st',e.trans e',r⟩
theorem liftF_sub{Q:Out→St→Prop}{T':List (PV×Value)}{f:Flow}{s':Shared}(hs:∀p∈T,p∈T')(x:LiftF C F T' Q s f s'):LiftF C F T Q s f s':=by
 cases f with
 |next=>refine x2_2 x fun mu' st' e' S q=>?_;exact⟨mu',st',e',S.sub hs,q⟩
 |brk=>refine x2_2 x fun mu' st' e' S q=>?_;exact⟨mu',st',e',S.sub hs,q⟩
 |cont=>refine x2_2 x fun mu' st' e' S q=>?_;exact⟨mu',st',e',S.sub hs,q⟩
 |ret v=>
  refine x3_2 x fun mu' pv st' e' S q=>?_
  exact⟨mu',pv,st',e',S.sub fun p hp=>by
   rcases List.mem_cons.mp hp with rfl|hp
   .exact .head _
   .exact .tail _ (hs p hp),q⟩
theorem doneF{Q:Out→St→Prop}{T':List (PV×Value)}{s₁:Shared}{m:Sem Flow}(x:wpAny (model C.prog C.w) A m (LiftF C F T' Q s₁) noE s₁)(e:Same s s₁)(hs:∀p∈T,p∈T'):wpAny (model C.prog C.w) A m (LiftF C F T Q s) noE s₁:=
 wpAny_mono x (fun _ _ y=>liftF_same e (liftF_sub hs y)) (fun _ _ h=>h)
theorem storeIdx_is{x:Str}{i:Nat}(hc:EnvC C F c)(h:storeIdx c x=some i):F.slots[i]? =some x∧(F.env.kindOf x=some .local∨(F.env.kindOf x=some .cell∧F.wr=true)):=by
 unfold storeIdx at h
 split at h
 .rename_i hs
  refine⟨(var_kind hc h).1,?_⟩
  unfold CC.canStore at hs
  unfold Env.kindOf
  rw[hc.names]
  split at hs
  .rename_i q;exact .inl q
  .rename_i q;exact .inr ⟨q,hc.wr hs⟩
  .exact nF hs
 .exact nN h
theorem assign_name{x:Str}{pos:Pos}{i:Nat}(h:storeIdx c x=some i):SndA C c (.Name x pos) (.var i):=fun F hc A d s mu T st Q p v rm h1 S q=>by
 obtain⟨hi,hk⟩:=storeIdx_is hc h
 exact wpAny_assign_Name (store_var S hi hk fun s' e S'=>⟨mu,_,e,S',q⟩)
theorem assign_attr{o:Expr}{po:PE}{x:Str}{k:Nat}{pos:Pos}(ho:Snd C c o po)(hk:idxS x c.fields=some k):SndA C c (.Attribute o x pos) (.attr po k):=fun F hc A d s mu T st Q p v rm h1 S q=>by
 show wpAny _ A (do let ov ←holding [v] (eval o F.env);standAt pos.atName;holding [v,ov] (setAttr ov x v);release [v,ov] []) _ _ s
 refine wpAny_bind (wpAny_holding (thenV (ho.E F hc A d s mu _ st _ rm h1 S q) fun ov s₁ mu₁ po st₁ e₁ S₁ q₁=>wpAny_bind (wpAny_standAt ?_)))
 refine x3_1 q₁ fun i ob ob' zE zR=>?_;subst zE;refine x0_2 zR fun hob hob' q₁=>?_
 .refine wpAny_bind (wpAny_holding (thenX (op_setAttr (R:=fun _=>Q) hc.ok.unit S₁ S₁.hd (S₁.vals (p,v) (.tail _ (.head _))) (hc.fields▸idxS_at hk) hob hob' q₁) fun _ s₂ mu₂ st₂ e₂ S₂ q₂=>wpAny_release' ?_))
  exact⟨mu₂,st₂,e₁.trans e₂,S₂.sub fun p hp=>.tail _ (.tail _ hp),q₂⟩
theorem assign_sub{o i:Expr}{po pi:PE}{pos:Pos}(ho:Snd C c o po)(hi:Snd C c i pi)(hn:notSlice i=true):SndA C c (.Subscript o i pos) (.sub po pi):=fun F hc A d s mu T st Q p v rm h1 S q=>by
 rw[assign_sub_eq]
 refine wpAny_bind (wpAny_holding (thenV (ho.E F hc A d s mu _ st _ rm h1 S q) fun ov s₁ mu₁ po st₁ e₁ S₁ q₁=>wpAny_bind (wpAny_holding (thenV (hi.E F hc A d s₁ mu₁ _ st₁ _ rm h1 S₁ q₁) fun iv s₂ mu₂ p₂ st₂ e₂ S₂ q₂=>wpAny_bind (wpAny_standAt ?_)))))
 refine x3_1 q₂ fun j ob ob' zE zR=>?_;subst zE;refine x0_2 zR fun hob hob' q₂=>?_
 .refine wpAny_bind (wpAny_holding (thenX (op_setItem (R:=fun _=>Q) (rm.one h1) S₂ (S₂.vals (PV.ref j,ov) (.tail _ (.head _))) S₂.hd (S₂.vals (p,v) (.tail _ (.tail _ (.head _)))) hob hob' q₂) fun _ s₃ mu₃ st₃ e₃ S₃ q₃=>wpAny_release' ?_))
  exact⟨mu₃,st₃,(e₁.trans e₂).trans e₃,S₃.sub fun p hp=>.tail _ (.tail _ (.tail _ hp)),q₃⟩
theorem each_plain:∀{ts:List Expr}{env:Env},ts.all plainE=true→(assignEach ts env).map (·.2)=ts.map (fun t=>assign t env)∧(assignEach ts env).findIdx? (·.1)=none∧(assignEach ts env).length=ts.length
 |[],env,_=>⟨rfl,rfl,rfl⟩
 |t::ts,env,h=>by
  rw[List.all_cons,Bool.and_eq_true]at h
  refine x0_2 (each_plain (env:=env) h.2) fun h1 h2 h3=>?_
  have e:assignEach (t::ts) env=(false,assign t env)::assignEach ts env:=by
   have:=h.1
   cases t<;>first|rfl|exact nF this
  rw[e]
  refine⟨congrArg _ h1,?_,congrArg _ h3⟩
  rw[List.findIdx?_cons,h2]
  rfl
theorem assigns_snd(hc:EnvC C F c)(rm:Room A d)(h1:1≤d){ts:List Expr}{pts:List PT}(h:All2 (SndA C c) ts pts):∀(s:Shared)(mu:List (Nat×Nat))(T:List (PV×Value))(st:St)(Q:St→Prop)(ps:List PV)(vs:List Value),ps.length=pts.length→
  vs.length=ps.length→Sim C F mu (ps.zip vs++T) st s.heap→wpAs C d pts ps Q st→wpAny (model C.prog C.w) A (assignInOrder (ts.map fun t=>assign t F.env) vs) (LiftX C F T (fun _=>Q) s) noE s:=by
 induction h with
 |nil=>
  intro s mu T st Q ps vs hl hv S q
  obtain rfl:ps=[]:=List.length_eq_zero_iff.mp hl
  obtain rfl:vs=[]:=List.length_eq_zero_iff.mp hv
  exact wpAny_assignInOrder_none (liftX_here (tk:=s.toks) S q)
 | @cons t pt ts pts ht hts ih=>
  intro s mu T st Q ps vs hl hv S q
  obtain⟨p,ps,rfl,q⟩:=q
  .cases vs with
   |nil=>exact absurd hv (Nat.succ_ne_zero _).symm
   |cons v vs=>
    rw[List.map_cons]
    refine wpAny_assignInOrder_more (thenX (ht F hc A d s mu (ps.zip vs++T) st _ p v rm h1 S q) fun _ s₁ mu₁ st₁ e₁ S₁ q₁=>?_)
    exact doneX (ih s₁ mu₁ T st₁ Q ps vs (Nat.succ.inj hl) (Nat.succ.inj hv) S₁ q₁) e₁ (fun _ h=>h)
theorem assign_tup{ts:List Expr}{pts:List PT}{k:Nat}{pos:Pos}(h:All2 (SndA C c) ts pts)(hp:ts.all plainE=true):SndA C c (.Tuple ts k pos) (.tup pts):=fun F hc A d s mu T st Q p v rm h1 S q=>by
 obtain⟨vs,rfl,q⟩:=q
 .refine x2_1 (vr_tup' S.hd) fun a vals zE zR=>?_;subst zE;refine x0_3 zR fun _ ht _ hr=>?_
  refine x0_2 (each_plain (env:=F.env) hp) fun e1 e2 e3=>?_
  have L:=hr.length
  have L2:=h.len
  refine wpAny_assign_Tuple rm.handled ht (by rw[e3,List.size_toArray];omega) e2 fun h' hk=>?_
  rw[e1]
  have S':Sim C F mu T st h':=S.tail.grow fun b o e=>hk b o (Nat.ne_of_lt (Heap.lt_size e)) e
  have S0:=vrs_add (s:=s) (T:=T) S.tail hr
  have S1:Sim C F mu (vs.zip vals++T) st h':=S0.grow fun b o e=>hk b o (Nat.ne_of_lt (Heap.lt_size e)) e
  have:=assigns_snd hc rm h1 h {s with heap:=h'} mu T st Q vs vals (by omega) (by exact o244 L) S1 q.2
  exact doneX this ⟨rfl,rfl,rfl⟩ (fun _ h=>h)
end
end Mine.Internal
namespace Mine.Internal
open PySem PySem.W PyProof.Rows PySem.Calls
section
variable {C:Cx} {F:Frm} {c:CC} {A:Around} {d:Nat} {mu:List (Nat×Nat)} {T T₀:List (PV×Value)} {st:St} {s:Shared}
theorem swaps_no{v:Expr}{t:Option Expr}{l:Nat}{env:Env}(h:isComp v=false):swapsWith v t l env=pure false:=by
 cases v<;>first|rfl|contradiction
theorem blockKind_fn{env:Env}(h:env.scope.kind=.function):(env.blockKind != .function)=false∧(env.blockKind==.function)=true:=by
 unfold Env.blockKind
 rw[h]
 exact⟨rfl,rfl⟩
noncomputable def isStarB:Expr→Bool
 | .Starred .. =>true
 |_=>false
theorem ite_star{α:Type}{vs:List Expr}{f:Expr→Bool}{A B R:α}(hf:∀e,f e=isStarB e)(h:(if hasStar vs=true then A else B)=R):(if vs.any f=true then A else B)=R:=by
 have:vs.any f=hasStar vs:=by
  congr 1
  funext x
  rw[hf x]
  cases x<;>rfl
 rw[this];exact h
theorem ite_names{ts vs:List Expr}{f:Expr→Option Str}{l:Nat}{R:Sem (Option (List Str))}(hf:∀e,f e=localAt c l e)
  (h:(if((ts.filterMap (localAt c l)).length != ts.length||(ts.filterMap (localAt c l)).eraseDups.length != (ts.filterMap (localAt c l)).length)=true then pure none else if vs.all (foldedForSure 8)=true then pure none
   else if vs.all (constantsAlone 8)=true then(do unsupported "assign.tuple-of-constant-expressions:order-of-the-stores";pure (some (ts.filterMap (localAt c l))))else pure (some (ts.filterMap (localAt c l))))=R):
  (if((ts.filterMap f).length != ts.length||(ts.filterMap f).eraseDups.length != (ts.filterMap f).length)=true then pure none else if vs.all (foldedForSure 8)=true then pure none
   else if vs.all (constantsAlone 8)=true then(do unsupported "assign.tuple-of-constant-expressions:order-of-the-stores";pure (some (ts.filterMap f)))else pure (some (ts.filterMap f)))=R:=by
 have:f=localAt c l:=funext hf
 rw[this];exact h
theorem swp_is{ts vs:List Expr}{k k':Nat}{p p':Pos}{r:Option (List Str)}(hk:F.env.scope.kind=.function)(hc:EnvC C F c)(h:swp c ts vs=some r):swappedStores [.Tuple ts k p] (.Tuple vs k' p') F.env=pure r:=by
 unfold swp at h
 unfold swappedStores
 dsimp only[pure_bind]
 rw[(blockKind_fn hk).1,Bool.or_false]
 split at h
 .rename_i q;obtain rfl:=Option.some.inj h;rw[if_pos q]
 .rename_i q
  rw[if_neg q]
  refine ite_star (fun e=>by cases e<;>rfl) ?_
  split at h
  .rename_i q2
   obtain rfl:=Option.some.inj h
   rw[if_pos q2]
  .rename_i q2
   rw[if_neg q2]
   dsimp only at h ⊢
   refine ite_names (c:=c) (l:=(ts.head?.map (·.pos.line)).getD 0) (fun e=>by
    unfold localAt Env.kindOf
    rw[hc.names]
    cases e<;>rfl) ?_
   split at h
   .rename_i q3;obtain rfl:=Option.some.inj h;rw[if_pos q3]
   .rename_i q3
    rw[if_neg q3]
    split at h
    .rename_i q4;obtain rfl:=Option.some.inj h;rw[if_pos q4]
    .rename_i q4
     rw[if_neg q4]
     split at h
     .contradiction
     .rename_i q5
      rw[if_neg q5]
      obtain rfl:=Option.some.inj h
      rfl
end
end Mine.Internal
namespace Mine.Internal
open PySem PySem.W PyProof.Rows PySem.Calls
noncomputable def setMany(rho:List (Option PV)):List Nat→List PV→List (Option PV)
 |i::is,p::ps=>setMany (rho.set i (some p)) is ps
 |_,_=>rho
theorem setMany_snoc:∀(is:List Nat)(ps:List PV)(rho:List (Option PV))(i:Nat)(p:PV),is.length=ps.length→setMany rho (is++[i]) (ps++[p])=(setMany rho is ps).set i (some p)
 |[],[],rho,i,p,_=>rfl
 |[],_::_,_,_,_,h=>if_pos h
 |_::_,[],_,_,_,h=>if_pos h
 |j::is,q::ps,rho,i,p,h=>by
  show setMany (rho.set j (some q)) (is++[i]) (ps++[p])=_
  rw[setMany_snoc is ps _ i p (Nat.succ.inj h)]
  rfl
theorem setMany_comm:∀(is:List Nat)(ps:List PV)(rho:List (Option PV))(i:Nat)(p:PV),i∉is→(setMany rho is ps).set i (some p)=setMany (rho.set i (some p)) is ps
 |[],ps,rho,i,p,_=>by cases ps<;>rfl
 |j::is,[],rho,i,p,_=>rfl
 |j::is,q::ps,rho,i,p,h=>by
  rw[List.mem_cons,not_or]at h
  show(setMany (rho.set j (some q)) is ps).set i (some p)=setMany ((rho.set i (some p)).set j (some q)) is ps
  rw[setMany_comm is ps _ i p h.2,List.set_comm _ _ (Ne.symm h.1)]
theorem setMany_rev:∀(is:List Nat)(ps:List PV)(rho:List (Option PV)),is.length=ps.length→is.Nodup→setMany rho is.reverse ps.reverse=setMany rho is ps
 |[],[],rho,_,_=>rfl
 |[],_::_,_,h,_=>rfl
 |_::_,[],_,h,_=>if_pos h
 |i::is,p::ps,rho,h,hn=>by
  rw[List.nodup_cons]at hn
  rw[List.reverse_cons,List.reverse_cons,setMany_snoc _ _ _ _ _ (by simpa using h),setMany_rev is ps rho (Nat.succ.inj h) hn.2,setMany_comm _ _ _ _ _ hn.1]
  rfl
theorem wpAs_vars{C:Cx}{d:Nat}{Q:St→Prop}:∀(is:List Nat)(ps:List PV)(st:St),is.length=ps.length→wpAs C d (is.map PT.var) ps Q st→Q ⟨setMany st.rho is ps,st.sto⟩
 |[],ps,st,h,q=>by obtain rfl:ps=[]:=List.length_eq_zero_iff.mp h.symm;exact q
 |i::is,ps,st,h,q=>by
  obtain⟨p,r,rfl,q⟩:=q
  exact wpAs_vars is r ⟨st.rho.set i (some p),st.sto⟩ (Nat.succ.inj h) q
section
variable {C:Cx} {F:Frm} {c:CC} {A:Around} {d:Nat} {mu:List (Nat×Nat)} {T T₀:List (PV×Value)} {st:St} {s:Shared}
theorem sndS_assign{t v:Expr}{pe:PE}{pt:PT}{pos:Pos}(hv:Snd C c v pe)(ht:SndA C c t pt)(hp:plainE t=true)(hsw:∀env,swapsWith v (some t) pos.line env=pure false)
  (hst:∀F,EnvC C F c→F.env.scope.kind=.function→swappedStores [t] v F.env=pure none):SndS C c (.Assign [t] v pos) (.assign pt pe):=fun F hc A d s mu T st Q rm h1 S q=>by
 refine x0_2 (each_plain (ts:=[t]) (env:=F.env) (by simp[hp])) fun e1 _ _=>?_
 refine wpAny_Assign_stores (thenV (hv.E F hc A d s mu T st _ rm h1 S q) fun x s₁ mu₁ p st₁ e₁ S₁ q₁=>?_) (hsw F.env) (hst F hc S.ok.kind)
 rw[e1]
 show wpAny _ A (assign t F.env x) _ _ s₁
 refine thenX (ht F hc A d s₁ mu₁ T st₁ _ p x rm h1 S₁ q₁) fun _ s₂ mu₂ st₂ e₂ S₂ q₂=>?_
 exact⟨mu₂,st₂,e₁.trans e₂,S₂,q₂⟩
theorem stores_in(hc:EnvC C F c):∀(ns:List Str)(is:List Nat),All2 (fun n i=>storeIdx c n=some i) ns is→∀(s:Shared)(mu:List (Nat×Nat))(T:List (PV×Value))(st:St)(ps:List PV)(vs:List Value)(R:Unit→Shared→Prop),ps.length=is.length→vs.length=ps.length→
  Sim C F mu (ps.zip vs++T) st s.heap→(∀s',Same s s'→Sim C F mu T ⟨setMany st.rho is ps,st.sto⟩ s'.heap→R () s')→wpAny (model C.prog C.w) A (assignInOrder (ns.map fun n=>bindName F.env n) vs) R noE s:=by
 intro ns is h
 induction h with
 |nil=>
  intro s mu T st ps vs R hl hv S k
  obtain rfl:ps=[]:=List.length_eq_zero_iff.mp hl
  obtain rfl:vs=[]:=List.length_eq_zero_iff.mp hv
  exact wpAny_assignInOrder_none (k s (Same.refl s) S)
 | @cons n i ns is hi _ ih=>
  intro s mu T st ps vs R hl hv S k
  cases ps with
  |nil=>simp at hl
  |cons p ps=>
   cases vs with
   |nil=>simp at hv
   |cons v vs=>
    rw[List.map_cons]
    obtain⟨h1,h2⟩:=storeIdx_is hc hi
    refine wpAny_assignInOrder_more (wpAny_bindName (store_var (T:=ps.zip vs++T) S h1 h2 fun s' e S'=>?_))
    exact ih s' mu T ⟨st.rho.set i (some p),st.sto⟩ ps vs R (Nat.succ.inj hl) (Nat.succ.inj hv) S' fun s₂ e₂ S₂=>k s₂ (e.trans e₂) S₂
theorem mapM_all2{ns:List Str}:∀{is:List Nat},ns.mapM (storeIdx c)=some is→All2 (fun n i=>storeIdx c n=some i) ns is:=by
 induction ns with
 |nil=>intro is h;simp at h;subst h;exact .nil
 |cons n ns ih=>
  intro is h
  rw[List.mapM_cons]at h
  refine x1_1 (Option.bind_eq_some_iff.mp h) fun i h1 h2=>?_
  refine x1_1 (Option.bind_eq_some_iff.mp h2) fun js h3 h4=>?_
  obtain rfl:=Option.some.inj h4
  exact .cons h1 (ih h3)
theorem all2_snoc{α β:Type}{R:α→β→Prop}:∀{l:List α}{m:List β}{a:α}{b:β},All2 R l m→R a b→All2 R (l++[a]) (m++[b])
 |_,_,_,_,.nil,h=>.cons h .nil
 |_,_,_,_,.cons h1 h2,h=>.cons h1 (all2_snoc h2 h)
theorem all2_rev{α β:Type}{R:α→β→Prop}:∀{l:List α}{m:List β},All2 R l m→All2 R l.reverse m.reverse
 |_,_,.nil=>.nil
 |_,_,.cons h1 h2=>by rw[List.reverse_cons,List.reverse_cons];exact all2_snoc (all2_rev h2) h1
theorem zip_rev_mem{α β:Type}:∀{l:List α}{m:List β}{p:α×β},l.length=m.length→p∈l.reverse.zip m.reverse→p∈l.zip m
 |[],[],p,_,h=>h
 |[],_::_,_,e,_=>absurd e (Nat.succ_ne_zero _).symm
 |_::_,[],_,e,_=>absurd e (Nat.succ_ne_zero _)
 |a::l,b::m,p,e,h=>by
  rw[List.reverse_cons,List.reverse_cons,List.zip_append (by simpa using e)]at h
  rcases List.mem_append.mp h with h|h
  .exact .tail _ (zip_rev_mem (Nat.succ.inj e) h)
  .simp at h;subst h;exact .head _
theorem sndS_swapped{ts vs:List Expr}{k k':Nat}{p p' pos:Pos}{pe:PE}{names:List Str}{is:List Nat}(hv:Snd C c (.Tuple vs k' p') pe)(hw:swp c ts vs=some (some names))(hi:names.mapM (storeIdx c)=some is)(hn:is.Nodup):
  SndS C c (.Assign [.Tuple ts k p] (.Tuple vs k' p') pos) (.assign (.tup (is.map .var)) pe):=fun F hc A d s mu T st Q rm h1 S q=>by
 have ha:=mapM_all2 hi
 have L:=ha.len
 refine Assign_Tuple_swapped (thenV (hv.E F hc A d s mu T st _ rm h1 S q) fun x s₁ mu₁ pv st₁ e₁ S₁ q₁=>?_) (show swapsWith (.Tuple vs k' p') (some (.Tuple ts k p)) pos.line F.env=pure false from swaps_no rfl) (swp_is S.ok.kind hc hw)
 refine x1_1 q₁ fun pvs zE zR=>?_;subst zE;refine x0_1 zR fun hlen q₁=>?_
 .rw[List.length_map]at hlen
  replace q₁:=wpAs_vars is pvs st₁ hlen.symm q₁
  refine x2_1 (vr_tup' S₁.hd) fun a vals zE zR=>?_;subst zE;refine x0_3 zR fun _ ht _ hr=>?_
  have L2:=hr.length
  have hsz:names.length=vals.toArray.size:=by rw[List.size_toArray];exact o39 L hlen L2
  rw[hsz]
  refine unpackItems_tuple rm.handled ht fun h' hk=>?_
  have S2:Sim C F mu₁ (pvs.zip vals++T) st₁ h':=(vrs_add S₁.tail hr).grow fun b o e=>hk b o (Nat.ne_of_lt (Heap.lt_size e)) e
  have S3:Sim C F mu₁ (pvs.reverse.zip vals.reverse++T) st₁ h':=S2.sub fun p hp=>by
   rcases List.mem_append.mp hp with hp|hp
   .refine List.mem_append_left _ ?_
    exact zip_rev_mem (by exact L2.symm) hp
   .exact List.mem_append_right _ hp
  refine stores_in hc names.reverse is.reverse (all2_rev ha) {s₁ with heap:=h'} mu₁ T st₁ pvs.reverse vals.reverse _ (by simp;exact hlen) (by simp;exact o244 L2) S3 fun s₂ e₂ S₂=>?_
  rw[setMany_rev is pvs _ (by exact hlen.symm) hn]at S₂
  exact⟨mu₁,_,⟨e₂.gens.trans e₁.gens,e₂.drawn.trans e₁.drawn,e₂.os.trans e₁.os⟩,S₂,q₁⟩
end
end Mine.Internal
namespace Mine.Internal
open PySem PySem.W PyProof.Rows PySem.Calls
section
variable {C:Cx} {F:Frm} {c:CC} {A:Around} {d:Nat} {mu:List (Nat×Nat)} {T T₀:List (PV×Value)} {st:St} {s:Shared}
theorem used_comp{elt iter:Expr}{x y:Str}{px yp:Pos}{ifs:List Expr}{scope:Scope}{pos spos:Pos}{f:Expr→PE}{pelt:PE}{psrc:PI}{caps:List Nat}{i:Nat}
  (helt:Snd C ⟨relabelN c scope.names,x::freesOf scope.names,c.glob,c.fields,false⟩ elt pelt) (hifs:Snds C ⟨relabelN c scope.names,x::freesOf scope.names,c.glob,c.fields,false⟩ ifs f) (hsrc:SndI C c iter psrc)
  (hcaps:idxAll c.slots (freesOf scope.names)=some caps) (ok:CompOk c scope x) (hne:isEnumI psrc=false) (hset:isSet iter=false) (hi:storeIdx c y=some i)
  (hsw:∀F,EnvC C F c→F.env.scope.kind=.function→swapsWith (.ListComp elt [⟨.Name x px,iter,ifs,0⟩] scope pos) (some (.Name y yp)) spos.line F.env=pure true):
  SndS C c (.Assign [.Name y yp] (.ListComp elt [⟨.Name x px,iter,ifs,0⟩] scope pos) spos) (.assign (.var i) (.comp pelt psrc (ifs.map f) caps)):=fun F hc A d s mu T st Q rm h1 S q=>by
 refine x1_2 (comp_closure hc S ok) fun cl hclos hcl hcl2=>?_
 rw[exec_Assign_Name_used _ _ _ _ (hsw F hc S.ok.kind)]
 refine wpAny_bind (wpAny_standAt (wpAny_bind ?_))
 show wpAny _ A (do let _ ←comprehension (.ListComp elt [⟨.Name x px,iter,ifs,0⟩] scope pos) scope F.env _ (newList []) false (eval iter F.env) (some (assign (.Name y yp) F.env))) _ _ s
 refine wpAny_bind (wpAny_mono (wpAny_comprehension_free (E:=noE) (use:=some (assign (.Name y yp) F.env)) (Q:=fun _ s'=>LiftF C F T Q s .next s') rfl (folded_pure hset) hclos ok.kind ok.locs ?_) (fun _ s' hq=>wpAny_pure (wpAny_pure hq)) fun _ _ e=>e)
 refine wpAny_mono (comp_core (elt:=elt) (px:=px) (pos:=pos) hc rm h1 S helt hifs hsrc hcaps ok hne hcl hcl2 q) (fun xv s₁ h=>wpAny_mono h (fun it s₂ h=>wpAny_mono h (fun acc s₃ h=>wpAny_mono h (fun cenv s₄ h=>codeAny_mono h fun r s' zQ=>?_) fun _ _ h=>h) fun _ _ h=>h) fun _ _ h=>h) fun _ _ h=>h
 refine x0_1 zQ fun er zR=>x1_1 zR fun D ed he=>?_
 subst er ed
 obtain⟨mu',pv,st',oC,e,S',⟨m,hn⟩,nf,qv⟩:=he
 obtain⟨g1,g2⟩:=storeIdx_is hc hi
 show wpAny _ A (assign (.Name y yp) F.env (.ref D)) _ _ s'
 refine wpAny_assign_Name (store_var (F:=F.add cenv.locals oC) S' g1 g2 fun s₅ e₅ S₅=>?_)
 refine x3_1 hn fun o es ep ho hr=>?_
 have h5:=S₅.protAt
 have h4:=S'.protAt
 rw[h4]at ho
 obtain rfl:=Option.some.inj ho
 refine⟨m,⟨_,es,ep,h5,hr⟩,fun h' hs=>?_⟩
 exact⟨mu',_,⟨(e.trans e₅).gens,(e.trans e₅).drawn,(e.trans e₅).os⟩,S₅.dropProt S₅.ok.drop nf fun b ob hb e=>(hs.2 b hb).trans e,qv⟩
theorem sndS_used{n:Nat}{v:Expr}{y:Str}{yp spos:Pos}{i:Nat}{elt:Expr}{gens:List Comprehension}{scope:Scope}{pos:Pos}(ev:v=.ListComp elt gens scope pos)(hi:storeIdx c y=some i)
  (hl:(c.names.lookup y==some .local&&yp.line==v.pos.line&& !(scope.names.any fun p=>p.1==y&&(p.2==.local||p.2==.cell)))=true):
  SndS C c (.Assign [.Name y yp] v spos) (.assign (.var i) (cE n c v)):=by
 have hbad:SndS C c (.Assign [.Name y yp] v spos) (.assign (.var i) bad):=fun F hc A d s mu T st Q rm h1 S q=>by
  refine x1_1 q fun i e _=>?_;contradiction
 have hsw:∀F,EnvC C F c→F.env.scope.kind=.function→swapsWith v (some (.Name y yp)) spos.line F.env=pure true:=fun F hc hk=>by
  subst ev
  show(pure (F.env.blockKind==.function&&F.env.kindOf y==some .local&&yp.line==_&& !(scope.names.any _)):Sem Bool)=pure true
  have e1:F.env.kindOf y=c.names.lookup y:=by unfold Env.kindOf;rw[hc.names]
  rw[(blockKind_fn hk).2,e1,Bool.true_and]
  exact congrArg pure hl
 subst ev
 have opb:∀{α:Type}{o:Option α}{f:α→PE},(∀a,o=some a→SndS C c (.Assign [.Name y yp] (.ListComp elt gens scope pos) spos) (.assign (.var i) (f a)))→SndS C c (.Assign [.Name y yp] (.ListComp elt gens scope pos) spos) (.assign (.var i) (opP o Mine.Internal.bad f)):=fun{α o f} h=>by
  cases o with
  |none=>exact hbad
  |some a=>exact h a rfl
 cases n with
 |zero=>exact hbad
 |succ n=>
  refine opb fun q hparts=>opb fun caps hcaps=>?_
  obtain⟨x,iter,ifs⟩:=q
  obtain⟨px,rfl⟩:=compParts_is hparts
  show SndS C c _ (.assign (.var i) (ifP (compOk c scope x&& !isSet iter&& !isEnumPI (cI (cE n c) c iter)) _ _))
  cases h:(compOk c scope x&& !isSet iter&& !isEnumPI (cI (cE n c) c iter))with
  |false=>exact hbad
  |true=>
   simp only[Bool.and_eq_true,Bool.not_eq_true']at h
   exact used_comp (cE_snd n _ _) (fun e _=>cE_snd n _ e) (cI_snd (cE_snd n c)) hcaps (compOk_of h.1.1) h.2 h.1.2 hi hsw
theorem sndS_raise{stm:Stmt}:SndS C c stm .raise:=fun F hc A d s mu T st Q rm h1 S q=>by
 exact q.elim
theorem sndS_expr{e:Expr}{pe:PE}{pos:Pos}(he:Snd C c e pe)(hn:isComp e=false):SndS C c (.Expr e pos) (.expr pe):=fun F hc A d s mu T st Q rm h1 S q=>by
 refine wpAny_Expr_any (thenV (he.E F hc A d s mu T st _ rm h1 S q) fun v s₁ mu₁ p st₁ e₁ S₁ q₁=>?_) (by unfold interactive;rw[S.ok.kind];rfl) (swaps_no hn)
 exact⟨mu₁,st₁,e₁,S₁.tail,q₁⟩
noncomputable def SndL(C:Cx)(c:CC)(ss:List Stmt)(ps:List PS):Prop:=∀(F:Frm),EnvC C F c→∀(A:Around)(d:Nat)(s:Shared)(mu:List (Nat×Nat))(T:List (PV×Value))(st:St)(Q:Out→St→Prop),Room A d→1≤d→Sim C F mu T st s.heap→
 wpSs C d ps Q st→wpAny (model C.prog C.w) A (execs ss F.env) (LiftF C F T Q s) noE s
theorem sndL_of{f:Stmt→PS}:∀{ss:List Stmt},(∀x∈ss,SndS C c x (f x))→SndL C c ss (ss.map f)
 |[],h=>fun F hc A d s mu T st Q rm h1 S q=>by
  exact wpAny_execs_nil ⟨mu,st,Same.refl s,S,q⟩
 |x::ss,h=>fun F hc A d s mu T st Q rm h1 S q=>by
  refine wpAny_execs_cons (wpAny_mono (h x (.head _) F hc A d s mu T st _ rm h1 S q) (fun fl s₁ hf=>?_) fun _ _ h=>h)
  cases fl with
  |next=>
   refine x2_2 hf fun mu₁ st₁ e₁ S₁ q₁=>?_
   exact doneF (sndL_of (fun y hy=>h y (.tail _ hy)) F hc A d s₁ mu₁ T st₁ Q rm h1 S₁ q₁) e₁ (fun _ h=>h)
  |brk=>exact hf
  |cont=>exact hf
  |ret v=>exact hf
theorem sndS_if{t:Expr}{pt:PE}{a b:List Stmt}{pa pb:List PS}{pos:Pos}(ht:Snd C c t pt)(ha:SndL C c a pa)(hb:SndL C c b pb):SndS C c (.If t a b pos) (.ite pt pa pb):=fun F hc A d s mu T st Q rm h1 S q=>by
 refine wpAny_If (thenX (ht.T F hc A d s mu T st _ rm h1 S q) fun z s₁ mu₁ st₁ e₁ S₁ q₁=>?_)
 cases z with
 |true=>exact doneF (ha F hc A d s₁ mu₁ T st₁ Q rm h1 S₁ (q₁.1 rfl)) e₁ (fun _ h=>h)
 |false=>exact doneF (hb F hc A d s₁ mu₁ T st₁ Q rm h1 S₁ (q₁.2 rfl)) e₁ (fun _ h=>h)
theorem sndS_while{t:Expr}{pt:PE}{body:List Stmt}{pb:List PS}{pos:Pos}(ht:Snd C c t pt)(hb:SndL C c body pb):SndS C c (.While t body [] pos) (.while_ pt pb):=fun F hc A d s mu T st Q rm h1 S q=>by
 refine x2_1 q fun I n hI step=>?_
 refine wpAny_While (codeAny_whileLoop (fun m s'=>∃mu' st',Same s s'∧Sim C F mu' T st' s'.heap∧I m st') (fun m s₁ zQ=>?_) n ⟨mu,st,Same.refl s,S,hI⟩)
 refine x2_2 zQ fun mu₁ st₁ e₁ S₁ hI₁=>?_
 refine wpAny_mono (ht.T F hc A d s₁ mu₁ T st₁ _ rm h1 S₁ (step m st₁ hI₁)) (fun z s₂ zQ=>?_) fun _ _ h=>h.elim
 refine x2_2 zQ fun mu₂ st₂ e₂ S₂ q₂=>?_
 cases z with
 |true=>
  simp only[if_true]
  refine wpAny_mono (hb F hc A d s₂ mu₂ T st₂ _ rm h1 S₂ (q₂.1 rfl)) (fun fl s₃ hf=>?_) fun _ _ h=>h.elim
  cases fl with
  |next=>refine x2_2 hf fun mu₃ st₃ e₃ S₃ zR=>x1_1 zR fun k hk hi=>?_;exact⟨k,hk,mu₃,st₃,(e₁.trans e₂).trans e₃,S₃,hi⟩
  |cont=>refine x2_2 hf fun mu₃ st₃ e₃ S₃ zR=>x1_1 zR fun k hk hi=>?_;exact⟨k,hk,mu₃,st₃,(e₁.trans e₂).trans e₃,S₃,hi⟩
  |brk=>refine x2_2 hf fun mu₃ st₃ e₃ S₃ hq=>?_;exact⟨mu₃,st₃,(e₁.trans e₂).trans e₃,S₃,hq⟩
  |ret v=>refine x3_2 hf fun mu₃ pv st₃ e₃ S₃ hq=>?_;exact⟨mu₃,pv,st₃,(e₁.trans e₂).trans e₃,S₃,hq⟩
 |false=>
  simp only[Bool.false_eq_true,if_false]
  exact wpAny_execs_nil ⟨mu₂,st₂,e₁.trans e₂,S₂,q₂.2 rfl⟩
theorem sndS_for{t iter:Expr}{pt:PT}{pi:PI}{body:List Stmt}{pb:List PS}{pos:Pos}(ht:SndA C c t pt)(hi:SndI C c iter pi)(hb:SndL C c body pb)(hset:isSet iter=false)(hen:isEnumPI pi=true→isTupX t=true):
  SndS C c (.For t iter body [] pos) (.for_ pt pi pb):=fun F hc A d s mu T st Q rm h1 S q=>by
 refine wpAny_For (wpAny_mono (hi F hc A d s mu T st _ t rm h1 S hen q) (fun xv s₁ h=>wpAny_mono h (fun it s₂ h=>?_) fun _ _ h=>h) fun _ _ h=>h) (folded_pure hset)
 refine x8_9 h fun mu' T' st' src St' addrs ps h₀ e₂ hsub itr hst S₀ k₀ sz₀ hps hnd zR=>x1_2 zR fun I hI0 hstep hfin=>?_
 obtain⟨S₂,haf⟩:=Started.sim S₀ k₀ hps (itr.addr 0 ps hst) hnd
 have out:∀{ps:List (Nat×Obj)}{mu₃:List (Nat×Nat)}{T₃:List (PV×Value)}{st₃:St}{s₃:Shared},ps.map Prod.fst=addrs→Sim C (F.adds ps) mu₃ T₃ st₃ s₃.heap→Sim C F mu₃ T₃ st₃ s₃.heap:=fun hp S₃=>
  S₃.dropAll (fun a ha=>haf a (hp▸ha)) fun b o _ e=>e
 refine codeAny_forLoop_any (fun m s'=>∃k ps mu₁ st₁,m=src.items.length+1-k∧k≤src.items.length∧St' k ps∧Same s s'∧Sim C (F.adds ps) mu₁ T' st₁ s'.heap∧I k st₁) ?_ (src.items.length+1-0) ⟨0,ps,mu',st',rfl,Nat.zero_le _,hst,e₂,S₂,hI0⟩
 rintro m s₁ ⟨k,ps,mu₁,st₁,rfl,hk,hst₁,e₁,S₁,hi₁⟩
 have hp:=itr.addr k ps hst₁
 cases hx:src.items[k]? with
 |none=>
  have hkl:k=src.items.length:=by
   have:=List.getElem?_eq_none_iff.mp hx
   exact o245 hk this
  subst hkl
  obtain⟨hok,hq⟩:=hfin st₁ hi₁
  refine wpAny_mono (itr.done F ps s₁ mu₁ T' st₁ hst₁ (fun _ h=>h) S₁ hok) (fun r s₂ zQ=>?_) fun _ _ h=>h.elim
  refine x0_2 zQ fun er es ek=>?_
  subst er
  refine wpAny_execs_nil ⟨mu₁,st₁,e₁.trans es,(S₁.dropAll (fun a ha=>haf a (hp▸ha)) fun b o hb e=>ek b o (hp▸hb) e).sub hsub,hq⟩
 |some x=>
  obtain⟨hok,hw⟩:=hstep k x st₁ hx hi₁
  have hkn:=(List.getElem?_eq_some_iff.mp hx).1
  refine wpAny_mono (itr.next F k ps x s₁ mu₁ T' st₁ haf hst₁ hx (fun _ h=>h) S₁ hok) (fun r s₂ zQ=>?_) fun _ _ h=>h.elim
  refine x1_1 zQ fun v er hv=>?_
  subst er
  refine wpAny_mono hv (fun _ s₃ zQ=>?_) fun _ _ h=>h.elim
  refine x1_2 zQ fun ps' hst' es S₃=>?_
  have hp':=itr.addr _ ps' hst'
  have hc₃:=hc.adds ps'
  have ha:=ht (F.adds ps') hc₃ A d s₃ mu₁ T' st₁ _ x v rm h1 S₃ hw
  rw[adds_env]at ha
  refine wpAny_mono ha (fun _ s₄ zQ=>?_) fun _ _ h=>h.elim
  refine x2_2 zQ fun mu₄ st₄ e₄ S₄ q₄=>?_
  have hbb:=hb (F.adds ps') hc₃ A d s₄ mu₄ T' st₄ _ rm h1 S₄ q₄
  rw[adds_env]at hbb
  have es₄:=e₁.trans (es.trans e₄)
  refine wpAny_mono hbb (fun fl s₅ hf=>?_) fun _ _ h=>h.elim
  cases fl with
  |next=>refine x2_2 hf fun mu₅ st₅ e₅ S₅ hi=>?_;exact⟨_,by exact o246 hkn,k+1,ps',mu₅,st₅,rfl,hkn,hst',es₄.trans e₅,S₅,hi⟩
  |cont=>refine x2_2 hf fun mu₅ st₅ e₅ S₅ hi=>?_;exact⟨_,by exact o246 hkn,k+1,ps',mu₅,st₅,rfl,hkn,hst',es₄.trans e₅,S₅,hi⟩
  |brk=>refine x2_2 hf fun mu₅ st₅ e₅ S₅ hq=>?_;exact⟨mu₅,st₅,es₄.trans e₅,(out hp' S₅).sub hsub,hq⟩
  |ret w=>
   refine x3_2 hf fun mu₅ pv st₅ e₅ S₅ hq=>?_
   exact⟨mu₅,pv,st₅,es₄.trans e₅,(out hp' S₅).sub fun p hp=>by
    rcases List.mem_cons.mp hp with rfl|hp
    .exact .head _
    .exact .tail _ (hsub p hp),hq⟩
theorem sndS_ret{e:Expr}{pe:PE}{pos:Pos}(he:Snd C c e pe):SndS C c (.Return (some e) pos) (.ret pe):=fun F hc A d s mu T st Q rm h1 S q=>by
 exact wpAny_Return_some (thenV (he.E F hc A d s mu T st _ rm h1 S q) fun v s₁ mu₁ p st₁ e₁ S₁ q₁=>⟨mu₁,p,st₁,e₁,S₁,q₁⟩)
theorem sndS_ret0{pos:Pos}:SndS C c (.Return none pos) (.ret (.lit .none)):=fun F hc A d s mu T st Q rm h1 S q=>by
 exact wpAny_Return_none ⟨mu,.none,st,Same.refl s,S.add vr_none,q⟩
theorem sndS_brk{pos:Pos}:SndS C c (.Break pos) .brk:=fun F hc A d s mu T st Q rm h1 S q=>by
 exact wpAny_Break ⟨mu,st,Same.refl s,S,q⟩
theorem sndS_cont{pos:Pos}:SndS C c (.Continue pos) .cont:=fun F hc A d s mu T st Q rm h1 S q=>by
 exact wpAny_Continue ⟨mu,st,Same.refl s,S,q⟩
theorem sndS_try{body:List Stmt}{h:ExceptHandler}{hs:List ExceptHandler}{pb:List PS}{pos:Pos}(hb:SndL C c body pb):SndS C c (.Try body (h::hs) [] [] pos) (.try_ pb):=fun F hc A d s mu T st Q rm h1 S q=>by
 refine wpAny_Try_except (wpAny_mono (hb F hc A d s mu T st Q rm h1 S q) (fun fl s₁ hf=>?_) fun _ _ h=>h.elim)
 cases fl with
 |next=>exact wpAny_execs_nil hf
 |brk=>exact hf
 |cont=>exact hf
 |ret v=>exact hf
end
end Mine.Internal
namespace Mine.Internal
open PySem PySem.W PyProof.Rows PySem.Calls
section
variable {C:Cx} {c:CC}
theorem mapM_sndA{f:Expr→Option PT}:∀{ts:List Expr}{pts:List PT},(∀t∈ts,∀pt,f t=some pt→SndA C c t pt)→ts.mapM f=some pts→All2 (SndA C c) ts pts
 |[],pts,_,h=>by simp at h;subst h;exact .nil
 |t::ts,pts,hf,h=>by
  rw[List.mapM_cons]at h
  refine x1_1 (Option.bind_eq_some_iff.mp h) fun i h1 h2=>?_
  refine x1_1 (Option.bind_eq_some_iff.mp h2) fun js h3 h4=>?_
  obtain rfl:=Option.some.inj h4
  exact .cons (hf t (.head _) i h1) (mapM_sndA (fun t' ht=>hf t' (.tail _ ht)) h3)
theorem cT_name{n:Nat}{x:Str}{p:Pos}{pt:PT}(h:cT n c (.Name x p)=some pt):∃i,storeIdx c x=some i∧pt=.var i:=by
 cases n with
 |zero=>contradiction
 |succ n=>
  obtain⟨hs,h⟩:=if_some (z:=c.canStore x) h
  refine x1_1 (Option.map_eq_some_iff.mp h) fun i hi zL=>?_;subst zL
  exact⟨i,by unfold storeIdx;rw[if_pos hs];exact hi,rfl⟩
theorem cT_snd:∀(n:Nat)(c:CC)(t:Expr)(pt:PT),cT n c t=some pt→SndA C c t pt
 |0,c,t,pt,h=>by contradiction
 |n+1,c,t,pt,h=>by
  cases t with
  |Name x p=>
   refine x1_1 (cT_name h) fun i hi zL=>?_;subst zL
   exact assign_name hi
  |Tuple l k p=>
   obtain⟨hl,h⟩:=if_some (z:=l.all plainE&&decide (l.length≤100)) h
   rw[Bool.and_eq_true]at hl
   refine x1_1 (Option.map_eq_some_iff.mp h) fun pts hp zL=>?_;subst zL
   exact assign_tup (mapM_sndA (fun t _ pt e=>cT_snd n c t pt e) hp) hl.1
  |Attribute o x p=>
   refine x1_1 (op_some (o:=idxS x c.fields) h) fun k hk h=>?_
   obtain⟨_,h⟩:=if_some (z:=calm o) h
   obtain rfl:=Option.some.inj h
   exact assign_attr (cE_snd n c o) hk
  |Subscript o i p=>
   obtain⟨hn,h⟩:=if_some (z:=notSlice i) h
   obtain rfl:=Option.some.inj h
   exact assign_sub (cE_snd n c o) (cE_snd n c i) hn
  |_=>contradiction
theorem swaps_attr{v t:Expr}{l:Nat}{env:Env}(h:isAttr t=true):swapsWith v (some t) l env=pure false:=by
 cases t with
 |Attribute o x p=>cases v<;>rfl
 |_=>contradiction
theorem stores_attr{v t:Expr}{env:Env}(h:isAttr t=true):swappedStores [t] v env=pure none:=by
 cases t with
 |Attribute o x p=>rfl
 |_=>contradiction
theorem tupOf_is{t:Expr}{l:List Expr}(h:tupOf t=some l):∃k p,t=.Tuple l k p:=by
 cases t with
 |Tuple l k p=>obtain rfl:=Option.some.inj h;exact⟨_,_,rfl⟩
 |_=>contradiction
theorem scopeOf_is{v:Expr}{s:Scope}(h:scopeOf v=some s):∃e g p,v=.ListComp e g s p:=by
 cases v with
 |ListComp l k=>obtain rfl:=Option.some.inj h;exact⟨_,_,_,rfl⟩
 |_=>contradiction
theorem stores_no{v t:Expr}{env:Env}(h1:tupOf t=none)(h2:∀l p,t≠.List l p):swappedStores [t] v env=pure none:=by
 cases t with
 |Tuple l k p=>contradiction
 |List l p=>exact absurd rfl (h2 l p)
 |_=>rfl
theorem stores_no'{v t:Expr}{env:Env}(h1:tupOf v=none)(h:∃l k p,t=.Tuple l k p):swappedStores [t] v env=pure none:=by
 refine x3_0 h fun l k p zL=>?_;subst zL
 cases v with
 |Tuple l k p=>contradiction
 |_=>rfl
theorem sndS_opP{α:Type}{e:Stmt}{o:Option α}{y:PS}{f:α→PS}(h0:o=none→SndS C c e y)(h:∀a,o=some a→SndS C c e (f a)):SndS C c e (opP o y f):=by
 cases o with
 |none=>exact h0 rfl
 |some a=>exact h a rfl
theorem sndS_ifP{e:Stmt}{b:Bool}{x y:PS}(h:b=true→SndS C c e x)(h0:b=false→SndS C c e y):SndS C c e (ifP b x y):=by
 cases b with
 |true=>exact h rfl
 |false=>exact h0 rfl
theorem cAssign_snd{n:Nat}{t v:Expr}{pos:Pos}{opt:Option PT}(hp:plainE t=true)(ht:∀pt,opt=some pt→SndA C c t pt)(hname:∀y yp,t=.Name y yp→∀pt,opt=some pt→∃i,storeIdx c y=some i∧pt=.var i)(hlist:∀ts p,t=.List ts p→opt=none):
  SndS C c (.Assign [t] v pos) (cAssign (cE n c v) opt c t v):=by
 refine sndS_opP (fun _=>sndS_raise) fun pt hpt=>sndS_ifP (fun _=>sndS_ifP (fun hl=>?_) fun _=>sndS_raise) fun hcomp=>?_
 .have hsa:=ht pt hpt
  unfold cAsC at hl
  cases hn:nameOf t with
  |none=>
   rw[hn]at hl
   exact sndS_assign (cE_snd n c v) hsa hp (fun env=>swaps_attr hl) fun F hc hk=>stores_attr hl
  |some q=>
   obtain⟨y,yp⟩:=q
   obtain rfl:=nameOf_is hn
   rw[hn]at hl
   have hl:opP (scopeOf v) false (usedOk c y yp v)=true:=hl
   cases hs:scopeOf v with
   |none=>rw[hs]at hl;contradiction
   |some scope=>
    rw[hs]at hl
    refine x3_0 (scopeOf_is hs) fun _ _ _ zL=>?_;subst zL
    refine x1_1 (hname y yp rfl pt hpt) fun i hi zL=>?_;subst zL
    exact sndS_used rfl hi hl
 .have hsa:=ht pt hpt
  have hno:∀(ts:List Expr)(p:Pos),t≠.List ts p:=fun ts p e=>by rw[hlist ts p e]at hpt;contradiction
  refine sndS_opP (fun h1=>sndS_assign (cE_snd n c v) hsa hp (fun env=>swaps_no hcomp) fun F hc hk=>stores_no h1 hno) fun ts hts=>?_
  refine x2_0 (tupOf_is hts) fun k p zL=>?_;subst zL
  refine sndS_opP (fun h1=>sndS_assign (cE_snd n c v) hsa hp (fun env=>swaps_no hcomp) fun F hc hk=>stores_no' h1 ⟨_,_,_,rfl⟩) fun vs hvs=>?_
  refine x2_0 (tupOf_is hvs) fun k' p' zL=>?_;subst zL
  refine sndS_opP (fun _=>sndS_raise) fun r hw=>?_
  cases r with
  |none=>exact sndS_assign (cE_snd n c _) hsa hp (fun env=>swaps_no hcomp) fun F hc hk=>swp_is hk hc hw
  |some names=>
   refine sndS_opP (fun _=>sndS_raise) fun is hi=>sndS_ifP (fun hd=>?_) fun _=>sndS_raise
   exact sndS_swapped (cE_snd n c _) hw hi (of_decide_eq_true hd)
theorem cS_snd:∀(n:Nat)(c:CC)(stm:Stmt),SndS C c stm (cS n c stm)
 |0,c,stm=>sndS_raise
 |n+1,c,stm=>by
  have ih:∀ss:List Stmt,SndL C c ss (ss.map (cS n c)):=fun ss=>sndL_of fun x _=>cS_snd n c x
  cases stm with
  |Assign ts v p=>
   match ts with
   |[]=>exact sndS_raise
   |_::_::_=>exact sndS_raise
   |[t]=>
    refine sndS_ifP (fun hp=>cAssign_snd hp (fun pt e=>cT_snd n c t pt e) (fun y yp e pt h=>?_) ?_) fun _=>sndS_raise
    .subst e
     exact cT_name h
    .intro ts p e
     subst e
     cases n<;>rfl
  |Expr e p=>exact sndS_ifP (fun _=>sndS_raise) fun hn=>sndS_expr (cE_snd n c e) hn
  |If t a b p=>exact sndS_if (cE_snd n c _) (ih _) (ih _)
  |For t iter body els p=>
   match els with
   |_::_=>exact sndS_raise
   |[]=>
    refine sndS_opP (fun _=>sndS_raise) fun pt hpt=>sndS_ifP (fun hh=>?_) fun _=>sndS_raise
    rw[Bool.and_eq_true,Bool.not_eq_true']at hh
    refine sndS_for (cT_snd n c t pt hpt) (cI_snd (cE_snd n c)) (ih _) hh.1 fun he=>?_
    have:=hh.2
    rw[he]at this
    simpa using this
  |While t body els p=>
   match els with
   |_::_=>exact sndS_raise
   |[]=>exact sndS_while (cE_snd n c _) (ih _)
  |Return e p=>
   match e with
   |some e=>exact sndS_ret (cE_snd n c _)
   |none=>exact sndS_ret0
  |Break p=>exact sndS_brk
  |Continue p=>exact sndS_cont
  |Try body hs els fin p=>
   match hs,els,fin with
   |_::_,[],[]=>exact sndS_try (ih _)
   |[],_,_=>exact sndS_raise
   |_::_,_::_,_=>exact sndS_raise
   |_::_,[],_::_=>exact sndS_raise
  |_=>exact sndS_raise
theorem body_snd(n:Nat)(ss:List Stmt):SndL C c ss (ss.map (cS n c)):=sndL_of fun x _=>cS_snd n c x
end
end Mine.Internal
namespace Mine.Internal
open PySem PySem.W PyProof.Rows PySem.Calls
mutual
inductive Frz(r:Nat→Option Nat)(sto:Sto):PV→PV→Prop
 |none:Frz r sto .none .none
 |bool (b:Bool):Frz r sto (.bool b) (.bool b)
 |int (i:Int):Frz r sto (.int i) (.int i)
 |str (x:Str):Frz r sto (.str x) (.str x)
 |fn (n:Nat):Frz r sto (.fn n) (.fn n)
 |tup {l l':List PV}:Frzs r sto l l'→Frz r sto (.tup l) (.tup l')
 |list {l l':List PV}:Frzs r sto l l'→Frz r sto (.list l) (.list l')
 |dict {ks:List Int} {l l':List PV}:Frzs r sto l l'→Frz r sto (.dict ks l) (.dict ks l')
 |inst {l l':List PV}:Frzs r sto l l'→Frz r sto (.inst l) (.inst l')
 |keep {i j:Nat}:r i=some j→Frz r sto (.ref i) (.ref j)
 |rlist {i:Nat} {l l':List PV}:r i=Option.none→sto[i]? =some (.list l)→Frzs r sto l l'→Frz r sto (.ref i) (.list l')
 |rdict {i:Nat} {m:List (Int×PV)} {l':List PV}:r i=Option.none→sto[i]? =some (.dict m)→Frzs r sto (m.map Prod.snd) l'→Frz r sto (.ref i) (.dict (m.map Prod.fst) l')
 |rinst {i:Nat} {l l':List PV}:r i=Option.none→sto[i]? =some (.inst l)→Frzs r sto l l'→Frz r sto (.ref i) (.inst l')
inductive Frzs(r:Nat→Option Nat)(sto:Sto):List PV→List PV→Prop
 |nil:Frzs r sto [] []
 |cons {p p':PV} {l l':List PV}:Frz r sto p p'→Frzs r sto l l'→Frzs r sto (p::l) (p'::l')
end
inductive FrzO(r:Nat→Option Nat)(sto:Sto):SObj→SObj→Prop
 |list {l l':List PV}:Frzs r sto l l'→FrzO r sto (.list l) (.list l')
 |inst {l l':List PV}:Frzs r sto l l'→FrzO r sto (.inst l) (.inst l')
 |dict {m:List (Int×PV)} {l':List PV}:Frzs r sto (m.map Prod.snd) l'→FrzO r sto (.dict m) (.dict ((m.map Prod.fst).zip l'))
 |tdict {m:List ((Str×Int)×PV)} {l':List PV}:Frzs r sto (m.map Prod.snd) l'→FrzO r sto (.tdict m) (.tdict ((m.map Prod.fst).zip l'))
section
variable {C:Cx} {X' X'':Nat→Prop} {h:Heap} {mu' mu'':List (Nat×Nat)} {r:Nat→Option Nat} {sto:Sto}
structure FrzOk(C:Cx)(X' X'':Nat→Prop)(h:Heap)(mu' mu'':List (Nat×Nat))(r:Nat→Option Nat)(sto:Sto):Prop where
 kept:∀i j p,r i=some j→mu'[i]? =some p→mu''[j]? =some p
 off:∀i p,r i=none→mu'[i]? =some p→¬X'' p.1∧¬X'' p.2
 less:∀a,X'' a→X' a
 len:sto.length=mu'.length
 objs:∀(i:Nat)o p,sto[i]? =some o→mu'[i]? =some p→ObjRel C X' h mu' p o
theorem Frz.both{P:PV→PV→Prop}{R:List PV→List PV→Prop}(a1:P .none .none)(a2:∀b,P (.bool b) (.bool b))(a3:∀b,P (.int b) (.int b))(a4:∀b,P (.str b) (.str b))(a5:∀b,P (.fn b) (.fn b))
  (a6:∀{l l'},R l l'→P (.tup l) (.tup l')) (a7:∀{l l'},R l l'→P (.list l) (.list l')) (a8:∀{ks l l'},R l l'→P (.dict ks l) (.dict ks l')) (a9:∀{l l'},R l l'→P (.inst l) (.inst l'))
  (b1:∀{i j},r i=some j→P (.ref i) (.ref j)) (b2:∀{i l l'},r i=Option.none→sto[i]? =some (.list l)→R l l'→P (.ref i) (.list l')) (b3:∀{i m l'},r i=Option.none→sto[i]? =some (.dict m)→R (m.map Prod.snd) l'→P (.ref i) (.dict (m.map Prod.fst) l'))
  (b4:∀{i l l'},r i=Option.none→sto[i]? =some (.inst l)→R l l'→P (.ref i) (.inst l')) (c1:R [] []) (c2:∀{p p' l l'},P p p'→R l l'→R (p::l) (p'::l')):(∀{p p'},Frz r sto p p'→P p p')∧∀{l l'},Frzs r sto l l'→R l l':=
 ⟨fun f=>Frz.rec (motive_1:=fun p p' _=>P p p') (motive_2:=fun p p' _=>R p p') a1 a2 a3 a4 a5 (fun _=>a6) (fun _=>a7) (fun _=>a8) (fun _=>a9) b1 (fun h k _=>b2 h k) (fun h k _=>b3 h k) (fun h k _=>b4 h k) c1 (fun _ _=>c2) f,
  fun f=>Frzs.rec (motive_1:=fun p p' _=>P p p') (motive_2:=fun p p' _=>R p p') a1 a2 a3 a4 a5 (fun _=>a6) (fun _=>a7) (fun _=>a8) (fun _=>a9) b1 (fun h k _=>b2 h k) (fun h k _=>b3 h k) (fun h k _=>b4 h k) c1 (fun _ _=>c2) f⟩
theorem Frzs.length{l l':List PV}(f:Frzs r sto l l'):l'.length=l.length:=
 (Frz.both (P:=fun _ _=>True) (R:=fun l l'=>l'.length=l.length) trivial (fun _=>trivial) (fun _=>trivial) (fun _=>trivial) (fun _=>trivial) (fun _=>trivial) (fun _=>trivial) (fun _=>trivial) (fun _=>trivial) (fun _=>trivial) (fun _ _ _=>trivial) (fun _ _ _=>trivial) (fun _ _ _=>trivial) rfl fun _ h=>congrArg (· +1) h).2 f
theorem freeze_all(K:FrzOk C X' X'' h mu' mu'' r sto):(∀{p p'},Frz r sto p p'→∀v,VRel C X' h mu' p v→VRel C X'' h mu'' p' v)∧∀{l l'},Frzs r sto l l'→∀vs,VRels C X' h mu' l vs→VRels C X'' h mu'' l' vs:=by
 refine Frz.both (fun v x=>x) (fun _ v x=>x) (fun _ v x=>x) (fun _ v x=>x) (fun _ v x=>x) ?_ ?_ ?_ ?_ ?_ ?_ ?_ ?_ ?_ ?_
 .intro l l' hl v x
  exact x2_1 x fun a vs e zR=>x0_3 zR fun nx h1 h2 h3=>⟨a,vs,e,fun z=>nx (K.less a z),h1,h2,hl vs h3⟩
 .intro l l' hl v x
  exact x3_1 x fun a vs n e zR=>x0_3 zR fun nx h1 h2 h3=>⟨a,vs,n,e,fun z=>nx (K.less a z),h1,h2,hl vs h3⟩
 .intro ks l l' hl v x
  exact x2_1 x fun a vs e zR=>x0_3 zR fun nx h1 h2 h3=>⟨a,vs,e,fun z=>nx (K.less a z),h1,hl vs h2,h3⟩
 .intro l l' hl v x
  exact x3_1 x fun a dx vs e zR=>x0_3 zR fun nx ny h1 h2=>⟨a,dx,vs,e,fun z=>nx (K.less a z),fun z=>ny (K.less dx z),h1,hl vs h2⟩
 .intro i j hr v x
  exact x1_1 x fun p hp e=>⟨p,K.kept _ _ p hr hp,e⟩
 .intro i l l' hr hs hl v x
  exact x1_1 x fun p hp e=>x0_1 (K.objs _ _ p hs hp) fun h0 zR=>x2_2 zR fun vs n h1 h2 h3=>⟨p.1,vs,n,e,(K.off _ p hr hp).1,h1,h2,hl vs h3⟩
 .intro i m l' hr hs hl v x
  exact x1_1 x fun p hp e=>x0_2 (K.objs _ _ p hs hp) fun h0 h1 zR=>x1_1 zR fun vs h2 h3=>⟨p.1,vs,e,(K.off _ p hr hp).1,h1,hl vs h2,dictOf_map h3⟩
 .intro i l l' hr hs hl v x
  exact x1_1 x fun p hp e=>x1_1 (K.objs _ _ p hs hp) fun vs h1 h2=>⟨p.1,p.2,vs,e,(K.off _ p hr hp).1,(K.off _ p hr hp).2,h1,hl vs h2⟩
 .exact fun vs x=>x
 .intro p p' l l' hp hl vs x
  exact x2_1 x fun v rr e zR=>x0_1 zR fun h1 h2=>⟨v,rr,e,hp v h1,hl rr h2⟩
theorem VRel.freeze(K:FrzOk C X' X'' h mu' mu'' r sto){p p':PV}{v:Value}(f:Frz r sto p p'):VRel C X' h mu' p v→VRel C X'' h mu'' p' v:=(freeze_all K).1 f v
theorem VRels.freeze(K:FrzOk C X' X'' h mu' mu'' r sto){l l':List PV}{vs:List Value}(f:Frzs r sto l l'):VRels C X' h mu' l vs→VRels C X'' h mu'' l' vs:=(freeze_all K).2 f vs
theorem TRows.freeze(K:FrzOk C X' X'' h mu' mu'' r sto):∀{m:List ((Str×Int)×PV)}{l':List PV}{xs},Frzs r sto (m.map Prod.snd) l'→TRows C X' h mu' m xs→TRows C X'' h mu'' ((m.map Prod.fst).zip l') xs
 |[],l',xs,hf,x=>by
  cases hf
  exact x
 |((s,i),p)::m,l',xs,hf,x=>by
  cases hf with
  |cons hp hl=>
   refine x3_1 x fun a v r' zE zR=>?_;subst zE;refine x0_2 zR fun h1 h2 h3=>?_
   show TRows C X'' h mu'' (((s,i),_)::_) _
   exact⟨a,v,r',rfl,fun z=>h1 (K.less a z),VRel.freeze K hp h2,TRows.freeze K hl h3⟩
theorem ObjRel.freeze(K:FrzOk C X' X'' h mu' mu'' r sto){p:Nat×Nat}{o o':SObj}(hf:FrzO r sto o o')(x:ObjRel C X' h mu' p o):ObjRel C X'' h mu'' p o':=by
 cases hf with
 |list hl=>refine x0_1 x fun h0 zR=>x2_2 zR fun vs n h1 h2 h3=>?_;exact⟨h0,vs,n,h1,h2,h3.freeze K hl⟩
 |inst hl=>refine x1_1 x fun vs h1 h2=>?_;exact⟨vs,h1,h2.freeze K hl⟩
 | @dict m l' hl=>
  refine x0_2 x fun h0 h1 zR=>x1_1 zR fun vs h2 h3=>?_
  have e1:((m.map Prod.fst).zip l').map Prod.fst=m.map Prod.fst:=by
   rw[←List.unzip_fst,List.unzip_zip (by rw[hl.length];simp)]
  have e2:((m.map Prod.fst).zip l').map Prod.snd=l':=by
   rw[←List.unzip_snd,List.unzip_zip (by rw[hl.length];simp)]
  refine⟨h0,h1,vs,?_,?_⟩
  .rw[e2];exact h2.freeze K hl
  .rw[e1];exact h3
 |tdict hl=>refine x0_2 x fun h0 h1 zR=>x1_1 zR fun xs h2 h3=>?_;exact⟨h0,h1,xs,h2.freeze K hl,h3⟩
end
noncomputable def ren(n0:Nat)(kept:List Nat)(i:Nat):Option Nat:=if i<n0 then some i else(kept.idxOf? i).map (n0+ ·)
noncomputable def RetOK(n0:Nat)(sto':Sto)(pv:PV)(Q:PV→Sto→Prop):Prop:=
 ∃kept:List Nat,kept.Nodup∧(∀i∈kept,n0≤i∧i<sto'.length)∧∃pv' sto'',Frz (ren n0 kept) sto' pv pv'∧sto''.length=n0+kept.length∧
  (∀j o,j<n0→sto'[j]? =some o→∃o',sto''[j]? =some o'∧FrzO (ren n0 kept) sto' o o')∧
  (∀(j i:Nat)o,kept[j]? =some i→sto'[i]? =some o→∃o',sto''[n0+j]? =some o'∧FrzO (ren n0 kept) sto' o o')∧Q pv' sto''
section
variable {C:Cx} {F:Frm} {mu:List (Nat×Nat)} {T:List (PV×Value)} {st:St} {h h':Heap} {env:Env} {slots:List Str} {own:Nat→Prop} {wr:Bool}
theorem Sim.exitRet{T':List (PV×Value)}{mu':List (Nat×Nat)}{st':St}{pv:PV}{v:Value}{Q:PV→Sto→Prop}(S:Sim C F mu T st h)
  (Si:Sim C (inner F h mu [] env slots own wr) mu' ((pv,v)::T') st' h') (hnew:∀a:Nat,own a→h.objs.size≤a) (ret:RetOK st.sto.length st'.sto pv Q):
  ∃mu'' pv' sto'',Sim C F mu'' ((pv',v)::T) ⟨st.rho,sto''⟩ h'∧Q pv' sto'':=by
 refine x1_2 ret fun kept hnd hk zR=>x2_4 zR fun pv' sto'' hpv hlen hold hkept q=>?_
 obtain⟨nu0,hmu⟩:=Si.pre
 have hmu':mu'=mu++nu0:=hmu
 have n0:st.sto.length=mu.length:=S.len
 have n1:st'.sto.length=mu'.length:=Si.len
 have hget:∀i∈kept,∃p,mu'[i]? =some p:=fun i hi=>by
  have:=(hk i hi).2
  rw[n1]at this
  exact⟨mu'[i],List.getElem?_eq_getElem this⟩
 obtain⟨nu,hnu⟩:∃nu:List (Nat×Nat),nu=kept.filterMap fun i=>mu'[i]? :=⟨_,rfl⟩
 have hnul:∀(ks:List Nat),(∀i∈ks,∃p,mu'[i]? =some p)→(ks.filterMap fun i=>mu'[i]?).length=ks.length∧∀(j i:Nat),ks[j]? =some i→(ks.filterMap fun i=>mu'[i]?)[j]? =mu'[i]? :=by
  intro ks
  induction ks with
  |nil=>intro _;simp
  |cons k ks ih=>
   intro hks
   obtain⟨p,hp⟩:=hks k (.head _)
   obtain⟨i1,i2⟩:=ih fun i hi=>hks i (.tail _ hi)
   rw[List.filterMap_cons_some hp]
   refine⟨congrArg _ i1,fun j i e=>?_⟩
   cases j with
   |zero=>simp at e;subst e;simp[hp]
   |succ j=>simp at e ⊢;exact i2 j i e
 obtain⟨nul,nuget⟩:=hnul kept hget
 rw[←hnu]at nul nuget
 have mu''old:∀(i:Nat),i<mu.length→(mu++nu)[i]? =mu[i]? :=fun i hi=>List.getElem?_append_left hi
 have mu'old:∀(i:Nat),i<mu.length→mu'[i]? =mu[i]? :=fun i hi=>by rw[hmu'];exact List.getElem?_append_left hi
 have from_:∀(j:Nat)p,(mu++nu)[j]? =some p→∃i,mu'[i]? =some p∧ren st.sto.length kept i=some j:=fun j p e=>by
  by_cases hj:j<mu.length
  .refine⟨j,by rw[mu'old j hj, ←mu''old j hj];exact e,?_⟩
   unfold ren
   rw[if_pos (by exact Nat.le_trans hj (Nat.le_of_eq n0.symm))]
  .rw[List.getElem?_append_right (by exact Nat.not_lt.mp hj)]at e
   have hjl:j-mu.length<nu.length:=(List.getElem?_eq_some_iff.mp e).1
   obtain⟨i,hi⟩:∃i,kept[j-mu.length]? =some i:=⟨kept[j-mu.length]'(by exact Nat.le_trans hjl (Nat.le_of_eq nul)),List.getElem?_eq_getElem (by exact o247 nul hjl)⟩
   refine⟨i,(nuget _ _ hi)▸e,?_⟩
   have him:=List.mem_of_getElem? hi
   unfold ren
   rw[if_neg (by have:=(hk i him).1;exact Nat.not_lt.mpr this)]
   have:kept.idxOf? i=some (j-mu.length):=by
    obtain⟨hlt,he⟩:=List.getElem?_eq_some_iff.mp hi
    rw[←he]
    exact idxOf_get hnd hlt
   rw[this]
   simp only[Option.map_some,Option.some.injEq]
   exact o40 n0 hj
 have inj:∀i i' j,ren st.sto.length kept i=some j→ren st.sto.length kept i'=some j→i=i':=fun i i' j e e'=>by
  unfold ren at e e'
  split at e
  .obtain rfl:=Option.some.inj e
   split at e'
   .obtain rfl:=Option.some.inj e';rfl
   .refine x1_1 (Option.map_eq_some_iff.mp e') fun k hk1 hk2=>?_
    exact o41 n0 (by assumption) hk2
  .refine x1_1 (Option.map_eq_some_iff.mp e) fun k hk1 hk2=>?_
   split at e'
   .obtain rfl:=Option.some.inj e';exact o42 n0 (by assumption) hk2
   .refine x1_1 (Option.map_eq_some_iff.mp e') fun k' hk1' hk2'=>?_
    have:k=k':=by exact o43 n0 hk2 hk2'
    subst this
    have a1:=idxOf_at hk1
    have a2:=idxOf_at hk1'
    rw[a1]at a2
    obtain rfl:=Option.some.inj a2
    rfl
 have fxsub:∀a,F.fx a→(inner F h mu [] env slots own wr).fx a:=fun a z=>.inl z
 have allin:∀p∈mu++nu,p∈mu':=fun p hp=>by
  rcases List.mem_append.mp hp with hp|hp
  .rw[hmu'];exact List.mem_append_left _ hp
  .rw[hnu]at hp
   refine x1_1 (List.mem_filterMap.mp hp) fun i _ hi=>?_
   exact List.mem_of_getElem? hi
 have K:FrzOk C (XS (inner F h mu [] env slots own wr).fx mu') (XS F.fx (mu++nu)) h' mu' (mu++nu) (ren st.sto.length kept) st'.sto:={
  kept:=fun i j p e ep=>by
   unfold ren at e
   split at e
   .rename_i hi
    obtain rfl:=Option.some.inj e
    rw[mu''old i (by exact Nat.le_trans hi (Nat.le_of_eq n0)), ←mu'old i (by exact o248 n0 hi)]
    exact ep
   .refine x1_1 (Option.map_eq_some_iff.mp e) fun k hk1 zL=>?_;subst zL
    rw[List.getElem?_append_right (by exact o44 n0),n0,Nat.add_sub_cancel_left,nuget _ _ (idxOf_at hk1)]
    exact ep
  off:=fun i p e ep=>by
   have offp:=Si.muoff p (List.mem_of_getElem? ep)
   have key:∀a,(a=p.1∨a=p.2)→¬XS F.fx (mu++nu) a:=fun a ha z=>by
    rcases z with z|⟨q,hq,z⟩
    .rcases ha with rfl|rfl
     .exact offp.1 (fxsub _ z)
     .exact offp.2.1 (fxsub _ z)
    .obtain⟨j,hj⟩:=List.getElem?_of_mem hq
     refine x1_1 (from_ j q hj) fun i' hi' hr=>?_
     have:i=i':=Si.mu1 i i' p q ep hi' (by rcases ha with rfl|rfl<;>rcases z with z|z<;>simp[z])
     subst this
     rw[e]at hr
     exact nN hr
   exact⟨key _ (.inl rfl),key _ (.inr rfl)⟩
  less:=fun a z=>by
   rcases z with z|⟨p,hp,z⟩
   .exact .inl (fxsub a z)
   .exact .inr ⟨p,allin p hp,z⟩
  len:=n1
  objs:=Si.objs}
 refine⟨mu++nu,pv',sto'',?_,q⟩
 refine Sim.exit (ps:=[]) (ps':=[]) (T'':=[(pv',v)]) S rfl Si hnew (fun _ _ _ e=>e) (fun p hp=>allin p (List.mem_append_right _ hp)) (fun i j p q e1 e2 e=>?_) (by rw[List.length_append,nul,hlen];exact o45 n0) (fun i o p e1 e2=>?_) (fun p hp=>?_)
 .refine x1_1 (from_ i p e1) fun i' a1 a2=>?_
  refine x1_1 (from_ j q e2) fun j' b1 b2=>?_
  have:=Si.mu1 i' j' p q a1 b1 e
  subst this
  rw[a2]at b2
  obtain rfl:=Option.some.inj b2
  rfl
 .by_cases hi:i<mu.length
  .obtain⟨o0,ho0⟩:∃o0,st'.sto[i]? =some o0:=by
    refine⟨st'.sto[i]'(by rw[n1,hmu',List.length_append];exact Nat.le_trans hi (Nat.le_add_right _ _)),List.getElem?_eq_getElem _⟩
   refine x1_1 (hold i o0 (by exact Nat.le_trans hi (Nat.le_of_eq n0.symm)) ho0) fun o' g1 g2=>?_
   rw[g1]at e1
   obtain rfl:=Option.some.inj e1
   rw[mu''old i hi, ←mu'old i hi]at e2
   exact(Si.objs i o0 p ho0 e2).freeze K g2
  .rw[List.getElem?_append_right (by exact Nat.not_lt.mp hi)]at e2
   have hjl:i-mu.length<nu.length:=(List.getElem?_eq_some_iff.mp e2).1
   obtain⟨k,hki⟩:∃k,kept[i-mu.length]? =some k:=⟨kept[i-mu.length]'(by exact Nat.le_trans hjl (Nat.le_of_eq nul)),List.getElem?_eq_getElem (by exact o247 nul hjl)⟩
   have hkm:=hk k (List.mem_of_getElem? hki)
   obtain⟨o0,ho0⟩:∃o0,st'.sto[k]? =some o0:=⟨st'.sto[k]'hkm.2,List.getElem?_eq_getElem _⟩
   refine x1_1 (hkept _ k o0 hki ho0) fun o' g1 g2=>?_
   rw[n0,Nat.add_sub_cancel' (by exact Nat.not_lt.mp hi)]at g1
   rw[g1]at e1
   obtain rfl:=Option.some.inj e1
   rw[nuget _ _ hki]at e2
   exact(Si.objs k o0 p ho0 e2).freeze K g2
 .rw[List.mem_singleton]at hp;subst hp
  exact VRel.freeze K hpv Si.hd
where
 idxOf_get {l:List Nat} (hn:l.Nodup) {j:Nat} (h:j<l.length):l.idxOf? l[j]=some j:=by
  induction l generalizing j with
  |nil=>simp at h
  |cons a l ih=>
   rw[List.nodup_cons]at hn
   cases j with
   |zero=>simp[List.idxOf?_cons]
   |succ j=>
    have hj:j<l.length:=Nat.le_of_succ_le_succ h
    have hne:¬a=l[j]:=fun z=>hn.1 (z▸List.getElem_mem hj)
    simp only[List.getElem_cons_succ,List.idxOf?_cons,beq_iff_eq,hne,if_false,ih hn.2 hj,Option.map_some]
 idxOf_at {l:List Nat} {i j:Nat} (h:l.idxOf? i=some j):l[j]? =some i:=by
  induction l generalizing j with
  |nil=>exact nN h
  |cons a l ih=>
   rw[List.idxOf?_cons]at h
   split at h
   .rename_i e
    rw[beq_iff_eq]at e
    obtain rfl:=Option.some.inj h
    simp[e]
   .refine x1_1 (Option.map_eq_some_iff.mp h) fun k hk zL=>?_;subst zL
    simpa using ih hk
end
end Mine.Internal
namespace Mine.Internal
open PySem PySem.W PyProof.Rows PySem.Calls
noncomputable def slotsOf(names:List (Str×NameKind)):List Str:=(names.filter fun p=>p.2==.local||p.2==.cell).map Prod.fst
structure FnOk(C:Cx)(f:Nat)(params:List Str)(names:List (Str×NameKind))(body:List Stmt):Prop where
 fn:∃o fd,C.K.lookup (C.fa f)=some o∧o.data=.func fd∧codeIn C.K fd.code fd.qualname=true∧fd.body=.stmts body∧fd.scope.names=names∧fd.closure=[]∧fd.globals=mainGlobals∧fd.builtins=builtinsNs∧
  (∀vals:List Value,vals.length=params.length→bindArgs fd ⟨vals,[]⟩=pure (params.zip vals))∧fd.scope.isCoroutine=false∧fd.scope.isGenerator=false∧fd.scope.kind=.function
 nofree:∀p∈names,p.2≠.free
 nodup:(slotsOf names).Nodup
 pars:params=(slotsOf names).take params.length
 kinds:∀n∈params,names.lookup n=some .local∨names.lookup n=some .cell
theorem cells_all:∀{names:List (Str×NameKind)}{k:Nat}{acc:List (Str×Addr)}{n:Str},(names.lookup n=some .cell∨(acc.lookup n).isSome=true)→((cellsFrom k names acc).lookup n).isSome=true
 |[],k,acc,n,h=>by
  rcases h with h|h
  .exact nN h
  .exact h
 |(m,kd)::r,k,acc,n,h=>by
  unfold cellsFrom
  split
  .rename_i hk
   refine cells_all ?_
   rcases h with h|h
   .rw[List.lookup_cons]at h
    split at h
    .rename_i e
     right
     rw[List.lookup_cons,e]
     rfl
    .exact .inl h
   .right
    rw[List.lookup_cons]
    split
    .rfl
    .exact h
  .rename_i hk
   refine cells_all ?_
   rcases h with h|h
   .rw[List.lookup_cons]at h
    split at h
    .obtain rfl:=Option.some.inj h;exact absurd rfl hk
    .exact .inl h
   .exact .inr h
theorem bindL_miss{ko:Str→Option NameKind}{n:Str}:∀{bs:List (Str×Value)}{m:Str→Option Value},n∉bs.map Prod.fst→bindL ko bs m n=m n
 |[],m,h=>rfl
 |(x,v)::r,m,h=>by
  simp only[List.map_cons,List.mem_cons,not_or]at h
  unfold bindL
  rw[bindL_miss h.2]
  split
  .simp[h.1]
  .rfl
theorem bindC_miss{ko:Str→Option NameKind}{n:Str}:∀{bs:List (Str×Value)}{m:Str→Option Value},n∉bs.map Prod.fst→bindC ko bs m n=m n
 |[],m,h=>rfl
 |(x,v)::r,m,h=>by
  simp only[List.map_cons,List.mem_cons,not_or]at h
  unfold bindC
  rw[bindC_miss h.2]
  split
  .rfl
  .simp[h.1]
theorem zip_fst{ns:List Str}{vs:List Value}{n:Str}(h:n∈(ns.zip vs).map Prod.fst):n∈ns:=by
 refine x1_1 (List.mem_map.mp h) fun p hp zL=>?_;subst zL
 exact(List.of_mem_zip hp).1
theorem bindL_at{ko:Str→Option NameKind}:∀{ns:List Str}{vs:List Value}{m:Str→Option Value}{i:Nat}{n:Str}{v:Value},ns.Nodup→ns[i]? =some n→vs[i]? =some v→ko n=some .local→bindL ko (ns.zip vs) m n=some v
 |[],_,_,_,_,_,_,h,_,_=>by exact nN h
 |_::_,[],_,_,_,_,_,_,h,_=>by exact nN h
 |x::ns,w::vs,m,i,n,v,hn,h1,h2,hk=>by
  rw[List.nodup_cons]at hn
  rw[List.zip_cons_cons]
  unfold bindL
  cases i with
  |zero=>
   simp at h1 h2
   subst h1 h2
   rw[bindL_miss fun z=>hn.1 (zip_fst z),if_pos hk]
   simp
  |succ i=>exact bindL_at hn.2 (by simpa using h1) (by simpa using h2) hk
theorem bindC_at{ko:Str→Option NameKind}:∀{ns:List Str}{vs:List Value}{m:Str→Option Value}{i:Nat}{n:Str}{v:Value},ns.Nodup→ns[i]? =some n→vs[i]? =some v→ko n≠some .local→bindC ko (ns.zip vs) m n=some v
 |[],_,_,_,_,_,_,h,_,_=>by exact nN h
 |_::_,[],_,_,_,_,_,_,h,_=>by exact nN h
 |x::ns,w::vs,m,i,n,v,hn,h1,h2,hk=>by
  rw[List.nodup_cons]at hn
  rw[List.zip_cons_cons]
  unfold bindC
  cases i with
  |zero=>
   simp at h1 h2
   subst h1 h2
   rw[bindC_miss fun z=>hn.1 (zip_fst z),if_neg hk]
   simp
  |succ i=>exact bindC_at hn.2 (by simpa using h1) (by simpa using h2) hk
noncomputable def retQ(n0:Nat)(Q:PV→Sto→Prop)(o:Out)(st:St):Prop:=match o with
 | .ret v=>RetOK n0 st.sto v Q
 | .next=>RetOK n0 st.sto .none Q
 |_=>False
noncomputable def rho0(args:List PV)(slots:List Str):List (Option PV):=args.map some++List.replicate (slots.length-args.length) none
theorem call_ok{C:Cx}{glob:List (Str×GV)}{f n d:Nat}{params:List Str}{names:List (Str×NameKind)}{body:List Stmt}{args:List PV}{sto:Sto}{Q:PV→Sto→Prop}(cx:CxOk C glob)(ok:FnOk C f params names body)(hargs:args.length=params.length)(h1:1≤d)
  (h:wpSs C d (body.map (cS n ⟨names,slotsOf names,glob,C.fields,true⟩)) (retQ sto.length Q) ⟨rho0 args (slotsOf names),sto⟩):CallOK C (d+1) f args sto Q:=by
 intro F A s mu T rho vals rm S hv
 refine x2_11 ok.fn fun o fd e1 e2 e3 e4 e5 e6 e7 e8 e9 e10 e11 e12=>?_
 have L:=hv.length
 have rm':Room (A.deeper (callEnvC fd s.heap.objs.size (C.fa f))) d:=⟨rm.handled,rm.guards,by have:=rm.depth;show A.depth+1+4*d≤900;exact o46 this,by have:=rm.units;show A.units+3+20*d≤9000;exact o249 this⟩
 have hpn:params.Nodup:=by
  rw[ok.pars]
  exact ok.nodup.sublist (List.take_sublist _ _)
 refine codeAny_call_cells (by have:=rm.depth;exact o47 h1 this) (S.kin _ _ e1) e2 S.lim (codeRec_of S.kin e3) e4 (e9 vals (by exact o250 hargs L)) e6 (fun x hx=>?_) (fun s₁ X=>?_) e10 e11 e12
 .have hm:x.1∈params:=(List.of_mem_zip hx).1
  rw[e5]
  rcases ok.kinds _ hm with k|k
  .exact .inl k
  .exact .inr ⟨k,cells_all (.inl k)⟩
 .have hE:Entry C F s.heap (callEnvC fd s.heap.objs.size (C.fa f)) (slotsOf names) (fun a=>a=s.heap.objs.size∨∃n,(cellsFrom (s.heap.objs.size+1) fd.scope.names []).lookup n=some a) true s₁.heap:={
   grow:=X.toInCall.keep
   kind:=e12
   glob:=e7
   bltn:=e8
   new:=fun a q=>by
    rcases q with rfl|⟨n,q⟩
    .refine x3_1 X.toInCall.ns fun o es ep ho _=>?_
     exact⟨Nat.le_refl _,o,ho⟩
    .refine x1_1 (X.cell n a q) fun o ho _=>?_
     exact⟨Nat.le_of_lt (X.above n a (mem_of_lookup q)),o,ho⟩
   loc:=.inl rfl
   ns:=⟨_,X.toInCall.ns⟩
   cell:=fun n c q=>⟨.inl (.inr ⟨n,q⟩),Nat.ne_of_gt (X.above n c (mem_of_lookup q)),_,X.cell n c q⟩
   cellall:=fun n q=>by
    have q':names.lookup n=some .cell∨names.lookup n=some .free:=by rw[←e5];exact q
    rcases q' with q|q
    .show((cellsFrom (s.heap.objs.size+1) fd.scope.names []).lookup n).isSome=true
     rw[e5]
     exact cells_all (.inl q)
    .exact absurd rfl (ok.nofree _ (mem_lookup q))
   cell1:=fun n n' c q q'=>name_of_addr X.apart (mem_of_lookup q) (mem_of_lookup q')
   cellnew:=fun _ n c _ q=>.inr ⟨n,q⟩
   slots1:=ok.nodup}
  have Si:Sim C (inner F s.heap mu [] (callEnvC fd s.heap.objs.size (C.fa f)) (slotsOf names) (fun a=>a=s.heap.objs.size∨∃n,(cellsFrom (s.heap.objs.size+1) fd.scope.names []).lookup n=some a) true) mu T ⟨rho0 args (slotsOf names),sto⟩ s₁.heap:=
   Sim.enter (ps:=[]) S hE fun i n pv q1 q2=>by
    unfold rho0 at q2
    have hi:i<args.length:=by
     cases Nat.lt_or_ge i args.length with
     |inl h=>exact h
     |inr h=>
      rw[List.getElem?_append_right (by simpa using h)]at q2
      rw[List.getElem?_replicate]at q2
      split at q2<;>simp at q2
    rw[List.getElem?_append_left (by simpa using hi),List.getElem?_map]at q2
    refine x1_1 (Option.map_eq_some_iff.mp q2) fun p hp e=>?_
    obtain rfl:=Option.some.inj e
    refine x1_1 (hv.get hp) fun v hvv hvr=>?_
    have hpar:params[i]? =some n:=by
     rw[ok.pars,List.getElem?_take,if_pos (by exact o48 hargs L hi)]
     exact q1
    refine⟨v,?_,hvr⟩
    have ek:(callEnvC fd s.heap.objs.size (C.fa f)).kindOf n=names.lookup n:=by rw[←e5];rfl
    rcases ok.kinds n (List.mem_of_getElem? hpar)with k|k
    .exact .inl ⟨ek.trans k,_,X.toInCall.ns,bindL_at hpn hpar hvv (ek.trans k)⟩
    .obtain⟨c,hc⟩:=Option.isSome_iff_exists.mp (cells_all (k:=s.heap.objs.size+1) (acc:=[]) (.inl k))
     rw[←e5]at hc
     refine .inr ⟨.inl (ek.trans k),c,hc,?_⟩
     have:=X.cell n c hc
     rwa [bindC_at hpn hpar hvv (by rw[ek,k];simp)]at this
  have hc:EnvC C (inner F s.heap mu [] (callEnvC fd s.heap.objs.size (C.fa f)) (slotsOf names) (fun a=>a=s.heap.objs.size∨∃n,(cellsFrom (s.heap.objs.size+1) fd.scope.names []).lookup n=some a) true) ⟨names,slotsOf names,glob,C.fields,true⟩:=
   ⟨e5,rfl,rfl,fun _=>rfl,cx⟩
  refine x2_0 X.toInCall.same fun h₁ tk₁ hs₁=>?_
  have e0:Same s s₁:=by rw[hs₁];exact⟨rfl,rfl,rfl⟩
  have hnew:∀a:Nat,(a=s.heap.objs.size∨∃n,(cellsFrom (s.heap.objs.size+1) fd.scope.names []).lookup n=some a)→s.heap.objs.size≤a:=fun a q=>(hE.new a q).1
  refine wpAny_mono (body_snd n body _ hc _ d s₁ mu T _ _ rm' h1 Si h) (fun fl s₂ hf=>?_) fun _ _ h=>h.elim
  cases fl with
  |next=>
   refine x2_2 hf fun mu₂ st₂ e₂ S₂ q₂=>?_
   refine x3_1 (S.exitRet (S₂.add vr_none) hnew q₂) fun mu₃ pv sto₃ S₃ q₃=>?_
   exact⟨_,rfl,mu₃,pv,sto₃,e0.trans e₂,S₃,q₃⟩
  |brk=>refine x2_2 hf fun mu₂ st₂ e₂ S₂ q₂=>?_;exact q₂.elim
  |cont=>refine x2_2 hf fun mu₂ st₂ e₂ S₂ q₂=>?_;exact q₂.elim
  |ret v=>
   refine x3_2 hf fun mu₂ pv st₂ e₂ S₂ q₂=>?_
   refine x3_1 (S.exitRet S₂ hnew q₂) fun mu₃ pv' sto₃ S₃ q₃=>?_
   exact⟨_,rfl,mu₃,pv',sto₃,e0.trans e₂,S₃,q₃⟩
end Mine.Internal
namespace Mine.Internal
open PySem PySem.W PyProof.Rows PySem.Calls
noncomputable def rowV(n k:String)(a b:Int):PV:=.tup [.str (Str.ofString n),.str (Str.ofString k),.int a,.int b]
noncomputable def opsV:PV:=.list [rowV "UNDEF" "" 0 1,rowV "NULL" "" 0 1,rowV "TRUE" "" 0 1,rowV "FALSE" "" 0 1,rowV "CONST" "k" 0 1,rowV "THIS" "" 0 1,rowV "POP" "" 1 0,rowV "DUP" "" 1 2,rowV "DUP2" "" 2 4,rowV "SWAP" "" 2 2,rowV "ROT3" "" 3 3,rowV "GETLOC" "l" 0 1,rowV "SETLOC" "l" 1 1,rowV "GETCELL" "c" 0 1,rowV "SETCELL" "c" 1 1,rowV "GETUP" "u" 0 1,rowV "SETUP" "u" 1 1,rowV "FRESH" "c" 0 0,rowV "GETGLOB" "s" 0 1,rowV "TYPEGLOB" "s" 0 1,rowV "SETGLOB" "s" 1 1,rowV "DECLVAR" "s" 0 0,rowV "DECLFUN" "s" 1 0,rowV "GETPROP" "s" 1 1,rowV "SETPROP" "s" 2 1,rowV "GETELEM" "" 2 1,rowV "SETELEM" "" 3 1,rowV "DELPROP" "s" 1 1,rowV "DELELEM" "" 2 1,rowV "DELNAME" "s" 0 1,rowV "ADD" "" 2 1,rowV "SUB" "" 2 1,rowV "MUL" "" 2 1,rowV "DIV" "" 2 1,rowV "MOD" "" 2 1,rowV "SHL" "" 2 1,rowV "SHR" "" 2 1,rowV "USHR" "" 2 1,rowV "AND" "" 2 1,rowV "OR" "" 2 1,rowV "XOR" "" 2 1,rowV "EQ" "" 2 1,rowV "NE" "" 2 1,rowV "SEQ" "" 2 1,rowV "SNE" "" 2 1,rowV "LT" "" 2 1,rowV "GT" "" 2 1,rowV "LE" "" 2 1,rowV "GE" "" 2 1,rowV "IN" "" 2 1,rowV "INSTANCEOF" "" 2 1,rowV "NEG" "" 1 1,rowV "TONUM" "" 1 1,rowV "NOT" "" 1 1,rowV "BITNOT" "" 1 1,rowV "TYPEOF" "" 1 1,rowV "INC" "" 1 1,rowV "DEC" "" 1 1,rowV "JMP" "t" 0 0,rowV "JF" "t" 1 0,rowV "JT" "t" 1 0,rowV "JFK" "t" 1 0,rowV "JTK" "t" 1 0,rowV "CALL" "n" 2 1,rowV "NEW" "n" 1 1,rowV "RET" "" 1 0,rowV "THROW" "" 1 0,rowV "CLOSURE" "f" 0 1,rowV "NEWOBJ" "" 0 1,rowV "NEWARR" "n" 0 1,rowV "HOLE" "" 0 1,rowV "INITPROP" "s" 2 1,rowV "INITGET" "s" 2 1,rowV "INITSET" "s" 2 1,rowV "METHOD" "s" 1 2,rowV "METHODEL" "" 2 2,rowV "FORIN" "" 1 1,rowV "NEXTIN" "t" 1 2,rowV "GOSUB" "t" 0 0,rowV "RETSUB" "" 2 0,rowV "CHECKOBJ" "" 1 1,rowV "TOKEY" "" 2 2,rowV "ROT4" "" 4 4,rowV "FAILSET" "s" 1 0,rowV "REGEXP" "" 2 1]
noncomputable def lastV:PV:=.list [.int 58,.int 65,.int 66,.int 79,.int 83]
noncomputable def plainV:PV:=.dict [61,62] [.int 59,.int 60]
noncomputable def sameV:PV:=.dict [61,62] [.tup [.int 59,.int 61],.tup [.int 60,.int 62]]
noncomputable def quietV:PV:=.list [.int 0,.int 1,.int 2,.int 3,.int 4,.int 5,.int 6,.int 7,.int 8,.int 9,.int 10,.int 82,.int 11,.int 12,.int 13,.int 14,.int 15,.int 16,.int 17,.int 43,.int 44,.int 53,.int 55,.int 58,.int 59,.int 60,.int 61,.int 62,.int 65,.int 67,.int 68,.int 69,.int 70,.int 78]
noncomputable def fieldsU:List Str:=["name","params","code","consts","units","handlers","lines","local_count","cell_count","captures","is_strict","uses_arguments","self_slot","arguments_place","param_places"].map Str.ofString
noncomputable def globS:List (String×GV):=[
 ("OP_UNDEF",.val (.int 0)),("OP_NULL",.val (.int 1)),("OP_TRUE",.val (.int 2)),("OP_FALSE",.val (.int 3)),("OP_CONST",.val (.int 4)),("OP_THIS",.val (.int 5)),("OP_POP",.val (.int 6)),("OP_DUP",.val (.int 7)),("OP_DUP2",.val (.int 8)),("OP_SWAP",.val (.int 9)),("OP_ROT3",.val (.int 10)),
 ("OP_NEXTIN",.val (.int 77)),("OP_GOSUB",.val (.int 78)),("OP_RETSUB",.val (.int 79)),("OP_JMP",.val (.int 58)),("OP_JF",.val (.int 59)),("OP_JT",.val (.int 60)),("OP_JFK",.val (.int 61)),("OP_JTK",.val (.int 62)),("OP_HOLE",.val (.int 70)),("OP_FORIN",.val (.int 76)),("OP_NEWARR",.val (.int 69)),("OP_COUNT",.val (.int 85)),
 ("OPERATIONS",.val opsV),("LAST_OPS",.val lastV),("PLAIN_TEST",.val plainV),("SAME_TESTS",.val sameV),("QUIET_OPS",.val quietV),("VALUE",.val (.int (-1))),("KEYS",.val (.int (-2))),("NO_VALUE",.val (.int (-3))),
 ("Unit",.unit),("len",.bi .len),("abs",.bi .abs),("int",.bi .int),("list",.bi .list),("all",.bi .all),("repr",.bi .repr),("str",.bi .str),("isinstance",.isinst),("range",.range),("enumerate",.enum),("bool",.ty "bool"),("tuple",.ty "tuple"),
 ("arg_kind",.fn 1),("taken_count",.fn 2),("put_count",.fn 3),("is_last",.fn 4),("copy_head",.fn 5),("line_at",.fn 6),("rebuilt",.fn 7),("with_code",.fn 8),("for_all",.fn 9),("end_of",.fn 10),("kept_step",.fn 11),("threaded",.fn 12),("thread_one",.fn 13),("thread_unit",.fn 14),("later_places",.fn 15),("live_places",.fn 16),("is_idle",.fn 17),("clean_once",.fn 18),("clean_one",.fn 19),("clean_unit",.fn 20),("is_count",.fn 21),("bound_of",.fn 22),("check_arg",.fn 23),("check_place",.fn 24),("check_head",.fn 25),("is_within",.fn 26),("check_handlers",.fn 27),("handler_at",.fn 28),("stack_in_handler",.fn 29),("ways_thrown",.fn 30),("need_values",.fn 31),("made_by",.fn 32),("ways_on",.fn 33),("way_back",.fn 34),("stacks_of",.fn 35),("check_one",.fn 36),("check_unit",.fn 37),("is_right",.fn 38),("_law_take",.fn 39),("_law_landing",.fn 40),("_law_block",.fn 41),("_law_unit",.fn 42),("_law_events",.fn 43),("_law_ends",.fn 44),("_law_straight",.fn 45),("_law_is_ring",.fn 46),("_law_lean",.fn 47),("_law_shown",.fn 48)]
noncomputable def globV:List (Str×GV):=globS.map fun p=>(Str.ofString p.1,p.2)
end Mine.Internal
namespace Mine.Internal
open PySem PySem.W PyProof.Rows PySem.Calls
noncomputable def b0:List PS:=[.assign (.attr (.var 0) 0) (.var 1),
 .assign (.attr (.var 0) 1) (.var 2),
 .assign (.attr (.var 0) 2) (.list []),
 .assign (.attr (.var 0) 3) (.list []),
 .assign (.attr (.var 0) 4) (.list []),
 .assign (.attr (.var 0) 5) (.list []),
 .assign (.attr (.var 0) 6) (.list []),
 .assign (.attr (.var 0) 7) (.lit (.int (0))),
 .assign (.attr (.var 0) 8) (.lit (.int (0))),
 .assign (.attr (.var 0) 9) (.list []),
 .assign (.attr (.var 0) 10) (.lit (.bool false)),
 .assign (.attr (.var 0) 11) (.lit (.bool false)),
 .assign (.attr (.var 0) 12) (.lit (.none)),
 .assign (.attr (.var 0) 13) (.lit (.none)),
 .assign (.attr (.var 0) 14) (.list [])]
noncomputable def b1:List PS:=[.ret (.sub (.sub (.lit (opsV)) (.var 0)) (.lit (.int (1))))]
noncomputable def b2:List PS:=[.ret (.bin .add (.sub (.sub (.lit (opsV)) (.var 0)) (.lit (.int (2)))) (.ife (.chain (.sub (.sub (.lit (opsV)) (.var 0)) (.lit (.int (1)))) [(.eq,(.lit (.str "n")))]) (.var 1) (.lit (.int (0)))))]
noncomputable def b3:List PS:=[.ret (.sub (.sub (.lit (opsV)) (.var 0)) (.lit (.int (3))))]
noncomputable def b4:List PS:=[.ret (.chain (.var 0) [(.isIn,(.lit (lastV)))])]
noncomputable def b5:List PS:=[.assign (.var 1) (.unit [(.attr (.var 0) 0),(.bi .list (.attr (.var 0) 1))]),
 .assign (.attr (.var 1) 3) (.bi .list (.attr (.var 0) 3)),
 .assign (.attr (.var 1) 4) (.bi .list (.attr (.var 0) 4)),
 .assign (.attr (.var 1) 7) (.attr (.var 0) 7),
 .assign (.attr (.var 1) 8) (.attr (.var 0) 8),
 .assign (.attr (.var 1) 9) (.bi .list (.attr (.var 0) 9)),
 .assign (.attr (.var 1) 10) (.attr (.var 0) 10),
 .assign (.attr (.var 1) 11) (.attr (.var 0) 11),
 .assign (.attr (.var 1) 12) (.attr (.var 0) 12),
 .assign (.attr (.var 1) 13) (.attr (.var 0) 13),
 .assign (.attr (.var 1) 14) (.bi .list (.attr (.var 0) 14)),
 .ret (.var 1)]
noncomputable def b6:List PS:=[.ret (.ife (.chain (.var 1) [(.lt,(.bi .len (.attr (.var 0) 6)))]) (.sub (.attr (.var 0) 6) (.var 1)) (.lit (.int (0))))]
noncomputable def b7:List PS:=[.assign (.var 4) (.call 5 [(.var 0)]),
 .for_ (.tup [(.var 5),(.var 6),(.var 7)]) (.val (.var 1)) [.expr (.meth .append (.attr (.var 4) 2) [(.ife (.chain (.call 1 [(.var 5)]) [(.eq,(.lit (.str "t")))]) (.tup [(.var 5),(.sub (.var 2) (.var 6))]) (.tup [(.var 5),(.var 6)]))]),
  .ite (.chain (.attr (.var 0) 6) [(.ne,(.list []))]) [.expr (.meth .append (.attr (.var 4) 6) [(.var 7)])] []],
 .for_ (.tup [(.var 8),(.var 9),(.var 10),(.var 11),(.var 12)]) (.val (.var 3)) [.ite (.chain (.sub (.var 2) (.var 8)) [(.lt,(.sub (.var 2) (.var 9)))]) [.expr (.meth .append (.attr (.var 4) 5) [(.tup [(.sub (.var 2) (.var 8)),(.sub (.var 2) (.var 9)),(.sub (.var 2) (.var 10)),(.var 11),(.var 12)])])] []],
 .ret (.var 4)]
noncomputable def b8:List PS:=[.assign (.var 2) (.call 5 [(.var 0)]),
 .assign (.attr (.var 2) 2) (.var 1),
 .assign (.attr (.var 2) 6) (.bi .list (.attr (.var 0) 6)),
 .assign (.attr (.var 2) 5) (.bi .list (.attr (.var 0) 5)),
 .ret (.var 2)]
noncomputable def b9:List PS:=[.assign (.var 2) (.callv 1 [(.var 0)]),
 .assign (.attr (.var 2) 4) (.comp (.call 9 [(.var 0),(.var 1)]) (.val (.attr (.var 2) 4)) [] [1]),
 .ret (.var 2)]
noncomputable def b10:List PS:=[.assign (.var 2) .dict0,
 .while_ (.and [(.chain (.var 1) [(.lt,(.bi .len (.var 0)))]),(.chain (.sub (.sub (.var 0) (.var 1)) (.lit (.int (0)))) [(.eq,(.lit (.int (58))))]),(.chain (.var 1) [(.notIn,(.var 2))])]) [.assign (.sub (.var 2) (.var 1)) (.lit (.bool true)),
  .assign (.var 1) (.sub (.sub (.var 0) (.var 1)) (.lit (.int (1))))],
 .ret (.var 1)]
noncomputable def b11:List PS:=[.ite (.chain (.var 2) [(.ge,(.bi .len (.var 0)))]) [.ret (.lit (.none))] [],
 .assign (.tup [(.var 3),(.var 4)]) (.sub (.var 0) (.var 2)),
 .ite (.chain (.var 3) [(.eq,(.lit (.int (6))))]) [.ret (.tup [(.sub (.lit (plainV)) (.var 1)),(.bin .add (.var 2) (.lit (.int (1))))])] [],
 .ite (.chain (.var 3) [(.notIn,(.tup [(.lit (.int (59))),(.lit (.int (60))),(.lit (.int (61))),(.lit (.int (62)))]))]) [.ret (.lit (.none))] [],
 .ite (.chain (.var 3) [(.notIn,(.sub (.lit (sameV)) (.var 1)))]) [.ret (.tup [(.sub (.lit (plainV)) (.var 1)),(.bin .add (.var 2) (.lit (.int (1))))])] [],
 .ret (.ife (.chain (.var 3) [(.eq,(.var 1))]) (.tup [(.var 1),(.var 4)]) (.tup [(.sub (.lit (plainV)) (.var 1)),(.var 4)]))]
noncomputable def b12:List PS:=[.assign (.tup [(.var 3),(.var 4)]) (.tup [(.call 10 [(.var 0),(.var 2)]),.dict0]),
 .while_ (.and [(.chain (.var 1) [(.isIn,(.lit (plainV)))]),(.chain (.var 3) [(.notIn,(.var 4))])]) [.assign (.sub (.var 4) (.var 3)) (.lit (.bool true)),
  .assign (.var 5) (.call 11 [(.var 0),(.var 1),(.var 3)]),
  .ite (.chain (.var 5) [(.is,(.lit (.none)))]) [.brk] [],
  .assign (.tup [(.var 1),(.var 3)]) (.tup [(.sub (.var 5) (.lit (.int (0)))),(.call 10 [(.var 0),(.sub (.var 5) (.lit (.int (1))))])])],
 .ret (.tup [(.var 1),(.var 3)])]
noncomputable def b13:List PS:=[.assign (.var 1) (.list []),
 .for_ (.tup [(.var 2),(.var 3)]) (.val (.attr (.var 0) 2)) [.ite (.or [(.chain (.call 1 [(.var 2)]) [(.ne,(.lit (.str "t")))]),(.chain (.var 2) [(.eq,(.lit (.int (78))))])]) [.expr (.meth .append (.var 1) [(.tup [(.var 2),(.var 3)])])] [.ite (.chain (.var 2) [(.eq,(.lit (.int (77))))]) [.expr (.meth .append (.var 1) [(.tup [(.var 2),(.call 10 [(.attr (.var 0) 2),(.var 3)])])])] [.expr (.meth .append (.var 1) [(.call 12 [(.attr (.var 0) 2),(.var 2),(.var 3)])])]]],
 .ret (.call 8 [(.var 0),(.var 1)])]
noncomputable def b14:List PS:=[.ret (.call 9 [(.var 0),(.lit (.fn 13))])]
noncomputable def b15:List PS:=[.assign (.tup [(.var 2),(.var 3)]) (.sub (.attr (.var 0) 2) (.var 1)),
 .assign (.var 4) (.ife (.call 4 [(.var 2)]) (.list []) (.list [(.bin .add (.var 1) (.lit (.int (1))))])),
 .ite (.chain (.call 1 [(.var 2)]) [(.eq,(.lit (.str "t")))]) [.expr (.meth .append (.var 4) [(.var 3)])] [],
 .for_ (.tup [(.var 5),(.var 6),(.var 7),(.var 8),(.var 9)]) (.val (.attr (.var 0) 5)) [.ite (.chain (.var 5) [(.le,(.var 1)),(.lt,(.var 6))]) [.expr (.meth .append (.var 4) [(.var 7)]),
   .brk] []],
 .ret (.var 4)]
noncomputable def b16:List PS:=[.assign (.tup [(.var 1),(.var 2)]) (.tup [(.dict1 (.lit (.int (0))) (.lit (.bool true))),(.list [(.lit (.int (0)))])]),
 .while_ (.chain (.bi .len (.var 2)) [(.gt,(.lit (.int (0))))]) [.for_ (.var 3) (.val (.call 15 [(.var 0),(.meth .pop (.var 2) [])])) [.ite (.and [(.chain (.var 3) [(.lt,(.bi .len (.attr (.var 0) 2)))]),(.chain (.var 3) [(.notIn,(.var 1))])]) [.assign (.sub (.var 1) (.var 3)) (.lit (.bool true)),
    .expr (.meth .append (.var 2) [(.var 3)])] []]],
 .ret (.var 1)]
noncomputable def b17:List PS:=[.assign (.tup [(.var 3),(.var 4)]) (.sub (.attr (.var 0) 2) (.var 2)),
 .ite (.or [(.chain (.var 3) [(.ne,(.lit (.int (58))))]),(.chain (.var 4) [(.le,(.var 2))])]) [.ret (.lit (.bool false))] [],
 .ret (.bi .all (.comp (.chain (.var 0) [(.notIn,(.var 1))]) (.range2 (.bin .add (.var 2) (.lit (.int (1)))) (.var 4)) [] [1]))]
noncomputable def b18:List PS:=[.assign (.tup [(.var 1),(.var 2),(.var 3)]) (.tup [(.call 16 [(.var 0)]),(.list []),(.list [])]),
 .for_ (.tup [(.var 4),(.tup [(.var 5),(.var 6)])]) (.enum (.attr (.var 0) 2)) [.expr (.meth .append (.var 3) [(.bi .len (.var 2))]),
  .ite (.and [(.chain (.var 4) [(.isIn,(.var 1))]),(.not (.call 17 [(.var 0),(.var 1),(.var 4)]))]) [.expr (.meth .append (.var 2) [(.tup [(.var 5),(.var 6),(.call 6 [(.var 0),(.var 4)])])])] []],
 .expr (.meth .append (.var 3) [(.bi .len (.var 2))]),
 .ret (.call 7 [(.var 0),(.var 2),(.var 3),(.comp (.var 0) (.val (.attr (.var 0) 5)) [(.chain (.sub (.var 0) (.lit (.int (2)))) [(.isIn,(.var 1))])] [1])])]
noncomputable def b19:List PS:=[.assign (.var 1) (.call 18 [(.var 0)]),
 .while_ (.chain (.bi .len (.attr (.var 1) 2)) [(.lt,(.bi .len (.attr (.var 0) 2)))]) [.assign (.var 0) (.var 1),
  .assign (.var 1) (.call 18 [(.var 0)])],
 .ret (.var 1)]
noncomputable def b20:List PS:=[.ret (.call 9 [(.var 0),(.lit (.fn 19))])]
noncomputable def b21:List PS:=[.ret (.and [(.isinst "int" (.var 0)),(.not (.isinst "bool" (.var 0))),(.chain (.var 0) [(.ge,(.lit (.int (0))))])])]
noncomputable def b22:List PS:=[.ite (.or [(.chain (.var 1) [(.eq,(.lit (.str "k")))]),(.chain (.var 1) [(.eq,(.lit (.str "s")))])]) [.ret (.bi .len (.attr (.var 0) 3))] [],
 .ite (.chain (.var 1) [(.eq,(.lit (.str "l")))]) [.ret (.attr (.var 0) 7)] [],
 .ite (.chain (.var 1) [(.eq,(.lit (.str "c")))]) [.ret (.attr (.var 0) 8)] [],
 .ite (.chain (.var 1) [(.eq,(.lit (.str "u")))]) [.ret (.bi .len (.attr (.var 0) 9))] [],
 .ite (.chain (.var 1) [(.eq,(.lit (.str "t")))]) [.ret (.bi .len (.attr (.var 0) 2))] [],
 .ret (.ife (.chain (.var 1) [(.eq,(.lit (.str "f")))]) (.bi .len (.attr (.var 0) 4)) bad)]
noncomputable def b23:List PS:=[.assign (.tup [(.var 2),(.var 3)]) (.sub (.attr (.var 0) 2) (.var 1)),
 .ite (.or [(.not (.call 21 [(.var 2)])),(.chain (.var 2) [(.ge,(.lit (.int (85))))])]) [.raise] [],
 .assign (.var 4) (.call 1 [(.var 2)]),
 .ite (.chain (.var 4) [(.eq,(.lit (.str "")))]) [.ite (.chain (.var 3) [(.isNot,(.lit (.none)))]) [.raise] [],
  .ret (.lit (.none))] [],
 .assign (.var 5) (.call 22 [(.var 0),(.var 4)]),
 .ite (.or [(.not (.call 21 [(.var 3)])),(.chain (.lit (.int (0))) [(.le,(.var 5)),(.le,(.var 3))])]) [.raise] [],
 .ite (.and [(.chain (.var 4) [(.eq,(.lit (.str "s")))]),(.not (.isinst "str" (.sub (.attr (.var 0) 3) (.var 3))))]) [.raise] []]
noncomputable def b24:List PS:=[.ite (.chain (.var 1) [(.isNot,(.lit (.none)))]) [.assign (.var 2) (.ife (.chain (.sub (.var 1) (.lit (.int (0)))) [(.eq,(.lit (.str "local")))]) (.attr (.var 0) 7) (.attr (.var 0) 8)),
  .ite (.or [(.chain (.sub (.var 1) (.lit (.int (0)))) [(.notIn,(.tup [(.lit (.str "local")),(.lit (.str "cell"))]))]),(.not (.call 21 [(.sub (.var 1) (.lit (.int (1))))])),(.chain (.sub (.var 1) (.lit (.int (1)))) [(.ge,(.var 2))])]) [.raise] []] []]
noncomputable def b25:List PS:=[.for_ (.var 1) (.val (.attr (.var 0) 14)) [.expr (.call 24 [(.var 0),(.var 1)])],
 .expr (.call 24 [(.var 0),(.attr (.var 0) 12)]),
 .expr (.call 24 [(.var 0),(.attr (.var 0) 13)]),
 .ite (.or [(.chain (.bi .len (.attr (.var 0) 14)) [(.gt,(.bi .len (.attr (.var 0) 1)))]),(.chain (.bi .len (.attr (.var 0) 2)) [(.eq,(.lit (.int (0))))])]) [.raise] [],
 .ite (.and [(.chain (.attr (.var 0) 6) [(.ne,(.list []))]),(.chain (.bi .len (.attr (.var 0) 6)) [(.ne,(.bi .len (.attr (.var 0) 2)))])]) [.raise] [],
 .for_ (.var 2) (.val (.attr (.var 0) 4)) [.for_ (.tup [(.var 3),(.var 4)]) (.val (.attr (.var 2) 9)) [.ite (.or [(.not (.call 21 [(.var 4)])),(.chain (.var 4) [(.ge,(.ife (.var 3) (.attr (.var 0) 8) (.bi .len (.attr (.var 0) 9))))])]) [.raise] []]]]
noncomputable def b26:List PS:=[.ret (.and [(.chain (.sub (.var 1) (.lit (.int (0)))) [(.le,(.sub (.var 0) (.lit (.int (0)))))]),(.chain (.sub (.var 0) (.lit (.int (1)))) [(.le,(.sub (.var 1) (.lit (.int (1)))))])])]
noncomputable def b27:List PS:=[.assign (.var 1) (.bi .len (.attr (.var 0) 2)),
 .for_ (.tup [(.var 2),(.var 3)]) (.enum (.attr (.var 0) 5)) [.ite (.or [(.not (.chain (.lit (.int (0))) [(.le,(.sub (.var 3) (.lit (.int (0))))),(.lt,(.sub (.var 3) (.lit (.int (1))))),(.le,(.var 1))])),(.not (.chain (.lit (.int (0))) [(.le,(.sub (.var 3) (.lit (.int (2))))),(.lt,(.var 1))])),(.not (.call 21 [(.sub (.var 3) (.lit (.int (3))))]))]) [.raise] [],
  .ite (.chain (.sub (.var 3) (.lit (.int (0)))) [(.le,(.sub (.var 3) (.lit (.int (2))))),(.lt,(.sub (.var 3) (.lit (.int (1)))))]) [.raise] [],
  .for_ (.var 4) (.val (.from_ (.attr (.var 0) 5) (.bin .add (.var 2) (.lit (.int (1)))))) [.ite (.and [(.chain (.sub (.var 3) (.lit (.int (0)))) [(.lt,(.sub (.var 4) (.lit (.int (1)))))]),(.chain (.sub (.var 4) (.lit (.int (0)))) [(.lt,(.sub (.var 3) (.lit (.int (1)))))]),(.not (.call 26 [(.var 3),(.var 4)]))]) [.raise] []]]]
noncomputable def b28:List PS:=[.for_ (.var 2) (.val (.var 0)) [.ite (.chain (.sub (.var 2) (.lit (.int (0)))) [(.le,(.var 1)),(.lt,(.sub (.var 2) (.lit (.int (1)))))]) [.ret (.var 2)] []],
 .ret (.lit (.none))]
noncomputable def b29:List PS:=[.assign (.var 2) (.bin .add (.upto (.var 1) (.sub (.var 0) (.lit (.int (3))))) (.tup [(.lit (.int (-1)))])),
 .ret (.ife (.sub (.var 0) (.lit (.int (4)))) (.bin .add (.var 2) (.tup [(.sub (.var 0) (.lit (.int (2))))])) (.var 2))]
noncomputable def b30:List PS:=[.assign (.var 3) (.call 28 [(.attr (.var 0) 5),(.var 1)]),
 .ite (.or [(.chain (.var 3) [(.is,(.lit (.none)))]),(.chain (.sub (.sub (.attr (.var 0) 2) (.var 1)) (.lit (.int (0)))) [(.isIn,(.lit (quietV)))])]) [.ret (.list [])] [],
 .ite (.chain (.bi .len (.var 2)) [(.lt,(.sub (.var 3) (.lit (.int (3)))))]) [.raise] [],
 .ret (.list [(.tup [(.sub (.var 3) (.lit (.int (2)))),(.call 29 [(.var 3),(.var 2)])])])]
noncomputable def b31:List PS:=[.for_ (.var 3) (.val (.var 0)) [.ite (.and [(.chain (.var 3) [(.ne,(.lit (.int (-1))))]),(.not (.and [(.var 2),(.chain (.var 3) [(.eq,(.lit (.int (-3))))])]))]) [.raise] []]]
noncomputable def b32:List PS:=[.ite (.chain (.var 0) [(.eq,(.lit (.int (70))))]) [.ret (.tup [(.lit (.int (-3)))])] [],
 .ite (.chain (.var 0) [(.eq,(.lit (.int (76))))]) [.ret (.tup [(.lit (.int (-2)))])] [],
 .ret (.bin .mul (.tup [(.lit (.int (-1)))]) (.var 1))]
noncomputable def b33:List PS:=[.assign (.tup [(.var 3),(.var 4)]) (.sub (.attr (.var 0) 2) (.var 1)),
 .assign (.var 5) (.call 2 [(.var 3),(.var 4)]),
 .ite (.chain (.bi .len (.var 2)) [(.lt,(.var 5))]) [.raise] [],
 .assign (.tup [(.var 6),(.var 7)]) (.tup [(.from_ (.var 2) (.bin .sub (.bi .len (.var 2)) (.var 5))),(.upto (.var 2) (.bin .sub (.bi .len (.var 2)) (.var 5)))]),
 .ite (.chain (.var 3) [(.eq,(.lit (.int (78))))]) [.ret (.list [(.tup [(.var 4),(.bin .add (.var 2) (.tup [(.lit (.int (-1))),(.var 4)]))]),(.tup [(.bin .add (.var 1) (.lit (.int (1)))),(.var 2)])])] [],
 .ite (.chain (.var 3) [(.eq,(.lit (.int (79))))]) [.ret (.call 34 [(.var 6),(.var 1)])] [],
 .ite (.chain (.var 3) [(.eq,(.lit (.int (77))))]) [.ite (.chain (.sub (.var 6) (.lit (.int (0)))) [(.ne,(.lit (.int (-2))))]) [.raise] [],
  .ret (.list [(.tup [(.var 4),(.var 2)]),(.tup [(.bin .add (.var 1) (.lit (.int (1)))),(.bin .add (.var 2) (.tup [(.lit (.int (-1)))]))])])] [],
 .ite (.chain (.var 3) [(.ne,(.lit (.int (6))))]) [.expr (.call 31 [(.var 6),(.var 1),(.chain (.var 3) [(.eq,(.lit (.int (69))))])])] [],
 .assign (.var 8) (.bin .add (.var 7) (.call 32 [(.var 3),(.call 3 [(.var 3)])])),
 .assign (.var 9) (.ife (.call 4 [(.var 3)]) (.list []) (.list [(.tup [(.bin .add (.var 1) (.lit (.int (1)))),(.var 8)])])),
 .ite (.chain (.call 1 [(.var 3)]) [(.eq,(.lit (.str "t")))]) [.expr (.meth .append (.var 9) [(.tup [(.var 4),(.ife (.chain (.var 3) [(.isIn,(.tup [(.lit (.int (61))),(.lit (.int (62)))]))]) (.var 2) (.var 8))])])] [],
 .ret (.var 9)]
noncomputable def b34:List PS:=[.ite (.or [(.chain (.sub (.var 0) (.lit (.int (0)))) [(.ne,(.lit (.int (-1))))]),(.chain (.sub (.var 0) (.lit (.int (1)))) [(.lt,(.lit (.int (0))))])]) [.raise] [],
 .ret (.list [])]
noncomputable def b35:List PS:=[.assign (.tup [(.var 1),(.var 2)]) (.tup [(.dict1 (.lit (.int (0))) (.tup [])),(.list [(.lit (.int (0)))])]),
 .while_ (.chain (.bi .len (.var 2)) [(.gt,(.lit (.int (0))))]) [.assign (.var 3) (.meth .pop (.var 2) []),
  .assign (.var 4) (.sub (.var 1) (.var 3)),
  .assign (.var 5) (.bin .add (.call 33 [(.var 0),(.var 3),(.var 4)]) (.call 30 [(.var 0),(.var 3),(.var 4)])),
  .for_ (.tup [(.var 6),(.var 7)]) (.val (.var 5)) [.ite (.chain (.var 6) [(.ge,(.bi .len (.attr (.var 0) 2)))]) [.raise] [],
   .ite (.chain (.var 6) [(.notIn,(.var 1))]) [.assign (.sub (.var 1) (.var 6)) (.var 7),
    .expr (.meth .append (.var 2) [(.var 6)])] [.ite (.chain (.sub (.var 1) (.var 6)) [(.ne,(.var 7))]) [.raise] []]]],
 .ret (.var 1)]
noncomputable def b36:List PS:=[.expr (.call 25 [(.var 0)]),
 .for_ (.var 1) (.range1 (.bi .len (.attr (.var 0) 2))) [.expr (.call 23 [(.var 0),(.var 1)])],
 .expr (.call 27 [(.var 0)]),
 .expr (.call 35 [(.var 0)])]
noncomputable def b37:List PS:=[.assign (.var 1) (.list [(.var 0)]),
 .while_ (.chain (.bi .len (.var 1)) [(.gt,(.lit (.int (0))))]) [.assign (.var 2) (.meth .pop (.var 1) []),
  .expr (.call 36 [(.var 2)]),
  .expr (.meth .extend (.var 1) [(.attr (.var 2) 4)])]]
noncomputable def b38:List PS:=[.try_ [.expr (.call 37 [(.var 0)])],
 .ret (.lit (.bool true))]
noncomputable def b39:List PS:=[.ite (.chain (.bi .len (.sub (.var 0) (.lit (.int (0))))) [(.gt,(.lit (.int (0))))]) [.ret (.bin .mod (.meth .pop (.sub (.var 0) (.lit (.int (0)))) [(.lit (.int (0)))]) (.var 1))] [],
 .assign (.sub (.var 0) (.lit (.int (1)))) (.bin .mod (.bin .add (.bin .mul (.sub (.var 0) (.lit (.int (1)))) (.lit (.int (4099)))) (.lit (.int (12301)))) (.lit (.int (1000003)))),
 .ret (.bin .mod (.bin .fdiv (.sub (.var 0) (.lit (.int (1)))) (.lit (.int (16)))) (.var 1))]
noncomputable def b40:List PS:=[.assign (.tup [(.var 4),(.var 5)]) (.tup [(.call 39 [(.var 0),(.lit (.int (5)))]),(.tup [(.lit (.str "block")),(.call 39 [(.var 0),(.var 1)])])]),
 .ite (.chain (.var 4) [(.eq,(.lit (.int (0))))]) [.expr (.meth .append (.var 3) [(.tup [(.lit (.int (6))),(.lit (.none))])])] [.ite (.chain (.var 4) [(.lt,(.lit (.int (3))))]) [.expr (.meth .append (.var 3) [(.tup [(.bin .add (.lit (.int (58))) (.var 4)),(.tup [(.lit (.str "block")),(.call 39 [(.var 0),(.var 1)])])])])] [.expr (.meth .append (.var 3) [(.tup [(.bin .add (.lit (.int (58))) (.var 4)),(.tup [(.lit (.str "landing")),(.call 39 [(.var 0),(.var 2)])])])])]],
 .expr (.meth .append (.var 3) [(.tup [(.lit (.int (58))),(.var 5)])])]
noncomputable def b41:List PS:=[.assign (.var 5) (.call 39 [(.var 0),(.lit (.int (8)))]),
 .ite (.chain (.var 5) [(.lt,(.lit (.int (2))))]) [.expr (.meth .append (.var 4) [(.tup [(.lit (.int (21))),(.call 39 [(.var 0),(.lit (.int (3)))])])])] [.ite (.chain (.var 5) [(.lt,(.lit (.int (4))))]) [.expr (.meth .append (.var 4) [(.tup [(.lit (.int (11))),(.call 39 [(.var 0),(.lit (.int (3)))])])]),
   .expr (.meth .extend (.var 4) [(.list [(.tup [(.bin .add (.lit (.int (59))) (.bin .mod (.var 5) (.lit (.int (2))))),(.tup [(.lit (.str "block")),(.call 39 [(.var 0),(.var 2)])])]),(.tup [(.lit (.int (21))),(.call 39 [(.var 0),(.lit (.int (3)))])])])])] [.ite (.chain (.var 5) [(.lt,(.lit (.int (6))))]) [.expr (.meth .extend (.var 4) [(.list [(.tup [(.lit (.int (11))),(.call 39 [(.var 0),(.lit (.int (3)))])]),(.tup [(.bin .add (.lit (.int (61))) (.bin .mod (.var 5) (.lit (.int (2))))),(.tup [(.lit (.str "landing")),(.call 39 [(.var 0),(.var 3)])])])])])] [.ite (.and [(.chain (.var 5) [(.eq,(.lit (.int (6))))]),(.chain (.var 1) [(.gt,(.lit (.int (0))))])]) [.expr (.meth .extend (.var 4) [(.list [(.tup [(.lit (.int (11))),(.lit (.int (0)))]),(.tup [(.lit (.int (65))),(.lit (.none))])])])] []]]],
 .ite (.or [(.chain (.var 5) [(.eq,(.lit (.int (7))))]),(.chain (.bin .add (.var 1) (.lit (.int (1)))) [(.eq,(.var 2))])]) [.expr (.meth .append (.var 4) [(.tup [(.lit (.int (58))),(.tup [(.lit (.str "block")),(.call 39 [(.var 0),(.var 2)])])])])] []]
noncomputable def b42:List PS:=[.assign (.tup [(.var 1),(.var 2)]) (.tup [(.bin .add (.lit (.int (4))) (.call 39 [(.var 0),(.lit (.int (6)))])),(.bin .add (.lit (.int (2))) (.call 39 [(.var 0),(.lit (.int (3)))]))]),
 .assign (.tup [(.var 3),(.var 4),(.var 5)]) (.tup [(.unit [(.lit (.str "f")),(.list [])]),(.list []),.dict0]),
 .for_ (.var 6) (.range1 (.var 1)) [.assign (.sub (.var 5) (.tup [(.lit (.str "block")),(.var 6)])) (.bi .len (.var 4)),
  .expr (.call 41 [(.var 0),(.var 6),(.var 1),(.var 2),(.var 4)])],
 .assign (.var 7) (.bi .len (.var 4)),
 .for_ (.var 6) (.range1 (.var 2)) [.assign (.sub (.var 5) (.tup [(.lit (.str "landing")),(.var 6)])) (.bi .len (.var 4)),
  .expr (.call 40 [(.var 0),(.var 1),(.var 2),(.var 4)])],
 .for_ (.tup [(.var 8),(.var 9)]) (.val (.var 4)) [.expr (.meth .append (.attr (.var 3) 2) [(.tup [(.var 8),(.ife (.isinst "tuple" (.var 9)) (.sub (.var 5) (.var 9)) (.var 9))])])],
 .assign (.tup [(.attr (.var 3) 3),(.attr (.var 3) 7),(.attr (.var 3) 6)]) (.tup [(.list [(.lit (.str "p")),(.lit (.str "q")),(.lit (.str "r"))]),(.lit (.int (3))),(.comp (.bin .add (.lit (.int (5))) (.var 0)) (.range1 (.bi .len (.var 4))) [] [])]),
 .assign (.tup [(.var 10),(.var 11)]) (.tup [(.lit (.int (0))),(.var 7)]),
 .for_ (.var 12) (.range1 (.call 39 [(.var 0),(.lit (.int (3)))])) [.assign (.var 10) (.bin .add (.var 10) (.call 39 [(.var 0),(.bin .sub (.var 11) (.var 10))])),
  .assign (.var 11) (.bin .add (.bin .add (.var 10) (.lit (.int (1)))) (.call 39 [(.var 0),(.bin .sub (.var 11) (.var 10))])),
  .expr (.meth .insert (.attr (.var 3) 5) [(.lit (.int (0))),(.tup [(.var 10),(.var 11),(.sub (.var 5) (.tup [(.lit (.str "landing")),(.call 39 [(.var 0),(.var 2)])])),(.lit (.int (0))),(.lit (.bool false))])])],
 .ret (.var 3)]
noncomputable def b43:List PS:=[.assign (.tup [(.var 2),(.var 3),(.var 4),(.var 5),(.var 6),(.var 7)]) (.tup [(.list []),(.list []),(.lit (.int (0))),(.lit (.int (0))),(.lit (.int (0))),(.lit (.int (0)))]),
 .while_ (.chain (.bi .len (.var 2)) [(.lt,(.lit (.int (15))))]) [.assign (.tup [(.var 8),(.var 9)]) (.sub (.attr (.var 0) 2) (.var 4)),
  .assign (.tup [(.var 4),(.var 5),(.var 7)]) (.tup [(.bin .add (.var 4) (.lit (.int (1)))),(.bin .add (.var 5) (.lit (.int (1)))),(.bin .add (.var 7) (.lit (.int (1))))]),
  .ite (.chain (.var 7) [(.gt,(.bin .add (.bin .mul (.lit (.int (2))) (.bi .len (.attr (.var 0) 2))) (.lit (.int (4)))))]) [.ret (.tup [(.bin .add (.var 2) (.list [(.lit (.str "for ever"))])),(.lit (.int (0)))])] [],
  .ite (.chain (.var 8) [(.eq,(.lit (.int (65))))]) [.ret (.tup [(.bin .add (.var 2) (.list [(.bin .add (.lit (.str "end ")) (.bi .str (.var 3)))])),(.var 5)])] [],
  .ite (.or [(.chain (.var 8) [(.eq,(.lit (.int (11))))]),(.chain (.var 8) [(.eq,(.lit (.int (21))))])]) [.assign (.var 10) (.sub (.var 1) (.bin .mod (.var 6) (.bi .len (.var 1)))),
   .expr (.meth .append (.var 2) [(.tup [(.var 8),(.var 9)])]),
   .assign (.tup [(.var 6),(.var 7)]) (.tup [(.bin .add (.var 6) (.lit (.int (1)))),(.lit (.int (0)))]),
   .ite (.chain (.var 8) [(.eq,(.lit (.int (11))))]) [.expr (.meth .append (.var 3) [(.chain (.bin .mod (.var 10) (.lit (.int (2)))) [(.eq,(.lit (.int (0))))])])] [.ite (.chain (.bin .mod (.var 10) (.lit (.int (3)))) [(.eq,(.lit (.int (0))))]) [.assign (.var 11) (.comp (.var 0) (.val (.attr (.var 0) 5)) [(.chain (.sub (.var 0) (.lit (.int (0)))) [(.le,(.bin .sub (.var 1) (.lit (.int (1))))),(.lt,(.sub (.var 0) (.lit (.int (1)))))])] [4]),
     .ite (.chain (.var 11) [(.eq,(.list []))]) [.ret (.tup [(.bin .add (.var 2) (.list [(.lit (.str "thrown"))])),(.var 5)])] [],
     .assign (.tup [(.var 4),(.var 3)]) (.tup [(.sub (.sub (.var 11) (.lit (.int (0)))) (.lit (.int (2)))),(.bin .add (.upto (.var 3) (.sub (.sub (.var 11) (.lit (.int (0)))) (.lit (.int (3))))) (.list [(.lit (.bool true))]))])] []]] [.ite (.chain (.var 8) [(.eq,(.lit (.int (6))))]) [.expr (.meth .pop (.var 3) [])] [.assign (.var 12) (.or [(.chain (.var 8) [(.eq,(.lit (.int (58))))]),(.chain (.sub (.var 3) (.bin .sub (.bi .len (.var 3)) (.lit (.int (1))))) [(.eq,(.chain (.var 8) [(.isIn,(.tup [(.lit (.int (60))),(.lit (.int (62)))]))]))])]),
    .ite (.or [(.chain (.var 8) [(.isIn,(.tup [(.lit (.int (59))),(.lit (.int (60)))]))]),(.and [(.chain (.var 8) [(.gt,(.lit (.int (60))))]),(.not (.var 12))])]) [.expr (.meth .pop (.var 3) [])] [],
    .assign (.var 4) (.ife (.var 12) (.var 9) (.var 4))]]],
 .ret (.tup [(.var 2),(.var 5)])]
noncomputable def b44:List PS:=[.assign (.var 2) (.list []),
 .while_ (.chain (.sub (.sub (.var 0) (.var 1)) (.lit (.int (0)))) [(.eq,(.lit (.int (58))))]) [.ite (.chain (.var 1) [(.isIn,(.var 2))]) [.ret (.tup [(.var 2),(.lit (.none))])] [],
  .expr (.meth .append (.var 2) [(.var 1)]),
  .assign (.var 1) (.sub (.sub (.var 0) (.var 1)) (.lit (.int (1))))],
 .ret (.tup [(.var 2),(.var 1)])]
noncomputable def b45:List PS:=[.for_ (.tup [(.var 1),(.var 2)]) (.val (.attr (.var 0) 2)) [.ite (.chain (.lit (.int (58))) [(.le,(.var 1)),(.lt,(.lit (.int (63))))]) [.assign (.tup [(.var 3),(.var 4)]) (.call 44 [(.attr (.var 0) 2),(.var 2)]),
   .ite (.and [(.chain (.var 3) [(.ne,(.list []))]),(.chain (.var 4) [(.isNot,(.lit (.none)))])]) [.ret (.lit (.bool false))] [],
   .ite (.and [(.chain (.var 1) [(.gt,(.lit (.int (60))))]),(.chain (.var 4) [(.isNot,(.lit (.none)))]),(.chain (.sub (.sub (.attr (.var 0) 2) (.var 4)) (.lit (.int (0)))) [(.isIn,(.tup [(.lit (.int (6))),(.lit (.int (59))),(.lit (.int (60))),(.lit (.int (61))),(.lit (.int (62)))]))])]) [.ite (.not (.call 46 [(.attr (.var 0) 2),(.var 1),(.var 4)])) [.ret (.lit (.bool false))] []] []] []],
 .ret (.lit (.bool true))]
noncomputable def b46:List PS:=[.assign (.var 3) (.list []),
 .while_ (.chain (.var 2) [(.notIn,(.var 3))]) [.expr (.meth .append (.var 3) [(.var 2)]),
  .ite (.chain (.sub (.sub (.var 0) (.var 2)) (.lit (.int (0)))) [(.ne,(.var 1))]) [.ret (.lit (.bool false))] [],
  .assign (.var 2) (.sub (.call 44 [(.var 0),(.sub (.sub (.var 0) (.var 2)) (.lit (.int (1))))]) (.lit (.int (1)))),
  .ite (.chain (.var 2) [(.is,(.lit (.none)))]) [.ret (.lit (.bool true))] []],
 .ret (.lit (.bool true))]
noncomputable def b47:List PS:=[.assign (.tup [(.var 1),(.var 2)]) (.tup [(.list []),(.list [(.lit (.int (0)))])]),
 .while_ (.chain (.var 2) [(.ne,(.list []))]) [.assign (.var 3) (.meth .pop (.var 2) []),
  .ite (.or [(.chain (.var 3) [(.isIn,(.var 1))]),(.chain (.var 3) [(.ge,(.bi .len (.attr (.var 0) 2)))])]) [.cont] [],
  .expr (.meth .append (.var 1) [(.var 3)]),
  .assign (.tup [(.var 4),(.var 5)]) (.sub (.attr (.var 0) 2) (.var 3)),
  .ite (.and [(.chain (.var 4) [(.eq,(.lit (.int (58))))]),(.chain (.var 5) [(.eq,(.bin .add (.var 3) (.lit (.int (1)))))])]) [.ret (.lit (.bool false))] [],
  .expr (.meth .extend (.var 2) [(.ife (.chain (.lit (.int (58))) [(.le,(.var 4)),(.lt,(.lit (.int (63))))]) (.list [(.var 5)]) (.list []))]),
  .expr (.meth .extend (.var 2) [(.ife (.chain (.var 4) [(.notIn,(.tup [(.lit (.int (58))),(.lit (.int (65)))]))]) (.list [(.bin .add (.var 3) (.lit (.int (1))))]) (.list []))]),
  .expr (.meth .extend (.var 2) [(.upto (.comp (.sub (.var 0) (.lit (.int (2)))) (.val (.attr (.var 0) 5)) [(.chain (.sub (.var 0) (.lit (.int (0)))) [(.le,(.var 1)),(.lt,(.sub (.var 0) (.lit (.int (1)))))])] [3]) (.lit (.int (1))))])],
 .ret (.chain (.bi .len (.var 1)) [(.eq,(.bi .len (.attr (.var 0) 2)))])]
noncomputable def b48:List PS:=[.ret (.bi .repr (.list [(.attr (.var 0) 2),(.attr (.var 0) 5),(.attr (.var 0) 6),(.attr (.var 0) 3)]))]
noncomputable def b49:List PS:=[.assign (.var 2) (.list [(.comp (.bi .abs (.bi .int (.var 0))) (.val (.upto (.var 0) (.lit (.int (40))))) [] []),(.lit (.int (13)))]),
 .for_ (.var 1) (.val (.upto (.var 0) (.lit (.int (40))))) [.assign (.sub (.var 2) (.lit (.int (1)))) (.bin .mod (.bin .add (.bin .mul (.sub (.var 2) (.lit (.int (1)))) (.lit (.int (37)))) (.bi .abs (.bi .int (.var 1)))) (.lit (.int (1000003))))],
 .assign (.var 3) (.call 42 [(.var 2)]),
 .assign (.tup [(.var 4),(.var 5)]) (.tup [(.call 48 [(.var 3)]),(.comp (.call 39 [(.var 1),(.lit (.int (12)))]) (.range1 (.lit (.int (11)))) [] [2])]),
 .ite (.not (.call 38 [(.var 3)])) [.ret (.lit (.bool false))] [],
 .assign (.tup [(.var 6),(.var 7)]) (.tup [(.call 14 [(.var 3)]),(.call 20 [(.var 3)])]),
 .assign (.tup [(.var 8),(.var 9)]) (.tup [(.call 20 [(.var 6)]),(.call 14 [(.var 7)])]),
 .ite (.or [(.not (.call 45 [(.var 6)])),(.not (.call 47 [(.var 7)])),(.not (.call 47 [(.var 8)]))]) [.ret (.lit (.bool false))] [],
 .ite (.chain (.call 48 [(.call 14 [(.var 6)])]) [(.ne,(.call 48 [(.var 6)]))]) [.ret (.lit (.bool false))] [],
 .ite (.chain (.call 48 [(.call 20 [(.var 8)])]) [(.ne,(.call 48 [(.var 8)]))]) [.ret (.lit (.bool false))] [],
 .assign (.var 10) (.call 43 [(.var 3),(.var 5)]),
 .for_ (.var 11) (.val (.tup [(.var 6),(.var 7),(.var 8),(.var 9)])) [.assign (.var 12) (.call 43 [(.var 11),(.var 5)]),
  .ite (.or [(.chain (.sub (.var 12) (.lit (.int (0)))) [(.ne,(.sub (.var 10) (.lit (.int (0)))))]),(.chain (.sub (.var 12) (.lit (.int (1)))) [(.gt,(.sub (.var 10) (.lit (.int (1)))))]),(.not (.call 38 [(.var 11)]))]) [.ret (.lit (.bool false))] [],
  .ite (.or [(.chain (.comp (.var 0) (.val (.attr (.var 11) 6)) [(.chain (.var 0) [(.notIn,(.attr (.var 1) 6))])] [3]) [(.ne,(.list []))]),(.chain (.bi .len (.attr (.var 11) 6)) [(.ne,(.bi .len (.attr (.var 11) 2)))])]) [.ret (.lit (.bool false))] []],
 .ret (.chain (.call 48 [(.var 3)]) [(.eq,(.var 4))])]
noncomputable abbrev n0:Nat:=3
noncomputable abbrev n1:Nat:=1
noncomputable abbrev n2:Nat:=2
noncomputable abbrev n3:Nat:=1
noncomputable abbrev n4:Nat:=1
noncomputable abbrev n5:Nat:=2
noncomputable abbrev n6:Nat:=2
noncomputable abbrev n7:Nat:=13
noncomputable abbrev n8:Nat:=3
noncomputable abbrev n9:Nat:=3
noncomputable abbrev n10:Nat:=3
noncomputable abbrev n11:Nat:=5
noncomputable abbrev n12:Nat:=6
noncomputable abbrev n13:Nat:=4
noncomputable abbrev n14:Nat:=1
noncomputable abbrev n15:Nat:=10
noncomputable abbrev n16:Nat:=4
noncomputable abbrev n17:Nat:=5
noncomputable abbrev n18:Nat:=7
noncomputable abbrev n19:Nat:=2
noncomputable abbrev n20:Nat:=1
noncomputable abbrev n21:Nat:=1
noncomputable abbrev n22:Nat:=2
noncomputable abbrev n23:Nat:=6
noncomputable abbrev n24:Nat:=3
noncomputable abbrev n25:Nat:=5
noncomputable abbrev n26:Nat:=2
noncomputable abbrev n27:Nat:=5
noncomputable abbrev n28:Nat:=3
noncomputable abbrev n29:Nat:=3
noncomputable abbrev n30:Nat:=4
noncomputable abbrev n31:Nat:=4
noncomputable abbrev n32:Nat:=2
noncomputable abbrev n33:Nat:=10
noncomputable abbrev n34:Nat:=2
noncomputable abbrev n35:Nat:=8
noncomputable abbrev n36:Nat:=2
noncomputable abbrev n37:Nat:=3
noncomputable abbrev n38:Nat:=1
noncomputable abbrev n39:Nat:=2
noncomputable abbrev n40:Nat:=6
noncomputable abbrev n41:Nat:=6
noncomputable abbrev n42:Nat:=13
noncomputable abbrev n43:Nat:=13
noncomputable abbrev n44:Nat:=3
noncomputable abbrev n45:Nat:=5
noncomputable abbrev n46:Nat:=4
noncomputable abbrev n47:Nat:=6
noncomputable abbrev n48:Nat:=1
noncomputable abbrev n49:Nat:=13
end Mine.Internal
set_option maxRecDepth 100000
namespace Mine.Internal
open PySem PySem.W PyProof.Rows PySem.Calls
noncomputable def faL:List Nat:=[135,149,156,163,170,177,184,191,198,203,214,221,228,235,242,249,256,261,266,273,280,288,295,302,309,316,323,330,337,344,351,358,365,372,379,386,393,400,407,414,421,428,433,438,445,452,459,464,471,476]
noncomputable def fa(n:Nat):Addr:=faL[n]?.getD 135
noncomputable def parsL:List (List String):=[["self","name","params"],["op"],["op","arg"],["op"],["op"],["unit"],["unit","pc"],["unit","rows","places","handlers"],["unit","code"],["unit","change"],["code","place"],["code","op","place"],["code","op","arg"],["unit"],["unit"],["unit","pc"],["unit"],["unit","live","pc"],["unit"],["unit"],["unit"],["value"],["unit","kind"],["unit","pc"],["unit","place"],["unit"],["one","other"],["unit"],["handlers","pc"],["handler","stack"],["unit","pc","stack"],["taken_things","pc","is_hole_let"],["op","pushed"],["unit","pc","stack"],["things","pc"],["unit"],["unit"],["unit"],["unit"],["box","many"],["box","many","landings","code"],["box","at","many","landings","code"],["box"],["unit","words"],["code","place"],["unit"],["code","op","place"],["unit"],["unit"],["script"]]
noncomputable def pars(n:Nat):List Str:=(parsL[n]?.getD []).map Str.ofString
noncomputable def cxK(K:Params→Frag)(w:World):Cx:=⟨PySem.Challenge.pw_nt0377_01,w,K w.params,138,fa,fieldsU⟩
noncomputable def vTy:Value→Option String
 | .type t=>some t
 |_=>none
noncomputable def vBt:Value→Option String
 | .builtin t=>some t
 |_=>none
noncomputable def vRef:Value→Option Addr
 | .ref t=>some t
 |_=>none
noncomputable def dSeq:Data→Option (Array Value)
 | .seq xs _=>some xs
 |_=>none
noncomputable def dDict:Data→Option (Array DictEntry)
 | .dict xs _=>some xs
 |_=>none
noncomputable def dFn:Data→Option FuncData
 | .func xs=>some xs
 |_=>none
theorem vTy_is{v:Value}{t:String}(h:vTy v=some t):v=.type t:=by
 cases v with
 |type x=>exact congrArg _ (Option.some.inj h)
 |_=>exact nN h
theorem vBt_is{v:Value}{t:String}(h:vBt v=some t):v=.builtin t:=by
 cases v with
 |builtin x=>exact congrArg _ (Option.some.inj h)
 |_=>exact nN h
theorem vRef_is{v:Value}{t:Addr}(h:vRef v=some t):v=.ref t:=by
 cases v with
 |ref x=>exact congrArg _ (Option.some.inj h)
 |_=>exact nN h
theorem dSeq_is{v:Data}{t:Array Value}(h:dSeq v=some t):∃n,v=.seq t n:=by
 cases v with
 |seq x n=>exact⟨n,congrArg (Data.seq · n) (Option.some.inj h)⟩
 |_=>exact nN h
theorem dDict_is{v:Data}{t:Array DictEntry}(h:dDict v=some t):∃n,v=.dict t n:=by
 cases v with
 |dict x n=>exact⟨n,congrArg (Data.dict · n) (Option.some.inj h)⟩
 |_=>exact nN h
theorem dFn_is{v:Data}{t:FuncData}(h:dFn v=some t):v=.func t:=by
 cases v with
 |func x=>exact congrArg _ (Option.some.inj h)
 |_=>exact nN h
noncomputable def fdAt(K:Frag)(a:Addr):Option FuncData:=opP (K.lookup a) none fun o=>dFn o.data
noncomputable def stmtsOf(fd:FuncData):Option (List Stmt):=match fd.body with
 | .stmts b=>some b
 |_=>none
noncomputable def isLC(k:Option NameKind):Bool:=match k with
 |some .local=>true
 |some .cell=>true
 |_=>false
noncomputable def isFnKind:ScopeKind→Bool
 | .function=>true
 |_=>false
noncomputable def isFree:NameKind→Bool
 | .free=>true
 |_=>false
noncomputable def fnChk(K:Frag)(a:Addr)(ps:List Str):Bool:=opP (fdAt K a) false fun fd=>codeIn K fd.code fd.qualname&&fd.closure.isEmpty&&Nat.beq fd.globals mainGlobals&&Nat.beq fd.builtins builtinsNs&& !fd.scope.isCoroutine&& !fd.scope.isGenerator&&isFnKind fd.scope.kind
   &&fd.scope.names.all (fun p=> !isFree p.2)&&decide (slotsOf fd.scope.names).Nodup&&decide (ps=(slotsOf fd.scope.names).take ps.length)&&ps.all (fun n=>isLC (fd.scope.names.lookup n))
   &&(stmtsOf fd).isSome
noncomputable def comp(K:Frag)(a:Addr):List PS×Nat:=opP (fdAt K a) ([],0) fun fd=>(((stmtsOf fd).getD []).map (cS 40 ⟨fd.scope.names,slotsOf fd.scope.names,globV,fieldsU,true⟩),(slotsOf fd.scope.names).length)
noncomputable abbrev bindOk(K:Frag)(a:Addr)(ps:List Str)(vals:List Value):Prop:=(fdAt K a).map (fun fd=>bindArgs fd ⟨vals,[]⟩)=some (pure (ps.zip vals))
noncomputable def all2{α β:Type}(f:α→β→Bool):List α→List β→Bool
 |[],r=>r.isEmpty
 |a::l,r=>opP r.head? false fun b=>f a b&&all2 f l r.tail
noncomputable def isTy(s:String)(v:Value):Bool:=opP (vTy v) false fun t=>t==s
noncomputable def entOk(f:PV→Value→Bool):List Int→List PV→List DictEntry→Bool
 |[],ps,es=>ps.isEmpty&&es.isEmpty
 |k::ks,ps,es=>opP ps.head? false fun p=>opP es.head? false fun e=>Value.isInt k e.key&&(decide (e.hash=hashInt k)&&(f p e.val&&entOk f ks ps.tail es.tail))
noncomputable def atV(K:Frag)(v:Value)(f:Addr→Obj→Bool):Bool:=opP (vRef v) false fun a=>opP (K.lookup a) false fun o=>f a o
noncomputable def bare(s:String)(o:Obj):Bool:=isTy s o.cls&&(o.dict.isNone&&o.slots.toList.isEmpty)
noncomputable def topB(K:Frag):Nat→PV→Value→Bool
 |0,_,_=>false
 |n+1,p,v=>match p with
  | .int i=>Value.isInt i v
  | .str x=>Value.isStrOf x v
  | .tup l=>atV K v fun _ o=>opP (dSeq o.data) false fun xs=>isTy "tuple" o.cls&&(decide (xs.toList.length≤lineN)&&all2 (topB K n) l xs.toList)
  | .list l=>atV K v fun _ o=>opP (dSeq o.data) false fun xs=>bare "list" o&&(decide (xs.toList.length≤lineN)&&all2 (topB K n) l xs.toList)
  | .dict ks l=>atV K v fun a o=>opP (dDict o.data) false fun es=>bare "dict" o&&(decide (a≠1)&&(decide ks.Nodup&&entOk (topB K n) ks l es.toList))
  |_=>false
noncomputable def isSN(o:Option (Option Value)):Bool:=opP o false Option.isNone
noncomputable def isBt(id:String)(o:Option Value):Bool:=opP o false fun v=>opP (vBt v) false fun t=>t==id
noncomputable def isTt(id:String)(o:Option Value):Bool:=opP o false (isTy id)
noncomputable def ntName(x:Str):Bool:=decide (x≠ "__name__")
noncomputable def biB:Bi→Option Value→Bool
 | .len,v=>isBt "len" v
 | .abs,v=>isBt "abs" v
 | .all,v=>isBt "all" v
 | .repr,v=>isBt "repr" v
 | .int,v=>isTt "int" v
 | .list,v=>isTt "list" v
 | .str,v=>isTt "str" v
noncomputable def globB(K:Frag)(x:Str)(g:GV):Bool:=match g with
 | .val p=>opP (nsIn K mainGlobals x) false fun o=>opP o false (topB K 4 p)
 | .fn n=>opP (nsIn K mainGlobals x) false fun o=>opP o false fun v=>opP (vRef v) false fun a=>Nat.beq a (fa n)
 | .unit=>opP (nsIn K mainGlobals x) false fun o=>opP o false fun v=>opP (vRef v) false fun a=>Nat.beq a 138
 | .bi b=>isSN (nsIn K mainGlobals x)&&ntName x&&biB b (bootBuiltins x)
 | .isinst=>isSN (nsIn K mainGlobals x)&&ntName x&&isBt "isinstance" (bootBuiltins x)
 | .ty T=>isSN (nsIn K mainGlobals x)&&ntName x&&isTt T (bootBuiltins x)
 | .range=>isSN (nsIn K mainGlobals x)&&ntName x&&isTt "range" (bootBuiltins x)
 | .enum=>isSN (nsIn K mainGlobals x)&&ntName x&&isTt "enumerate" (bootBuiltins x)
noncomputable def clsB(o:Option ClassData):Bool:=opP o false fun cd=>cd.hasDict
noncomputable def bsL:List (List PS×Nat):=[(b0,n0),(b1,n1),(b2,n2),(b3,n3),(b4,n4),(b5,n5),(b6,n6),(b7,n7),(b8,n8),(b9,n9),(b10,n10),(b11,n11),(b12,n12),(b13,n13),(b14,n14),(b15,n15),(b16,n16),(b17,n17),(b18,n18),(b19,n19),(b20,n20),(b21,n21),(b22,n22),(b23,n23),(b24,n24),(b25,n25),(b26,n26),(b27,n27),(b28,n28),(b29,n29),(b30,n30),(b31,n31),(b32,n32),(b33,n33),(b34,n34),(b35,n35),(b36,n36),(b37,n37),(b38,n38),(b39,n39),(b40,n40),(b41,n41),(b42,n42),(b43,n43),(b44,n44),(b45,n45),(b46,n46),(b47,n47),(b48,n48),(b49,n49)]
noncomputable def bindA(K:Frag)(vs:List Value)(i:Nat):Option (Sem (List (Str×Value))):=(fdAt K (fa i)).map fun fd=>bindArgs fd ⟨vs.take (pars i).length,[]⟩
noncomputable def bindB(vs:List Value)(i:Nat):Option (Sem (List (Str×Value))):=some (pure ((pars i).zip (vs.take (pars i).length)))
theorem parsLe:∀i,i<50→(pars i).length≤5:=fun i h=>of_decide_eq_true (List.all_eq_true.mp (show(List.range 50).all (fun i=>decide ((pars i).length≤5))=true by rfl) i (List.mem_range.mpr h))
structure KOk(K:Params→Frag):Prop where
 uCls:∀P,clsB (clsIn (K P) 138)=true
 uNo:∀P,fieldsU.all (fun f=>isSN (findIn (K P) (.ref 138) f))=true
 uGa:∀P,findIn (K P) (.ref 138) "__getattribute__"=some (some (.builtin "object.__getattribute__"))
 uSa:∀P,findIn (K P) (.ref 138) "__setattr__"=some (some (.builtin "object.__setattr__"))
 uPl:∀P,plainOver (K P) 138=true
 uMk:∀P,makesIn (K P) 138=true
 uIn:∀P,findIn (K P) (.ref 138) "__init__"=some (some (.ref 135))
 uFn:∀P,typeIn (K P) (.ref 135)=some (.type "function")
 keepU:∀P,keepIn (K P) (.ref 138)=true
 glo:∀P,globV.all (fun p=>globB (K P) p.1 p.2)=true
 chk:∀P,(List.range 50).all (fun i=>fnChk (K P) (fa i) (pars i))=true
 bnd:∀P v0 v1 v2 v3 v4,(List.range 50).map (bindA (K P) [v0,v1,v2,v3,v4])=(List.range 50).map (bindB [v0,v1,v2,v3,v4])
 com:∀P,(List.range 50).map (fun i=>comp (K P) (fa i))=bsL
theorem fa_of(n:Nat):∃i,i<50∧fa n=fa i:=by
 by_cases h:n<50
 .exact⟨n,h,rfl⟩
 .refine⟨0,by exact Nat.le_add_left _ _,?_⟩
  have:faL[n]? =none:=List.getElem?_eq_none (by show 50≤n;exact Nat.not_lt.mp h)
  unfold fa
  rw[this]
  rfl
theorem nil_of{α:Type}{r:List α}(h:r.isEmpty=true):r=[]:=List.isEmpty_iff.mp h
theorem all2_c{α β:Type}{f:α→β→Bool}{a:α}{l:List α}{r:List β}(h:all2 f (a::l) r=true):∃b r',r=b::r'∧f a b=true∧all2 f l r'=true:=by
 refine x1_1 (op_true h) fun b hb h=>?_
 obtain⟨h1,h2⟩:=ba h
 cases r with
 |nil=>exact nN hb
 |cons c r=>exact⟨c,r,rfl,Option.some.inj hb▸h1,h2⟩
theorem isTy_is{s:String}{v:Value}(h:isTy s v=true):v=.type s:=by
 refine x1_1 (op_true h) fun t h1 h2=>?_
 exact eq_of_beq h2▸vTy_is h1
section
variable {C:Cx} {X:Nat→Prop} {h:Heap} {mu:List (Nat×Nat)}
theorem vrels_of{f:PV→Value→Bool}(hf:∀p v,f p v=true→VRel C X h mu p v):∀{l:List PV}{r:List Value},all2 f l r=true→VRels C X h mu l r
 |[],r,e=>nil_of e
 |a::l,r,e=>by
  refine x2_1 (all2_c e) fun b r' zE zR=>?_;subst zE;refine x0_1 zR fun e1 e2=>?_
  exact VRels.cons (hf _ _ e1) (vrels_of hf e2)
theorem ents_of{f:PV→Value→Bool}(hf:∀p v,f p v=true→VRel C X h mu p v):∀{ks:List Int}{l:List PV}{es:List DictEntry},entOk f ks l es=true→
  VRels C X h mu l (es.map (·.val))∧Pairs (intKind C.prog C.w) es (ks.zip (es.map (·.val)))∧(∀e∈es,∃k,(intKind C.prog C.w).is k e.key=true∧e.hash=(intKind C.prog C.w).hash k)∧(ks.zip (es.map (·.val))).map (·.1)=ks
 |[],l,es,e=>by
  obtain⟨h1,h2⟩:=ba e
  obtain rfl:=nil_of h1
  obtain rfl:=nil_of h2
  exact⟨VRels.nil,Pairs.nil,fun e he=>nM he,rfl⟩
 |k::ks,l,es,e=>by
  refine x1_1 (op_true e) fun p hp e=>?_
  refine x1_1 (op_true e) fun d hd e=>?_
  obtain⟨e1,e⟩:=ba e
  obtain⟨e2,e⟩:=ba e
  obtain⟨e3,e9⟩:=ba e
  cases l with
  |nil=>exact nN hp
  |cons p' ps=>cases es with
   |nil=>exact nN hd
   |cons d' es=>
    obtain rfl:=Option.some.inj hp
    obtain rfl:=Option.some.inj hd
    refine x0_3 (ents_of hf e9) fun i1 i2 i3 i4=>?_
    refine⟨VRels.cons (hf _ _ e3) i1,Pairs.cons e1 rfl i2,fun x hx=>?_,congrArg (List.cons k) i4⟩
    rcases List.mem_cons.mp hx with rfl|hx
    .exact⟨k,e1,of_decide_eq_true e2⟩
    .exact i3 x hx
end
theorem atV_is{K:Frag}{v:Value}{f:Addr→Obj→Bool}(h:atV K v f=true):∃a o,v=.ref a∧K.lookup a=some o∧f a o=true:=by
 refine x1_1 (op_true h) fun a h1 h=>?_
 refine x1_1 (op_true h) fun o h2 h=>?_
 exact⟨a,o,vRef_is h1,h2,h⟩
theorem bare_is{s:String}{o:Obj}(h:bare s o=true):o={cls:=.type s,data:=o.data}:=by
 obtain⟨h1,h⟩:=ba h
 obtain⟨h2,h3⟩:=ba h
 obtain⟨c,d,da,sl⟩:=o
 obtain rfl:c=_:=isTy_is h1
 obtain rfl:d=_:=Option.isNone_iff_eq_none.mp h2
 rw[show sl= #[]from Array.toList_inj.mp (nil_of h3)]
theorem topB_ok{C:Cx}{h:Heap}(X:C.K.In h):∀(n:Nat)(p:PV)(v:Value),topB C.K n p v=true→VRel C (fun a=>C.K.lookup a=none) h [] p v
 |0,p,v,e=>nF e
 |n+1,p,v,e=>by
  have ih:=topB_ok X n
  have nn:∀{a:Addr}{o:Obj},C.K.lookup a=some o→¬C.K.lookup a=none:=fun ho z=>nS (ho.symm.trans z)
  cases p with
  |int i=>exact Value.isInt_shape e
  |str i=>exact Value.isStrOf_shape e
  |tup l=>
   refine x2_2 (atV_is e) fun a o ev ho e=>?_
   refine x1_1 (op_true e) fun xs hd e=>?_
   obtain⟨m,hd⟩:=dSeq_is hd
   obtain⟨e1,e⟩:=ba e
   obtain⟨e2,e⟩:=ba e
   exact⟨a,xs.toList,ev,nn ho,⟨o,X _ _ ho,isTy_is e1,m,hd⟩,of_decide_eq_true e2,vrels_of ih e⟩
  |list l=>
   refine x2_2 (atV_is e) fun a o ev ho e=>?_
   refine x1_1 (op_true e) fun xs hd e=>?_
   obtain⟨m,hd⟩:=dSeq_is hd
   obtain⟨e1,e⟩:=ba e
   obtain⟨e2,e⟩:=ba e
   exact⟨a,xs.toList,m,ev,nn ho,(X _ _ ho).trans (congrArg some (hd▸bare_is e1)),of_decide_eq_true e2,vrels_of ih e⟩
  |dict ks l=>
   refine x2_2 (atV_is e) fun a o ev ho e=>?_
   refine x1_1 (op_true e) fun xs hd e=>?_
   obtain⟨m,hd⟩:=dDict_is hd
   obtain⟨e1,e⟩:=ba e
   obtain⟨e2,e⟩:=ba e
   obtain⟨e3,e⟩:=ba e
   refine x0_3 (ents_of ih e) fun i1 i2 i3 i4=>?_
   exact⟨a,xs.toList.map (·.val),ev,nn ho,of_decide_eq_true e2,i1,dictOf_map ⟨_,xs,m,(X _ _ ho).trans (congrArg some (hd▸bare_is e1)),⟨rfl,rfl,rfl⟩,rfl,fun x hx=>i3 x (Array.mem_toList_iff.mpr hx),i2,i4.symm▸of_decide_eq_true e3⟩⟩
  |_=>exact nF e
theorem isSN_is{o:Option (Option Value)}(h:isSN o=true):o=some none:=by
 refine x1_1 (op_true h) fun t h1 h2=>?_
 exact h1.trans (congrArg some (Option.isNone_iff_eq_none.mp h2))
theorem isBt_is{id:String}{o:Option Value}(h:isBt id o=true):o=some (.builtin id):=by
 refine x1_1 (op_true h) fun v h1 h=>?_
 refine x1_1 (op_true h) fun t h2 h=>?_
 exact h1.trans (congrArg some (eq_of_beq h▸vBt_is h2))
theorem isTt_is{id:String}{o:Option Value}(h:isTt id o=true):o=some (.type id):=by
 refine x1_1 (op_true h) fun v h1 h=>?_
 exact h1.trans (congrArg some (isTy_is h))
theorem biB_is{b:Bi}{o:Option Value}(h:biB b o=true):o=some b.fn:=by
 cases b
 .exact isBt_is h
 .exact isBt_is h
 .exact isTt_is h
 .exact isTt_is h
 .exact isBt_is h
 .exact isBt_is h
 .exact isTt_is h
theorem globB_ok{K:Params→Frag}{w:World}{x:Str}{g:GV}(h:globB (K w.params) x g=true):GlobV (cxK K w) x g:=by
 have rf:∀{n:Nat},(opP (nsIn (K w.params) mainGlobals x) false fun o=>opP o false fun v=>opP (vRef v) false fun a=>Nat.beq a n)=true→nsIn (K w.params) mainGlobals x=some (some (.ref n)):=fun{n} h=>by
  refine x1_1 (op_true h) fun o h1 h=>?_
  refine x1_1 (op_true h) fun v h2 h=>?_
  refine x1_1 (op_true h) fun a h3 h=>?_
  rw[h1,h2,vRef_is h3,Nat.eq_of_beq_eq_true h]
 have tp:∀{P:Bool},(isSN (nsIn (K w.params) mainGlobals x)&&ntName x&&P)=true→nsIn (K w.params) mainGlobals x=some none∧x≠ "__name__"∧P=true:=fun{P} h=>
  ⟨isSN_is (ba (ba h).1).1,of_decide_eq_true (ba (ba h).1).2,(ba h).2⟩
 cases g with
 |val p=>
  refine x1_1 (op_true h) fun o h1 h=>?_
  refine x1_1 (op_true h) fun v h2 h=>?_
  exact⟨v,h1.trans (congrArg some h2),fun hp X=>topB_ok X 4 p v h⟩
 |fn n=>exact rf h
 |unit=>exact rf h
 |bi b=>exact⟨(tp h).1,(tp h).2.1,biB_is (tp h).2.2⟩
 |isinst=>exact⟨(tp h).1,(tp h).2.1,isBt_is (tp h).2.2⟩
 |ty T=>exact⟨(tp h).1,(tp h).2.1,isTt_is (tp h).2.2⟩
 |range=>exact⟨(tp h).1,(tp h).2.1,isTt_is (tp h).2.2⟩
 |enum=>exact⟨(tp h).1,(tp h).2.1,isTt_is (tp h).2.2⟩
theorem lookup_mem'{α:Type}{x:Str}{g:α}:∀{l:List (Str×α)},l.lookup x=some g→(x,g)∈l
 |[],e=>nN e
 |(y,a)::r,e=>by
  rw[List.lookup_cons]at e
  split at e
  .rename_i hq;obtain rfl:=Option.some.inj e;rw[beq_iff_eq.mp hq];exact .head _
  .exact .tail _ (lookup_mem' e)
theorem fdAt_is{K:Frag}{a:Addr}{fd:FuncData}(h:fdAt K a=some fd):∃o,K.lookup a=some o∧o.data=.func fd:=by
 refine x1_1 (op_some h) fun o h1 h=>?_
 exact⟨o,h1,dFn_is h⟩
theorem stmtsOf_is{fd:FuncData}{b:List Stmt}(h:stmtsOf fd=some b):fd.body=.stmts b:=by
 unfold stmtsOf at h
 split at h
 .rename_i e;obtain rfl:=Option.some.inj h;exact e
 .exact nN h
theorem isLC_is{k:Option NameKind}(h:isLC k=true):k=some .local∨k=some .cell:=by
 unfold isLC at h
 split at h
 .exact .inl rfl
 .exact .inr rfl
 .exact nF h
theorem isFnKind_is{k:ScopeKind}(h:isFnKind k=true):k=.function:=by cases k<;>first|rfl|exact nF h
theorem fns_nodup:fieldsU.Nodup:=by decide+kernel
theorem notCopied:∀f∈fieldsU,copiedNames.contains f=false:=by decide+kernel
theorem fnOk_of{C:Cx}{f:Nat}{ps:List Str}{m:Nat}(hm:ps.length=m)(hc:fnChk C.K (C.fa f) ps=true)(hb:∀vals:List Value,vals.length=m→bindOk C.K (C.fa f) ps vals):
  ∃fd b,fdAt C.K (C.fa f)=some fd∧stmtsOf fd=some b∧FnOk C f ps fd.scope.names b:=by
 refine x1_1 (op_true hc) fun fd e hc=>?_
 simp only[Bool.and_eq_true,Bool.not_eq_true',decide_eq_true_eq,List.isEmpty_iff,Nat.beq_eq,List.all_eq_true]at hc
 obtain⟨⟨⟨⟨⟨⟨⟨⟨⟨⟨⟨h1,h2⟩,h3⟩,h4⟩,h5⟩,h6⟩,h7⟩,h8⟩,h9⟩,h10⟩,h11⟩,h12⟩:=hc
 obtain⟨b,hbb⟩:=Option.isSome_iff_exists.mp h12
 refine x1_1 (fdAt_is e) fun o ho hd=>?_
 refine⟨fd,b,e,hbb,⟨⟨o,fd,ho,hd,h1,stmtsOf_is hbb,rfl,h2,h3,h4,fun vals hv=>?_,h5,h6,isFnKind_is h7⟩,fun p hp=>?_,h9,h10,fun n hn=>isLC_is (h11 n hn)⟩⟩
 .have:=hb vals (hv.trans hm)
  unfold bindOk at this
  rw[e]at this
  exact Option.some.inj this
 .have:=h8 p hp
  intro z
  rw[z]at this
  exact nT this
section
variable {K:Params→Frag}
theorem cxOk(H:KOk K)(w:World):CxOk (cxK K w) globV where
 unit:={
  few:=by show fieldsU.length≤100;decide
  nodup:=fns_nodup
  cls:=by
   exact op_true (H.uCls w.params)
  noattr:=fun f hf=>isSN_is (List.all_eq_true.mp (H.uNo w.params) f hf)
  notcopied:=notCopied
  ga:=H.uGa w.params
  sa:=H.uSa w.params
  plain:=H.uPl w.params
  makes:=H.uMk w.params
  init:=H.uIn w.params
  initfn:=H.uFn w.params}
 glob:=fun x g e=>globB_ok (List.all_eq_true.mp (H.glo w.params) (x,g) (lookup_mem' e))
 fns:=fun n=>by
  refine x1_1 (fa_of n) fun i hi e=>?_
  have h:=List.all_eq_true.mp (H.chk w.params) i (List.mem_range.mpr hi)
  refine x1_1 (op_true h) fun fd hf _=>?_
  refine x1_1 (fdAt_is hf) fun o ho hd=>?_
  exact⟨o,fd,by show(K w.params).lookup (fa n)=some o;rw[e];exact ho,hd⟩
 keepU:=H.keepU w.params
theorem take5{vals:List Value}(h:vals.length≤5):[vals.getD 0 .none,vals.getD 1 .none,vals.getD 2 .none,vals.getD 3 .none,vals.getD 4 .none].take vals.length=vals:=by
 cases vals with
 |nil=>rfl
 |cons a l=>
  refine congrArg (List.cons a) ?_
  cases l with
  |nil=>rfl
  |cons b l=>
   refine congrArg (List.cons b) ?_
   cases l with
   |nil=>rfl
   |cons c l=>
    refine congrArg (List.cons c) ?_
    cases l with
    |nil=>rfl
    |cons d l=>
     refine congrArg (List.cons d) ?_
     cases l with
     |nil=>rfl
     |cons e l=>cases l with
      |nil=>rfl
      |cons f l=>exact absurd (Nat.le_of_ble_eq_true (Nat.ble_eq.mpr h)) (Nat.not_le.mpr (Nat.le_add_left 6 l.length))
theorem bind_of(H:KOk K){w:World}{f:Nat}(hf:f<50):∀vals:List Value,vals.length=(pars f).length→bindOk (K w.params) (fa f) (pars f) vals:=fun vals hv=>by
 have e:=List.map_inj_left.mp (H.bnd w.params (vals.getD 0 .none) (vals.getD 1 .none) (vals.getD 2 .none) (vals.getD 3 .none) (vals.getD 4 .none)) f (List.mem_range.mpr hf)
 unfold bindA bindB at e
 rw[←hv,take5 (hv▸parsLe f hf)]at e
 exact e
theorem com_of(H:KOk K){w:World}{f n:Nat}{b:List PS}(hf:f<50)(hc:bsL[f]? =some (b,n)):comp (K w.params) (fa f)=(b,n):=by
 have e:=congrArg (fun l=>l[f]?) (H.com w.params)
 rw[hc,List.getElem?_map,List.getElem?_range hf]at e
 exact Option.some.inj e
theorem use_of(H:KOk K){w:World}{f n:Nat}{b:List PS}{d:Nat}{args:List PV}{sto:Sto}{Q:PV→Sto→Prop}(hf:f<50)(hc:bsL[f]? =some (b,n))(hargs:args.length=(pars f).length)(h1:1≤d)
  (h:wpSs (cxK K w) d b (retQ sto.length Q) ⟨args.map some++List.replicate (n-args.length) none,sto⟩):CallOK (cxK K w) (d+1) f args sto Q:=by
 replace hc:=com_of H (w:=w) hf hc
 have hchk:fnChk (cxK K w).K ((cxK K w).fa f) (pars f)=true:=List.all_eq_true.mp (H.chk w.params) f (List.mem_range.mpr hf)
 refine x2_2 (fnOk_of rfl hchk (bind_of H hf)) fun fd body e1 e2 ok=>?_
 have e1':fdAt (K w.params) (fa f)=some fd:=e1
 replace hc:=(op_at e1').symm.trans hc
 rw[e2]at hc
 obtain⟨c1,c2⟩:=Prod.mk.inj hc
 refine call_ok (n:=40) (cxOk H w) ok hargs h1 ?_
 show wpSs (cxK K w) d (body.map (cS 40 ⟨fd.scope.names,slotsOf fd.scope.names,globV,fieldsU,true⟩)) (retQ sto.length Q) ⟨rho0 args (slotsOf fd.scope.names),sto⟩
 have c1':body.map (cS 40 ⟨fd.scope.names,slotsOf fd.scope.names,globV,fieldsU,true⟩)=b:=c1
 rw[c1']
 unfold rho0
 rw[c2]
 exact h
theorem use0(H:KOk K){w:World}{d:Nat}{a0 a1 a2:PV}{sto:Sto}{Q:PV→Sto→Prop}(h1:1≤d)
  (h:wpSs (cxK K w) d b0 (retQ sto.length Q) ⟨[some a0,some a1,some a2],sto⟩):CallOK (cxK K w) (d+1) 0 [a0,a1,a2] sto Q:=
 use_of H (by decide) rfl rfl h1 h
theorem use1(H:KOk K){w:World}{d:Nat}{a0:PV}{sto:Sto}{Q:PV→Sto→Prop}(h1:1≤d)
  (h:wpSs (cxK K w) d b1 (retQ sto.length Q) ⟨[some a0],sto⟩):CallOK (cxK K w) (d+1) 1 [a0] sto Q:=
 use_of H (by decide) rfl rfl h1 h
theorem use2(H:KOk K){w:World}{d:Nat}{a0 a1:PV}{sto:Sto}{Q:PV→Sto→Prop}(h1:1≤d)
  (h:wpSs (cxK K w) d b2 (retQ sto.length Q) ⟨[some a0,some a1],sto⟩):CallOK (cxK K w) (d+1) 2 [a0,a1] sto Q:=
 use_of H (by decide) rfl rfl h1 h
theorem use3(H:KOk K){w:World}{d:Nat}{a0:PV}{sto:Sto}{Q:PV→Sto→Prop}(h1:1≤d)
  (h:wpSs (cxK K w) d b3 (retQ sto.length Q) ⟨[some a0],sto⟩):CallOK (cxK K w) (d+1) 3 [a0] sto Q:=
 use_of H (by decide) rfl rfl h1 h
theorem use4(H:KOk K){w:World}{d:Nat}{a0:PV}{sto:Sto}{Q:PV→Sto→Prop}(h1:1≤d)
  (h:wpSs (cxK K w) d b4 (retQ sto.length Q) ⟨[some a0],sto⟩):CallOK (cxK K w) (d+1) 4 [a0] sto Q:=
 use_of H (by decide) rfl rfl h1 h
theorem use5(H:KOk K){w:World}{d:Nat}{a0:PV}{sto:Sto}{Q:PV→Sto→Prop}(h1:1≤d)
  (h:wpSs (cxK K w) d b5 (retQ sto.length Q) ⟨[some a0,none],sto⟩):CallOK (cxK K w) (d+1) 5 [a0] sto Q:=
 use_of H (by decide) rfl rfl h1 h
theorem use6(H:KOk K){w:World}{d:Nat}{a0 a1:PV}{sto:Sto}{Q:PV→Sto→Prop}(h1:1≤d)
  (h:wpSs (cxK K w) d b6 (retQ sto.length Q) ⟨[some a0,some a1],sto⟩):CallOK (cxK K w) (d+1) 6 [a0,a1] sto Q:=
 use_of H (by decide) rfl rfl h1 h
theorem use7(H:KOk K){w:World}{d:Nat}{a0 a1 a2 a3:PV}{sto:Sto}{Q:PV→Sto→Prop}(h1:1≤d)
  (h:wpSs (cxK K w) d b7 (retQ sto.length Q) ⟨[some a0,some a1,some a2,some a3,none,none,none,none,none,none,none,none,none],sto⟩):CallOK (cxK K w) (d+1) 7 [a0,a1,a2,a3] sto Q:=
 use_of H (by decide) rfl rfl h1 h
theorem use8(H:KOk K){w:World}{d:Nat}{a0 a1:PV}{sto:Sto}{Q:PV→Sto→Prop}(h1:1≤d)
  (h:wpSs (cxK K w) d b8 (retQ sto.length Q) ⟨[some a0,some a1,none],sto⟩):CallOK (cxK K w) (d+1) 8 [a0,a1] sto Q:=
 use_of H (by decide) rfl rfl h1 h
theorem use9(H:KOk K){w:World}{d:Nat}{a0 a1:PV}{sto:Sto}{Q:PV→Sto→Prop}(h1:1≤d)
  (h:wpSs (cxK K w) d b9 (retQ sto.length Q) ⟨[some a0,some a1,none],sto⟩):CallOK (cxK K w) (d+1) 9 [a0,a1] sto Q:=
 use_of H (by decide) rfl rfl h1 h
theorem use10(H:KOk K){w:World}{d:Nat}{a0 a1:PV}{sto:Sto}{Q:PV→Sto→Prop}(h1:1≤d)
  (h:wpSs (cxK K w) d b10 (retQ sto.length Q) ⟨[some a0,some a1,none],sto⟩):CallOK (cxK K w) (d+1) 10 [a0,a1] sto Q:=
 use_of H (by decide) rfl rfl h1 h
theorem use11(H:KOk K){w:World}{d:Nat}{a0 a1 a2:PV}{sto:Sto}{Q:PV→Sto→Prop}(h1:1≤d)
  (h:wpSs (cxK K w) d b11 (retQ sto.length Q) ⟨[some a0,some a1,some a2,none,none],sto⟩):CallOK (cxK K w) (d+1) 11 [a0,a1,a2] sto Q:=
 use_of H (by decide) rfl rfl h1 h
theorem use12(H:KOk K){w:World}{d:Nat}{a0 a1 a2:PV}{sto:Sto}{Q:PV→Sto→Prop}(h1:1≤d)
  (h:wpSs (cxK K w) d b12 (retQ sto.length Q) ⟨[some a0,some a1,some a2,none,none,none],sto⟩):CallOK (cxK K w) (d+1) 12 [a0,a1,a2] sto Q:=
 use_of H (by decide) rfl rfl h1 h
theorem use13(H:KOk K){w:World}{d:Nat}{a0:PV}{sto:Sto}{Q:PV→Sto→Prop}(h1:1≤d)
  (h:wpSs (cxK K w) d b13 (retQ sto.length Q) ⟨[some a0,none,none,none],sto⟩):CallOK (cxK K w) (d+1) 13 [a0] sto Q:=
 use_of H (by decide) rfl rfl h1 h
theorem use14(H:KOk K){w:World}{d:Nat}{a0:PV}{sto:Sto}{Q:PV→Sto→Prop}(h1:1≤d)
  (h:wpSs (cxK K w) d b14 (retQ sto.length Q) ⟨[some a0],sto⟩):CallOK (cxK K w) (d+1) 14 [a0] sto Q:=
 use_of H (by decide) rfl rfl h1 h
theorem use15(H:KOk K){w:World}{d:Nat}{a0 a1:PV}{sto:Sto}{Q:PV→Sto→Prop}(h1:1≤d)
  (h:wpSs (cxK K w) d b15 (retQ sto.length Q) ⟨[some a0,some a1,none,none,none,none,none,none,none,none],sto⟩):CallOK (cxK K w) (d+1) 15 [a0,a1] sto Q:=
 use_of H (by decide) rfl rfl h1 h
theorem use16(H:KOk K){w:World}{d:Nat}{a0:PV}{sto:Sto}{Q:PV→Sto→Prop}(h1:1≤d)
  (h:wpSs (cxK K w) d b16 (retQ sto.length Q) ⟨[some a0,none,none,none],sto⟩):CallOK (cxK K w) (d+1) 16 [a0] sto Q:=
 use_of H (by decide) rfl rfl h1 h
theorem use17(H:KOk K){w:World}{d:Nat}{a0 a1 a2:PV}{sto:Sto}{Q:PV→Sto→Prop}(h1:1≤d)
  (h:wpSs (cxK K w) d b17 (retQ sto.length Q) ⟨[some a0,some a1,some a2,none,none],sto⟩):CallOK (cxK K w) (d+1) 17 [a0,a1,a2] sto Q:=
 use_of H (by decide) rfl rfl h1 h
theorem use18(H:KOk K){w:World}{d:Nat}{a0:PV}{sto:Sto}{Q:PV→Sto→Prop}(h1:1≤d)
  (h:wpSs (cxK K w) d b18 (retQ sto.length Q) ⟨[some a0,none,none,none,none,none,none],sto⟩):CallOK (cxK K w) (d+1) 18 [a0] sto Q:=
 use_of H (by decide) rfl rfl h1 h
theorem use19(H:KOk K){w:World}{d:Nat}{a0:PV}{sto:Sto}{Q:PV→Sto→Prop}(h1:1≤d)
  (h:wpSs (cxK K w) d b19 (retQ sto.length Q) ⟨[some a0,none],sto⟩):CallOK (cxK K w) (d+1) 19 [a0] sto Q:=
 use_of H (by decide) rfl rfl h1 h
theorem use20(H:KOk K){w:World}{d:Nat}{a0:PV}{sto:Sto}{Q:PV→Sto→Prop}(h1:1≤d)
  (h:wpSs (cxK K w) d b20 (retQ sto.length Q) ⟨[some a0],sto⟩):CallOK (cxK K w) (d+1) 20 [a0] sto Q:=
 use_of H (by decide) rfl rfl h1 h
theorem use21(H:KOk K){w:World}{d:Nat}{a0:PV}{sto:Sto}{Q:PV→Sto→Prop}(h1:1≤d)
  (h:wpSs (cxK K w) d b21 (retQ sto.length Q) ⟨[some a0],sto⟩):CallOK (cxK K w) (d+1) 21 [a0] sto Q:=
 use_of H (by decide) rfl rfl h1 h
theorem use22(H:KOk K){w:World}{d:Nat}{a0 a1:PV}{sto:Sto}{Q:PV→Sto→Prop}(h1:1≤d)
  (h:wpSs (cxK K w) d b22 (retQ sto.length Q) ⟨[some a0,some a1],sto⟩):CallOK (cxK K w) (d+1) 22 [a0,a1] sto Q:=
 use_of H (by decide) rfl rfl h1 h
theorem use23(H:KOk K){w:World}{d:Nat}{a0 a1:PV}{sto:Sto}{Q:PV→Sto→Prop}(h1:1≤d)
  (h:wpSs (cxK K w) d b23 (retQ sto.length Q) ⟨[some a0,some a1,none,none,none,none],sto⟩):CallOK (cxK K w) (d+1) 23 [a0,a1] sto Q:=
 use_of H (by decide) rfl rfl h1 h
theorem use24(H:KOk K){w:World}{d:Nat}{a0 a1:PV}{sto:Sto}{Q:PV→Sto→Prop}(h1:1≤d)
  (h:wpSs (cxK K w) d b24 (retQ sto.length Q) ⟨[some a0,some a1,none],sto⟩):CallOK (cxK K w) (d+1) 24 [a0,a1] sto Q:=
 use_of H (by decide) rfl rfl h1 h
theorem use25(H:KOk K){w:World}{d:Nat}{a0:PV}{sto:Sto}{Q:PV→Sto→Prop}(h1:1≤d)
  (h:wpSs (cxK K w) d b25 (retQ sto.length Q) ⟨[some a0,none,none,none,none],sto⟩):CallOK (cxK K w) (d+1) 25 [a0] sto Q:=
 use_of H (by decide) rfl rfl h1 h
theorem use26(H:KOk K){w:World}{d:Nat}{a0 a1:PV}{sto:Sto}{Q:PV→Sto→Prop}(h1:1≤d)
  (h:wpSs (cxK K w) d b26 (retQ sto.length Q) ⟨[some a0,some a1],sto⟩):CallOK (cxK K w) (d+1) 26 [a0,a1] sto Q:=
 use_of H (by decide) rfl rfl h1 h
theorem use27(H:KOk K){w:World}{d:Nat}{a0:PV}{sto:Sto}{Q:PV→Sto→Prop}(h1:1≤d)
  (h:wpSs (cxK K w) d b27 (retQ sto.length Q) ⟨[some a0,none,none,none,none],sto⟩):CallOK (cxK K w) (d+1) 27 [a0] sto Q:=
 use_of H (by decide) rfl rfl h1 h
theorem use28(H:KOk K){w:World}{d:Nat}{a0 a1:PV}{sto:Sto}{Q:PV→Sto→Prop}(h1:1≤d)
  (h:wpSs (cxK K w) d b28 (retQ sto.length Q) ⟨[some a0,some a1,none],sto⟩):CallOK (cxK K w) (d+1) 28 [a0,a1] sto Q:=
 use_of H (by decide) rfl rfl h1 h
theorem use29(H:KOk K){w:World}{d:Nat}{a0 a1:PV}{sto:Sto}{Q:PV→Sto→Prop}(h1:1≤d)
  (h:wpSs (cxK K w) d b29 (retQ sto.length Q) ⟨[some a0,some a1,none],sto⟩):CallOK (cxK K w) (d+1) 29 [a0,a1] sto Q:=
 use_of H (by decide) rfl rfl h1 h
theorem use30(H:KOk K){w:World}{d:Nat}{a0 a1 a2:PV}{sto:Sto}{Q:PV→Sto→Prop}(h1:1≤d)
  (h:wpSs (cxK K w) d b30 (retQ sto.length Q) ⟨[some a0,some a1,some a2,none],sto⟩):CallOK (cxK K w) (d+1) 30 [a0,a1,a2] sto Q:=
 use_of H (by decide) rfl rfl h1 h
theorem use31(H:KOk K){w:World}{d:Nat}{a0 a1 a2:PV}{sto:Sto}{Q:PV→Sto→Prop}(h1:1≤d)
  (h:wpSs (cxK K w) d b31 (retQ sto.length Q) ⟨[some a0,some a1,some a2,none],sto⟩):CallOK (cxK K w) (d+1) 31 [a0,a1,a2] sto Q:=
 use_of H (by decide) rfl rfl h1 h
theorem use32(H:KOk K){w:World}{d:Nat}{a0 a1:PV}{sto:Sto}{Q:PV→Sto→Prop}(h1:1≤d)
  (h:wpSs (cxK K w) d b32 (retQ sto.length Q) ⟨[some a0,some a1],sto⟩):CallOK (cxK K w) (d+1) 32 [a0,a1] sto Q:=
 use_of H (by decide) rfl rfl h1 h
theorem use33(H:KOk K){w:World}{d:Nat}{a0 a1 a2:PV}{sto:Sto}{Q:PV→Sto→Prop}(h1:1≤d)
  (h:wpSs (cxK K w) d b33 (retQ sto.length Q) ⟨[some a0,some a1,some a2,none,none,none,none,none,none,none],sto⟩):CallOK (cxK K w) (d+1) 33 [a0,a1,a2] sto Q:=
 use_of H (by decide) rfl rfl h1 h
theorem use35(H:KOk K){w:World}{d:Nat}{a0:PV}{sto:Sto}{Q:PV→Sto→Prop}(h1:1≤d)
  (h:wpSs (cxK K w) d b35 (retQ sto.length Q) ⟨[some a0,none,none,none,none,none,none,none],sto⟩):CallOK (cxK K w) (d+1) 35 [a0] sto Q:=
 use_of H (by decide) rfl rfl h1 h
theorem use36(H:KOk K){w:World}{d:Nat}{a0:PV}{sto:Sto}{Q:PV→Sto→Prop}(h1:1≤d)
  (h:wpSs (cxK K w) d b36 (retQ sto.length Q) ⟨[some a0,none],sto⟩):CallOK (cxK K w) (d+1) 36 [a0] sto Q:=
 use_of H (by decide) rfl rfl h1 h
theorem use37(H:KOk K){w:World}{d:Nat}{a0:PV}{sto:Sto}{Q:PV→Sto→Prop}(h1:1≤d)
  (h:wpSs (cxK K w) d b37 (retQ sto.length Q) ⟨[some a0,none,none],sto⟩):CallOK (cxK K w) (d+1) 37 [a0] sto Q:=
 use_of H (by decide) rfl rfl h1 h
theorem use38(H:KOk K){w:World}{d:Nat}{a0:PV}{sto:Sto}{Q:PV→Sto→Prop}(h1:1≤d)
  (h:wpSs (cxK K w) d b38 (retQ sto.length Q) ⟨[some a0],sto⟩):CallOK (cxK K w) (d+1) 38 [a0] sto Q:=
 use_of H (by decide) rfl rfl h1 h
theorem use39(H:KOk K){w:World}{d:Nat}{a0 a1:PV}{sto:Sto}{Q:PV→Sto→Prop}(h1:1≤d)
  (h:wpSs (cxK K w) d b39 (retQ sto.length Q) ⟨[some a0,some a1],sto⟩):CallOK (cxK K w) (d+1) 39 [a0,a1] sto Q:=
 use_of H (by decide) rfl rfl h1 h
theorem use40(H:KOk K){w:World}{d:Nat}{a0 a1 a2 a3:PV}{sto:Sto}{Q:PV→Sto→Prop}(h1:1≤d)
  (h:wpSs (cxK K w) d b40 (retQ sto.length Q) ⟨[some a0,some a1,some a2,some a3,none,none],sto⟩):CallOK (cxK K w) (d+1) 40 [a0,a1,a2,a3] sto Q:=
 use_of H (by decide) rfl rfl h1 h
theorem use41(H:KOk K){w:World}{d:Nat}{a0 a1 a2 a3 a4:PV}{sto:Sto}{Q:PV→Sto→Prop}(h1:1≤d)
  (h:wpSs (cxK K w) d b41 (retQ sto.length Q) ⟨[some a0,some a1,some a2,some a3,some a4,none],sto⟩):CallOK (cxK K w) (d+1) 41 [a0,a1,a2,a3,a4] sto Q:=
 use_of H (by decide) rfl rfl h1 h
theorem use42(H:KOk K){w:World}{d:Nat}{a0:PV}{sto:Sto}{Q:PV→Sto→Prop}(h1:1≤d)
  (h:wpSs (cxK K w) d b42 (retQ sto.length Q) ⟨[some a0,none,none,none,none,none,none,none,none,none,none,none,none],sto⟩):CallOK (cxK K w) (d+1) 42 [a0] sto Q:=
 use_of H (by decide) rfl rfl h1 h
theorem use43(H:KOk K){w:World}{d:Nat}{a0 a1:PV}{sto:Sto}{Q:PV→Sto→Prop}(h1:1≤d)
  (h:wpSs (cxK K w) d b43 (retQ sto.length Q) ⟨[some a0,some a1,none,none,none,none,none,none,none,none,none,none,none],sto⟩):CallOK (cxK K w) (d+1) 43 [a0,a1] sto Q:=
 use_of H (by decide) rfl rfl h1 h
theorem use44(H:KOk K){w:World}{d:Nat}{a0 a1:PV}{sto:Sto}{Q:PV→Sto→Prop}(h1:1≤d)
  (h:wpSs (cxK K w) d b44 (retQ sto.length Q) ⟨[some a0,some a1,none],sto⟩):CallOK (cxK K w) (d+1) 44 [a0,a1] sto Q:=
 use_of H (by decide) rfl rfl h1 h
theorem use45(H:KOk K){w:World}{d:Nat}{a0:PV}{sto:Sto}{Q:PV→Sto→Prop}(h1:1≤d)
  (h:wpSs (cxK K w) d b45 (retQ sto.length Q) ⟨[some a0,none,none,none,none],sto⟩):CallOK (cxK K w) (d+1) 45 [a0] sto Q:=
 use_of H (by decide) rfl rfl h1 h
theorem use46(H:KOk K){w:World}{d:Nat}{a0 a1 a2:PV}{sto:Sto}{Q:PV→Sto→Prop}(h1:1≤d)
  (h:wpSs (cxK K w) d b46 (retQ sto.length Q) ⟨[some a0,some a1,some a2,none],sto⟩):CallOK (cxK K w) (d+1) 46 [a0,a1,a2] sto Q:=
 use_of H (by decide) rfl rfl h1 h
theorem use47(H:KOk K){w:World}{d:Nat}{a0:PV}{sto:Sto}{Q:PV→Sto→Prop}(h1:1≤d)
  (h:wpSs (cxK K w) d b47 (retQ sto.length Q) ⟨[some a0,none,none,none,none,none],sto⟩):CallOK (cxK K w) (d+1) 47 [a0] sto Q:=
 use_of H (by decide) rfl rfl h1 h
theorem use48(H:KOk K){w:World}{d:Nat}{a0:PV}{sto:Sto}{Q:PV→Sto→Prop}(h1:1≤d)
  (h:wpSs (cxK K w) d b48 (retQ sto.length Q) ⟨[some a0],sto⟩):CallOK (cxK K w) (d+1) 48 [a0] sto Q:=
 use_of H (by decide) rfl rfl h1 h
end
end Mine.Internal
namespace Mine.Internal
open PySem PySem.W PyProof.Rows PySem.Calls
noncomputable def Ev(C:Cx)(d:Nat)(e:PE)(st:St)(v:PV)(st':St):Prop:=∀Q,Q v st'→wpE C d e Q st
noncomputable def EvEs(C:Cx)(d:Nat)(l:List PE)(st:St)(vs:List PV)(st':St):Prop:=∀Q,Q vs st'→wpEs C d l Q st
noncomputable def EvT(C:Cx)(d:Nat)(e:PE)(st:St)(b:Bool)(st':St):Prop:=∀Q,Q b st'→wpT C d e Q st
noncomputable def EvAll(C:Cx)(d:Nat)(all:Bool)(l:List PE)(st:St)(b:Bool)(st':St):Prop:=∀Q,Q b st'→wpAll C d all l Q st
noncomputable def EvC(C:Cx)(d:Nat)(x:PV)(l:List (Cop×PE))(st:St)(b:Bool)(st':St):Prop:=∀Q,Q b st'→wpC C d x l Q st
noncomputable def EvI(C:Cx)(d:Nat)(i:PI)(st:St)(s:Src)(st':St):Prop:=∀Q,Q s st'→wpI C d i Q st
noncomputable def Calls(C:Cx)(d f:Nat)(args:List PV)(sto:Sto)(v:PV)(sto':Sto):Prop:=∀Q,Q v sto'→CallOK C d f args sto Q
section
variable {C:Cx} {d:Nat} {st st₁ st₂ st₃:St} {a b e:PE} {x y v:PV} {l r:List PE} {vs:List PV} {Q:Out→St→Prop} {rho:List (Option PV)} {sto:Sto}
theorem ev_lit:Ev C d (.lit v) st v st:=fun Q h=>by exact h
theorem ev_var{x:Nat}(h:rho[x]? =some (some v)):Ev C d (.var x) ⟨rho,sto⟩ v ⟨rho,sto⟩:=fun Q q=>by
 exact⟨v,by show(rho[x]?).join=_;rw[h];rfl,q⟩
theorem ev_bin{op:Bop}(ha:Ev C d a st x st₁)(hb:Ev C d b st₁ y st₂)(h:binV op x y=some v):Ev C d (.bin op a b) st v st₂:=fun Q q=>by
 exact ha _ (hb _ (.inl ⟨v,h,q⟩))
theorem ev_cat{u w:List PV}(ha:Ev C d a st x st₁)(hb:Ev C d b st₁ y st₂)(hx:lstOf st₂.sto x=some u)(hy:lstOf st₂.sto y=some w)(hn:u.length+w.length≤lineN):Ev C d (.bin .add a b) st (.list (u++w)) st₂:=fun Q q=>by
 exact ha _ (hb _ (.inr ⟨rfl,u,hx,w,hy,hn,.inl q⟩))
theorem ev_and{z:Bool}(h:EvAll C d true l st z st₁):Ev C d (.and l) st (.bool z) st₁:=fun Q q=>by exact h _ q
theorem ev_or{z:Bool}(h:EvAll C d false l st z st₁):Ev C d (.or l) st (.bool z) st₁:=fun Q q=>by exact h _ q
theorem ev_ife{t:PE}{z:Bool}(ht:EvT C d t st z st₁)(h1:z=true→Ev C d a st₁ v st₂)(h2:z=false→Ev C d b st₁ v st₂):Ev C d (.ife t a b) st v st₂:=fun Q q=>by
 exact ht _ ⟨fun hz=>h1 hz _ q,fun hz=>h2 hz _ q⟩
theorem ev_ife_t{t:PE}(ht:EvT C d t st true st₁)(h1:Ev C d a st₁ v st₂):Ev C d (.ife t a b) st v st₂:=ev_ife ht (fun _=>h1) (fun h=>by contradiction)
theorem ev_ife_f{t:PE}(ht:EvT C d t st false st₁)(h1:Ev C d b st₁ v st₂):Ev C d (.ife t a b) st v st₂:=ev_ife ht (fun h=>by contradiction) (fun _=>h1)
theorem ev_chain{l:List (Cop×PE)}{z:Bool}(ha:Ev C d a st x st₁)(h:EvC C d x l st₁ z st₂):Ev C d (.chain a l) st (.bool z) st₂:=fun Q q=>by exact ha _ (h _ q)
theorem ev_tup(h:EvEs C d l st vs st₁):Ev C d (.tup l) st (.tup vs) st₁:=fun Q q=>by exact h _ q
theorem ev_listF(h:EvEs C d l st vs st₁):Ev C d (.list l) st (.list vs) st₁:=fun Q q=>by exact h _ (.inl q)
theorem ev_listL(h:EvEs C d l st vs ⟨rho,sto⟩):Ev C d (.list l) st (.ref sto.length) ⟨rho,sto++[.list vs]⟩:=fun Q q=>by exact h _ (.inr q)
theorem ev_dict0:Ev C d .dict0 ⟨rho,sto⟩ (.ref sto.length) ⟨rho,sto++[.dict []]⟩:=fun Q q=>by exact .inl q
theorem ev_tdict0:Ev C d .dict0 ⟨rho,sto⟩ (.ref sto.length) ⟨rho,sto++[.tdict []]⟩:=fun Q q=>by exact .inr q
theorem ev_dict1{k:Int}(ha:Ev C d a st (.int k) st₁)(hb:Ev C d b st₁ v ⟨rho,sto⟩):Ev C d (.dict1 a b) st (.ref sto.length) ⟨rho,sto++[.dict [(k,v)]]⟩:=fun Q q=>ha _ (hb _ ⟨k,rfl,q⟩)
theorem ev_call{f:Nat}{sto':Sto}(h:EvEs C d l st vs ⟨rho,sto⟩)(hc:Calls C d f vs sto v sto'):Ev C d (.call f l) st v ⟨rho,sto'⟩:=fun Q q=>by exact h _ (hc _ q)
theorem ev_callv{f g:Nat}{sto':Sto}(hg:st.rho[f]? =some (some (.fn g)))(h:EvEs C d l st vs ⟨rho,sto⟩)(hc:Calls C d g vs sto v sto'):Ev C d (.callv f l) st v ⟨rho,sto'⟩:=fun Q q=>⟨_,by rw[hg];rfl,g,rfl,h _ (hc _ q)⟩
theorem ev_unit{sto':Sto}(hd:3≤d)(h:EvEs C d l st vs ⟨rho,sto⟩)(hc:Calls C 2 0 (.ref sto.length::vs) (sto++[.inst []]) .none sto'):Ev C d (.unit l) st (.ref sto.length) ⟨rho,sto'⟩:=fun Q q=>by
 exact⟨hd,h _ (hc _ ⟨rfl,q⟩)⟩
theorem ev_len{n:Nat}(ha:Ev C d a st x st₁)(h:lenV st₁.sto x=some n):Ev C d (.bi .len a) st (.int n) st₁:=fun Q q=>by exact ha _ ⟨n,h,q⟩
theorem ev_abs{i:Int}(ha:Ev C d a st (.int i) st₁):Ev C d (.bi .abs a) st (.int (if i<0 then-i else i)) st₁:=fun Q q=>ha _ ⟨i,rfl,q⟩
theorem ev_int{i:Int}(ha:Ev C d a st (.int i) st₁):Ev C d (.bi .int a) st (.int i) st₁:=fun Q q=>ha _ ⟨i,rfl,q⟩
theorem ev_copy(ha:Ev C d a st x st₁)(h:lstOf st₁.sto x=some vs):Ev C d (.bi .list a) st (.list vs) st₁:=fun Q q=>by exact ha _ ⟨vs,h,.inl q⟩
theorem ev_allb{bs:List Bool}(ha:Ev C d a st (.list vs) st₁)(h:boolsOf vs=some bs):Ev C d (.bi .all a) st (.bool (bs.all id)) st₁:=fun Q q=>ha _ ⟨vs,bs,rfl,h,q⟩
theorem ev_repr{D:PyData}(ha:Ev C d a st x st₁)(h:dataOf st₁.sto x=some D)(h1:D.showable=true)(h2:D.depth≤64)(h3:D.shown.length≤lineN)(h4:D.hasDict=false)(h5:isDisplay D=true):Ev C d (.bi .repr a) st (.str D.shown) st₁:=fun Q q=>by
 exact ha _ ⟨D,h,h1,h2,h3,h4,h5,q⟩
theorem ev_str{D:PyData}(ha:Ev C d a st x st₁)(h:dataOf st₁.sto x=some D)(h1:D.showable=true)(h2:D.depth≤64)(h3:D.shown.length≤lineN)(h4:D.hasDict=false)(h5:isDisplay D=true):Ev C d (.bi .str a) st (.str D.shown) st₁:=fun Q q=>by
 exact ha _ ⟨D,h,h1,h2,h3,h4,h5,q⟩
theorem ev_isinst{t:String}{z:Bool}(ha:Ev C d a st x st₁)(h:isinstV t x=some z):Ev C d (.isinst t a) st (.bool z) st₁:=fun Q q=>by exact ha _ ⟨z,h,q⟩
theorem ev_attr{k:Nat}(ha:Ev C d a st x st₁)(h:attrV st₁.sto x k=some v):Ev C d (.attr a k) st v st₁:=fun Q q=>by exact ha _ ⟨v,h,q⟩
theorem ev_sub(ha:Ev C d a st x st₁)(hb:Ev C d b st₁ y st₂)(h:subV st₂.sto x y=some v):Ev C d (.sub a b) st v st₂:=fun Q q=>by exact ha _ (hb _ ⟨v,h,q⟩)
theorem ev_upto_t{k:Int}(ha:Ev C d a st (.tup vs) st₁)(hb:Ev C d b st₁ (.int k) st₂)(hk:okIdx k)(hl:k.toNat≤vs.length):Ev C d (.upto a b) st (.tup (vs.take k.toNat)) st₂:=fun Q q=>ha _ (hb _ ⟨k,rfl,hk,.inl ⟨vs,rfl,hl,q⟩⟩)
theorem ev_from_t{k:Int}(ha:Ev C d a st (.tup vs) st₁)(hb:Ev C d b st₁ (.int k) st₂)(hk:okIdx k)(hl:k.toNat≤vs.length):Ev C d (.from_ a b) st (.tup (vs.drop k.toNat)) st₂:=fun Q q=>ha _ (hb _ ⟨k,rfl,hk,.inl ⟨vs,rfl,hl,q⟩⟩)
theorem ev_upto_l{k:Int}(ha:Ev C d a st x st₁)(_:∀l,x≠.tup l)(hb:Ev C d b st₁ (.int k) st₂)(hk:okIdx k)(hl:lstOf st₂.sto x=some vs):Ev C d (.upto a b) st (.list (vs.take k.toNat)) st₂:=fun Q q=>ha _ (hb _ ⟨k,rfl,hk,.inr ⟨vs,hl,.inl q⟩⟩)
theorem ev_from_l{k:Int}(ha:Ev C d a st x st₁)(_:∀l,x≠.tup l)(hb:Ev C d b st₁ (.int k) st₂)(hk:okIdx k)(hl:lstOf st₂.sto x=some vs):Ev C d (.from_ a b) st (.list (vs.drop k.toNat)) st₂:=fun Q q=>ha _ (hb _ ⟨k,rfl,hk,.inr ⟨vs,hl,.inl q⟩⟩)
theorem es_nil:EvEs C d [] st [] st:=fun Q q=>by exact q
theorem es_cons(h:Ev C d e st v st₁)(hs:EvEs C d l st₁ vs st₂):EvEs C d (e::l) st (v::vs) st₂:=fun Q q=>by exact h _ (hs _ q)
theorem t_not{z:Bool}(h:EvT C d a st z st₁):EvT C d (.not a) st (!z) st₁:=fun Q q=>by exact h _ q
theorem t_and{z:Bool}(h:EvAll C d true l st z st₁):EvT C d (.and l) st z st₁:=fun Q q=>by exact h _ q
theorem t_or{z:Bool}(h:EvAll C d false l st z st₁):EvT C d (.or l) st z st₁:=fun Q q=>by exact h _ q
theorem t_chain{l:List (Cop×PE)}{z:Bool}(ha:Ev C d a st x st₁)(h:EvC C d x l st₁ z st₂):EvT C d (.chain a l) st z st₂:=fun Q q=>by exact ha _ (h _ q)
theorem t_call{f:Nat}{z:Bool}(h:Ev C d (.call f l) st (.bool z) st₁):EvT C d (.call f l) st z st₁:=fun Q q=>by exact h _ q
theorem t_var{i:Nat}{z:Bool}(h:Ev C d (.var i) st (.bool z) st₁):EvT C d (.var i) st z st₁:=fun Q q=>by exact h _ q
theorem t_sub{z:Bool}(h:Ev C d (.sub a b) st (.bool z) st₁):EvT C d (.sub a b) st z st₁:=fun Q q=>by exact h _ q
theorem t_isinst{t:String}{z:Bool}(h:Ev C d (.isinst t a) st (.bool z) st₁):EvT C d (.isinst t a) st z st₁:=fun Q q=>by exact h _ q
theorem all_nil{z:Bool}:EvAll C d z [] st z st:=fun Q q=>by exact q
theorem all_go{z y:Bool}(h:EvT C d e st z st₁)(hs:EvAll C d z l st₁ y st₂):EvAll C d z (e::l) st y st₂:=fun Q q=>by
 exact h _ ⟨fun _=>hs _ q,fun h=>by exact nomatch z<;>contradiction⟩
theorem all_stop{z:Bool}(h:EvT C d e st (!z) st₁):EvAll C d z (e::l) st (!z) st₁:=fun Q q=>by
 exact h _ (And.intro (fun h=>by exact nomatch z<;>contradiction) fun _=>q)
theorem and_go{y:Bool}(h:EvT C d e st true st₁)(hs:EvAll C d true l st₁ y st₂):EvAll C d true (e::l) st y st₂:=all_go h hs
theorem and_stop(h:EvT C d e st false st₁):EvAll C d true (e::l) st false st₁:=all_stop (z:=true) h
theorem or_go{y:Bool}(h:EvT C d e st false st₁)(hs:EvAll C d false l st₁ y st₂):EvAll C d false (e::l) st y st₂:=all_go h hs
theorem or_stop(h:EvT C d e st true st₁):EvAll C d false (e::l) st true st₁:=all_stop (z:=false) h
theorem all_last{z y:Bool}(h:EvT C d e st y st₁):EvAll C d z [e] st y st₁:=fun Q q=>by
 refine h _ ⟨fun hy=>?_,fun hy=>hy▸q⟩
 exact hy▸q
theorem c_go{op:Cop}{l:List (Cop×PE)}{z:Bool}(h:Ev C d e st y st₁)(hc:cmpV st₁.sto op x y=some true)(hs:EvC C d y l st₁ z st₂):EvC C d x ((op,e)::l) st z st₂:=fun Q q=>by
 exact h _ ⟨true,hc,fun _=>hs _ q,fun h=>by contradiction⟩
theorem c_stop{op:Cop}{l:List (Cop×PE)}(h:Ev C d e st y st₁)(hc:cmpV st₁.sto op x y=some false):EvC C d x ((op,e)::l) st false st₁:=fun Q q=>by
 exact h _ ⟨false,hc,And.intro (fun h=>by contradiction) fun _=>q⟩
theorem c_last{op:Cop}{z:Bool}(h:Ev C d e st y st₁)(hc:cmpV st₁.sto op x y=some z):EvC C d x [(op,e)] st z st₁:=fun Q q=>by
 refine h _ ⟨z,hc,fun hz=>?_,fun hz=>hz▸q⟩
 show Q true st₁;exact hz▸q
theorem c_two{op op':Cop}{e':PE}{y':PV}{z z':Bool}(h:Ev C d e st y st)(hc:cmpV st.sto op x y=some z)(h':Ev C d e' st y' st)(hc':cmpV st.sto op' y y'=some z'):EvC C d x [(op,e),(op',e')] st (z&&z') st:=by
 cases z with
 |true=>exact c_go h hc (c_last h' hc')
 |false=>exact c_stop h hc
theorem i_list(h:Ev C d e st (.list vs) st₁):EvI C d (.val e) st (.frozen vs) st₁:=fun Q q=>h _ (.inl ⟨vs,.inl rfl,q⟩)
theorem i_tup(h:Ev C d e st (.tup vs) st₁):EvI C d (.val e) st (.frozen vs) st₁:=fun Q q=>h _ (.inl ⟨vs,.inr rfl,q⟩)
theorem i_live{i:Nat}(h:Ev C d e st (.ref i) st₁)(hl:lstOf st₁.sto (.ref i)=some vs):EvI C d (.val e) st (.live i vs) st₁:=fun Q q=>h _ (.inr ⟨i,vs,rfl,hl,q⟩)
theorem i_range1{n:Int}(h:Ev C d e st (.int n) st₁)(h0:0≤n)(h1:n≤lineN):EvI C d (.range1 e) st (.frozen (rngI 0 n)) st₁:=fun Q q=>h _ ⟨n,rfl,h0,h1,q⟩
theorem i_range2{m n:Int}(ha:Ev C d a st (.int m) st₁)(h:Ev C d e st₁ (.int n) st₂)(h0:0≤m)(h1:m≤lineN)(h2:0≤n)(h3:n≤lineN):EvI C d (.range2 a e) st (.frozen (rngI m n)) st₂:=fun Q q=>ha _ (h _ ⟨m,n,rfl,rfl,h0,h1,h2,h3,q⟩)
theorem i_enum(h:Ev C d e st (.list vs) st₁):EvI C d (.enum e) st (.frozen (enumd vs)) st₁:=fun Q q=>h _ ⟨vs,rfl,q⟩
noncomputable def cont(C:Cx)(d:Nat)(r:List PS)(Q:Out→St→Prop)(o:Out)(st:St):Prop:=match o with
 | .next=>wpSs C d r Q st
 |o=>Q o st
theorem ss_nil(h:Q .next st):wpSs C d [] Q st:=by exact h
theorem ss_out{r:List PS}(h:wpSs C d r Q st):wpSs C d [] (cont C d r Q) st:=by exact h
theorem ss_var{i:Nat}{r:List PS}(he:Ev C d e st v ⟨rho,sto⟩)(h:wpSs C d r Q ⟨rho.set i (some v),sto⟩):wpSs C d (.assign (.var i) e::r) Q st:=by
 refine he _ ?_;exact h
theorem ss_assign{t:PT}{r:List PS}(he:Ev C d e st v st₁)(h:wpA C d t v (fun st=>wpSs C d r Q st) st₁):wpSs C d (.assign t e::r) Q st:=by
 exact he _ h
theorem ss_expr{r:List PS}(he:Ev C d e st v st₁)(h:wpSs C d r Q st₁):wpSs C d (.expr e::r) Q st:=by
 exact he _ h
theorem ss_ite{t:PE}{p q r:List PS}{z:Bool}(ht:EvT C d t st z st₁)(h1:z=true→wpSs C d p (cont C d r Q) st₁)(h2:z=false→wpSs C d q (cont C d r Q) st₁):wpSs C d (.ite t p q::r) Q st:=by
 exact ht _ ⟨h1,h2⟩
theorem ss_ite_t{t:PE}{p q r:List PS}(ht:EvT C d t st true st₁)(h:wpSs C d p (cont C d r Q) st₁):wpSs C d (.ite t p q::r) Q st:=ss_ite ht (fun _=>h) (fun h=>by contradiction)
theorem ss_ite_f{t:PE}{p q r:List PS}(ht:EvT C d t st false st₁)(h:wpSs C d q (cont C d r Q) st₁):wpSs C d (.ite t p q::r) Q st:=ss_ite ht (fun h=>by contradiction) (fun _=>h)
theorem ss_skip{t:PE}{p r:List PS}(ht:EvT C d t st false st₁)(h:wpSs C d r Q st₁):wpSs C d (.ite t p []::r) Q st:=ss_ite_f ht (ss_out h)
theorem ss_ret{r:List PS}(he:Ev C d e st v st₁)(h:Q (.ret v) st₁):wpSs C d (.ret e::r) Q st:=by
 exact he _ h
theorem ss_brk{r:List PS}(h:Q .brk st):wpSs C d (.brk::r) Q st:=by exact h
theorem ss_continue{r:List PS}(h:Q .cont st):wpSs C d (.cont::r) Q st:=by exact h
theorem ss_try{p r:List PS}(h:wpSs C d p (cont C d r Q) st):wpSs C d (.try_ p::r) Q st:=by exact h
noncomputable def turn(C:Cx)(d:Nat)(next:St→Prop)(r:List PS)(Q:Out→St→Prop)(o:Out)(st:St):Prop:=match o with
 | .next=>next st
 | .cont=>next st
 | .brk=>wpSs C d r Q st
 | .ret v=>Q (.ret v) st
theorem ss_for{t:PT}{src:PI}{body r:List PS}{S:Src}(I:Nat→St→Prop)(hs:EvI C d src st S st₁)(h0:I 0 st₁)
  (step:∀k x st,S.items[k]? =some x→I k st→S.ok st.sto∧wpA C d t x (fun st=>wpSs C d body (turn C d (I (k+1)) r Q) st) st)
  (fin:∀st,I S.items.length st→S.ok st.sto∧wpSs C d r Q st):wpSs C d (.for_ t src body::r) Q st:=by
 refine hs _ ⟨I,h0,fun k x st hx hi=>?_,fin⟩
 obtain⟨h1,h2⟩:=step k x st hx hi
 refine⟨h1,?_⟩
 have:(fun o st=>match o with
    | .next=>I (k+1) st
    | .cont=>I (k+1) st
    | .brk=>cont C d r Q .next st
    | .ret v=>cont C d r Q (.ret v) st)=turn C d (I (k+1)) r Q:=by funext o st;cases o<;>rfl
 exact this▸h2
theorem ss_while{t:PE}{body r:List PS}(I:Nat→St→Prop)(n:Nat)(h0:I n st)
  (step:∀n st,I n st→∃z st₁,EvT C d t st z st₁∧(z=true→wpSs C d body (turn C d (fun st=>∃m,m<n∧I m st) r Q) st₁)∧(z=false→wpSs C d r Q st₁)):wpSs C d (.while_ t body::r) Q st:=by
 refine⟨I,n,h0,fun n st hi=>?_⟩
 refine x2_2 (step n st hi) fun z st₁ ht h1 h2=>?_
 refine ht _ ⟨fun hz=>?_,h2⟩
 have:(fun o st=>match o with
    | .next=>∃m,m<n∧I m st
    | .cont=>∃m,m<n∧I m st
    | .brk=>cont C d r Q .next st
    | .ret v=>cont C d r Q (.ret v) st)=turn C d (fun st=>∃m,m<n∧I m st) r Q:=by funext o st;cases o<;>rfl
 exact this▸h1 hz
theorem ss_forF{t:PT}{src:PI}{body r:List PS}{l:List PV}(I:Nat→St→Prop)(hs:EvI C d src st (.frozen l) st₁)(h0:I 0 st₁)
  (step:∀k x st,l[k]? =some x→I k st→wpA C d t x (fun st=>wpSs C d body (turn C d (I (k+1)) r Q) st) st)
  (fin:∀st,I l.length st→wpSs C d r Q st):wpSs C d (.for_ t src body::r) Q st:=
 ss_for I hs h0 (fun k x st hx hi=>⟨trivial,step k x st hx hi⟩) fun st hi=>⟨trivial,fin st hi⟩
theorem a_var{i:Nat}{P:St→Prop}(h:P ⟨rho.set i (some v),sto⟩):wpA C d (.var i) v P ⟨rho,sto⟩:=by exact h
theorem a_tup{ts:List PT}{P:St→Prop}(hl:vs.length=ts.length)(h:wpAs C d ts vs P st):wpA C d (.tup ts) (.tup vs) P st:=by exact⟨vs,rfl,hl,h⟩
theorem as_nil{P:St→Prop}(h:P st):wpAs C d [] [] P st:=by exact h
theorem as_cons{t:PT}{ts:List PT}{P:St→Prop}(h:wpA C d t v (fun st=>wpAs C d ts vs P st) st):wpAs C d (t::ts) (v::vs) P st:=by exact⟨v,vs,rfl,h⟩
theorem a_attr{k i:Nat}{o o':SObj}{P:St→Prop}(h:Ev C d e st (.ref i) ⟨rho,sto⟩)(ho:sto[i]? =some o)(hp:putA o k v=some o')(q:P ⟨rho,sto.set i o'⟩):wpA C d (.attr e k) v P st:=by
 exact h _ ⟨i,o,o',rfl,ho,hp,q⟩
theorem a_sub{i:Nat}{o o':SObj}{P:St→Prop}(h:Ev C d e st (.ref i) st₁)(hb:Ev C d b st₁ y ⟨rho,sto⟩)(ho:sto[i]? =some o)(hp:putV o y v=some o')(q:P ⟨rho,sto.set i o'⟩):wpA C d (.sub e b) v P st:=by
 exact h _ (hb _ ⟨i,o,o',rfl,ho,hp,q⟩)
theorem live_of{sto:Sto}{i:Nat}{w:List PV}(h:sto[i]? =some (.list w)):liveList sto (.ref i):=by
 exact⟨i,w,rfl,h⟩
theorem m_append{i:Nat}{w:List PV}(h:Ev C d e st (.ref i) st₁)(ho:st₁.sto[i]? =some (.list w))(ha:Ev C d a st₁ v ⟨rho,sto⟩)(ho':sto[i]? =some (.list w))(hn:w.length<lineN):
  Ev C d (.meth .append e [a]) st .none ⟨rho,sto.set i (.list (w++[v]))⟩:=fun Q q=>by
 refine h _ ⟨live_of ho,?_⟩
 exact ha _ ⟨i,w,rfl,ho',v,rfl,hn,q⟩
theorem m_extend{i:Nat}{w u:List PV}(h:Ev C d e st (.ref i) st₁)(ho:st₁.sto[i]? =some (.list w))(ha:Ev C d a st₁ v ⟨rho,sto⟩)(ho':sto[i]? =some (.list w))(hu:lstOf sto v=some u)(hne:∀j,v=.ref j→j≠i)(hn:w.length+u.length≤lineN):
  Ev C d (.meth .extend e [a]) st .none ⟨rho,sto.set i (.list (w++u))⟩:=fun Q q=>by
 refine h _ ⟨live_of ho,?_⟩
 exact ha _ ⟨i,w,rfl,ho',v,u,rfl,hu,hne,hn,q⟩
theorem m_insert{i:Nat}{w:List PV}(h:Ev C d e st (.ref i) st₁)(ho:st₁.sto[i]? =some (.list w))(hb:Ev C d b st₁ (.int 0) st₂)(ha:Ev C d a st₂ v ⟨rho,sto⟩)(ho':sto[i]? =some (.list w))(hn:w.length<lineN):
  Ev C d (.meth .insert e [b,a]) st .none ⟨rho,sto.set i (.list (v::w))⟩:=fun Q q=>by
 refine h _ ⟨live_of ho,?_⟩
 exact hb _ (ha _ ⟨i,w,rfl,ho',v,rfl,hn,q⟩)
theorem m_pop{i:Nat}{w:List PV}(h:Ev C d e st (.ref i) ⟨rho,sto⟩)(ho:sto[i]? =some (.list (w++[v]))):
  Ev C d (.meth .pop e []) st v ⟨rho,sto.set i (.list w)⟩:=fun Q q=>by
 refine h _ ⟨live_of ho,?_⟩
 exact⟨i,w++[v],rfl,ho,.inl ⟨v,rfl,List.getLast?_concat,(List.dropLast_concat (l₁:=w) (b:=v)).symm▸q⟩⟩
theorem m_pop0{i:Nat}{w:List PV}(h:Ev C d e st (.ref i) ⟨rho,sto⟩)(ho:sto[i]? =some (.list (v::w)))(hb:Ev C d b ⟨rho,sto⟩ (.int 0) ⟨rho,sto⟩):
  Ev C d (.meth .pop e [b]) st v ⟨rho,sto.set i (.list w)⟩:=fun Q q=>by
 refine h _ ⟨live_of ho,?_⟩
 exact hb _ ⟨i,v::w,rfl,ho,.inr ⟨v,rfl,rfl,q⟩⟩
noncomputable def caps(rho:List (Option PV))(cs:List Nat):List (Option PV):=cs.map fun c=>(rho[c]?).join
theorem ev_comp{elt:PE}{src:PI}{ifs:List PE}{cs:List Nat}{l:List PV}(hs:EvI C d src st (.frozen l) ⟨rho,sto⟩)(hl:l.length≤lineN)(p:PV→Bool)(f:PV→PV)
  (hp:∀x∈l,EvAll C d true ifs ⟨some x::caps rho cs,sto⟩ (p x) ⟨some x::caps rho cs,sto⟩)
  (hf:∀x∈l,p x=true→Ev C d elt ⟨some x::caps rho cs,sto⟩ (f x) ⟨some x::caps rho cs,sto⟩):
  Ev C d (.comp elt src ifs cs) st (.list ((l.filter p).map f)) ⟨rho,sto⟩:=fun Q q=>by
 refine hs _ ⟨fun k acc sto'=>sto'=sto∧acc=((l.take k).filter p).map f∧k≤l.length,⟨rfl,rfl,Nat.zero_le _⟩,?_,?_⟩
 .rintro k x acc sto hx ⟨rfl,rfl,hk⟩
  have hx:l[k]? =some x:=hx
  have hm:x∈l:=List.mem_of_getElem? hx
  obtain⟨hlt,hge⟩:=List.getElem?_eq_some_iff.mp hx
  have ht:l.take (k+1)=l.take k++[x]:=by rw[List.take_succ,hx];rfl
  refine⟨trivial,hp x hm _ ⟨rfl,fun h=>hf x hm h _ ⟨rfl,?_,rfl,?_,hlt⟩,fun h=>⟨rfl,?_,hlt⟩⟩⟩
  .rw[List.length_map]
   refine Nat.lt_of_le_of_lt (List.length_filter_le _ _) ?_
   rw[List.length_take]
   exact o49 hl hlt
  .rw[ht];simp[h]
  .rw[ht];simp[h]
 .rintro acc sto ⟨rfl,rfl,_⟩
  refine⟨trivial,.inl ?_⟩
  have:l.take (Src.items (.frozen l)).length=l:=List.take_length
  rw[this]
  exact q
theorem ev_compS{elt:PE}{src:PI}{cs:List Nat}{l:List PV}(hs:EvI C d src st (.frozen l) ⟨rho,sto⟩)(hl:l.length≤lineN)(f:Nat→PV)(S:Nat→Sto)(h0:S 0=sto)
  (hf:∀(k:Nat)x,l[k]? =some x→Ev C d elt ⟨some x::caps rho cs,S k⟩ (f k) ⟨some x::caps rho cs,S (k+1)⟩):
  Ev C d (.comp elt src [] cs) st (.list ((List.range l.length).map f)) ⟨rho,S l.length⟩:=fun Q q=>by
 refine hs _ ⟨fun k acc sto=>sto=S k∧acc=(List.range k).map f∧k≤l.length,⟨h0.symm,rfl,Nat.zero_le _⟩,?_,?_⟩
 .rintro k x acc sto hx ⟨rfl,rfl,hk⟩
  have hx:l[k]? =some x:=hx
  obtain⟨hlt,hge⟩:=List.getElem?_eq_some_iff.mp hx
  refine⟨trivial,?_⟩
  refine⟨rfl,fun _=>hf k x hx _ ⟨rfl,?_,rfl,?_,hlt⟩,fun h=>by contradiction⟩
  .rw[List.length_map,List.length_range];exact Nat.le_trans hlt hl
  .rw[List.range_succ,List.map_append];rfl
 .rintro acc sto ⟨rfl,rfl,_⟩
  exact⟨trivial,.inl q⟩
end
end Mine.Internal
namespace Mine.Internal
open PySem PySem.W PyProof.Rows PySem.Calls
noncomputable abbrev EvP(C:Cx)(d:Nat)(e:PE)(st:St)(v:PV):Prop:=Ev C d e st v st
noncomputable abbrev EvTP(C:Cx)(d:Nat)(e:PE)(st:St)(b:Bool):Prop:=EvT C d e st b st
mutual
noncomputable def Below(n:Nat):PV→Prop
 | .ref i=>i<n
 | .tup l=>Belows n l
 | .list l=>Belows n l
 | .dict _ l=>Belows n l
 | .inst l=>Belows n l
 |_=>True
noncomputable def Belows(n:Nat):List PV→Prop
 |[]=>True
 |p::l=>Below n p∧Belows n l
end
noncomputable def BelowO(n:Nat):SObj→Prop
 | .list l=>Belows n l
 | .dict m=>Belows n (m.map Prod.snd)
 | .tdict m=>Belows n (m.map Prod.snd)
 | .inst l=>Belows n l
noncomputable def WfB(n:Nat)(B:Sto):Prop:=∀(j:Nat)o,B[j]? =some o→BelowO n o
theorem belows_iff{n:Nat}:∀{l:List PV},Belows n l↔∀p∈l,Below n p
 |[]=>by unfold Belows;simp
 |p::l=>by unfold Belows;rw[belows_iff];simp
theorem belows_map{α:Type}{n:Nat}{f:α→PV}(h:∀x,Below n (f x))(l:List α):Belows n (l.map f):=belows_iff.mpr fun p hp=>by
 refine x1_1 (List.mem_map.mp hp) fun x _ zL=>?_;subst zL;exact h x
mutual
theorem below_of{C:Cx}{X:Nat→Prop}{h:Heap}{mu:List (Nat×Nat)}:∀{p:PV}{v:Value},VRel C X h mu p v→Below mu.length p
 | .none,_,_=>by trivial
 | .bool _,_,_=>by trivial
 | .int _,_,_=>by trivial
 | .str _,_,_=>by trivial
 | .fn _,_,_=>by trivial
 | .ref i,v,x=>by
  refine x1_1 (vr_ref' x) fun p hp _=>?_
  exact(List.getElem?_eq_some_iff.mp hp).1
 | .tup l,v,x=>by refine x2_4 x fun a vs _ _ _ _ h=>?_;exact belows_of h
 | .list l,v,x=>by refine x3_4 x fun a vs n _ _ _ _ h=>?_;exact belows_of h
 | .dict ks l,v,x=>by refine x2_4 x fun a vs _ _ _ h _=>?_;exact belows_of h
 | .inst l,v,x=>by refine x3_4 x fun a dx vs _ _ _ _ h=>?_;exact belows_of h
theorem belows_of{C:Cx}{X:Nat→Prop}{h:Heap}{mu:List (Nat×Nat)}:∀{l:List PV}{vs:List Value},VRels C X h mu l vs→Belows mu.length l
 |[],_,_=>by trivial
 |p::l,vs,x=>by
  refine x2_2 x fun v r _ h1 h2=>?_
  exact⟨below_of h1,belows_of h2⟩
end
theorem trows_below{C:Cx}{X:Nat→Prop}{h:Heap}{mu:List (Nat×Nat)}:∀{m:List ((Str×Int)×PV)}{xs},TRows C X h mu m xs→Belows mu.length (m.map Prod.snd)
 |[],_,_=>by trivial
 |((s,i),p)::m,xs,x=>by
  refine x3_3 x fun a v r _ _ h1 h2=>?_
  show Belows _ (p::m.map Prod.snd)
  exact⟨below_of h1,trows_below h2⟩
theorem objRel_below{C:Cx}{X:Nat→Prop}{h:Heap}{mu:List (Nat×Nat)}{p:Nat×Nat}{o:SObj}(x:ObjRel C X h mu p o):BelowO mu.length o:=by
 cases o with
 |list l=>refine x0_1 x fun _ zR=>x2_2 zR fun vs n _ _ h=>?_;exact belows_of h
 |dict m=>refine x0_2 x fun _ _ zR=>x1_1 zR fun vs h _=>?_;exact belows_of h
 |tdict m=>refine x0_2 x fun _ _ zR=>x1_1 zR fun xs h _=>?_;exact trows_below h
 |inst l=>refine x1_1 x fun vs _ h=>?_;exact belows_of h
theorem CallOK.wf{C:Cx}{d f:Nat}{args:List PV}{sto:Sto}{Q:PV→Sto→Prop}(h:WfB sto.length sto→Belows sto.length args→CallOK C d f args sto Q):CallOK C d f args sto Q:=by
 intro F A s mu T rho vals r S V
 have hl:sto.length=mu.length:=S.len
 refine h (fun j o hj=>?_) (hl▸belows_of V) F A s mu T rho vals r S V
 have hlt:=(List.getElem?_eq_some_iff.mp hj).1
 rw[hl]at hlt ⊢
 exact objRel_below (S.objs j o mu[j] hj (List.getElem?_eq_getElem hlt))
mutual
theorem Below.mono{n m:Nat}(h:n≤m):∀{p:PV},Below n p→Below m p
 | .none,_=>by trivial
 | .bool _,_=>by trivial
 | .int _,_=>by trivial
 | .str _,_=>by trivial
 | .fn _,_=>by trivial
 | .ref i,x=>by exact Nat.le_trans x h
 | .tup l,x=>by exact Belows.mono h x
 | .list l,x=>by exact Belows.mono h x
 | .dict ks l,x=>by exact Belows.mono h x
 | .inst l,x=>by exact Belows.mono h x
theorem Belows.mono{n m:Nat}(h:n≤m):∀{l:List PV},Belows n l→Belows m l
 |[],_=>by trivial
 |p::l,x=>by exact⟨Below.mono h x.1,Belows.mono h x.2⟩
end
mutual
theorem Frz.refl{r:Nat→Option Nat}{sto:Sto}{n:Nat}(hr:∀i,i<n→r i=some i):∀{p:PV},Below n p→Frz r sto p p
 | .none,_=>.none
 | .bool b,_=>.bool b
 | .int i,_=>.int i
 | .str x,_=>.str x
 | .fn k,_=>.fn k
 | .ref i,x=>.keep (hr i (by exact x))
 | .tup l,x=>.tup (Frzs.refl hr (by exact x))
 | .list l,x=>.list (Frzs.refl hr (by exact x))
 | .dict ks l,x=>.dict (Frzs.refl hr (by exact x))
 | .inst l,x=>.inst (Frzs.refl hr (by exact x))
theorem Frzs.refl{r:Nat→Option Nat}{sto:Sto}{n:Nat}(hr:∀i,i<n→r i=some i):∀{l:List PV},Belows n l→Frzs r sto l l
 |[],_=>.nil
 |p::l,x=>.cons (Frz.refl hr (by exact x.1)) (Frzs.refl hr (by exact x.2))
end
theorem zip_self{α β:Type}:∀(m:List (α×β)),(m.map Prod.fst).zip (m.map Prod.snd)=m
 |[]=>rfl
 |(a,b)::m=>by simp[zip_self m]
theorem FrzO.refl{r:Nat→Option Nat}{sto:Sto}{n:Nat}(hr:∀i,i<n→r i=some i){o:SObj}(h:BelowO n o):FrzO r sto o o:=by
 cases o with
 |list l=>exact .list (Frzs.refl hr h)
 |inst l=>exact .inst (Frzs.refl hr h)
 |dict m=>have:=FrzO.dict (m:=m) (Frzs.refl (r:=r) (sto:=sto) hr h);rwa [zip_self]at this
 |tdict m=>have:=FrzO.tdict (m:=m) (Frzs.refl (r:=r) (sto:=sto) hr h);rwa [zip_self]at this
theorem ren_old{n0:Nat}{kept:List Nat}:∀i,i<n0→ren n0 kept i=some i:=fun i h=>by unfold ren;rw[if_pos h]
theorem ren_new{n0 i:Nat}{kept:List Nat}(h:n0+i∉kept):ren n0 kept (n0+i)=none:=by
 unfold ren
 rw[if_neg (by exact o50)]
 have:kept.idxOf? (n0+i)=none:=by
  cases q:kept.idxOf? (n0+i)with
  |none=>rfl
  |some k=>exact absurd (List.mem_of_getElem? (Sim.exitRet.idxOf_at q)) h
 rw[this];rfl
section
variable {n0:Nat} {B L:Sto} {kept:List Nat} {p p':PV} {Q:PV→Sto→Prop}
theorem frzs_old{l:List PV}(h:Belows n0 l):Frzs (ren n0 kept) (B++L) l l:=Frzs.refl ren_old h
theorem frzs_clean{l:List PV}(h:Belows 0 l):Frzs (ren n0 kept) (B++L) l l:=Frzs.refl ren_old (h.mono (Nat.zero_le _))
theorem frz_clean(h:Below 0 p):Frz (ren n0 kept) (B++L) p p:=Frz.refl ren_old (h.mono (Nat.zero_le _))
theorem loc_at{i:Nat}(hn:B.length=n0):(B++L)[n0+i]? =L[i]? :=by
 subst hn;rw[List.getElem?_append_right (by exact Nat.le_add_right _ _)];congr 1;exact o251
theorem frz_list{i:Nat}{l l':List PV}(hn:B.length=n0)(hi:L[i]? =some (.list l))(hk:n0+i∉kept)(h:Frzs (ren n0 kept) (B++L) l l'):Frz (ren n0 kept) (B++L) (.ref (n0+i)) (.list l'):=
 .rlist (ren_new hk) ((loc_at hn).trans hi) h
theorem frz_dict{i:Nat}{m:List (Int×PV)}{l':List PV}(hn:B.length=n0)(hi:L[i]? =some (.dict m))(hk:n0+i∉kept)(h:Frzs (ren n0 kept) (B++L) (m.map Prod.snd) l'):Frz (ren n0 kept) (B++L) (.ref (n0+i)) (.dict (m.map Prod.fst) l'):=
 .rdict (ren_new hk) ((loc_at hn).trans hi) h
theorem frz_inst{i:Nat}{l l':List PV}(hn:B.length=n0)(hi:L[i]? =some (.inst l))(hk:n0+i∉kept)(h:Frzs (ren n0 kept) (B++L) l l'):Frz (ren n0 kept) (B++L) (.ref (n0+i)) (.inst l'):=
 .rinst (ren_new hk) ((loc_at hn).trans hi) h
theorem ret_none(hn:B.length=n0)(wf:WfB n0 B)(hf:Frz (ren n0 []) (B++L) p p')(q:Q p' B):RetOK n0 (B++L) p Q:=by
 refine⟨[],List.nodup_nil,fun i h=>(by exact nM h),p',B,hf,hn,fun j o hj ho=>?_,fun j i o h=>(by exact nN h),q⟩
 rw[List.getElem?_append_left (by exact Nat.le_trans hj (Nat.le_of_eq hn.symm))]at ho
 exact⟨o,ho,FrzO.refl ren_old (wf j o ho)⟩
theorem ret_plain(hn:B.length=n0)(wf:WfB n0 B)(hc:Below 0 p)(q:Q p B):RetOK n0 B p Q:=by
 have:=ret_none (L:=[]) (Q:=Q) hn wf (frz_clean (kept:=[]) (n0:=n0) hc) q
 rwa [List.append_nil]at this
theorem ret_clean(hn:B.length=n0)(wf:WfB n0 B)(hc:Below 0 p)(q:Q p B):RetOK n0 (B++L) p Q:=ret_none hn wf (frz_clean hc) q
theorem ret_inst{i:Nat}{l l':List PV}(hn:B.length=n0)(wf:WfB n0 B)(hi:L[i]? =some (.inst l))(hf:Frzs (ren n0 [n0+i]) (B++L) l l')(q:Q (.ref n0) (B++[.inst l'])):RetOK n0 (B++L) (.ref (n0+i)) Q:=by
 have hlt:=(List.getElem?_eq_some_iff.mp hi).1
 refine⟨[n0+i],nd1,fun j h=>?_,.ref n0,B++[.inst l'],.keep ?_,by simp[hn],fun j o hj ho=>?_,fun j k o hk ho=>?_,q⟩
 .rw[List.mem_singleton]at h;subst h;rw[List.length_append];exact o51 hn hlt
 .unfold ren;rw[if_neg (by exact o50)];simp[List.idxOf?_cons]
 .rw[List.getElem?_append_left (by exact Nat.le_trans hj (Nat.le_of_eq hn.symm))]at ho
  exact⟨o,by rw[List.getElem?_append_left (by exact Nat.le_trans hj (Nat.le_of_eq hn.symm))];exact ho,FrzO.refl ren_old (wf j o ho)⟩
 .cases j with
  |succ j=>exact nN hk
  |zero=>
   simp at hk
   subst hk
   rw[loc_at hn,hi]at ho
   obtain rfl:=Option.some.inj ho
   exact⟨.inst l',by rw[Nat.add_zero, ←hn,List.getElem?_append_right (Nat.le_refl _)];simp,.inst hf⟩
theorem loc_set{i:Nat}{o:SObj}(hn:B.length=n0):(B++L).set (n0+i) o=B++L.set i o:=by
 subst hn;rw[List.set_append_right (s:=B) (t:=L) (i:=B.length+i) (x:=o) (by exact Nat.le_add_right _ _)];congr 2;exact o251
end
theorem Calls.of{C:Cx}{d k f:Nat}{args:List PV}{sto sto':Sto}{v:PV}(hd:k<d)(hk:1≤k)
  (h:∀d',k≤d'→WfB sto.length sto→Belows sto.length args→∀Q:PV→Sto→Prop,Q v sto'→CallOK C (d'+1) f args sto Q):Calls C d f args sto v sto':=fun Q q=>by
 obtain⟨d',rfl⟩:∃d',d=d'+1:=⟨d-1,by exact(Nat.sub_add_cancel (up hd rfl)).symm⟩
 exact CallOK.wf fun wf hb=>h d' (by exact Nat.le_of_succ_le_succ hd) wf hb Q q
theorem mul_v{i j:Int}(h: -9223372036854775808<i∧i<9223372036854775808)(h': -9223372036854775808<j∧j<9223372036854775808):binV .mul (.int i) (.int j)=some (.int (i*j)):=by
 show(if(small i&&small j)=true then some (PV.int (i*j))else none)=_
 rw[if_pos]
 unfold small
 rw[decide_eq_true h.1,decide_eq_true h.2,decide_eq_true h'.1,decide_eq_true h'.2];rfl
end Mine.Internal
namespace Mine.Internal
open PySem PySem.W PyProof.Rows PySem.Calls
set_option genCtorIdx true in
inductive I where
 |pop|ask (x:Nat)|decl (x:Nat)|ret|jmp (t:Nat)|tst (k b:Bool) (t:Nat)
 deriving DecidableEq,Inhabited
noncomputable def tstOp(k b:Bool):Nat:=match k,b with
 |false,false=>59
 |false,true=>60
 |true,false=>61
 |true,true=>62
noncomputable def I.op:I→Nat
 | .pop=>6
 | .ask _=>11
 | .decl _=>21
 | .ret=>65
 | .jmp _=>58
 | .tst k b _=>tstOp k b
noncomputable def I.arg:I→PV
 | .pop=>.none
 | .ret=>.none
 | .ask x=>.int x
 | .decl x=>.int x
 | .jmp t=>.int t
 | .tst _ _ t=>.int t
noncomputable def I.tgt:I→Option Nat
 | .jmp t=>some t
 | .tst _ _ t=>some t
 |_=>none
noncomputable def I.isLast:I→Bool
 | .jmp _=>true
 | .ret=>true
 |_=>false
noncomputable def I.to(f:Nat→Nat):I→I
 | .jmp t=>.jmp (f t)
 | .tst k b t=>.tst k b (f t)
 |i=>i
noncomputable def encI(i:I):PV:=.tup [.int i.op,i.arg]
structure H where
 s:Nat
 e:Nat
 t:Nat
noncomputable def encH(h:H):PV:=.tup [.int h.s,.int h.e,.int h.t,.int 0,.bool false]
noncomputable def natV(n:Nat):PV:=.int n
structure U where
 code:List I
 hs:List H
 lines:List Nat
noncomputable def strV(s:String):PV:=.str (Str.ofString s)
noncomputable def uFields(code hs lines:PV):List PV:=[strV "f",.list [],code,.list [strV "p",strV "q",strV "r"],.list [],hs,lines,.int 3,.int 0,.list [],.bool false,.bool false,.none,.none,.list []]
noncomputable def codeV(c:List I):PV:=.list (c.map encI)
noncomputable def hsV(l:List H):PV:=.list (l.map encH)
noncomputable def linesV(l:List Nat):PV:=.list (l.map natV)
noncomputable def U.fields(u:U):List PV:=uFields (codeV u.code) (hsV u.hs) (linesV u.lines)
noncomputable def encU(u:U):PV:=.inst u.fields
noncomputable def endGo(code:List I):Nat→List Nat→Nat→Nat
 |0,_,p=>p
 |n+1,seen,p=>match code[p]? with
  |some (.jmp t)=>if p∈seen then p else endGo code n (seen++[p]) t
  |_=>p
noncomputable def endOf(code:List I)(p:Nat):Nat:=endGo code (code.length+1) [] p
noncomputable def keptStep(code:List I)(b:Bool)(p:Nat):Option (Bool×Nat):=match code[p]? with
 |some .pop=>some (false,p+1)
 |some (.tst k' b' t)=>if b'=b then some (k',t)else some (false,p+1)
 |_=>none
noncomputable def thGo(code:List I)(b:Bool):Nat→List Nat→Bool→Nat→Bool×Nat
 |0,_,k,p=>(k,p)
 |n+1,seen,k,p=>if k=true∧p∉seen then(match keptStep code b p with
   |none=>(k,p)
   |some (k',p')=>thGo code b n (seen++[p]) k' (endOf code p'))else(k,p)
noncomputable def threaded(code:List I)(k b:Bool)(t:Nat):Bool×Nat:=thGo code b (code.length+1) [] k (endOf code t)
noncomputable def thI(code:List I):I→I
 | .jmp t=>.jmp (endOf code t)
 | .tst k b t=>.tst (threaded code k b t).1 b (threaded code k b t).2
 |i=>i
noncomputable def thread(u:U):U:={u with code:=u.code.map (thI u.code)}
noncomputable def cov(pc:Nat)(h:H):Bool:=decide (h.s≤pc)&&decide (pc<h.e)
noncomputable def firstH(hs:List H)(pc:Nat):Option H:=hs.find? (cov pc)
noncomputable def later(u:U)(pc:Nat)(i:I):List Nat:=(if i.isLast then[]else[pc+1])++i.tgt.toList++((firstH u.hs pc).map H.t).toList
noncomputable def liveOne(n:Nat)(fw:List Nat×List Nat)(p:Nat):List Nat×List Nat:=if p<n∧p∉fw.1 then(fw.1++[p],fw.2++[p])else fw
noncomputable def liveGo(u:U):Nat→List Nat→List Nat→List Nat
 |0,f,_=>f
 |n+1,f,w=>match w.getLast? with
  |none=>f
  |some pc=>liveGo u n ((later u pc (u.code.getD pc .pop)).foldl (liveOne u.code.length) (f,w.dropLast)).1 ((later u pc (u.code.getD pc .pop)).foldl (liveOne u.code.length) (f,w.dropLast)).2
noncomputable def live(u:U):List Nat:=liveGo u (2*u.code.length+2) [0] [0]
noncomputable def idle(lv:List Nat)(pc:Nat):I→Bool
 | .jmp t=>decide (pc<t)&&(List.range (t-(pc+1))).all fun k=>decide (pc+1+k∉lv)
 |_=>false
noncomputable def keepB(u:U)(lv:List Nat)(pc:Nat):Bool:=decide (pc∈lv)&& !idle lv pc (u.code.getD pc .pop)
noncomputable def keptL(u:U)(lv:List Nat)(n:Nat):List Nat:=(List.range n).filter (keepB u lv)
noncomputable def rank(u:U)(lv:List Nat)(pc:Nat):Nat:=(keptL u lv pc).length
noncomputable def H.to(f:Nat→Nat)(h:H):H:=⟨f h.s,f h.e,f h.t⟩
noncomputable def cleanOnce(u:U):U:=
 let lv:=live u
 {code:=(keptL u lv u.code.length).map fun pc=>(u.code.getD pc .pop).to (rank u lv),lines:=(keptL u lv u.code.length).map fun pc=>u.lines.getD pc 0,hs:=((u.hs.filter fun h=>decide (h.t∈lv)).map (H.to (rank u lv))).filter fun h=>decide (h.s<h.e)}
noncomputable def cleanGo:Nat→U→U
 |0,u=>cleanOnce u
 |n+1,u=>if(cleanOnce u).code.length<u.code.length then cleanGo n (cleanOnce u)else cleanOnce u
noncomputable def clean(u:U):U:=cleanGo u.code.length u
inductive E where
 |ev (i:I)|forever|fin (l:List Bool)|thrown
noncomputable def evGo(u:U)(words:List Nat):Nat→List E→List Bool→Nat→Nat→Nat→Nat→List E×Nat
 |0,found,_,_,_,_,_=>(found,0)
 |n+1,found,stk,at_,steps,asked,idl=>
  if 15≤found.length then(found,steps)else
  if 2*u.code.length+4<idl+1 then(found++[.forever],0)else
  match u.code[at_]? with
  |none=>(found,0)
  |some .ret=>(found++[.fin stk],steps+1)
  |some (.ask x)=>evGo u words n (found++[.ev (.ask x)]) (stk++[decide (words.getD (asked%words.length) 0%2=0)]) (at_+1) (steps+1) (asked+1) 0
  |some (.decl x)=>if words.getD (asked%words.length) 0%3=0 then(match firstH u.hs at_ with
    |none=>(found++[.ev (.decl x),.thrown],steps+1)
    |some h=>evGo u words n (found++[.ev (.decl x)]) [true] h.t (steps+1) (asked+1) 0)
   else evGo u words n (found++[.ev (.decl x)]) stk (at_+1) (steps+1) (asked+1) 0
  |some .pop=>evGo u words n found stk.dropLast (at_+1) (steps+1) asked (idl+1)
  |some (.jmp t)=>evGo u words n found stk t (steps+1) asked (idl+1)
  |some (.tst k b t)=>if stk.getLast?=some b then evGo u words n found (if k then stk else stk.dropLast) t (steps+1) asked (idl+1)
   else evGo u words n found stk.dropLast (at_+1) (steps+1) asked (idl+1)
noncomputable def evFuel(u:U):Nat:=16*(2*u.code.length+6)+1
noncomputable def events(u:U)(words:List Nat):List E×Nat:=evGo u words (evFuel u) [] [] 0 0 0 0
noncomputable def endsGo(code:List I):Nat→List Nat→Nat→List Nat×Option Nat
 |0,met,p=>(met,some p)
 |n+1,met,p=>match code[p]? with
  |some (.jmp t)=>if p∈met then(met,none)else endsGo code n (met++[p]) t
  |_=>(met,some p)
noncomputable def ends(code:List I)(p:Nat):List Nat×Option Nat:=endsGo code (code.length+1) [] p
noncomputable def ringGo(code:List I)(op:Nat):Nat→List Nat→Nat→Bool
 |0,_,_=>true
 |n+1,met,p=>if p∈met then true else
  match code[p]? with
  |some i=>if i.op≠op then false else match(ends code (i.tgt.getD 0)).2 with
   |none=>true
   |some q=>ringGo code op n (met++[p]) q
  |none=>false
noncomputable def isRing(code:List I)(op p:Nat):Bool:=ringGo code op (code.length+1) [] p
noncomputable def straightI(code:List I)(i:I):Bool:=match i.tgt with
 |none=>true
 |some t=> !(!(ends code t).1.isEmpty&&(ends code t).2.isSome)&&
   (match(ends code t).2 with
    |none=>true
    |some l=> !(decide (60<i.op)&&[6,59,60,61,62].contains (code.getD l .pop).op)||isRing code i.op l)
noncomputable def straight(u:U):Bool:=u.code.all (straightI u.code)
noncomputable def leanGo(u:U):Nat→List Nat→List Nat→Bool
 |0,_,_=>true
 |n+1,met,w=>match w.getLast? with
  |none=>decide (met.length=u.code.length)
  |some at_=>if at_∈met∨u.code.length≤at_ then leanGo u n met w.dropLast else
   if(u.code.getD at_ .pop)=.jmp (at_+1)then false
   else leanGo u n (met++[at_]) (w.dropLast++(u.code.getD at_ .pop).tgt.toList++(if(u.code.getD at_ .pop).isLast then[]else[at_+1])++((firstH u.hs at_).map H.t).toList)
noncomputable def lean(u:U):Bool:=leanGo u (4*u.code.length+2) [] [0]
noncomputable def tyOk(ty:Nat→Nat)(n:Nat)(pc:Nat):I→Prop
 | .pop=>ty pc=1∧pc+1<n∧ty (pc+1)=0
 | .ask x=>x<3∧ty pc=0∧pc+1<n∧ty (pc+1)=1
 | .decl x=>x<3∧ty pc=0∧pc+1<n∧ty (pc+1)=0
 | .ret=>ty pc=1
 | .jmp t=>t<n∧ty t=ty pc
 | .tst k _ t=>ty pc=1∧pc+1<n∧ty (pc+1)=0∧t<n∧ty t=if k then 1 else 0
structure Good(u:U):Prop where
 ne:0<u.code.length
 few:u.code.length≤200
 lens:u.lines.length=u.code.length
 small:∀l∈u.lines,l<1000
 ty:∃ty:Nat→Nat,ty 0=0∧(∀pc,ty pc≤1)∧(∀pc i,u.code[pc]? =some i→tyOk ty u.code.length pc i)∧∀h∈u.hs,ty h.t=1
 hs:∀h∈u.hs,h.s<h.e∧h.e≤h.t∧h.t<u.code.length
 nest:u.hs.Pairwise fun a b=>b.s≤a.s∧a.e≤b.e
 hfew:u.hs.length≤2
end Mine.Internal
set_option maxRecDepth 4000
namespace Mine.Internal
open PySem PySem.W PyProof.Rows PySem.Calls
noncomputable def I.kind:I→String
 | .pop=>""
 | .ask _=>"l"
 | .decl _=>"s"
 | .ret=>""
 | .jmp _=>"t"
 | .tst _ _ _=>"t"
noncomputable def I.taken:I→Nat
 | .pop=>1
 | .ask _=>0
 | .decl _=>0
 | .ret=>1
 | .jmp _=>0
 | .tst _ _ _=>1
noncomputable def I.put:I→Nat
 | .ask _=>1
 |_=>0
noncomputable def I.word:I→String
 | .pop=>"POP"
 | .ask _=>"GETLOC"
 | .decl _=>"DECLVAR"
 | .ret=>"RET"
 | .jmp _=>"JMP"
 | .tst false false _=>"JF"
 | .tst false true _=>"JT"
 | .tst true false _=>"JFK"
 | .tst true true _=>"JTK"
theorem ops_at{sto:Sto}(i:I):subV sto opsV (.int i.op)=some (rowV i.word i.kind i.taken i.put):=by
 cases i with
 |tst k b t=>cases k<;>cases b<;>rfl
 |_=>rfl
theorem below_str{s:String}:Below 0 (strV s):=by trivial
theorem below_int{i:Int}:Below 0 (.int i):=by trivial
theorem below_bool{b:Bool}:Below 0 (.bool b):=by trivial
theorem below_none:Below 0 .none:=by trivial
section
variable {K:Params→Frag} {w:World} {d:Nat} {sto:Sto}
theorem spec1(H:KOk K)(i:I)(hd:1<d):Calls (cxK K w) d 1 [.int i.op] sto (strV i.kind) sto:=
 Calls.of hd (Nat.le_refl _) fun d' h1 wf hb Q q=>use1 H h1 (ss_ret (ev_sub (ev_sub ev_lit (ev_var rfl) (ops_at i)) ev_lit rfl) (ret_plain rfl wf below_str q))
theorem spec2(H:KOk K)(i:I)(hd:1<d):Calls (cxK K w) d 2 [.int i.op,i.arg] sto (.int i.taken) sto:=
 Calls.of hd (Nat.le_refl _) fun d' h1 wf hb Q q=>use2 H h1 (by
  refine ss_ret (ev_bin (y:=.int 0) (ev_sub (ev_sub ev_lit (ev_var rfl) (ops_at i)) ev_lit rfl) (ev_ife_f (t_chain (ev_sub (ev_sub ev_lit (ev_var rfl) (ops_at i)) ev_lit rfl) (c_last ev_lit ?_)) ev_lit) rfl) ?_
  .cases i<;>rfl
  .rw[show(i.taken:Int)+0=i.taken from Int.add_zero _]
   exact ret_plain rfl wf below_int q)
theorem spec3(H:KOk K)(i:I)(hd:1<d):Calls (cxK K w) d 3 [.int i.op] sto (.int i.put) sto:=
 Calls.of hd (Nat.le_refl _) fun d' h1 wf hb Q q=>use3 H h1 (ss_ret (ev_sub (ev_sub ev_lit (ev_var rfl) (ops_at i)) ev_lit rfl) (ret_plain rfl wf below_int q))
theorem spec4(H:KOk K)(i:I)(hd:1<d):Calls (cxK K w) d 4 [.int i.op] sto (.bool i.isLast) sto:=
 Calls.of hd (Nat.le_refl _) fun d' h1 wf hb Q q=>use4 H h1 (ss_ret (ev_chain (ev_var rfl) (c_last ev_lit (by cases i with
   |tst k b t=>cases k<;>cases b<;>rfl
   |_=>rfl))) (ret_plain rfl wf below_bool q))
end
end Mine.Internal
set_option maxRecDepth 4000
namespace Mine.Internal
open PySem PySem.W PyProof.Rows PySem.Calls
theorem nodup_le:∀{n:Nat}{l:List Nat},l.Nodup→(∀q∈l,q<n)→l.length≤n
 |0,l,_,h=>by
  cases l with
  |nil=>exact Nat.le_refl _
  |cons a l=>exact absurd (h a (.head _)) (Nat.not_lt_zero _)
 |n+1,l,hn,h=>by
  by_cases hm:n∈l
  .have:=nodup_le (n:=n) (hn.erase n) fun q hq=>by
    have h1:=h q (List.mem_of_mem_erase hq)
    have h2:q≠n:=(hn.mem_erase_iff.mp hq).1
    exact o52 h1 h2
   rw[List.length_erase_of_mem hm]at this
   exact o53 this
  .have:=nodup_le (n:=n) hn fun q hq=>by
    have h1:=h q hq
    have h2:q≠n:=fun e=>hm (e▸hq)
    exact o52 h1 h2
   exact Nat.le_succ_of_le this
section
variable {C:Cx} {d:Nat} {st st₁ st₂:St} {sto B L:Sto} {rho:List (Option PV)} {e a b:PE} {x y v:PV} {l vs:List PV}
theorem sub_nat{k:Nat}(h:l[k]? =some v):subV sto (.list l) (.int k)=some v:=by
 exact h
theorem code_at{c:List I}{k:Nat}{i:I}(h:c[k]? =some i):subV sto (codeV c) (.int k)=some (encI i):=sub_nat (by rw[List.getElem?_map,h];rfl)
theorem len_code{c:List I}:lenV sto (codeV c)=some c.length:=by
 show(lstOf sto (.list (c.map encI))).map List.length=_
 simp[lstOf]
theorem len_list:lenV sto (.list l)=some l.length:=rfl
theorem len_ref{i:Nat}(h:sto[i]? =some (.list l)):lenV sto (.ref i)=some l.length:=by
 show(opP sto[i]? none oList).map List.length=_
 rw[op_at h];rfl
theorem lst_ref{i:Nat}(h:sto[i]? =some (.list l)):lstOf sto (.ref i)=some l:=op_at h
theorem attr_ref{i k:Nat}(h:sto[i]? =some (.inst l)):attrV sto (.ref i) k=l[k]? :=(congrArg (fun o=>opP o none fun l=>l[k]?) (op_at (f:=oInst) h)).trans rfl
theorem lt_t{m n:Int}(h:m<n):cmpV sto .lt (.int m) (.int n)=some true:=congrArg some (decide_eq_true h)
theorem lt_f{m n:Int}(h:¬m<n):cmpV sto .lt (.int m) (.int n)=some false:=congrArg some (decide_eq_false h)
theorem le_t{m n:Int}(h:m≤n):cmpV sto .le (.int m) (.int n)=some true:=congrArg some (decide_eq_true h)
theorem le_f{m n:Int}(h:¬m≤n):cmpV sto .le (.int m) (.int n)=some false:=congrArg some (decide_eq_false h)
theorem gt_t{m n:Int}(h:n<m):cmpV sto .gt (.int m) (.int n)=some true:=congrArg some (decide_eq_true h)
theorem gt_f{m n:Int}(h:¬n<m):cmpV sto .gt (.int m) (.int n)=some false:=congrArg some (decide_eq_false h)
theorem ge_t{m n:Int}(h:n≤m):cmpV sto .ge (.int m) (.int n)=some true:=congrArg some (decide_eq_true h)
theorem ge_f{m n:Int}(h:¬n≤m):cmpV sto .ge (.int m) (.int n)=some false:=congrArg some (decide_eq_false h)
theorem eq_t{m n:Int}(h:m=n):cmpV sto .eq (.int m) (.int n)=some true:=congrArg some (beq_iff_eq.mpr h)
theorem eq_f{m n:Int}(h:m≠n):cmpV sto .eq (.int m) (.int n)=some false:=congrArg some (beq_eq_false_iff_ne.mpr h)
theorem ne_t{m n:Int}(h:m≠n):cmpV sto .ne (.int m) (.int n)=some true:=by
 show(eqV sto (.int m) (.int n)).map _=_
 show some (!(m==n))=_
 rw[beq_eq_false_iff_ne.mpr h];rfl
theorem ne_f{m n:Int}(h:m=n):cmpV sto .ne (.int m) (.int n)=some false:=by
 show some (!(m==n))=_
 rw[beq_iff_eq.mpr h];rfl
noncomputable def setM(l:List Nat):List (Int×PV):=l.map fun(k:Nat)=>((k:Int),PV.bool true)
theorem setM_fst(l:List Nat):(setM l).map Prod.fst=l.map fun(k:Nat)=>(k:Int):=by unfold setM;rw[List.map_map];rfl
theorem setM_has{l:List Nat}{k:Nat}:((setM l).map Prod.fst).contains (k:Int)=decide (k∈l):=by
 rw[setM_fst,Bool.eq_iff_iff,List.contains_iff_mem,decide_eq_true_eq,List.mem_map]
 exact⟨fun⟨q,hq,e⟩=>by rw[←Int.ofNat.inj e];exact hq,fun h=>⟨k,h,rfl⟩⟩
theorem notin_set{i k:Nat}{m:List Nat}(h:sto[i]? =some (.dict (setM m))):cmpV sto .notIn (.int k) (.ref i)=some (decide (k∉m)):=by
 show(opP sto[i]? none (inO k)).map _=_
 rw[op_at h]
 show some (!((setM m).map Prod.fst).contains (k:Int))=_
 rw[setM_has]
 show some (!decide (k∈m))=_
 by_cases q:k∈m<;>simp[q]
theorem put_set{k:Nat}{m:List Nat}(hk:k∉m)(hm:m.length<lineN):putV (.dict (setM m)) (.int k) (.bool true)=some (.dict (setM (m++[k]))):=by
 refine(if_t ⟨by unfold setM;rw[List.length_map];exact hm,by rw[setM_has];simp[hk]⟩).trans ?_
 unfold setM
 rw[List.map_append];rfl
theorem new_list(h:EvEs C d vsE st vs ⟨rho,B++L⟩):Ev C d (.list vsE) st (.ref (B.length+L.length)) ⟨rho,B++(L++[.list vs])⟩:=by
 have:=ev_listL h
 rwa [List.length_append,List.append_assoc]at this
theorem new_tdict:Ev C d .dict0 ⟨rho,B++L⟩ (.ref (B.length+L.length)) ⟨rho,B++(L++[.tdict []])⟩:=by
 have:=ev_tdict0 (C:=C) (d:=d) (rho:=rho) (sto:=B++L)
 rwa [List.length_append,List.append_assoc]at this
theorem ev_catL{u w:List PV}(ha:Ev C d a st x st₁)(hb:Ev C d b st₁ y ⟨rho,B++L⟩)(hx:lstOf (B++L) x=some u)(hy:lstOf (B++L) y=some w)(hn:u.length+w.length≤lineN):Ev C d (.bin .add a b) st (.ref (B.length+L.length)) ⟨rho,B++(L++[.list (u++w)])⟩:=fun Q q=>by
 refine ha _ (hb _ (.inr ⟨rfl,u,hx,w,hy,hn,.inr ?_⟩))
 show Q (.ref (B++L).length) ⟨rho,(B++L)++[.list (u++w)]⟩
 rw[List.length_append,List.append_assoc]
 exact q
theorem loc{i:Nat}:(B++L)[B.length+i]? =L[i]? :=loc_at rfl
end
section
variable {K:Params→Frag} {w:World} {d:Nat} {sto:Sto}
noncomputable def endInv(c:List I)(p0:Nat)(sto:Sto)(n:Nat)(st:St):Prop:=∃seen p,st=⟨[some (codeV c),some (.int (p:Nat)),some (.ref sto.length)],sto++[.dict (setM seen)]⟩∧
 endGo c n seen p=endOf c p0∧n+seen.length=c.length+1∧seen.Nodup∧∀q∈seen,q<c.length
theorem spec10(H:KOk K)(c:List I)(hc:c.length≤200)(p:Nat)(hd:1<d):Calls (cxK K w) d 10 [codeV c,.int p] sto (.int (endOf c p:Nat)) sto:=
 Calls.of hd (Nat.le_refl _) fun d' h1 wf hb Q q=>use10 H h1 (by
  refine ss_var ev_dict0 (ss_while (endInv c p sto) (c.length+1) ⟨[],p,rfl,rfl,rfl,List.nodup_nil,fun q hq=>by contradiction⟩ fun n st hi=>?_)
  refine x2_1 hi fun seen p zE zR=>?_;subst zE;refine x0_3 zR fun hr hn hnd hlt=>?_
  have hsl:=nodup_le hnd hlt
  obtain⟨m,rfl⟩:∃m,n=m+1:=⟨n-1,by exact o54 hn hsl⟩
  have fin:endGo c (m+1) seen p=p→wpSs (cxK K w) d' [.ret (.var 1)] (retQ sto.length Q) ⟨[some (codeV c),some (.int (p:Nat)),some (.ref sto.length)],sto++[.dict (setM seen)]⟩:=fun e=>by
   rw[←hr,e]at q
   exact ss_ret (ev_var rfl) (ret_clean rfl wf below_int q)
  cases hcp:c[p]? with
  |none=>
   refine⟨false,_,t_and (and_stop (t_chain (ev_var rfl) (c_last (ev_len (ev_var rfl) len_code) (lt_f ?_)))),fun h=>(by contradiction),fun _=>fin ?_⟩
   .have:=List.getElem?_eq_none_iff.mp hcp;exact o55 hn this
   .unfold endGo;rw[hcp]
  |some i=>
   have hpl:=(List.getElem?_eq_some_iff.mp hcp).1
   have t1:EvT (cxK K w) d' (.chain (.var 1) [(.lt,(.bi .len (.var 0)))]) ⟨[some (codeV c),some (.int (p:Nat)),some (.ref sto.length)],sto++[.dict (setM seen)]⟩ true _:=t_chain (ev_var rfl) (c_last (ev_len (ev_var rfl) len_code) (lt_t (by exact Int.ofNat_lt.mpr hpl)))
   by_cases hj:∃t,i=.jmp t
   .obtain⟨t,rfl⟩:=hj
    have t2:EvT (cxK K w) d' (.chain (.sub (.sub (.var 0) (.var 1)) (.lit (.int (0)))) [(.eq,(.lit (.int (58))))]) ⟨[some (codeV c),some (.int (p:Nat)),some (.ref sto.length)],sto++[.dict (setM seen)]⟩ true _:=
     t_chain (ev_sub (ev_sub (ev_var rfl) (ev_var rfl) (code_at hcp)) ev_lit rfl) (c_last ev_lit rfl)
    by_cases hs:p∈seen
    .refine⟨false,_,t_and (and_go t1 (and_go t2 (and_stop (t_chain (ev_var rfl) (c_last (ev_var rfl) ?_))))),fun h=>(by contradiction),fun _=>fin ?_⟩
     .have:=notin_set (k:=p) (loc (B:=sto) (L:=[.dict (setM seen)]) (i:=0));simpa [hs]using this
     .unfold endGo;rw[hcp];simp[hs]
    .refine⟨true,_,t_and (and_go t1 (and_go t2 (all_last (t_chain (ev_var rfl) (c_last (ev_var rfl) ?_))))),fun _=>?_,fun h=>(by contradiction)⟩
     .have:=notin_set (k:=p) (loc (B:=sto) (L:=[.dict (setM seen)]) (i:=0));simpa [hs]using this
     .refine ss_assign ev_lit (a_sub (ev_var rfl) (ev_var rfl) (loc (i:=0)) (put_set hs (by show _<16777216;exact o56 hc hsl hn)) ?_)
      refine ss_var (ev_sub (ev_sub (ev_var rfl) (ev_var rfl) (code_at hcp)) ev_lit rfl) (ss_nil ⟨m,Nat.lt_succ_self _,seen++[p],t,?_,?_,?_,?_,?_⟩)
      .have:=loc_set (B:=sto) (L:=[.dict (setM seen)]) (i:=0) (o:=.dict (setM (seen++[p]))) rfl
       exact congrArg (St.mk _) this
      .rw[←hr];conv=>rhs;unfold endGo
       rw[hcp];simp[hs]
      .simp;exact o57 hn
      .rw[List.nodup_append];exact⟨hnd,nd1,fun a ha b hb=>by rw[List.mem_singleton]at hb;subst hb;exact fun e=>hs (e▸ha)⟩
      .intro q hq
       rcases List.mem_append.mp hq with hq|hq
       .exact hlt q hq
       .rw[List.mem_singleton]at hq;subst hq;exact hpl
   .refine⟨false,_,t_and (and_go t1 (and_stop (t_chain (ev_sub (ev_sub (ev_var rfl) (ev_var rfl) (code_at hcp)) ev_lit rfl) (c_last ev_lit ?_)))),fun h=>(by contradiction),fun _=>fin ?_⟩
    .cases i with
     |jmp t=>exact absurd ⟨t,rfl⟩ hj
     |tst k b t=>cases k<;>cases b<;>rfl
     |_=>rfl
    .unfold endGo;rw[hcp]
     cases i with
     |jmp t=>exact absurd ⟨t,rfl⟩ hj
     |_=>rfl)
end
end Mine.Internal
set_option maxRecDepth 4000
namespace Mine.Internal
open PySem PySem.W PyProof.Rows PySem.Calls
noncomputable def stepV(b:Bool):Option (Bool×Nat)→PV
 |none=>.none
 |some (k,p)=>.tup [.int (tstOp k b),.int p]
theorem below_step{b:Bool}{o:Option (Bool×Nat)}:Below 0 (stepV b o):=by
 cases o with
 |none=>exact below_none
 |some x=>obtain⟨k,p⟩:=x;refine⟨below_int,?_⟩;refine⟨below_int,?_⟩;trivial
section
variable {K:Params→Frag} {w:World} {d:Nat} {sto:Sto}
theorem spec11(H:KOk K)(c:List I)(b:Bool)(p:Nat)(hd:1<d):Calls (cxK K w) d 11 [codeV c,.int (tstOp true b),.int p] sto (stepV b (keptStep c b p)) sto:=
 Calls.of hd (Nat.le_refl _) fun d' h1 wf hb Q q=>use11 H h1 (by
  have out:∀v,v=stepV b (keptStep c b p)→RetOK sto.length sto v Q:=fun v e=>e▸ret_plain rfl wf below_step q
  cases hcp:c[p]? with
  |none=>
   have hlen:=List.getElem?_eq_none_iff.mp hcp
   refine ss_ite_t (t_chain (ev_var rfl) (c_last (ev_len (ev_var rfl) len_code) (ge_t (by exact Int.ofNat_le.mpr hlen)))) (ss_ret ev_lit (out _ ?_))
   unfold keptStep;rw[hcp];rfl
  |some i=>
   have hpl:=(List.getElem?_eq_some_iff.mp hcp).1
   refine ss_skip (t_chain (ev_var rfl) (c_last (ev_len (ev_var rfl) len_code) (ge_f (by exact o58 hpl)))) (ss_assign (ev_sub (ev_var rfl) (ev_var rfl) (code_at hcp)) (a_tup rfl (as_cons (a_var (as_cons (a_var (as_nil ?_)))))))
   have hk:keptStep c b p=keptStep [i] b 0∨True:=.inr trivial
   cases i with
   |pop=>
    refine ss_ite_t (t_chain (ev_var rfl) (c_last ev_lit rfl)) (ss_ret (v:=.tup [.int (tstOp false b),.int (p+1:Nat)]) (ev_tup (es_cons (ev_sub ev_lit (ev_var rfl) (by cases b<;>rfl)) (es_cons (ev_bin (ev_var rfl) ev_lit rfl) es_nil))) (out _ ?_))
    unfold keptStep;rw[hcp];rfl
   |tst k' b' t=>
    refine ss_skip (t_chain (ev_var rfl) (c_last ev_lit (by cases k'<;>cases b'<;>rfl))) (ss_skip (t_chain (ev_var rfl) (c_last (ev_tup (es_cons ev_lit (es_cons ev_lit (es_cons ev_lit (es_cons ev_lit es_nil))))) (by cases k'<;>cases b'<;>rfl))) ?_)
    by_cases e:b'=b
    .subst e
     refine ss_skip (t_chain (ev_var rfl) (c_last (ev_sub ev_lit (ev_var rfl) (v:=.tup [.int (tstOp false b'),.int (tstOp true b')]) (by cases b'<;>rfl)) (by cases k'<;>cases b'<;>rfl))) ?_
     have hks:keptStep c b' p=some (k',t):=by unfold keptStep;rw[hcp];simp
     cases k' with
     |true=>exact ss_ret (ev_ife_t (t_chain (ev_var rfl) (c_last (ev_var rfl) (by cases b'<;>rfl))) (ev_tup (es_cons (ev_var rfl) (es_cons (ev_var rfl) es_nil)))) (out _ (by rw[hks];rfl))
     |false=>exact ss_ret (ev_ife_f (t_chain (ev_var rfl) (c_last (ev_var rfl) (by cases b'<;>rfl))) (ev_tup (es_cons (ev_sub ev_lit (ev_var rfl) (v:=.int (tstOp false b')) (by cases b'<;>rfl)) (es_cons (ev_var rfl) es_nil)))) (out _ (by rw[hks];rfl))
    .have hks:keptStep c b p=some (false,p+1):=by unfold keptStep;rw[hcp];simp[e]
     have hb':b'= !b:=by cases b<;>cases b'<;>simp_all
     subst hb'
     exact ss_ite_t (t_chain (ev_var rfl) (c_last (ev_sub ev_lit (ev_var rfl) (v:=.tup [.int (tstOp false b),.int (tstOp true b)]) (by cases b<;>rfl)) (by cases k'<;>cases b<;>rfl)))
      (ss_ret (v:=.tup [.int (tstOp false b),.int (p+1:Nat)]) (ev_tup (es_cons (ev_sub ev_lit (ev_var rfl) (by cases b<;>rfl)) (es_cons (ev_bin (ev_var rfl) ev_lit rfl) es_nil))) (out _ (by rw[hks];rfl)))
   |_=>
    refine ss_skip (t_chain (ev_var rfl) (c_last ev_lit rfl)) (ss_ite_t (t_chain (ev_var rfl) (c_last (ev_tup (es_cons ev_lit (es_cons ev_lit (es_cons ev_lit (es_cons ev_lit es_nil))))) rfl)) (ss_ret ev_lit (out _ ?_)))
    unfold keptStep;rw[hcp];rfl)
theorem in_plain{sto:Sto}{k b:Bool}:cmpV sto .isIn (.int (tstOp k b)) plainV=some k:=by cases k<;>cases b<;>rfl
noncomputable def thInv(c:List I)(b k0:Bool)(t0:Nat)(opv:Option PV)(sto:Sto)(n:Nat)(st:St):Prop:=∃seen k p z,st=⟨[some (codeV c),some (.int (tstOp k b)),opv,some (.int (p:Nat)),some (.ref sto.length),z],sto++[.dict (setM seen)]⟩∧
 thGo c b n seen k p=threaded c k0 b t0∧n+seen.length=c.length+1∧seen.Nodup∧∀q∈seen,q<c.length
theorem kept_lt{c:List I}{b:Bool}{p:Nat}{r}(h:keptStep c b p=some r):p<c.length:=by
 unfold keptStep at h
 cases q:c[p]? with
 |none=>rw[q]at h;exact nN h
 |some i=>exact(List.getElem?_eq_some_iff.mp q).1
theorem spec12(H:KOk K)(c:List I)(hc:c.length≤200)(k b:Bool)(t:Nat)(hd:2<d):
  Calls (cxK K w) d 12 [codeV c,.int (tstOp k b),.int t] sto (.tup [.int (tstOp (threaded c k b t).1 b),.int ((threaded c k b t).2:Nat)]) sto:=
 Calls.of hd (by decide) fun d' h1 wf hb Q q=>use12 H (by exact up h1 rfl) (by
  refine ss_assign (ev_tup (es_cons (ev_call (es_cons (ev_var rfl) (es_cons (ev_var rfl) es_nil)) (spec10 H c hc t (by exact h1))) (es_cons ev_dict0 es_nil))) (a_tup rfl (as_cons (a_var (as_cons (a_var (as_nil ?_))))))
  refine ss_while (thInv c b k t (some (.int (t:Nat))) sto) (c.length+1) ⟨[],k,endOf c t,none,rfl,rfl,rfl,List.nodup_nil,fun q hq=>by exact nM hq⟩ fun n st hi=>?_
  refine x4_1 hi fun seen k' p z zE zR=>?_;subst zE;refine x0_3 zR fun hr hn hnd hlt=>?_
  have hsl:=nodup_le hnd hlt
  obtain⟨m,rfl⟩:∃m,n=m+1:=⟨n-1,by exact o54 hn hsl⟩
  have fin:∀{seen' z'},thGo c b (m+1) seen k' p=(k',p)→wpSs (cxK K w) d' [.ret (.tup [.var 1,.var 3])] (retQ sto.length Q) ⟨[some (codeV c),some (.int (tstOp k' b)),some (.int (t:Nat)),some (.int (p:Nat)),some (.ref sto.length),z'],sto++[.dict (setM seen')]⟩:=fun e=>by
   rw[←hr,e]at q
   exact ss_ret (ev_tup (es_cons (ev_var rfl) (es_cons (ev_var rfl) es_nil))) (ret_clean rfl wf (below_step (b:=b) (o:=some (k',p))) q)
  have t1:EvT (cxK K w) d' (.chain (.var 1) [(.isIn,(.lit (plainV)))]) ⟨[some (codeV c),some (.int (tstOp k' b)),some (.int (t:Nat)),some (.int (p:Nat)),some (.ref sto.length),z],sto++[.dict (setM seen)]⟩ k' _:=t_chain (ev_var rfl) (c_last ev_lit in_plain)
  cases k' with
  |false=>exact⟨false,_,t_and (and_stop t1),fun h=>(by exact nF h),fun _=>fin (by unfold thGo;simp)⟩
  |true=>
   refine⟨decide (p∉seen),_,t_and (and_go t1 (all_last (t_chain (ev_var rfl) (c_last (ev_var rfl) (notin_set (loc (i:=0))))))),fun hz=>?_,fun hz=>fin ?_⟩
   .have hs:p∉seen:=of_decide_eq_true hz
    have hset:=loc_set (B:=sto) (L:=[.dict (setM seen)]) (i:=0) (o:=.dict (setM (seen++[p]))) rfl
    refine ss_assign ev_lit (a_sub (ev_var rfl) (ev_var rfl) (loc (i:=0)) (put_set hs (by show _<16777216;exact o56 hc hsl hn)) ?_)
    refine ss_var (ev_call (es_cons (ev_var rfl) (es_cons (ev_var rfl) (es_cons (ev_var rfl) es_nil))) (spec11 H c b p (by exact h1))) ?_
    rw[show((sto++[SObj.dict (setM seen)]).set sto.length (.dict (setM (seen++[p]))))=_ from hset]
    cases hks:keptStep c b p with
    |none=>exact ss_ite_t (t_chain (ev_var rfl) (c_last ev_lit rfl)) (ss_brk (fin (by unfold thGo;simp[hs,hks])))
    |some r=>
     obtain⟨k2,p2⟩:=r
     refine ss_skip (t_chain (ev_var rfl) (c_last ev_lit rfl)) (ss_assign (ev_tup (es_cons (ev_sub (ev_var rfl) ev_lit rfl) (es_cons (ev_call (es_cons (ev_var rfl) (es_cons (ev_sub (ev_var rfl) ev_lit rfl) es_nil)) (spec10 H c hc p2 (by exact h1))) es_nil))) (a_tup rfl (as_cons (a_var (as_cons (a_var (as_nil (ss_nil ?_))))))))
     refine⟨m,Nat.lt_succ_self _,seen++[p],k2,endOf c p2,_,rfl,?_,?_,?_,?_⟩
     .rw[←hr];conv=>rhs;unfold thGo
      simp[hs,hks]
     .simp;exact o57 hn
     .rw[List.nodup_append];exact⟨hnd,nd1,fun a ha b hb=>by rw[List.mem_singleton]at hb;subst hb;exact fun e=>hs (e▸ha)⟩
     .intro q hq
      rcases List.mem_append.mp hq with hq|hq
      .exact hlt q hq
      .rw[List.mem_singleton]at hq;subst hq;exact kept_lt hks
   .have hs:p∈seen:=by simpa using hz
    unfold thGo;simp[hs])
end
end Mine.Internal
set_option maxRecDepth 4000
namespace Mine.Internal
open PySem PySem.W PyProof.Rows PySem.Calls
noncomputable def IsU(sto:Sto)(p:PV)(u:U):Prop:=∀k,attrV sto p k=u.fields[k]?
theorem isU_enc{sto:Sto}{u:U}:IsU sto (encU u) u:=fun _=>rfl
theorem isU_ref{sto:Sto}{i:Nat}{u:U}(h:sto[i]? =some (.inst u.fields)):IsU sto (.ref i) u:=fun _=>attr_ref h
theorem IsU.app{B L:Sto}{p:PV}{u:U}(h:IsU B p u):IsU (B++L) p u:=fun k=>by
 have h0:=h 0
 rw[←h k]
 cases p with
 |ref i=>
  cases hB:B[i]? with
  |none=>
   replace h0:opP (opP B[i]? none oInst) none (fun l=>l[0]?)=_:=h0
   rw[hB]at h0
   exact nN h0
  |some o=>
   have e:(B++L)[i]? =some o:=by rw[List.getElem?_append_left (List.getElem?_eq_some_iff.mp hB).1];exact hB
   show opP (opP (B++L)[i]? none oInst) none _=opP (opP B[i]? none oInst) none _
   rw[hB,e]
 |_=>rfl
section
variable {n0:Nat} {B L:Sto} {p:PV} {Q:PV→Sto→Prop}
theorem ret_id{sto:Sto}(hn:n0≤sto.length)(wf:WfB sto.length sto)(hp:Below sto.length p)(q:Q p sto):RetOK n0 sto p Q:=by
 have hr:∀i,i<sto.length→ren n0 ((List.range (sto.length-n0)).map (n0+ ·)) i=some i:=fun i hi=>by
  unfold ren
  by_cases h:i<n0
  .rw[if_pos h]
  .rw[if_neg h]
   have hj:((List.range (sto.length-n0)).map (n0+ ·)).idxOf? i=some (i-n0):=by
    have hl:i-n0<((List.range (sto.length-n0)).map (n0+ ·)).length:=by simp;exact o59 hn hi h
    have he:((List.range (sto.length-n0)).map (n0+ ·))[i-n0]=i:=by simp;exact o60 h
    conv=>lhs;rw[←he]
    refine Sim.exitRet.idxOf_get ?_ hl
    rw[List.nodup_iff_pairwise_ne,List.pairwise_map]
    exact List.nodup_range.imp fun h e=>h (by exact o61 hl e)
   rw[hj]
   simp;exact o60 h
 refine⟨(List.range (sto.length-n0)).map (n0+ ·),?_,fun i h=>?_,p,sto,Frz.refl hr hp,by simp;exact o62 hn,fun j o _ ho=>⟨o,ho,FrzO.refl hr (wf j o ho)⟩,fun j i o hj ho=>?_,q⟩
 .rw[List.nodup_iff_pairwise_ne,List.pairwise_map]
  exact List.nodup_range.imp fun h e=>h (by exact o63 e)
 .refine x1_1 (List.mem_map.mp h) fun k hk zL=>?_;subst zL
  rw[List.mem_range]at hk;exact o64 hn hk
 .have hjl:j<sto.length-n0:=by
   have:=(List.getElem?_eq_some_iff.mp hj).1
   simpa using this
  rw[List.getElem?_map,List.getElem?_range hjl]at hj
  simp at hj
  subst hj
  exact⟨o,ho,FrzO.refl hr (wf _ o ho)⟩
theorem WfB.mono{n m:Nat}(h:n≤m)(x:WfB n B):WfB m B:=fun j o e=>by
 have:=x j o e
 cases o<;>exact Belows.mono h this
theorem WfB.app{n:Nat}(x:WfB n B)(y:∀o∈L,BelowO n o):WfB n (B++L):=fun j o e=>by
 rw[List.getElem?_append]at e
 split at e
 .exact x j o e
 .exact y o (List.mem_of_getElem? e)
end
noncomputable def uRefs(nm ps c h l:PV):List PV:=[nm,ps,c,.list [],.list [],h,l,.int 0,.int 0,.list [],.bool false,.bool false,.none,.none,.list []]
section
variable {K:Params→Frag} {w:World} {d:Nat} {sto:Sto}
theorem ss_setf{C:Cx}{st:St}{e:PE}{v:PV}{Q:Out→St→Prop}{r:List PS}{rho:List (Option PV)}{B L:Sto}{l l':List PV}{k x:Nat}(he:Ev C d e st v ⟨rho,B++(.inst l::L)⟩)(h0:rho[x]? =some (some (.ref B.length)))
  (hk:putA (.inst l) k v=some (.inst l')) (h:wpSs C d r Q ⟨rho,B++(.inst l'::L)⟩):wpSs C d (.assign (.attr (.var x) k) e::r) Q st:=by
 refine ss_assign he (a_attr (ev_var h0) (loc (i:=0)) hk ?_)
 have:=loc_set (B:=B) (L:=.inst l::L) (i:=0) (o:=.inst l') rfl
 exact(show B++(.inst l'::L)=_ from this.symm)▸h
theorem new_list0{C:Cx}{rho:List (Option PV)}{B L:Sto}:Ev C d (.list []) ⟨rho,B++L⟩ (.ref (B.length+L.length)) ⟨rho,B++(L++[.list []])⟩:=new_list es_nil
theorem spec0(H:KOk K)(B:Sto)(nm ps:PV)(hnm:Below 0 nm)(hps:Below 0 ps)(hd:1<d):
  Calls (cxK K w) d 0 [.ref B.length,nm,ps] (B++[.inst []]) .none (B++[.inst (uRefs nm ps (.ref (B.length+1)) (.ref (B.length+2)) (.ref (B.length+3))),.list [],.list [],.list []]):=
 Calls.of hd (Nat.le_refl _) fun d' h1 wf hb Q q=>use0 H h1 (by
  refine ss_setf (l':=[nm]) (ev_var rfl) rfl rfl ?_
  refine ss_setf (l':=[nm,ps]) (ev_var rfl) rfl rfl ?_
  refine ss_setf (l':=[nm,ps,.ref (B.length+1)]) new_list0 rfl rfl ?_
  refine ss_setf (l':=[nm,ps,.ref (B.length+1),.list []]) (ev_listF es_nil) rfl rfl ?_
  refine ss_setf (l':=[nm,ps,.ref (B.length+1),.list [],.list []]) (ev_listF es_nil) rfl rfl ?_
  refine ss_setf (l':=[nm,ps,.ref (B.length+1),.list [],.list [],.ref (B.length+2)]) new_list0 rfl rfl ?_
  refine ss_setf (l':=[nm,ps,.ref (B.length+1),.list [],.list [],.ref (B.length+2),.ref (B.length+3)]) new_list0 rfl rfl ?_
  refine ss_setf (l':=[nm,ps,.ref (B.length+1),.list [],.list [],.ref (B.length+2),.ref (B.length+3),.int 0]) ev_lit rfl rfl ?_
  refine ss_setf (l':=[nm,ps,.ref (B.length+1),.list [],.list [],.ref (B.length+2),.ref (B.length+3),.int 0,.int 0]) ev_lit rfl rfl ?_
  refine ss_setf (l':=[nm,ps,.ref (B.length+1),.list [],.list [],.ref (B.length+2),.ref (B.length+3),.int 0,.int 0,.list []]) (ev_listF es_nil) rfl rfl ?_
  refine ss_setf (l':=[nm,ps,.ref (B.length+1),.list [],.list [],.ref (B.length+2),.ref (B.length+3),.int 0,.int 0,.list [],.bool false]) ev_lit rfl rfl ?_
  refine ss_setf (l':=[nm,ps,.ref (B.length+1),.list [],.list [],.ref (B.length+2),.ref (B.length+3),.int 0,.int 0,.list [],.bool false,.bool false]) ev_lit rfl rfl ?_
  refine ss_setf (l':=[nm,ps,.ref (B.length+1),.list [],.list [],.ref (B.length+2),.ref (B.length+3),.int 0,.int 0,.list [],.bool false,.bool false,.none]) ev_lit rfl rfl ?_
  refine ss_setf (l':=[nm,ps,.ref (B.length+1),.list [],.list [],.ref (B.length+2),.ref (B.length+3),.int 0,.int 0,.list [],.bool false,.bool false,.none,.none]) ev_lit rfl rfl ?_
  refine ss_setf (l':=[nm,ps,.ref (B.length+1),.list [],.list [],.ref (B.length+2),.ref (B.length+3),.int 0,.int 0,.list [],.bool false,.bool false,.none,.none,.list []]) (ev_listF es_nil) rfl rfl ?_
  refine ss_nil (ret_id (by simp) ?_ below_none q)
  have wf':WfB (B++[SObj.inst (uRefs nm ps (.ref (B.length+1)) (.ref (B.length+2)) (.ref (B.length+3))),.list [],.list [],.list []]).length B:=fun j o e=>by
   have:=wf j o (by rw[List.getElem?_append_left (List.getElem?_eq_some_iff.mp e).1];exact e)
   exact(WfB.mono (B:=[o]) (n:=(B++[SObj.inst []]).length) (by simp) (fun k o' e'=>by cases k with
    |zero=>simp at e';subst e';exact this
    |succ k=>exact nN e')) 0 o rfl
  refine wf'.app fun o ho=>?_
  have ho:o∈[SObj.inst (uRefs nm ps (.ref (B.length+1)) (.ref (B.length+2)) (.ref (B.length+3))),.list [],.list [],.list []]:=ho
  simp only[List.mem_cons,List.not_mem_nil,or_false]at ho
  rcases ho with rfl|rfl|rfl|rfl
  .have h1:=hnm.mono (Nat.zero_le (B.length+4))
   have h2:=hps.mono (Nat.zero_le (B.length+4))
   simp only[List.length_append,List.length_cons,List.length_nil,Nat.zero_add,Nat.reduceAdd]
   simp[BelowO,uRefs,Belows,h1,h2,Below]
  .exact trivial
  .exact trivial
  .exact trivial)
theorem spec6u(H:KOk K){p:PV}{u:U}(hu:IsU sto p u)(pc:Nat)(hpc:pc<u.lines.length)(hd:1<d):Calls (cxK K w) d 6 [p,.int pc] sto (natV (u.lines.getD pc 0)) sto:=
 Calls.of hd (Nat.le_refl _) fun d' h1 wf hb Q q=>use6 H h1 (by
  refine ss_ret (ev_ife_t (t_chain (ev_var rfl) (c_last (ev_len (ev_attr (ev_var rfl) (hu 6)) len_list) (lt_t ?_))) (ev_sub (ev_attr (ev_var rfl) (hu 6)) (ev_var rfl) (sub_nat ?_))) (ret_plain rfl wf below_int q)
  .rw[List.length_map];exact Int.ofNat_lt.mpr hpc
  .rw[List.getElem?_map,List.getElem?_eq_getElem hpc]
   show _=some (natV (u.lines.getD pc 0))
   rw[List.getD_eq_getElem?_getD,List.getElem?_eq_getElem hpc];rfl)
end
end Mine.Internal
set_option maxRecDepth 4000
namespace Mine.Internal
open PySem PySem.W PyProof.Rows PySem.Calls
section
variable {K:Params→Frag} {w:World} {d:Nat} {sto:Sto}
noncomputable def newU(n:Nat):List SObj:=[.inst (uFields (.ref (n+1)) (.ref (n+2)) (.ref (n+3))),.list [],.list [],.list []]
theorem newU_below{n:Nat}:∀o∈newU n,BelowO (n+4) o:=by
 intro o ho
 unfold newU at ho
 simp only[List.mem_cons,List.not_mem_nil,or_false]at ho
 rcases ho with rfl|rfl|rfl|rfl
 .simp[BelowO,uFields,Belows,Below,strV]
 .exact trivial
 .exact trivial
 .exact trivial
theorem spec5(H:KOk K){p:PV}{u:U}(hu:IsU sto p u)(hd:3<d):Calls (cxK K w) d 5 [p] sto (.ref sto.length) (sto++newU sto.length):=
 Calls.of hd (by decide) fun d' h1 wf hb Q q=>use5 H (by exact up h1 rfl) (by
  have at_:∀{L:Sto}{k v},u.fields[k]? =some v→attrV (sto++L) p k=some v:=fun h=>(hu.app _).trans h
  refine ss_var (ev_unit h1 (es_cons (ev_attr (ev_var rfl) ((hu 0).trans rfl)) (es_cons (ev_copy (ev_attr (ev_var rfl) ((hu 1).trans rfl)) rfl) es_nil)) (spec0 H sto (strV "f") (.list []) below_str trivial (Nat.lt_succ_self _))) ?_
  have cp:∀{rho:List (Option PV)}{L:Sto}{k l},rho[0]? =some (some p)→u.fields[k]? =some (.list l)→Ev (cxK K w) d' (.bi .list (.attr (.var 0) k)) ⟨rho,sto++L⟩ (.list l) ⟨rho,sto++L⟩:=fun h e=>ev_copy (ev_attr (ev_var h) (at_ e)) rfl
  have gt:∀{rho:List (Option PV)}{L:Sto}{k v},rho[0]? =some (some p)→u.fields[k]? =some v→Ev (cxK K w) d' (.attr (.var 0) k) ⟨rho,sto++L⟩ v ⟨rho,sto++L⟩:=fun h e=>ev_attr (ev_var h) (at_ e)
  refine ss_setf (l':=(uRefs (strV "f") (.list []) (.ref (sto.length+1)) (.ref (sto.length+2)) (.ref (sto.length+3))).set 3 (.list [strV "p",strV "q",strV "r"])) (cp rfl rfl) rfl rfl ?_
  refine ss_setf (l':=(uRefs (strV "f") (.list []) (.ref (sto.length+1)) (.ref (sto.length+2)) (.ref (sto.length+3))).set 3 (.list [strV "p",strV "q",strV "r"])) (cp rfl rfl) rfl rfl ?_
  refine ss_setf (l':=uFields (.ref (sto.length+1)) (.ref (sto.length+2)) (.ref (sto.length+3))) (gt rfl rfl) rfl rfl ?_
  refine ss_setf (l':=uFields (.ref (sto.length+1)) (.ref (sto.length+2)) (.ref (sto.length+3))) (gt rfl rfl) rfl rfl ?_
  refine ss_setf (l':=uFields (.ref (sto.length+1)) (.ref (sto.length+2)) (.ref (sto.length+3))) (cp rfl rfl) rfl rfl ?_
  refine ss_setf (l':=uFields (.ref (sto.length+1)) (.ref (sto.length+2)) (.ref (sto.length+3))) (gt rfl rfl) rfl rfl ?_
  refine ss_setf (l':=uFields (.ref (sto.length+1)) (.ref (sto.length+2)) (.ref (sto.length+3))) (gt rfl rfl) rfl rfl ?_
  refine ss_setf (l':=uFields (.ref (sto.length+1)) (.ref (sto.length+2)) (.ref (sto.length+3))) (gt rfl rfl) rfl rfl ?_
  refine ss_setf (l':=uFields (.ref (sto.length+1)) (.ref (sto.length+2)) (.ref (sto.length+3))) (gt rfl rfl) rfl rfl ?_
  refine ss_setf (l':=uFields (.ref (sto.length+1)) (.ref (sto.length+2)) (.ref (sto.length+3))) (cp rfl rfl) rfl rfl ?_
  refine ss_ret (ev_var rfl) (ret_id (sto:=sto++newU sto.length) (by simp) ?_ ?_ q)
  .rw[show(sto++newU sto.length).length=sto.length+4 by simp[newU]]
   exact(wf.mono (by exact Nat.le_add_right _ _)).app newU_below
  .unfold Below;simp[newU])
end
end Mine.Internal
set_option maxRecDepth 4000
namespace Mine.Internal
open PySem PySem.W PyProof.Rows PySem.Calls
theorem below_list{n:Nat}{l:List PV}(h:Belows n l):Below n (.list l):=by exact h
theorem below_tup{n:Nat}{l:List PV}(h:Belows n l):Below n (.tup l):=by exact h
theorem belows_nil{n:Nat}:Belows n []:=trivial
theorem belows_cons{n:Nat}{p:PV}{l:List PV}(h:Below n p)(hs:Belows n l):Belows n (p::l):=⟨h,hs⟩
theorem below_arg{i:I}:Below 0 i.arg:=by cases i<;>exact trivial
theorem below_encI{i:I}:Below 0 (encI i):=below_tup (belows_cons below_int (belows_cons below_arg belows_nil))
theorem below_code{c:List I}:Below 0 (codeV c):=below_list (belows_map (fun _=>below_encI) c)
theorem below_hs{l:List H}:Below 0 (hsV l):=below_list (belows_map (f:=encH) (fun _=>⟨trivial,trivial,trivial,trivial,trivial,trivial⟩) l)
theorem below_lines{l:List Nat}:Below 0 (linesV l):=below_list (belows_map (f:=natV) (fun _=>trivial) l)
theorem below_uFields{n:Nat}{c h l:PV}(hc:Below n c)(hh:Below n h)(hl:Below n l):Belows n (uFields c h l):=
 ⟨trivial,trivial,hc,⟨trivial,trivial,trivial,trivial⟩,trivial,hh,hl,trivial,trivial,trivial,trivial,trivial,trivial,trivial,trivial,trivial⟩
theorem below_fields{u:U}:Belows 0 u.fields:=below_uFields below_code below_hs below_lines
theorem below_encU{u:U}:Below 0 (encU u):=below_fields
theorem frzs_uFields{r:Nat→Option Nat}{sto:Sto}{c h l c' h' l':PV}(hc:Frz r sto c c')(hh:Frz r sto h h')(hl:Frz r sto l l'):Frzs r sto (uFields c h l) (uFields c' h' l'):=
 .cons (.str _) (.cons (.list .nil) (.cons hc (.cons (.list (.cons (.str _) (.cons (.str _) (.cons (.str _) .nil)))) (.cons (.list .nil) (.cons hh (.cons hl (.cons (.int _) (.cons (.int _) (.cons (.list .nil) (.cons (.bool _) (.cons (.bool _) (.cons .none (.cons .none (.cons (.list .nil) .nil))))))))))))))
section
variable {K:Params→Frag} {w:World} {d:Nat} {sto:Sto}
theorem spec8(H:KOk K){p cv:PV}{u:U}(hu:IsU sto p u)(hd:4<d):Calls (cxK K w) d 8 [p,cv] sto (.ref sto.length) (sto++[.inst (uFields cv (hsV u.hs) (linesV u.lines))]):=
 Calls.of hd (by decide) fun d' h1 wf hb Q q=>use8 H (by exact up h1 rfl) (by
  have cp:∀{rho:List (Option PV)}{L:Sto}{k l},rho[0]? =some (some p)→u.fields[k]? =some (.list l)→Ev (cxK K w) d' (.bi .list (.attr (.var 0) k)) ⟨rho,sto++L⟩ (.list l) ⟨rho,sto++L⟩:=fun h e=>ev_copy (ev_attr (ev_var h) ((hu.app _).trans e)) rfl
  refine ss_var (ev_call (es_cons (ev_var rfl) es_nil) (spec5 H hu (by exact h1))) ?_
  refine ss_setf (l':=uFields cv (.ref (sto.length+2)) (.ref (sto.length+3))) (ev_var rfl) rfl rfl ?_
  refine ss_setf (l':=uFields cv (.ref (sto.length+2)) (linesV u.lines)) (cp rfl rfl) rfl rfl ?_
  refine ss_setf (l':=uFields cv (hsV u.hs) (linesV u.lines)) (cp rfl rfl) rfl rfl ?_
  exact ss_ret (ev_var rfl) (ret_inst (i:=0) rfl wf rfl (frzs_old (below_uFields hb.2.1 (below_hs.mono (Nat.zero_le _)) (below_lines.mono (Nat.zero_le _)))) q))
theorem spec12j(H:KOk K)(c:List I)(hc:c.length≤200)(t:Nat)(hd:2<d):Calls (cxK K w) d 12 [codeV c,.int 58,.int t] sto (.tup [.int 58,.int (endOf c t:Nat)]) sto:=
 Calls.of hd (by decide) fun d' h1 wf hb Q q=>use12 H (by exact up h1 rfl) (by
  refine ss_assign (ev_tup (es_cons (ev_call (es_cons (ev_var rfl) (es_cons (ev_var rfl) es_nil)) (spec10 H c hc t (by exact h1))) (es_cons ev_dict0 es_nil))) (a_tup rfl (as_cons (a_var (as_cons (a_var (as_nil ?_))))))
  exact ss_while (fun _ st=>st=⟨[some (codeV c),some (.int 58),some (.int t),some (.int (endOf c t:Nat)),some (.ref sto.length),none],sto++[.dict []]⟩) 0 rfl fun n st hi=>⟨false,st,hi▸t_and (and_stop (t_chain (ev_var rfl) (c_last ev_lit rfl))),fun h=>(by exact nF h),fun _=>
   hi▸ss_ret (ev_tup (es_cons (ev_var rfl) (es_cons (ev_var rfl) es_nil))) (ret_clean rfl wf ⟨trivial,trivial,trivial⟩ q)⟩)
theorem thI_call(H:KOk K){c:List I}(hc:c.length≤200){i:I}(hk:i.kind="t")(hd:2<d):Calls (cxK K w) d 12 [codeV c,.int i.op,i.arg] sto (encI (thI c i)) sto:=by
 cases i with
 |jmp t=>exact spec12j H c hc t hd
 |tst k b t=>exact spec12 H c hc k b t hd
 |ask x=>exact absurd (show "l"="t" from hk) (by decide)
 |decl x=>exact absurd (show "s"="t" from hk) (by decide)
 |_=>exact absurd (show ""="t" from hk) (by decide)
theorem at_app{B:Sto}{o:SObj}:(B++[o])[B.length]? =some o:=loc (i:=0)
theorem set_app{B:Sto}{o o':SObj}:(B++[o]).set B.length o'=B++[o']:=loc_set (i:=0) rfl
theorem spec13(H:KOk K){p:PV}{u:U}(hu:IsU sto p u)(hc:u.code.length≤200)(hd:5<d):Calls (cxK K w) d 13 [p] sto (.ref sto.length) (sto++[.inst (thread u).fields]):=
 Calls.of hd (by decide) fun d' h1 wf hb Q q=>use13 H (by exact up h1 rfl) (by
  refine ss_var (ev_listL es_nil) (ss_forF (l:=u.code.map encI) (fun k st=>∃a b,st=⟨[some p,some (.ref sto.length),a,b],sto++[.list (((u.code.take k).map (thI u.code)).map encI)]⟩) (i_list (ev_attr (ev_var rfl) (hu.app 2))) ⟨none,none,rfl⟩ ?_ ?_)
  .rintro k x st hx ⟨a,b,rfl⟩
   rw[List.getElem?_map]at hx
   refine x1_1 (Option.map_eq_some_iff.mp hx) fun i hi zL=>?_;subst zL
   have hkl:=(List.getElem?_eq_some_iff.mp hi).1
   have next:∀a b,∃a' b',(St.mk [some p,some (.ref sto.length),a,b] (sto++[.list (((u.code.take k).map (thI u.code)).map encI++[encI (thI u.code i)])]))=⟨[some p,some (.ref sto.length),a',b'],sto++[.list (((u.code.take (k+1)).map (thI u.code)).map encI)]⟩:=fun a b=>
    ⟨a,b,by rw[List.take_succ,hi];simp⟩
   have app:∀{e:PE}{Q':Out→St→Prop}{a b},Ev (cxK K w) d' e ⟨[some p,some (.ref sto.length),a,b],sto++[.list (((u.code.take k).map (thI u.code)).map encI)]⟩ (encI (thI u.code i)) ⟨[some p,some (.ref sto.length),a,b],sto++[.list (((u.code.take k).map (thI u.code)).map encI)]⟩→
     Q' .next ⟨[some p,some (.ref sto.length),a,b],sto++[.list (((u.code.take k).map (thI u.code)).map encI++[encI (thI u.code i)])]⟩→wpSs (cxK K w) d' [.expr (.meth .append (.var 1) [e])] Q' ⟨[some p,some (.ref sto.length),a,b],sto++[.list (((u.code.take k).map (thI u.code)).map encI)]⟩:=fun{e Q' a b} he hq=>by
    refine ss_expr (m_append (ev_var rfl) at_app he at_app ?_) (ss_nil ?_)
    .simp;show _<16777216;exact o65 hc hkl
    .show Q' Out.next ⟨_,(sto++[_]).set sto.length _⟩
     rw[set_app];exact hq
   refine a_tup rfl (as_cons (a_var (as_cons (a_var (as_nil ?_)))))
   by_cases hk:i.kind="t"
   .refine ss_ite_f (t_or (or_go (t_chain (ev_call (es_cons (ev_var rfl) es_nil) (spec1 H i (by exact up h1 rfl))) (c_last ev_lit ?_)) (all_last (t_chain (ev_var rfl) (c_last ev_lit ?_))))) (ss_ite_f (t_chain (ev_var rfl) (c_last ev_lit ?_)) (app (ev_call (es_cons (ev_attr (ev_var rfl) (hu.app 2)) (es_cons (ev_var rfl) (es_cons (ev_var rfl) es_nil))) (thI_call H hc hk (by exact o252 h1))) ?_))
    .rw[hk];rfl
    .cases i with
     |tst k b t=>cases k<;>cases b<;>rfl
     |_=>rfl
    .cases i with
     |tst k b t=>cases k<;>cases b<;>rfl
     |_=>rfl
    .exact next _ _
   .have e:encI (thI u.code i)=encI i:=by cases i<;>first|rfl|exact absurd rfl hk
    refine ss_ite_t (t_or (or_stop (t_chain (ev_call (es_cons (ev_var rfl) es_nil) (spec1 H i (by exact up h1 rfl))) (c_last ev_lit ?_)))) (app (e▸ev_tup (es_cons (ev_var rfl) (es_cons (ev_var rfl) es_nil))) (next _ _))
    cases i<;>first|rfl|exact absurd rfl hk
  .rintro st ⟨a,b,rfl⟩
   have e:u.code.take (u.code.map encI).length=u.code:=by simp
   rw[e]
   have hc8:=spec8 H (w:=w) (d:=d') (cv:=.ref sto.length) (hu.app (L:=[.list ((u.code.map (thI u.code)).map encI)])) (by exact h1)
   rw[List.length_append,List.append_assoc]at hc8
   refine ss_ret (ev_call (es_cons (ev_var rfl) (es_cons (ev_var rfl) es_nil)) hc8) (ret_inst (i:=1) rfl wf rfl ?_ q)
   exact frzs_uFields (frz_list (i:=0) rfl rfl (ni (Nat.ne_of_lt (Nat.lt_succ_self _))) (frzs_clean (belows_map (fun _=>below_encI) _))) (frz_clean below_hs) (frz_clean below_lines))
theorem spec9(H:KOk K){p:PV}{g k:Nat}{v:U}(hg:∀{d},k<d→Calls (cxK K w) d g [p] sto (.ref sto.length) (sto++[.inst v.fields]))(hk:1≤k)(hd:k+1<d):Calls (cxK K w) d 9 [p,.fn g] sto (encU v) sto:=
 Calls.of hd (by exact Nat.le_add_left _ _) fun d' h1 wf hb Q q=>use9 H (by exact o253 hk h1) (by
  refine ss_var (ev_callv rfl (es_cons (ev_var rfl) es_nil) (hg (by exact h1))) ?_
  refine ss_setf (l':=v.fields) (ev_comp (l:=[]) (i_list (ev_attr (ev_var rfl) ((isU_ref at_app) 4))) (Nat.zero_le _) (fun _=>true) id (fun x hx=>by exact nM hx) fun x hx=>by exact nM hx) rfl rfl ?_
  exact ss_ret (ev_var rfl) (ret_none rfl wf (frz_inst (i:=0) rfl rfl (by simp) (frzs_clean below_fields)) q))
theorem spec14(H:KOk K){p:PV}{u:U}(hu:IsU sto p u)(hc:u.code.length≤200)(hd:7<d):Calls (cxK K w) d 14 [p] sto (encU (thread u)) sto:=
 Calls.of hd (by decide) fun d' h1 wf hb Q q=>use14 H (by exact up h1 rfl) (ss_ret (ev_call (es_cons (ev_var rfl) (es_cons ev_lit es_nil)) (spec9 H (k:=5) (fun h=>spec13 H hu hc h) (by decide) (by exact o254 h1))) (ret_plain rfl wf below_encU q))
end
end Mine.Internal
set_option maxRecDepth 4000
namespace Mine.Internal
open PySem PySem.W PyProof.Rows PySem.Calls
theorem find_at{α:Type}{f:α→Bool}:∀{l:List α}{k:Nat}{x:α},l[k]? =some x→f x=true→(∀j y,j<k→l[j]? =some y→f y=false)→l.find? f=some x
 |[],k,x,h,_,_=>h
 |a::l,0,x,h,hf,_=>by simp at h;subst h;simp[hf]
 |a::l,k+1,x,h,hf,hn=>by
  have h0:=hn 0 a (Nat.succ_pos _) rfl
  rw[List.find?_cons,h0]
  exact find_at (by simpa using h) hf fun j y hj hy=>hn (j+1) y (by exact Nat.succ_le_succ hj) (hy)
theorem find_no{α:Type}{f:α→Bool}{l:List α}(hn:∀j y,j<l.length→l[j]? =some y→f y=false):l.find? f=none:=by
 rw[List.find?_eq_none]
 intro x hx
 obtain⟨j,hj⟩:=List.getElem?_of_mem hx
 rw[hn j x (List.getElem?_eq_some_iff.mp hj).1 hj]
 simp
noncomputable def setV(f:List Nat):PV:=.dict (f.map fun(k:Nat)=>(k:Int)) ((setM f).map Prod.snd)
theorem in_setV{sto:Sto}{k:Nat}{f:List Nat}:cmpV sto .isIn (.int k) (setV f)=some (decide (k∈f)):=by
 refine(if_t (by unfold setM;simp)).trans ?_
 rw[←setM_fst,setM_has]
theorem notin_setV{sto:Sto}{k:Nat}{f:List Nat}:cmpV sto .notIn (.int k) (setV f)=some (decide (k∉f)):=by
 show(inV sto (.int k) (setV f)).map _=_
 have:inV sto (.int k) (setV f)=some (decide (k∈f)):=in_setV (sto:=sto)
 rw[this]
 show some (!decide (k∈f))=_
 by_cases q:k∈f<;>simp[q]
section
variable {K:Params→Frag} {w:World} {d:Nat} {sto:Sto}
theorem cov_ev{C:Cx}{rho:List (Option PV)}{pc:Nat}{h:H}{x y z:Nat}(h1:rho[x]? =some (some (.int h.s)))(h2:rho[y]? =some (some (.int pc)))(h3:rho[z]? =some (some (.int h.e))):EvT C d (.chain (.var x) [(.le,.var y),(.lt,.var z)]) ⟨rho,sto⟩ (cov pc h) ⟨rho,sto⟩:=by
 have e1:decide ((h.s:Int)≤(pc:Int))=decide (h.s≤pc):=by simp
 have e2:decide ((pc:Int)<(h.e:Int))=decide (pc<h.e):=by simp
 unfold cov
 rw[←e1, ←e2]
 exact t_chain (ev_var h1) (c_two (ev_var h2) rfl (ev_var h3) rfl)
theorem spec15(H':KOk K){p:PV}{u:U}(hu:IsU sto p u){pc:Nat}{i:I}(hi:u.code[pc]? =some i)(hd:2<d):Calls (cxK K w) d 15 [p,.int pc] sto (.list ((later u pc i).map natV)) sto:=
 Calls.of hd (by decide) fun d' h1 wf hb Q q=>use15 H' (by exact up h1 rfl) (by
  refine ss_assign (ev_sub (ev_attr (ev_var rfl) (hu 2)) (ev_var rfl) (code_at hi)) (a_tup rfl (as_cons (a_var (as_cons (a_var (as_nil ?_))))))
  have hife:Ev (cxK K w) d' (.ife (.call 4 [(.var 2)]) (.list []) (.list [(.bin .add (.var 1) (.lit (.int (1))))])) ⟨[some p,some (.int pc),some (.int i.op),some i.arg,none,none,none,none,none,none],sto⟩ (.ref sto.length)
    ⟨[some p,some (.int pc),some (.int i.op),some i.arg,none,none,none,none,none,none],sto++[.list ((if i.isLast then[]else[pc+1]).map natV)]⟩:=by
   refine ev_ife (t_call (ev_call (es_cons (ev_var rfl) es_nil) (spec4 H' i (by exact h1)))) (fun hz=>?_) fun hz=>?_
   .rw[hz];exact ev_listL es_nil
   .rw[hz];exact ev_listL (es_cons (ev_bin (ev_var rfl) ev_lit rfl) es_nil)
  refine ss_var hife ?_
  have app:∀{e:PE}{n:Nat}{rho:List (Option PV)}{l:List Nat}{r:List PS}{Q':Out→St→Prop},rho[4]? =some (some (.ref sto.length))→l.length<5→Ev (cxK K w) d' e ⟨rho,sto++[.list (l.map natV)]⟩ (.int n) ⟨rho,sto++[.list (l.map natV)]⟩→wpSs (cxK K w) d' r Q' ⟨rho,sto++[.list ((l++[n]).map natV)]⟩→
    wpSs (cxK K w) d' (.expr (.meth .append (.var 4) [e])::r) Q' ⟨rho,sto++[.list (l.map natV)]⟩:=fun{e n rho l r Q'} h4 hl he hq=>by
   refine ss_expr (m_append (ev_var h4) at_app he at_app ?_) ?_
   .rw[List.length_map];show _<16777216;exact Nat.le_trans hl (Nat.le_add_left _ _)
   .show wpSs _ _ _ _ ⟨_,(sto++[_]).set sto.length _⟩
    rw[set_app,show l.map natV++[PV.int n]=(l++[n]).map natV by simp[natV]];exact hq
  have fin:∀st,(∃a b c d e,st=St.mk [some p,some (.int pc),some (.int i.op),some i.arg,some (.ref sto.length),a,b,c,d,e] (sto++[.list ((later u pc i).map natV)]))→wpSs (cxK K w) d' [.ret (.var 4)] (retQ sto.length Q) st:=by
   rintro st ⟨a,b,c,d,e,rfl⟩
   exact ss_ret (ev_var rfl) (ret_none rfl wf (frz_list (i:=0) rfl rfl (by simp) (frzs_clean (belows_map (f:=natV) (fun _=>trivial) _))) q)
  have loop:∀(l:List Nat),l.length<5→later u pc i=l++((firstH u.hs pc).map H.t).toList→
    wpSs (cxK K w) d' [.for_ (.tup [(.var 5),(.var 6),(.var 7),(.var 8),(.var 9)]) (.val (.attr (.var 0) 5)) [.ite (.chain (.var 5) [(.le,(.var 1)),(.lt,(.var 6))]) [.expr (.meth .append (.var 4) [(.var 7)]),.brk] []],.ret (.var 4)] (retQ sto.length Q)
     ⟨[some p,some (.int pc),some (.int i.op),some i.arg,some (.ref sto.length),none,none,none,none,none],sto++[.list (l.map natV)]⟩:=fun l hl hlat=>by
   refine ss_forF (l:=u.hs.map encH) (fun k st=>(∃a b c d e,st=St.mk [some p,some (.int pc),some (.int i.op),some i.arg,some (.ref sto.length),a,b,c,d,e] (sto++[.list (l.map natV)]))∧∀j h,j<k→u.hs[j]? =some h→cov pc h=false)
    (i_list (ev_attr (ev_var rfl) (hu.app 5))) ⟨⟨none,none,none,none,none,rfl⟩,fun j h hj=>absurd hj (Nat.not_lt_zero _)⟩ ?_ ?_
   .rintro k x st hx ⟨⟨a,b,c,d,e,rfl⟩,hno⟩
    rw[List.getElem?_map]at hx
    refine x1_1 (Option.map_eq_some_iff.mp hx) fun h hh zL=>?_;subst zL
    refine a_tup rfl (as_cons (a_var (as_cons (a_var (as_cons (a_var (as_cons (a_var (as_cons (a_var (as_nil ?_)))))))))))
    refine ss_ite (cov_ev (h:=h) rfl rfl rfl) (fun hz=>?_) fun hz=>ss_out (ss_nil ⟨⟨_,_,_,_,_,rfl⟩,fun j h' hj hj'=>?_⟩)
    .refine app rfl hl (ev_var (v:=.int h.t) rfl) (ss_brk (fin _ ⟨some (.int h.s),some (.int h.e),some (.int h.t),some (.int 0),some (.bool false),?_⟩))
     rw[hlat,show firstH u.hs pc=some h from find_at hh hz hno]
     rfl
    .rcases Nat.lt_succ_iff_lt_or_eq.mp hj with hj|rfl
     .exact hno j h' hj hj'
     .rw[hh]at hj';obtain rfl:=Option.some.inj hj';exact hz
   .rintro st ⟨⟨a,b,c,d,e,rfl⟩,hno⟩
    refine fin _ ⟨a,b,c,d,e,?_⟩
    rw[hlat,show firstH u.hs pc=none from find_no fun j h hj hh=>hno j h (by rw[List.length_map];exact hj) hh]
    simp
  cases ht:i.tgt with
  |none=>
   refine ss_skip (t_chain (ev_call (es_cons (ev_var rfl) es_nil) (spec1 H' i (by exact h1))) (c_last ev_lit ?_)) ?_
   .cases i<;>first|rfl|contradiction
   .exact loop (if i.isLast then[]else[pc+1]) (by split<;>simp) (by unfold later;rw[ht];simp)
  |some t=>
   refine ss_ite_t (t_chain (ev_call (es_cons (ev_var rfl) es_nil) (spec1 H' i (by exact h1))) (c_last ev_lit ?_)) ?_
   .cases i<;>first|rfl|contradiction
   .refine app rfl (by split<;>simp) (ev_var (v:=.int t) ?_) (ss_out ?_)
    .cases i<;>cases ht<;>rfl
    .exact loop ((if i.isLast then[]else[pc+1])++[t]) (by split<;>simp) (by unfold later;rw[ht];simp))
end
end Mine.Internal
set_option maxRecDepth 4000
namespace Mine.Internal
open PySem PySem.W PyProof.Rows PySem.Calls
section
variable {C:Cx} {d:Nat} {st st₁:St} {rho rho₁:List (Option PV)} {B L L₁ L':Sto} {e a b:PE} {y v:PV} {i:Nat} {w:List PV}
theorem m_appendL(h:Ev C d e st (.ref (B.length+i)) ⟨rho₁,B++L₁⟩)(h1:L₁[i]? =some (.list w))(ha:Ev C d a ⟨rho₁,B++L₁⟩ v ⟨rho,B++L⟩)(h2:L[i]? =some (.list w))(hn:w.length<lineN)(hs:L.set i (.list (w++[v]))=L'):
  Ev C d (.meth .append e [a]) st .none ⟨rho,B++L'⟩:=by
 have:=m_append h (loc.trans h1) ha (loc.trans h2) hn
 rwa [loc_set rfl,hs]at this
theorem m_popL(h:Ev C d e st (.ref (B.length+i)) ⟨rho,B++L⟩)(h1:L[i]? =some (.list (w++[v])))(hs:L.set i (.list w)=L'):Ev C d (.meth .pop e []) st v ⟨rho,B++L'⟩:=by
 have:=m_pop h (loc.trans h1)
 rwa [loc_set rfl,hs]at this
theorem a_subL{o o':SObj}{P:St→Prop}(h:Ev C d e st (.ref (B.length+i)) st₁)(hb:Ev C d b st₁ y ⟨rho,B++L⟩)(ho:L[i]? =some o)(hp:putV o y v=some o')(hs:L.set i o'=L')(q:P ⟨rho,B++L'⟩):wpA C d (.sub e b) v P st:=by
 refine a_sub h hb (loc.trans ho) hp ?_
 rw[loc_set rfl,hs]
 exact q
end
theorem live_fold{n:Nat}:∀(ps:List Nat)(f w:List Nat),f.Nodup→(∀q∈f,q<n)→(∀q∈w,q<n)→
  (ps.foldl (liveOne n) (f,w)).1.Nodup∧(∀q∈(ps.foldl (liveOne n) (f,w)).1,q<n)∧(∀q∈(ps.foldl (liveOne n) (f,w)).2,q<n)∧
  (ps.foldl (liveOne n) (f,w)).2.length+f.length=(ps.foldl (liveOne n) (f,w)).1.length+w.length∧f.length≤(ps.foldl (liveOne n) (f,w)).1.length
 |[],f,w,h1,h2,h3=>⟨h1,h2,h3,Nat.add_comm _ _,Nat.le_refl _⟩
 |p::ps,f,w,h1,h2,h3=>by
  rw[List.foldl_cons]
  by_cases hc:p<n∧p∉f
  .rw[show liveOne n (f,w) p=(f++[p],w++[p])from if_pos hc]
   obtain⟨i1,i2,i3,i4,i5⟩:=live_fold ps (f++[p]) (w++[p])
    (by rw[List.nodup_append];exact⟨h1,nd1,fun a ha b hb=>by rw[List.mem_singleton]at hb;subst hb;exact fun e=>hc.2 (e▸ha)⟩)
    (fun q hq=>by rcases List.mem_append.mp hq with hq|hq;exact h2 q hq;rw[List.mem_singleton]at hq;exact hq▸hc.1)
    (fun q hq=>by rcases List.mem_append.mp hq with hq|hq;exact h3 q hq;rw[List.mem_singleton]at hq;exact hq▸hc.1)
   simp only[List.length_append,List.length_singleton]at i4 i5
   exact⟨i1,i2,i3,by exact Nat.succ.inj i4,by exact o255 i5⟩
  .rw[show liveOne n (f,w) p=(f,w)from if_neg hc]
   exact live_fold ps f w h1 h2 h3
section
variable {K:Params→Frag} {w:World} {d:Nat} {sto:Sto}
noncomputable def liveInv(u:U)(p:PV)(sto:Sto)(n:Nat)(st:St):Prop:=∃f w a,st=⟨[some p,some (.ref (sto.length+0)),some (.ref (sto.length+1)),a],sto++[.dict (setM f),.list (w.map natV)]⟩∧
 liveGo u n f w=live u∧f.Nodup∧(∀q∈f,q<u.code.length)∧(∀q∈w,q<u.code.length)∧2*u.code.length+w.length+1≤n+2*f.length∧w.length≤f.length
theorem spec16(H:KOk K){p:PV}{u:U}(hu:IsU sto p u)(h0:0<u.code.length)(hc:u.code.length≤200)(hd:3<d):Calls (cxK K w) d 16 [p] sto (setV (live u)) sto:=
 Calls.of hd (by decide) fun d' h1 wf hb Q q=>use16 H (by exact up h1 rfl) (by
  refine ss_assign (ev_tup (es_cons (ev_dict1 ev_lit ev_lit) (es_cons (new_list (es_cons ev_lit es_nil)) es_nil))) (a_tup rfl (as_cons (a_var (as_cons (a_var (as_nil ?_))))))
  refine ss_while (liveInv u p sto) (2*u.code.length+2) ⟨[0],[0],none,rfl,rfl,nd1,by simpa using h0,by simpa using h0,Nat.le_add_right _ _,Nat.le_refl _⟩ fun n st hi=>?_
  refine x3_1 hi fun f ws a zE zR=>?_;subst zE;refine x0_5 zR fun hr hnd hf hw hn hwf=>?_
  have hfl:=nodup_le hnd hf
  obtain⟨m,rfl⟩:∃m,n=m+1:=⟨n-1,by exact o66 hn hfl⟩
  rcases List.eq_nil_or_concat ws with rfl|⟨w',pc,rfl⟩
  .refine⟨false,_,t_chain (ev_len (ev_var rfl) (len_ref loc)) (c_last ev_lit rfl),fun h=>(by contradiction),fun _=>?_⟩
   rw[←hr]at q
   refine ss_ret (ev_var rfl) (ret_none rfl wf (frz_dict (i:=0) rfl rfl (by simp) (frzs_clean ?_)) ?_)
   .unfold setM;rw[List.map_map];exact belows_map (f:=fun _=>PV.bool true) (fun _=>trivial) f
   .rw[setM_fst];exact q
  .rw[List.concat_eq_append]at hr hw hn hwf ⊢
   have hpc:pc<u.code.length:=hw pc (ms)
   have hip:u.code[pc]? =some (u.code.getD pc .pop):=by rw[List.getD_eq_getElem?_getD,List.getElem?_eq_getElem hpc];simp
   refine⟨true,_,t_chain (ev_len (ev_var rfl) (len_ref loc)) (c_last ev_lit (gt_t (by simp))),fun _=>?_,fun h=>(by contradiction)⟩
   have pop:=m_popL (C:=cxK K w) (d:=d') (e:=.var 2) (B:=sto) (L:=[.dict (setM f),.list ((w'++[pc]).map natV)]) (i:=1) (w:=w'.map natV) (v:=natV pc) (rho:=[some p,some (.ref (sto.length+0)),some (.ref (sto.length+1)),a]) (ev_var rfl) (by simp) rfl
   refine ss_forF (l:=(later u pc (u.code.getD pc .pop)).map natV) (fun k st=>∃a,st=⟨[some p,some (.ref (sto.length+0)),some (.ref (sto.length+1)),a],
    sto++[.dict (setM (((later u pc (u.code.getD pc .pop)).take k).foldl (liveOne u.code.length) (f,w')).1),.list ((((later u pc (u.code.getD pc .pop)).take k).foldl (liveOne u.code.length) (f,w')).2.map natV)]⟩)
    (i_list (ev_call (es_cons (ev_var rfl) (es_cons pop es_nil)) (spec15 H (hu.app) hip (by exact h1)))) ⟨a,rfl⟩ ?_ ?_
   .rintro k x st hx ⟨a,rfl⟩
    rw[List.getElem?_map]at hx
    refine x1_1 (Option.map_eq_some_iff.mp hx) fun pl hpl zL=>?_;subst zL
    have htk:(later u pc (u.code.getD pc .pop)).take (k+1)=(later u pc (u.code.getD pc .pop)).take k++[pl]:=by rw[List.take_succ,hpl];rfl
    have hfo:=live_fold ((later u pc (u.code.getD pc .pop)).take k) f w' hnd hf fun q hq=>hw q (List.mem_append_left _ hq)
    rw[htk,List.foldl_append,List.foldl_cons,List.foldl_nil]
    generalize((later u pc (u.code.getD pc .pop)).take k).foldl (liveOne u.code.length) (f,w')=fw at hfo
    obtain⟨f1,w1⟩:=fw
    refine a_var ?_
    by_cases hlt:pl<u.code.length
    .have t1:EvT (cxK K w) d' (.chain (.var 3) [(.lt,(.bi .len (.attr (.var 0) 2)))]) ⟨[some p,some (.ref (sto.length+0)),some (.ref (sto.length+1)),a].set 3 (some (natV pl)),sto++[.dict (setM f1),.list (w1.map natV)]⟩ true _:=
      t_chain (ev_var rfl) (c_last (ev_len (ev_attr (ev_var rfl) (hu.app 2)) len_code) (lt_t (by exact Int.ofNat_lt.mpr hlt)))
     by_cases hin:pl∈f1
     .refine ss_skip (t_and (and_go t1 (all_last (t_chain (ev_var rfl) (c_last (ev_var rfl) ((notin_set (loc (i:=0))).trans (congrArg some (decide_eq_false (fun h=>h hin))))))))) (ss_nil ⟨some (natV pl),?_⟩)
      unfold liveOne
      rw[if_neg (fun h=>h.2 hin)];rfl
     .have hl1:=nodup_le hfo.1 hfo.2.1
      have hl2:=hfo.2.2.2.1
      simp only[List.length_append,List.length_singleton]at hn hl1 hl2 hwf
      refine ss_ite_t (t_and (and_go t1 (all_last (t_chain (ev_var rfl) (c_last (ev_var rfl) ((notin_set (loc (i:=0))).trans (congrArg some (decide_eq_true hin)))))))) ?_
      refine ss_assign ev_lit (a_subL (i:=0) (ev_var rfl) (ev_var rfl) rfl (put_set hin (by show _<16777216;exact o67 h0 hc hl1)) rfl ?_)
      refine ss_expr (m_appendL (i:=1) (ev_var rfl) rfl (ev_var rfl) rfl (by rw[List.length_map];show _<16777216;omega) rfl) (ss_out (ss_nil ⟨some (natV pl),?_⟩))
      unfold liveOne
      rw[if_pos ⟨hlt,hin⟩]
      simp
    .refine ss_skip (t_and (and_stop (t_chain (ev_var rfl) (c_last (ev_len (ev_attr (ev_var rfl) (hu.app 2)) len_code) (lt_f (by exact o68 hlt)))))) (ss_nil ⟨some (natV pl),?_⟩)
     unfold liveOne
     rw[if_neg (fun h=>hlt h.1)];rfl
   .rintro st ⟨a,rfl⟩
    rw[List.length_map,List.take_length]
    have hfo:=live_fold (later u pc (u.code.getD pc .pop)) f w' hnd hf fun q hq=>hw q (List.mem_append_left _ hq)
    refine ss_nil ⟨m,Nat.lt_succ_self _,_,_,a,rfl,?_,hfo.1,hfo.2.1,hfo.2.2.1,?_,?_⟩
    .rw[←hr]
     conv=>rhs;unfold liveGo
     simp
    .have h4:=hfo.2.2.2.1
     have h5:=hfo.2.2.2.2
     simp only[List.length_append,List.length_singleton]at hn
     omega
    .have h4:=hfo.2.2.2.1
     simp only[List.length_append,List.length_singleton]at hwf
     omega)
end
end Mine.Internal
set_option maxRecDepth 4000
namespace Mine.Internal
open PySem PySem.W PyProof.Rows PySem.Calls
theorem toDs_nats:∀l:List Nat,toDs (l.map natV)=some ((l.map fun(n:Nat)=>(n:Int)).map PyData.int)
 |[]=>rfl
 |n::l=>by
  show(toD (natV n)).bind (fun d=>(toDs (l.map natV)).map fun r=>d::r)=_
  rw[toDs_nats l];rfl
theorem ne_nil{sto:Sto}{l:List Nat}(h:l≠[]):cmpV sto .ne (linesV l) (.list [])=some true:=by
 have e:deepEq sto (linesV l) (.list [])=some false:=by
  show((toDs (l.map natV)).map PyData.list).bind _=_
  rw[toDs_nats]
  show(if SeqAt.shaped (.list ((l.map fun(n:Nat)=>(n:Int)).map PyData.int))&&SeqAt.shaped (.list [])then _ else _)=_
  rw[shaped_ints]
  cases l with
  |nil=>exact absurd rfl h
  |cons a l=>rfl
 show(eqV sto (linesV l) (.list [])).map _=_
 have e2:eqV sto (linesV l) (.list [])=some false:=e
 rw[e2];rfl
theorem boolsOf_map{α:Type}(g:α→Bool):∀l:List α,boolsOf (l.map fun x=>PV.bool (g x))=some (l.map g)
 |[]=>rfl
 |x::l=>by
  show(boolsOf (l.map fun x=>PV.bool (g x))).map _=_
  rw[boolsOf_map g l];rfl
theorem old_at{B L:Sto}{i:Nat}{o:SObj}(h:B[i]? =some o):(B++L)[i]? =some o:=by
 rw[List.getElem?_append_left (List.getElem?_eq_some_iff.mp h).1];exact h
theorem sub_ref{sto:Sto}{i k:Nat}{l:List PV}{v:PV}(h:sto[i]? =some (.list l))(hk:l[k]? =some v):subV sto (.ref i) (.int k)=some v:=by
 exact(op_at h).trans hk
theorem attr0{B L:Sto}{l:List PV}{k:Nat}{v:PV}(h:l[k]? =some v):attrV (B++.inst l::L) (.ref B.length) k=some v:=(attr_ref (loc (i:=0))).trans h
noncomputable def rowP(u:U)(pc:Nat):PV:=.tup [.int (u.code.getD pc .pop).op,(u.code.getD pc .pop).arg,natV (u.lines.getD pc 0)]
section
variable {K:Params→Frag} {w:World} {d:Nat} {sto:Sto}
theorem spec17(H:KOk K){p:PV}{u:U}(hu:IsU sto p u){pc:Nat}{i:I}(hi:u.code[pc]? =some i)(lv:List Nat)(ht:∀t,i.tgt=some t→t≤200)(hd:1<d):
  Calls (cxK K w) d 17 [p,setV lv,.int pc] sto (.bool (idle lv pc i)) sto:=
 Calls.of hd (by decide) fun d' h1 wf hb Q q=>use17 H (by exact h1) (by
  refine ss_assign (ev_sub (ev_attr (ev_var rfl) (hu 2)) (ev_var rfl) (code_at hi)) (a_tup rfl (as_cons (a_var (as_cons (a_var (as_nil ?_))))))
  by_cases hj:∃t,i=.jmp t
  .obtain⟨t,rfl⟩:=hj
   have ht:=ht t rfl
   have hpc:=(List.getElem?_eq_some_iff.mp hi).1
   by_cases hlt:pc<t
   .refine ss_skip (t_or (or_go (t_chain (ev_var rfl) (c_last ev_lit rfl)) (all_last (t_chain (ev_var rfl) (c_last (ev_var rfl) (le_f (by show¬(t:Int)≤pc;exact o58 hlt))))))) ?_
    have hf:∀x∈rngI ((pc:Int)+1) t,∃k,x=natV (pc+1+k):=fun x hx=>by
     refine x1_1 (List.mem_map.mp hx) fun k _ zL=>?_;subst zL
     exact⟨k,by congr 1⟩
    have hc:=ev_comp (C:=cxK K w) (d:=d') (elt:=.chain (.var 0) [(.notIn,.var 1)]) (ifs:=[]) (cs:=[1]) (rho:=[some p,some (setV lv),some (.int pc),some (.int (58:Nat)),some (.int t)]) (sto:=sto)
     (i_range2 (a:=.bin .add (.var 2) (.lit (.int 1))) (e:=.var 4) (ev_bin (ev_var rfl) ev_lit rfl) (ev_var rfl) (by exact o69) (by show _≤((16777216:Nat):Int);exact o256 ht hlt) (by exact o257 ht) (by show _≤((16777216:Nat):Int);exact o258 ht))
     (by unfold rngI;rw[List.length_map,List.length_range];show _≤16777216;exact o70 ht) (fun _=>true) (fun x=>match x with| .int k=>.bool (decide (k.toNat∉lv))|_=>.none) (fun x hx=>all_nil)
     (fun x hx _=>by
      obtain⟨k,rfl⟩:=hf x hx
      exact ev_chain (ev_var rfl) (c_last (ev_var rfl) (notin_setV (k:=pc+1+k))))
    have he:(((rngI ((pc:Int)+1) t).filter fun _=>true).map fun x=>match x with| .int k=>PV.bool (decide (k.toNat∉lv))|_=>.none)=(List.range (t-(pc+1))).map fun k=>PV.bool (decide (pc+1+k∉lv)):=by
     rw[List.filter_eq_self.mpr fun _ _=>rfl]
     unfold rngI
     rw[List.map_map,show((t:Int)-((pc:Int)+1)).toNat=t-(pc+1)by exact o71 hlt]
     refine List.map_congr_left fun k _=>?_
     show PV.bool (decide (((pc:Int)+1+k).toNat∉lv))=_
     rw[show((pc:Int)+1+k).toNat=pc+1+k by exact rfl]
    rw[he]at hc
    have hid:idle lv pc (.jmp t)=((List.range (t-(pc+1))).map fun k=>decide (pc+1+k∉lv)).all id:=by
     unfold idle
     dsimp only
     rw[decide_eq_true hlt,List.all_map];rfl
    rw[hid]at q
    exact ss_ret (ev_allb hc (boolsOf_map (fun k=>decide (pc+1+k∉lv)) _)) (ret_plain rfl wf below_bool q)
   .have hid:idle lv pc (.jmp t)=false:=by unfold idle;dsimp only;rw[decide_eq_false hlt];rfl
    rw[hid]at q
    exact ss_ite_t (t_or (or_go (t_chain (ev_var rfl) (c_last ev_lit rfl)) (all_last (t_chain (ev_var rfl) (c_last (ev_var rfl) (le_t (by show(t:Int)≤pc;exact o72 hlt))))))) (ss_ret ev_lit (ret_plain rfl wf below_bool q))
  .have hid:idle lv pc i=false:=by cases i<;>first|rfl|exact absurd ⟨_,rfl⟩ hj
   rw[hid]at q
   refine ss_ite_t (t_or (or_stop (t_chain (ev_var rfl) (c_last ev_lit ?_)))) (ss_ret ev_lit (ret_plain rfl wf below_bool q))
   cases i with
   |jmp t=>exact absurd ⟨t,rfl⟩ hj
   |tst k b t=>cases k<;>cases b<;>rfl
   |_=>rfl)
noncomputable def rebU(u:U)(ks:List Nat)(f:Nat→Nat)(hs:List H):U where
 code:=ks.map fun pc=>(u.code.getD pc .pop).to f
 lines:=ks.map fun pc=>u.lines.getD pc 0
 hs:=(hs.map (H.to f)).filter fun h=>decide (h.s<h.e)
theorem encI_to{i:I}{f:Nat→Nat}{t:Nat}(h:i.tgt=some t):encI (i.to f)=.tup [.int i.op,.int (f t:Nat)]:=by
 cases i<;>cases h<;>rfl
theorem encI_to0{i:I}{f:Nat→Nat}(h:i.tgt=none):encI (i.to f)=encI i:=by
 cases i<;>first|rfl|exact nomatch h
theorem arg_tgt{i:I}{t:Nat}(h:i.tgt=some t):i.arg=.int t:=by cases i<;>cases h<;>rfl
theorem kind_tgt{i:I}:i.kind="t"↔i.tgt.isSome=true:=by
 cases i<;>simp[I.kind,I.tgt]
theorem spec7(hK:KOk K){p:PV}{u:U}(hu:IsU sto p u)(hl:u.lines≠[]){r q':Nat}{ks P:List Nat}{f:Nat→Nat}{hs:List H}(hr:sto[r]? =some (.list (ks.map (rowP u))))(hq:sto[q']? =some (.list (P.map natV)))
  (ht:∀pc∈ks,∀t,(u.code.getD pc .pop).tgt=some t→P[t]? =some (f t)) (hh:∀h∈hs,P[h.s]? =some (f h.s)∧P[h.e]? =some (f h.e)∧P[h.t]? =some (f h.t)) (hk:ks.length≤200) (hn:hs.length≤10) (hd:4<d):
  Calls (cxK K w) d 7 [p,.ref r,.ref q',hsV hs] sto (.ref sto.length) (sto++[.inst (rebU u ks f hs).fields]):=
 Calls.of hd (by decide) fun d' h1 wf hb Q q=>use7 hK (by exact up h1 rfl) (by
  refine ss_var (ev_call (es_cons (ev_var rfl) es_nil) (spec5 hK hu (by exact h1))) ?_
  have lst:∀{i:Nat}{l:List Nat}{g:Nat→PV},(l.map g)[i]? =(l[i]?).map g:=fun{i l g}=>List.getElem?_map ..
  have sub:∀{x k v:Nat}{rho:List (Option PV)}{L:Sto},rho[2]? =some (some (.ref q'))→rho[x]? =some (some (.int k))→P[k]? =some v→Ev (cxK K w) d' (.sub (.var 2) (.var x)) ⟨rho,sto++L⟩ (natV v) ⟨rho,sto++L⟩:=fun{x k v rho L} h2 hx hv=>
   ev_sub (ev_var h2) (ev_var hx) (sub_ref (old_at hq) (by rw[lst,hv];rfl))
  refine ss_for (S:=.live r (ks.map (rowP u))) (fun k st=>∃a b c,st=⟨[some p,some (.ref r),some (.ref q'),some (hsV hs),some (.ref sto.length),a,b,c,none,none,none,none,none],
   sto++[.inst (uFields (.ref (sto.length+1)) (.ref (sto.length+2)) (.ref (sto.length+3))),.list ((ks.take k).map fun pc=>encI ((u.code.getD pc .pop).to f)),.list [],.list ((ks.take k).map fun pc=>natV (u.lines.getD pc 0))]⟩)
   (i_live (ev_var rfl) (lst_ref (old_at hr))) ⟨none,none,none,rfl⟩ ?_ ?_
  .rintro k x st hx ⟨a,b,c,rfl⟩
   refine⟨old_at hr,?_⟩
   have hx:(ks.map (rowP u))[k]? =some x:=hx
   rw[lst]at hx
   refine x1_1 (Option.map_eq_some_iff.mp hx) fun pc hpc zL=>?_;subst zL
   have hm:=List.mem_of_getElem? hpc
   have hkl:=(List.getElem?_eq_some_iff.mp hpc).1
   have htk:ks.take (k+1)=ks.take k++[pc]:=by rw[List.take_succ,hpc];rfl
   rw[htk]
   refine a_tup rfl (as_cons (a_var (as_cons (a_var (as_cons (a_var (as_nil ?_)))))))
   have he:∀{L:Sto},Ev (cxK K w) d' (.ife (.chain (.call 1 [(.var 5)]) [(.eq,(.lit (.str "t")))]) (.tup [(.var 5),(.sub (.var 2) (.var 6))]) (.tup [(.var 5),(.var 6)]))
     ⟨[some p,some (.ref r),some (.ref q'),some (hsV hs),some (.ref sto.length),some (.int (u.code.getD pc .pop).op),some (u.code.getD pc .pop).arg,some (natV (u.lines.getD pc 0)),none,none,none,none,none],sto++L⟩
     (encI ((u.code.getD pc .pop).to f)) ⟨[some p,some (.ref r),some (.ref q'),some (hsV hs),some (.ref sto.length),some (.int (u.code.getD pc .pop).op),some (u.code.getD pc .pop).arg,some (natV (u.lines.getD pc 0)),none,none,none,none,none],sto++L⟩:=fun{L}=>by
    cases hti:(u.code.getD pc .pop).tgt with
    |none=>
     rw[encI_to0 hti]
     refine ev_ife_f (t_chain (ev_call (es_cons (ev_var rfl) es_nil) (spec1 hK _ (by exact up h1 rfl))) (c_last ev_lit ?_)) (ev_tup (es_cons (ev_var rfl) (es_cons (ev_var rfl) es_nil)))
     have:¬(u.code.getD pc .pop).kind="t":=fun h=>by rw[kind_tgt,hti]at h;exact nF h
     generalize u.code.getD pc .pop=i at this
     cases i<;>first|rfl|exact absurd rfl this
    |some t=>
     rw[encI_to hti]
     refine ev_ife_t (t_chain (ev_call (es_cons (ev_var rfl) es_nil) (spec1 hK _ (by exact up h1 rfl))) (c_last ev_lit ?_)) (ev_tup (es_cons (ev_var rfl) (es_cons (sub rfl (by rw[arg_tgt hti];rfl) (ht pc hm t hti)) es_nil)))
     rw[kind_tgt.mpr (by rw[hti];rfl)];rfl
   refine ss_expr (m_appendL (i:=1) (ev_attr (ev_var rfl) (attr0 rfl)) rfl he rfl (by rw[List.length_map,List.length_take];show _<16777216;exact o65 hk hkl) rfl) ?_
   refine ss_ite_t (t_chain (ev_attr (ev_var rfl) (hu.app 6)) (c_last (ev_listF es_nil) (ne_nil hl))) ?_
   refine ss_expr (m_appendL (i:=3) (ev_attr (ev_var rfl) (attr0 rfl)) rfl (ev_var rfl) rfl (by rw[List.length_map,List.length_take];show _<16777216;exact o65 hk hkl) rfl) (ss_out (ss_nil ⟨some (.int (u.code.getD pc .pop).op),some (u.code.getD pc .pop).arg,some (natV (u.lines.getD pc 0)),?_⟩))
   rw[List.map_append,List.map_append];rfl
  .rintro st ⟨a,b,c,rfl⟩
   refine⟨old_at hr,?_⟩
   have htk:ks.take (Src.items (.live r (ks.map (rowP u)))).length=ks:=by show ks.take (ks.map (rowP u)).length=ks;simp
   rw[htk]
   refine ss_forF (l:=hs.map encH) (fun k st=>∃b0 b1 b2 b3 b4,st=⟨[some p,some (.ref r),some (.ref q'),some (hsV hs),some (.ref sto.length),a,b,c,b0,b1,b2,b3,b4],
    sto++[.inst (uFields (.ref (sto.length+1)) (.ref (sto.length+2)) (.ref (sto.length+3))),.list (ks.map fun pc=>encI ((u.code.getD pc .pop).to f)),.list ((((hs.take k).map (H.to f)).filter fun h=>decide (h.s<h.e)).map encH),.list (ks.map fun pc=>natV (u.lines.getD pc 0))]⟩)
    (i_list (ev_var rfl)) ⟨none,none,none,none,none,rfl⟩ ?_ ?_
   .rintro k x st hx ⟨b0,b1,b2,b3,b4,rfl⟩
    rw[List.getElem?_map]at hx
    refine x1_1 (Option.map_eq_some_iff.mp hx) fun h hhk zL=>?_;subst zL
    refine x0_2 (hh h (List.mem_of_getElem? hhk)) fun g1 g2 g3=>?_
    have hkl:=(List.getElem?_eq_some_iff.mp hhk).1
    have htk:hs.take (k+1)=hs.take k++[h]:=by rw[List.take_succ,hhk];rfl
    rw[htk]
    refine a_tup rfl (as_cons (a_var (as_cons (a_var (as_cons (a_var (as_cons (a_var (as_cons (a_var (as_nil ?_)))))))))))
    by_cases hlt:f h.s<f h.e
    .refine ss_ite_t (t_chain (sub rfl (k:=h.s) rfl g1) (c_last (sub rfl (k:=h.e) rfl g2) (lt_t (by exact Int.ofNat_lt.mpr hlt)))) ?_
     refine ss_expr (m_appendL (i:=2) (ev_attr (ev_var rfl) (attr0 rfl)) rfl (ev_tup (es_cons (sub rfl (k:=h.s) rfl g1) (es_cons (sub rfl (k:=h.e) rfl g2) (es_cons (sub rfl (k:=h.t) rfl g3) (es_cons (ev_var rfl) (es_cons (ev_var rfl) es_nil)))))) rfl ?_ rfl) (ss_out (ss_nil ⟨some (.int h.s),some (.int h.e),some (.int h.t),some (.int 0),some (.bool false),?_⟩))
     .rw[List.length_map]
      have:=List.length_filter_le (fun h:Mine.Internal.H=>decide (h.s<h.e)) ((hs.take k).map (H.to f))
      rw[List.length_map,List.length_take]at this
      show _<16777216;exact o73 hn hkl this
     .rw[List.map_append,List.filter_append,List.map_append]
      have:[h].map (H.to f)=[⟨f h.s,f h.e,f h.t⟩]:=rfl
      rw[this,List.filter_cons,if_pos (decide_eq_true hlt)];rfl
    .refine ss_skip (t_chain (sub rfl (k:=h.s) rfl g1) (c_last (sub rfl (k:=h.e) rfl g2) (lt_f (by exact o68 hlt)))) (ss_nil ⟨some (.int h.s),some (.int h.e),some (.int h.t),some (.int 0),some (.bool false),?_⟩)
     rw[List.map_append,List.filter_append]
     have:[h].map (H.to f)=[⟨f h.s,f h.e,f h.t⟩]:=rfl
     rw[this,List.filter_cons,if_neg (by simpa using Nat.not_lt.mp hlt)]
     rw[List.filter_nil,List.append_nil];rfl
   .rintro st ⟨b0,b1,b2,b3,b4,rfl⟩
    have htk:hs.take (hs.map encH).length=hs:=by simp
    rw[htk]
    refine ss_ret (ev_var rfl) (ret_inst (i:=0) rfl wf rfl ?_ q)
    have e1:codeV (rebU u ks f hs).code=.list (ks.map fun pc=>encI ((u.code.getD pc .pop).to f)):=congrArg PV.list (List.map_map ..)
    have e2:linesV (rebU u ks f hs).lines=.list (ks.map fun pc=>natV (u.lines.getD pc 0)):=congrArg PV.list (List.map_map ..)
    unfold U.fields
    rw[e1,e2]
    refine frzs_uFields (frz_list (i:=1) rfl rfl (ni (Nat.ne_of_gt (Nat.lt_succ_self _))) (frzs_clean ?_)) (frz_list (i:=2) rfl rfl (by simp) (frzs_clean (belows_map (f:=encH) (fun _=>⟨trivial,trivial,trivial,trivial,trivial,trivial⟩) _))) (frz_list (i:=3) rfl rfl (by simp) (frzs_clean ?_))
    .exact belows_map (fun _=>below_encI) _
    .exact belows_map (f:=fun pc=>natV (u.lines.getD pc 0)) (fun _=>trivial) _)
end
end Mine.Internal
set_option maxRecDepth 4000
namespace Mine.Internal
open PySem PySem.W PyProof.Rows PySem.Calls
theorem enumd_at{l:List PV}{k:Nat}:(enumd l)[k]? =(l[k]?).map fun x=>PV.tup [.int k,x]:=by
 unfold enumd
 rw[List.getElem?_zipWith]
 cases h:l[k]? with
 |none=>
  have:=List.getElem?_eq_none_iff.mp h
  simp
 |some x=>
  have:=(List.getElem?_eq_some_iff.mp h).1
  rw[List.getElem?_range this];rfl
theorem enumd_length{l:List PV}:(enumd l).length=l.length:=by unfold enumd;simp
theorem keptL_succ{u:U}{lv:List Nat}{k:Nat}:keptL u lv (k+1)=keptL u lv k++(if keepB u lv k then[k]else[]):=by
 unfold keptL
 rw[List.range_succ,List.filter_append,List.filter_cons,List.filter_nil]
theorem keptL_le{u:U}{lv:List Nat}{k:Nat}:(keptL u lv k).length≤k:=by
 have:=List.length_filter_le (keepB u lv) (List.range k)
 rwa [List.length_range]at this
theorem keptL_lt{u:U}{lv:List Nat}{k pc:Nat}(h:pc∈keptL u lv k):pc<k:=by
 exact List.mem_range.mp (List.mem_filter.mp h).1
section
variable {K:Params→Frag} {w:World} {d:Nat} {sto:Sto}
theorem tgt_ok{u:U}(g:Good u){pc:Nat}{i:I}{t:Nat}(h:u.code[pc]? =some i)(ht:i.tgt=some t):t<u.code.length:=by
 refine x1_3 g.ty fun ty _ _ h3 _=>?_
 have:=h3 pc i h
 cases i<;>cases ht
 .exact this.1
 .exact this.2.2.2.1
theorem spec18(hK:KOk K){p:PV}{u:U}(hu:IsU sto p u)(g:Good u)(hd:5<d):Calls (cxK K w) d 18 [p] sto (.ref sto.length) (sto++[.inst (cleanOnce u).fields]):=
 Calls.of hd (by decide) fun d' h1 wf hb Q q=>use18 hK (by exact up h1 rfl) (by
  have few:=g.few
  refine ss_assign (ev_tup (es_cons (ev_call (es_cons (ev_var rfl) es_nil) (spec16 hK hu g.ne g.few (by exact up h1 rfl))) (es_cons (ev_listL es_nil) (es_cons (new_list es_nil) es_nil)))) (a_tup rfl (as_cons (a_var (as_cons (a_var (as_cons (a_var (as_nil ?_))))))))
  refine ss_forF (l:=enumd (u.code.map encI)) (fun k st=>∃a b c,st=⟨[some p,some (setV (live u)),some (.ref sto.length),some (.ref (sto.length+1)),a,b,c],
   sto++[.list ((keptL u (live u) k).map (rowP u)),.list ((List.range k).map fun j=>natV (rank u (live u) j))]⟩) (i_enum (ev_attr (ev_var rfl) (hu.app 2))) ⟨none,none,none,rfl⟩ ?_ ?_
  .rintro k x st hx ⟨a,b,c,rfl⟩
   rw[enumd_at,List.getElem?_map]at hx
   cases hi:u.code[k]? with
   |none=>rw[hi]at hx;exact nN hx
   |some i=>
    rw[hi]at hx
    obtain rfl:=Option.some.inj hx
    have hkl:=(List.getElem?_eq_some_iff.mp hi).1
    have hgi:u.code.getD k .pop=i:=by rw[List.getD_eq_getElem?_getD,hi];rfl
    have hle:=keptL_le (u:=u) (lv:=live u) (k:=k)
    refine a_tup rfl (as_cons (a_var (as_cons (a_tup rfl (as_cons (a_var (as_cons (a_var (as_nil (as_nil ?_))))))))))
    refine ss_expr (m_appendL (i:=1) (ev_var rfl) rfl (ev_len (ev_var rfl) (len_ref (loc (i:=0)))) rfl (by rw[List.length_map,List.length_range];show _<16777216;exact o74 few hkl) rfl) ?_
    have hp:((List.range k).map fun j=>natV (rank u (live u) j))++[PV.int ((keptL u (live u) k).map (rowP u)).length]=(List.range (k+1)).map fun j=>natV (rank u (live u) j):=by
     rw[List.range_succ,List.map_append,List.length_map];rfl
    have t1:EvT (cxK K w) d' (.chain (.var 4) [(.isIn,(.var 1))]) ⟨[some p,some (setV (live u)),some (.ref sto.length),some (.ref (sto.length+1)),some (.int k),some (.int i.op),some i.arg],
     sto++[.list ((keptL u (live u) k).map (rowP u)),.list ((List.range (k+1)).map fun j=>natV (rank u (live u) j))]⟩ (decide (k∈live u)) _:=t_chain (ev_var rfl) (c_last (ev_var rfl) in_setV)
    have t2:EvT (cxK K w) d' (.not (.call 17 [(.var 0),(.var 1),(.var 4)])) ⟨[some p,some (setV (live u)),some (.ref sto.length),some (.ref (sto.length+1)),some (.int k),some (.int i.op),some i.arg],
     sto++[.list ((keptL u (live u) k).map (rowP u)),.list ((List.range (k+1)).map fun j=>natV (rank u (live u) j))]⟩ (!idle (live u) k i) _:=
     t_not (t_call (ev_call (es_cons (ev_var rfl) (es_cons (ev_var rfl) (es_cons (ev_var rfl) es_nil))) (spec17 hK hu.app hi (live u) (fun t ht=>by have:=tgt_ok g hi ht;exact o75 few this) (by exact o259 h1))))
    show wpSs _ _ _ _ ⟨[some p,some (setV (live u)),some (.ref sto.length),some (.ref (sto.length+1)),some (.int k),some (.int i.op),some i.arg],
     sto++[.list ((keptL u (live u) k).map (rowP u)),.list (((List.range k).map fun j=>natV (rank u (live u) j))++[PV.int ((keptL u (live u) k).map (rowP u)).length])]⟩
    rw[hp]
    have hkb:keepB u (live u) k=(decide (k∈live u)&& !idle (live u) k i):=by unfold keepB;rw[hgi]
    by_cases hlv:k∈live u
    .rw[decide_eq_true hlv]at t1 hkb
     refine ss_ite (t_and (and_go t1 (all_last t2))) (fun hz=>?_) fun hz=>ss_out (ss_nil ⟨some (.int k),some (.int i.op),some i.arg,?_⟩)
     .have he:EvP (cxK K w) d' (.tup [(.var 5),(.var 6),(.call 6 [(.var 0),(.var 4)])]) ⟨[some p,some (setV (live u)),some (.ref sto.length),some (.ref (sto.length+1)),some (.int k),some (.int i.op),some i.arg],
        sto++[.list ((keptL u (live u) k).map (rowP u)),.list ((List.range (k+1)).map fun j=>natV (rank u (live u) j))]⟩ (rowP u k):=by
       have e:rowP u k=.tup [.int i.op,i.arg,natV (u.lines.getD k 0)]:=by unfold rowP;rw[hgi]
       rw[e]
       exact ev_tup (es_cons (ev_var rfl) (es_cons (ev_var rfl) (es_cons (ev_call (es_cons (ev_var rfl) (es_cons (ev_var rfl) es_nil)) (spec6u hK hu.app k (by rw[g.lens];exact hkl) (by exact up h1 rfl))) es_nil)))
      refine ss_expr (m_appendL (i:=0) (ev_var rfl) rfl he rfl (by rw[List.length_map];show _<16777216;exact o76 few hkl hle) rfl) (ss_out (ss_nil ⟨some (.int k),some (.int i.op),some i.arg,?_⟩))
      .rw[keptL_succ,hkb,hz]
       simp
     .rw[keptL_succ,hkb,hz]
      simp
    .rw[decide_eq_false hlv]at t1 hkb
     refine ss_skip (t_and (and_stop t1)) (ss_nil ⟨some (.int k),some (.int i.op),some i.arg,?_⟩)
     rw[keptL_succ,hkb]
     simp
  .rintro st ⟨a,b,c,rfl⟩
   rw[enumd_length,List.length_map]
   have hle:=keptL_le (u:=u) (lv:=live u) (k:=u.code.length)
   refine ss_expr (m_appendL (i:=1) (ev_var rfl) rfl (ev_len (ev_var rfl) (len_ref (loc (i:=0)))) rfl (by rw[List.length_map,List.length_range];show _<16777216;exact o77 few) rfl) ?_
   have hp:((List.range u.code.length).map fun j=>natV (rank u (live u) j))++[PV.int ((keptL u (live u) u.code.length).map (rowP u)).length]=((List.range (u.code.length+1)).map (rank u (live u))).map natV:=by
    rw[List.map_map,List.range_succ,List.map_append,List.length_map];rfl
   show wpSs _ _ _ _ ⟨[some p,some (setV (live u)),some (.ref sto.length),some (.ref (sto.length+1)),a,b,c],
     sto++[.list ((keptL u (live u) u.code.length).map (rowP u)),.list (((List.range u.code.length).map fun j=>natV (rank u (live u) j))++[PV.int ((keptL u (live u) u.code.length).map (rowP u)).length])]⟩
   rw[hp]
   have hcomp:=ev_comp (C:=cxK K w) (d:=d') (elt:=.var 0) (src:=.val (.attr (.var 0) 5)) (ifs:=[(.chain (.sub (.var 0) (.lit (.int (2)))) [(.isIn,(.var 1))])]) (cs:=[1]) (l:=u.hs.map encH) (rho:=[some p,some (setV (live u)),some (.ref sto.length),some (.ref (sto.length+1)),a,b,c])
    (sto:=sto++[.list ((keptL u (live u) u.code.length).map (rowP u)),.list (((List.range (u.code.length+1)).map (rank u (live u))).map natV)])
    (i_list (ev_attr (ev_var rfl) (hu.app 5))) (by rw[List.length_map];have:=g.hfew;show _≤16777216;exact Nat.le_trans this (Nat.le_add_left _ _)) (fun x=>match x with| .tup [_,_,.int t,_,_]=>decide (t.toNat∈live u)|_=>false) id
    (fun x hx=>by
     refine x1_1 (List.mem_map.mp hx) fun h _ zL=>?_;subst zL
     exact all_last (t_chain (ev_sub (ev_var rfl) ev_lit rfl) (c_last (ev_var rfl) (in_setV (k:=h.t))))) (fun x hx _=>ev_var rfl)
   have hce:(((u.hs.map encH).filter fun x=>match x with| .tup [_,_,.int t,_,_]=>decide (t.toNat∈live u)|_=>false).map id)=(u.hs.filter fun h=>decide (h.t∈live u)).map encH:=by
    rw[List.map_id,List.filter_map];rfl
   rw[hce]at hcomp
   have hP:∀x,x≤u.code.length→((List.range (u.code.length+1)).map (rank u (live u)))[x]? =some (rank u (live u) x):=fun x hx=>by
    rw[List.getElem?_map,List.getElem?_range (by exact Nat.succ_le_succ hx)];rfl
   have h7:=spec7 hK (w:=w) (d:=d') (sto:=sto++[.list ((keptL u (live u) u.code.length).map (rowP u)),.list (((List.range (u.code.length+1)).map (rank u (live u))).map natV)]) (p:=p) (u:=u) hu.app
    (by intro e;have:=g.lens;rw[e]at this;have h0:=g.ne;rw[←this]at h0;exact Nat.lt_irrefl _ h0) (r:=sto.length) (q':=sto.length+1) (ks:=keptL u (live u) u.code.length) (P:=(List.range (u.code.length+1)).map (rank u (live u))) (f:=rank u (live u)) (hs:=u.hs.filter fun h=>decide (h.t∈live u))
    (loc (i:=0)) (loc (i:=1)) (fun pc hpc t ht=>hP t (by
     have hl:=keptL_lt hpc
     have:u.code[pc]? =some (u.code.getD pc .pop):=by rw[List.getD_eq_getElem?_getD,List.getElem?_eq_getElem hl];rfl
     exact Nat.le_of_lt (tgt_ok g this ht)))
    (fun h hh=>by
     have:=g.hs h (List.mem_filter.mp hh).1
     exact⟨hP _ (by exact o78 this),hP _ (by exact o260 this),hP _ (by exact o261 this)⟩) (by exact o262 few hle) (by
     have:=List.length_filter_le (fun h:H=>decide (h.t∈live u)) u.hs
     have:=g.hfew;exact o79 (by assumption) this) (by exact o263 h1)
   rw[List.length_append,List.append_assoc]at h7
   exact ss_ret (ev_call (es_cons (ev_var rfl) (es_cons (ev_var rfl) (es_cons (ev_var rfl) (es_cons hcomp es_nil)))) h7) (ret_inst (i:=2) rfl wf rfl (frzs_clean below_fields) q))
end
end Mine.Internal
set_option maxRecDepth 4000
namespace Mine.Internal
open PySem PySem.W PyProof.Rows PySem.Calls
section
variable {K:Params→Frag} {w:World} {d:Nat} {sto:Sto}
theorem len_unit{sto:Sto}{pu:PV}{u:U}{x:Nat}{rho:List (Option PV)}{C:Cx}(h:rho[x]? =some (some pu))(hu:IsU sto pu u):EvP C d (.bi .len (.attr (.var x) 2)) ⟨rho,sto⟩ (.int u.code.length):=
 ev_len (ev_attr (ev_var h) (hu 2)) len_code
noncomputable def cleanInv(u:U)(sto:Sto)(n:Nat)(st:St):Prop:=∃(v:U) (pv:PV) (L:Sto) (j m:Nat),st=⟨[some pv,some (.ref (sto.length+j))],sto++L⟩∧Good v∧IsU (sto++L) pv v∧L[j]? =some (.inst (cleanOnce v).fields)∧
 cleanGo m v=clean u∧v.code.length≤m∧v.code.length=n
theorem spec19(hK:KOk K)(hG:∀u,Good u→Good (cleanOnce u)){p:PV}{u:U}(hu:IsU sto p u)(g:Good u)(hd:6<d):Calls (cxK K w) d 19 [p] sto (.ref sto.length) (sto++[.inst (clean u).fields]):=
 Calls.of hd (by decide) fun d' h1 wf hb Q q=>use19 hK (by exact up h1 rfl) (by
  refine ss_var (ev_call (es_cons (ev_var rfl) es_nil) (spec18 hK hu g (by exact h1))) ?_
  refine ss_while (cleanInv u sto) u.code.length ⟨u,p,[.inst (cleanOnce u).fields],0,u.code.length,rfl,g,hu.app,rfl,rfl,Nat.le_refl _,rfl⟩ fun n st hi=>?_
  refine x5_1 hi fun v pv L j m zE zR=>?_;subst zE;refine x0_5 zR fun gv hv hj hm hle hn=>?_
  have hmade:IsU (sto++L) (.ref (sto.length+j)) (cleanOnce v):=isU_ref (loc.trans hj)
  refine⟨decide ((cleanOnce v).code.length<v.code.length),_,t_chain (len_unit rfl hmade) (c_last (len_unit rfl hv) (by show some (decide (((cleanOnce v).code.length:Int)<v.code.length))=_;simp)),fun hz=>?_,fun hz=>?_⟩
  .have hlt:(cleanOnce v).code.length<v.code.length:=of_decide_eq_true hz
   obtain⟨m',rfl⟩:∃m',m=m'+1:=⟨m-1,by exact o80 hle hn hlt⟩
   have h18:=spec18 hK (w:=w) (d:=d') hmade (hG v gv) (by exact h1)
   rw[List.length_append,List.append_assoc]at h18
   refine ss_var (ev_var rfl) (ss_var (ev_call (es_cons (ev_var rfl) es_nil) h18) (ss_nil ⟨_,by exact Nat.le_trans hlt (Nat.le_of_eq hn),cleanOnce v,.ref (sto.length+j),L++[.inst (cleanOnce (cleanOnce v)).fields],L.length,m',rfl,hG v gv,?_,?_,?_,by exact o264 hn hlt hle,rfl⟩))
   .rw[←List.append_assoc];exact hmade.app
   .exact at_app
   .rw[←hm];conv=>rhs;unfold cleanGo
    rw[if_pos hlt]
  .have hnl:¬(cleanOnce v).code.length<v.code.length:=of_decide_eq_false hz
   have e:cleanGo m v=cleanOnce v:=by
    cases m with
    |zero=>rfl
    |succ m=>unfold cleanGo;rw[if_neg hnl]
   rw[←hm,e]at q
   exact ss_ret (ev_var rfl) (ret_inst (i:=j) rfl wf hj (frzs_clean below_fields) q))
theorem spec20(hK:KOk K)(hG:∀u,Good u→Good (cleanOnce u)){p:PV}{u:U}(hu:IsU sto p u)(g:Good u)(hd:8<d):Calls (cxK K w) d 20 [p] sto (encU (clean u)) sto:=
 Calls.of hd (by decide) fun d' h1 wf hb Q q=>use20 hK (by exact up h1 rfl) (ss_ret (ev_call (es_cons (ev_var rfl) (es_cons ev_lit es_nil)) (spec9 hK (k:=6) (fun h=>spec19 hK hG hu g h) (by decide) (by exact o265 h1))) (ret_plain rfl wf below_encU q))
theorem spec21(hK:KOk K){p:PV}{b:Bool}(h:∃n:Nat,p=.int n)(hb':b=true)(hd:1<d):Calls (cxK K w) d 21 [p] sto (.bool b) sto:=
 Calls.of hd (by decide) fun d' h1 wf hb Q q=>use21 hK (by exact h1) (by
  obtain⟨n,rfl⟩:=h
  subst hb'
  exact ss_ret (ev_and (and_go (t_isinst (ev_isinst (ev_var rfl) rfl)) (and_go (t_not (t_isinst (ev_isinst (ev_var rfl) (z:=false) rfl))) (all_last (t_chain (ev_var rfl) (c_last ev_lit (ge_t (Int.natCast_nonneg n)))))))) (ret_plain rfl wf below_bool q))
noncomputable def boundN(u:U)(i:I):Nat:=match i with
 | .ask _=>3
 | .decl _=>3
 |_=>u.code.length
theorem spec22(hK:KOk K){p:PV}{u:U}(hu:IsU sto p u)(i:I)(hk:i.kind≠ "")(hd:1<d):Calls (cxK K w) d 22 [p,strV i.kind] sto (.int (boundN u i)) sto:=
 Calls.of hd (by decide) fun d' h1 wf hb Q q=>use22 hK (by exact h1) (by
  have ne:∀{s t:String}{rho:List (Option PV)},rho[1]? =some (some (strV s))→cmpV sto .eq (strV s) (strV t)=some (decide (Str.ofString s=Str.ofString t)):=fun _=>rfl
  cases i with
  |pop=>exact absurd rfl hk
  |ret=>exact absurd rfl hk
  |decl x=>exact ss_ite_t (t_or (or_go (t_chain (ev_var rfl) (c_last ev_lit rfl)) (all_last (t_chain (ev_var rfl) (c_last ev_lit rfl))))) (ss_ret (ev_len (ev_attr (ev_var rfl) (hu 3)) rfl) (ret_plain rfl wf below_int q))
  |ask x=>exact ss_skip (t_or (or_go (t_chain (ev_var rfl) (c_last ev_lit rfl)) (all_last (t_chain (ev_var rfl) (c_last ev_lit rfl))))) (ss_ite_t (t_chain (ev_var rfl) (c_last ev_lit rfl)) (ss_ret (ev_attr (ev_var rfl) (hu 7)) (ret_plain rfl wf below_int q)))
  |_=>
   refine ss_skip (t_or (or_go (t_chain (ev_var rfl) (c_last ev_lit rfl)) (all_last (t_chain (ev_var rfl) (c_last ev_lit rfl))))) (ss_skip (t_chain (ev_var rfl) (c_last ev_lit rfl)) (ss_skip (t_chain (ev_var rfl) (c_last ev_lit rfl)) (ss_skip (t_chain (ev_var rfl) (c_last ev_lit rfl)) ?_)))
   exact ss_ite_t (t_chain (ev_var rfl) (c_last ev_lit rfl)) (ss_ret (len_unit rfl hu) (ret_plain rfl wf below_int q)))
theorem op_nat(i:I):∃n:Nat,PV.int i.op=.int n:=⟨i.op,rfl⟩
theorem op_lt(i:I):i.op<85:=by
 cases i with
 |tst k b t=>cases k<;>cases b<;>simp[I.op,tstOp]
 |_=>simp[I.op]
theorem spec23(hK:KOk K){p:PV}{u:U}(hu:IsU sto p u)(g:Good u){pc:Nat}{i:I}(hi:u.code[pc]? =some i)(hd:2<d):Calls (cxK K w) d 23 [p,.int pc] sto .none sto:=
 Calls.of hd (by decide) fun d' h1 wf hb Q q=>use23 hK (by exact up h1 rfl) (by
  refine x1_3 g.ty fun ty _ _ hty _=>?_
  have ht:=hty pc i hi
  refine ss_assign (ev_sub (ev_attr (ev_var rfl) (hu 2)) (ev_var rfl) (code_at hi)) (a_tup rfl (as_cons (a_var (as_cons (a_var (as_nil ?_))))))
  refine ss_skip (t_or (or_go (t_not (t_call (ev_call (es_cons (ev_var rfl) es_nil) (spec21 hK (op_nat i) rfl (by exact h1))))) (all_last (t_chain (ev_var rfl) (c_last ev_lit (ge_f (by have:=op_lt i;exact o266 this))))))) ?_
  refine ss_var (ev_call (es_cons (ev_var rfl) es_nil) (spec1 hK i (by exact h1))) ?_
  by_cases hk:i.kind=""
  .refine ss_ite_t (t_chain (ev_var rfl) (c_last ev_lit (by rw[hk];rfl))) (ss_skip (t_chain (ev_var rfl) (c_last ev_lit ?_)) (ss_ret ev_lit (ret_plain rfl wf below_none q)))
   cases i<;>first|rfl|(simp[I.kind]at hk)
  .refine ss_skip (t_chain (ev_var rfl) (c_last ev_lit ?_)) ?_
   .cases i<;>first|rfl|exact absurd rfl hk
   .refine ss_var (ev_call (es_cons (ev_var rfl) (es_cons (ev_var rfl) es_nil)) (spec22 hK hu i hk (by exact h1))) ?_
    have harg:∃n:Nat,i.arg=.int n∧n<boundN u i:=by
     cases i with
     |pop=>exact absurd rfl hk
     |ret=>exact absurd rfl hk
     |ask x=>exact⟨x,rfl,ht.1⟩
     |decl x=>exact⟨x,rfl,ht.1⟩
     |jmp t=>exact⟨t,rfl,ht.1⟩
     |tst k b t=>exact⟨t,rfl,ht.2.2.2.1⟩
    refine x1_1 harg fun n hn hlt=>?_
    refine ss_skip (t_or (or_go (t_not (t_call (ev_call (es_cons (ev_var rfl) es_nil) (spec21 hK ⟨n,hn⟩ rfl (by exact h1))))) (all_last (t_chain ev_lit (c_go (ev_var rfl) (le_t (by exact o267)) (c_last (ev_var (v:=.int n) (by rw[hn];rfl)) (le_f (by exact o268 hlt)))))))) ?_
    cases i with
    |decl x=>
     have hx:=ht.1
     refine ss_skip (t_and (and_go (t_chain (ev_var rfl) (c_last ev_lit rfl)) (all_last (t_not (z:=true) (t_isinst (ev_isinst (ev_sub (ev_attr (ev_var rfl) (hu 3)) (ev_var rfl) (v:=strV (if x=0 then "p" else if x=1 then "q" else "r")) (sub_nat ?_)) rfl)))))) (ss_nil (ret_plain rfl wf below_none q))
     match x,hx with
     |0,_=>rfl
     |1,_=>rfl
     |2,_=>rfl
    |pop=>exact absurd rfl hk
    |ret=>exact absurd rfl hk
    |_=>exact ss_skip (t_and (and_stop (t_chain (ev_var rfl) (c_last ev_lit rfl)))) (ss_nil (ret_plain rfl wf below_none q)))
theorem spec24(hK:KOk K){p:PV}(hd:1<d):Calls (cxK K w) d 24 [p,.none] sto .none sto:=
 Calls.of hd (by decide) fun d' h1 wf hb Q q=>use24 hK (by exact h1) (ss_skip (t_chain (ev_var rfl) (c_last ev_lit rfl)) (ss_nil (ret_plain rfl wf below_none q)))
theorem spec25(hK:KOk K){p:PV}{u:U}(hu:IsU sto p u)(g:Good u)(hd:2<d):Calls (cxK K w) d 25 [p] sto .none sto:=
 Calls.of hd (by decide) fun d' h1 wf hb Q q=>use25 hK (by exact up h1 rfl) (by
  have ne:=g.ne
  refine ss_forF (l:=[]) (fun _ st=>st=⟨[some p,none,none,none,none],sto⟩) (i_list (ev_attr (ev_var rfl) (hu 14))) rfl (fun k x st hx=>nN hx) ?_
  rintro st rfl
  refine ss_expr (ev_call (es_cons (ev_var rfl) (es_cons (ev_attr (ev_var rfl) (hu 12)) es_nil)) (spec24 hK (by exact h1))) ?_
  refine ss_expr (ev_call (es_cons (ev_var rfl) (es_cons (ev_attr (ev_var rfl) (hu 13)) es_nil)) (spec24 hK (by exact h1))) ?_
  refine ss_skip (t_or (or_go (t_chain (ev_len (ev_attr (ev_var rfl) (hu 14)) rfl) (c_last (ev_len (ev_attr (ev_var rfl) (hu 1)) rfl) rfl)) (all_last (t_chain (len_unit rfl hu) (c_last ev_lit (eq_f (by exact o81 ne))))))) ?_
  refine ss_skip (t_and (and_go (t_chain (ev_attr (ev_var rfl) (hu 6)) (c_last (ev_listF es_nil) (ne_nil ?_))) (all_last (t_chain (ev_len (ev_attr (ev_var rfl) (hu 6)) len_list) (c_last (len_unit rfl hu) (ne_f ?_)))))) ?_
  .intro e;have:=g.lens;rw[e]at this;rw[←this]at ne;exact Nat.lt_irrefl _ ne
  .rw[List.length_map,g.lens]
  .refine ss_forF (l:=[]) (fun _ st=>st=⟨[some p,none,none,none,none],sto⟩) (i_list (ev_attr (ev_var rfl) (hu 4))) rfl (fun k x st hx=>nN hx) ?_
   rintro st rfl
   exact ss_nil (ret_plain rfl wf below_none q))
end
end Mine.Internal
set_option maxRecDepth 4000
namespace Mine.Internal
open PySem PySem.W PyProof.Rows PySem.Calls
noncomputable def I.isQuiet:I→Bool
 | .decl _=>false
 |_=>true
noncomputable def hV:Option H→PV
 |none=>.none
 |some h=>encH h
noncomputable def stk(n:Nat):PV:=.tup (List.replicate n (.int (-1)))
theorem below_stk{n:Nat}:Below 0 (stk n):=below_tup (belows_iff.mpr fun p hp=>by rw[(List.mem_replicate.mp hp).2];exact trivial)
section
variable {K:Params→Frag} {w:World} {d:Nat} {sto:Sto}
theorem spec26(hK:KOk K){a b:H}(h1':b.s≤a.s)(h2':a.e≤b.e)(hd:1<d):Calls (cxK K w) d 26 [encH a,encH b] sto (.bool true) sto:=
 Calls.of hd (by decide) fun d' h1 wf hb Q q=>use26 hK (by exact h1) (ss_ret (ev_and (and_go (t_chain (ev_sub (ev_var rfl) ev_lit rfl) (c_last (ev_sub (ev_var rfl) ev_lit rfl) (le_t (by exact o269 h1')))) (all_last (t_chain (ev_sub (ev_var rfl) ev_lit rfl) (c_last (ev_sub (ev_var rfl) ev_lit rfl) (le_t (by exact o269 h2'))))))) (ret_plain rfl wf below_bool q))
theorem spec27(hK:KOk K){p:PV}{u:U}(hu:IsU sto p u)(g:Good u)(hd:2<d):Calls (cxK K w) d 27 [p] sto .none sto:=
 Calls.of hd (by decide) fun d' h1 wf hb Q q=>use27 hK (by exact up h1 rfl) (by
  have few:=g.few
  have hfew:=g.hfew
  refine ss_var (len_unit rfl hu) (ss_forF (l:=enumd (u.hs.map encH)) (fun k st=>∃a b c,st=⟨[some p,some (.int u.code.length),a,b,c],sto⟩) (i_enum (ev_attr (ev_var rfl) (hu 5))) ⟨none,none,none,rfl⟩ ?_ ?_)
  .rintro k x st hx ⟨a,b,c,rfl⟩
   rw[enumd_at,List.getElem?_map]at hx
   cases hh:u.hs[k]? with
   |none=>rw[hh]at hx;contradiction
   |some h=>
    rw[hh]at hx
    obtain rfl:=Option.some.inj hx
    have hkl:=(List.getElem?_eq_some_iff.mp hh).1
    refine x0_2 (g.hs h (List.mem_of_getElem? hh)) fun g1 g2 g3=>?_
    refine a_tup rfl (as_cons (a_var (as_cons (a_var (as_nil ?_)))))
    have at_:∀(j:Nat){v:PV}{y z:Option PV},subV sto (encH h) (.int j)=some v→EvP (cxK K w) d' (.sub (.var 3) (.lit (.int j))) ⟨[some p,some (.int u.code.length),y,some (encH h),z],sto⟩ v:=fun j v y z hv=>ev_sub (ev_var rfl) ev_lit hv
    have u1:EvTP (cxK K w) d' (.not (.chain (.lit (.int (0))) [(.le,(.sub (.var 3) (.lit (.int (0))))),(.lt,(.sub (.var 3) (.lit (.int (1))))),(.le,(.var 1))])) ⟨[some p,some (.int u.code.length),some (.int k),some (encH h),c],sto⟩ false:=
     t_not (z:=true) (t_chain ev_lit (c_go (at_ 0 rfl) (le_t (Int.natCast_nonneg h.s)) (c_go (at_ 1 (v:=.int h.e) rfl) (lt_t (by exact Int.ofNat_lt.mpr g1)) (c_last (ev_var (v:=.int u.code.length) rfl) (le_t (by exact o270 g2 g3))))))
    have u2:EvTP (cxK K w) d' (.not (.chain (.lit (.int (0))) [(.le,(.sub (.var 3) (.lit (.int (2))))),(.lt,(.var 1))])) ⟨[some p,some (.int u.code.length),some (.int k),some (encH h),c],sto⟩ false:=
     t_not (z:=true) (t_chain ev_lit (c_go (at_ 2 rfl) (le_t (Int.natCast_nonneg h.t)) (c_last (ev_var (v:=.int u.code.length) rfl) (lt_t (by exact Int.ofNat_lt.mpr g3)))))
    have u3:EvTP (cxK K w) d' (.not (.call 21 [(.sub (.var 3) (.lit (.int (3))))])) ⟨[some p,some (.int u.code.length),some (.int k),some (encH h),c],sto⟩ false:=
     t_not (z:=true) (t_call (ev_call (es_cons (at_ 3 (v:=.int 0) rfl) es_nil) (spec21 hK ⟨0,rfl⟩ rfl (by exact h1))))
    have u4:EvTP (cxK K w) d' (.chain (.sub (.var 3) (.lit (.int (0)))) [(.le,(.sub (.var 3) (.lit (.int (2))))),(.lt,(.sub (.var 3) (.lit (.int (1)))))]) ⟨[some p,some (.int u.code.length),some (.int k),some (encH h),c],sto⟩ false:=
     t_chain (at_ 0 (v:=.int h.s) rfl) (c_go (at_ 2 (v:=.int h.t) rfl) (le_t (by exact o82 g1 g2)) (c_last (at_ 1 (v:=.int h.e) rfl) (lt_f (by exact o271 g2))))
    refine ss_skip (t_or (or_go u1 (or_go u2 (all_last u3)))) (ss_skip u4 ?_)
    have hdrop:((u.hs.map encH).drop ((k:Int)+1).toNat)=(u.hs.drop (k+1)).map encH:=by rw[show((k:Int)+1).toNat=k+1 by exact rfl,List.map_drop]
    have hsl:EvI (cxK K w) d' (.val (.from_ (.attr (.var 0) 5) (.bin .add (.var 2) (.lit (.int (1)))))) ⟨[some p,some (.int u.code.length),some (.int k),some (encH h),c],sto⟩ (.frozen ((u.hs.drop (k+1)).map encH)) ⟨[some p,some (.int u.code.length),some (.int k),some (encH h),c],sto⟩:=by
     have:=i_list (ev_from_l (C:=cxK K w) (d:=d') (st:=⟨[some p,some (.int u.code.length),some (.int k),some (encH h),c],sto⟩) (ev_attr (k:=5) (ev_var (x:=0) rfl) (hu 5)) (fun l e=>by contradiction) (ev_bin (op:=.add) (ev_var (x:=2) rfl) (ev_lit (v:=.int 1)) rfl) (by constructor<;>omega) rfl)
     rwa [hdrop]at this
    refine ss_forF (fun _ st=>∃c,st=⟨[some p,some (.int u.code.length),some (.int k),some (encH h),c],sto⟩) hsl ⟨c,rfl⟩ ?_ ?_
    .rintro k' x st hx ⟨c,rfl⟩
     rw[List.getElem?_map]at hx
     refine x1_1 (Option.map_eq_some_iff.mp hx) fun h' hh' zL=>?_;subst zL
     rw[List.getElem?_drop]at hh'
     obtain⟨n1,n2⟩:=List.pairwise_iff_getElem.mp g.nest k (k+1+k') hkl (List.getElem?_eq_some_iff.mp hh').1 (by exact Nat.le_add_right _ _)
     have e1:u.hs[k]=h:=(List.getElem?_eq_some_iff.mp hh).2
     have e2:u.hs[k+1+k']'(List.getElem?_eq_some_iff.mp hh').1=h':=(List.getElem?_eq_some_iff.mp hh').2
     rw[e1,e2]at n1 n2
     refine a_var (ss_skip (st₁:=⟨[some p,some (.int u.code.length),some (.int k),some (encH h),some (encH h')],sto⟩) (t_and ?_) (ss_nil ⟨some (encH h'),rfl⟩))
     have t3:EvTP (cxK K w) d' (.not (.call 26 [(.var 3),(.var 4)])) ⟨[some p,some (.int u.code.length),some (.int k),some (encH h),some (encH h')],sto⟩ false:=t_not (z:=true) (t_call (ev_call (es_cons (ev_var rfl) (es_cons (ev_var rfl) es_nil)) (spec26 hK n1 n2 (by exact h1))))
     have b_:∀(j:Nat){v:PV},subV sto (encH h') (.int j)=some v→EvP (cxK K w) d' (.sub (.var 4) (.lit (.int j))) ⟨[some p,some (.int u.code.length),some (.int k),some (encH h),some (encH h')],sto⟩ v:=fun j v hv=>ev_sub (ev_var rfl) ev_lit hv
     have v1:EvTP (cxK K w) d' (.chain (.sub (.var 3) (.lit (.int (0)))) [(.lt,(.sub (.var 4) (.lit (.int (1)))))]) ⟨[some p,some (.int u.code.length),some (.int k),some (encH h),some (encH h')],sto⟩ (decide (h.s<h'.e)):=by
      rw[←show decide ((h.s:Int)<(h'.e:Int))=decide (h.s<h'.e)by simp]
      exact t_chain (at_ 0 rfl) (c_last (b_ 1 rfl) rfl)
     have v2:EvTP (cxK K w) d' (.chain (.sub (.var 4) (.lit (.int (0)))) [(.lt,(.sub (.var 3) (.lit (.int (1)))))]) ⟨[some p,some (.int u.code.length),some (.int k),some (encH h),some (encH h')],sto⟩ (decide (h'.s<h.e)):=by
      rw[←show decide ((h'.s:Int)<(h.e:Int))=decide (h'.s<h.e)by simp]
      exact t_chain (b_ 0 rfl) (c_last (at_ 1 rfl) rfl)
     cases c1:decide (h.s<h'.e)with
     |false=>rw[c1]at v1;exact and_stop v1
     |true=>
      rw[c1]at v1
      cases c2:decide (h'.s<h.e)with
      |false=>rw[c2]at v2;exact and_go v1 (and_stop v2)
      |true=>rw[c2]at v2;exact and_go v1 (and_go v2 (all_last t3))
    .rintro st ⟨c,rfl⟩
     exact ss_nil ⟨_,_,_,rfl⟩
  .rintro st ⟨a,b,c,rfl⟩
   exact ss_nil (ret_plain rfl wf below_none q))
theorem spec28(hK:KOk K)(hs:List H)(pc:Nat)(hd:1<d):Calls (cxK K w) d 28 [hsV hs,.int pc] sto (hV (firstH hs pc)) sto:=
 Calls.of hd (by decide) fun d' h1 wf hb Q q=>use28 hK (by exact h1) (by
  refine ss_forF (l:=hs.map encH) (fun k st=>(∃a,st=⟨[some (hsV hs),some (.int pc),a],sto⟩)∧∀j h,j<k→hs[j]? =some h→cov pc h=false) (i_list (ev_var rfl)) ⟨⟨none,rfl⟩,fun j h hj=>absurd hj (Nat.not_lt_zero _)⟩ ?_ ?_
  .rintro k x st hx ⟨⟨a,rfl⟩,hno⟩
   rw[List.getElem?_map]at hx
   refine x1_1 (Option.map_eq_some_iff.mp hx) fun h hh zL=>?_;subst zL
   refine a_var ?_
   have t1:EvTP (cxK K w) d' (.chain (.sub (.var 2) (.lit (.int (0)))) [(.le,(.var 1)),(.lt,(.sub (.var 2) (.lit (.int (1)))))]) ⟨[some (hsV hs),some (.int pc),some (encH h)],sto⟩ (cov pc h):=by
    have e1:decide ((h.s:Int)≤(pc:Int))=decide (h.s≤pc):=by simp
    have e2:decide ((pc:Int)<(h.e:Int))=decide (pc<h.e):=by simp
    unfold cov
    rw[←e1, ←e2]
    exact t_chain (ev_sub (ev_var rfl) ev_lit rfl) (c_two (ev_var rfl) rfl (ev_sub (ev_var rfl) ev_lit rfl) rfl)
   refine ss_ite t1 (fun hz=>ss_ret (ev_var rfl) (ret_plain rfl wf ⟨trivial,trivial,trivial,trivial,trivial,trivial⟩ ?_)) fun hz=>ss_out (ss_nil ⟨⟨some (encH h),rfl⟩,fun j h' hj hj'=>?_⟩)
   .have:firstH hs pc=some h:=find_at hh hz hno
    rw[this]at q
    exact q
   .rcases Nat.lt_succ_iff_lt_or_eq.mp hj with hj|rfl
    .exact hno j h' hj hj'
    .rw[hh]at hj';obtain rfl:=Option.some.inj hj';exact hz
  .rintro st ⟨⟨a,rfl⟩,hno⟩
   have:firstH hs pc=none:=find_no fun j h hj hh=>hno j h (by rw[List.length_map];exact hj) hh
   rw[this]at q
   exact ss_ret ev_lit (ret_plain rfl wf below_none q))
theorem spec29(hK:KOk K)(h:H)(n:Nat)(hd:1<d):Calls (cxK K w) d 29 [encH h,stk n] sto (stk 1) sto:=
 Calls.of hd (by decide) fun d' h1 wf hb Q q=>use29 hK (by exact h1) (by
  refine ss_var (ev_bin (v:=stk 1) (ev_upto_t (k:=0) (ev_var rfl) (ev_sub (ev_var rfl) ev_lit rfl) (by constructor<;>decide) (Nat.zero_le _)) (ev_tup (es_cons ev_lit es_nil)) rfl) ?_
  exact ss_ret (ev_ife_f (t_sub (ev_sub (ev_var rfl) ev_lit rfl)) (ev_var rfl)) (ret_plain rfl wf below_stk q))
noncomputable def thrown(u:U)(pc:Nat):I→List (Nat×Nat)
 | .decl _=>match firstH u.hs pc with
  |some h=>[(h.t,1)]
  |none=>[]
 |_=>[]
noncomputable def wayV(p:Nat×Nat):PV:=.tup [.int p.1,stk p.2]
theorem below_ways{l:List (Nat×Nat)}:Below 0 (.list (l.map wayV)):=below_list (belows_map (f:=wayV) (fun _=>below_tup (belows_cons below_int (belows_cons below_stk belows_nil))) l)
theorem spec30(hK:KOk K){p:PV}{u:U}(hu:IsU sto p u){pc n:Nat}{i:I}(hi:u.code[pc]? =some i)(hd:2<d):Calls (cxK K w) d 30 [p,.int pc,stk n] sto (.list ((thrown u pc i).map wayV)) sto:=
 Calls.of hd (by decide) fun d' h1 wf hb Q q=>use30 hK (by exact up h1 rfl) (by
  refine ss_var (ev_call (es_cons (ev_attr (ev_var rfl) (hu 5)) (es_cons (ev_var rfl) es_nil)) (spec28 hK u.hs pc (by exact h1))) ?_
  have t2:∀{rho:List (Option PV)},rho[0]? =some (some p)→rho[1]? =some (some (.int pc))→EvT (cxK K w) d' (.chain (.sub (.sub (.attr (.var 0) 2) (.var 1)) (.lit (.int (0)))) [(.isIn,(.lit (quietV)))]) ⟨rho,sto⟩ i.isQuiet ⟨rho,sto⟩:=fun h0 h1=>
   t_chain (ev_sub (ev_sub (ev_attr (ev_var h0) (hu 2)) (ev_var h1) (code_at hi)) ev_lit rfl) (c_last ev_lit (by cases i with
    |tst k b t=>cases k<;>cases b<;>rfl
    |_=>rfl))
  by_cases hq:∃x,i=.decl x
  .obtain⟨x,rfl⟩:=hq
   cases hf:firstH u.hs pc with
   |none=>
    have e:thrown u pc (.decl x)=[]:=by unfold thrown;rw[hf]
    rw[e]at q
    exact ss_ite_t (t_or (or_stop (t_chain (ev_var rfl) (c_last ev_lit rfl)))) (ss_ret (ev_listF es_nil) (ret_plain rfl wf (below_ways (l:=[])) q))
   |some h=>
    have e:thrown u pc (.decl x)=[(h.t,1)]:=by unfold thrown;rw[hf]
    rw[e]at q
    refine ss_skip (t_or (or_go (t_chain (ev_var rfl) (c_last ev_lit rfl)) (all_last (t2 rfl rfl)))) (ss_skip (t_chain (ev_len (ev_var rfl) (n:=n) ?_) (c_last (ev_sub (ev_var rfl) ev_lit rfl) (lt_f (by exact o12)))) ?_)
    .show some (List.replicate n _).length=_;rw[List.length_replicate]
    .exact ss_ret (ev_listF (es_cons (ev_tup (es_cons (ev_sub (ev_var rfl) ev_lit rfl) (es_cons (ev_call (es_cons (ev_var rfl) (es_cons (ev_var rfl) es_nil)) (spec29 hK h n (by exact h1))) es_nil))) es_nil)) (ret_plain rfl wf (below_ways (l:=[(h.t,1)])) q)
  .have e:thrown u pc i=[]:=by cases i<;>first|rfl|exact absurd ⟨_,rfl⟩ hq
   have em:i.isQuiet=true:=by cases i<;>first|rfl|exact absurd ⟨_,rfl⟩ hq
   rw[e]at q
   rw[em]at t2
   refine ss_ite_t (st₁:=⟨[some p,some (.int pc),some (stk n),some (hV (firstH u.hs pc))],sto⟩) (t_or ?_) (ss_ret (ev_listF es_nil) (ret_plain rfl wf (below_ways (l:=[])) q))
   cases hf:firstH u.hs pc with
   |none=>exact or_stop (t_chain (ev_var rfl) (c_last ev_lit rfl))
   |some h=>exact or_go (t_chain (ev_var rfl) (c_last ev_lit rfl)) (all_last (t2 rfl rfl)))
theorem spec31(hK:KOk K)(n pc:Nat)(b:Bool)(hd:1<d):Calls (cxK K w) d 31 [stk n,.int pc,.bool b] sto .none sto:=
 Calls.of hd (by decide) fun d' h1 wf hb Q q=>use31 hK (by exact h1) (by
  refine ss_forF (l:=List.replicate n (.int (-1))) (fun k st=>∃a,st=⟨[some (stk n),some (.int pc),some (.bool b),a],sto⟩) (i_tup (ev_var rfl)) ⟨none,rfl⟩ ?_ ?_
  .rintro k x st hx ⟨a,rfl⟩
   have:=(List.mem_replicate.mp (List.mem_of_getElem? hx)).2
   subst this
   exact a_var (ss_skip (t_and (and_stop (t_chain (ev_var rfl) (c_last ev_lit rfl)))) (ss_nil ⟨_,rfl⟩))
  .rintro st ⟨a,rfl⟩
   exact ss_nil (ret_plain rfl wf below_none q))
theorem spec32(hK:KOk K)(i:I)(hd:1<d):Calls (cxK K w) d 32 [.int i.op,.int i.put] sto (stk i.put) sto:=
 Calls.of hd (by decide) fun d' h1 wf hb Q q=>use32 hK (by exact h1) (by
  refine ss_skip (t_chain (ev_var rfl) (c_last ev_lit ?_)) (ss_skip (t_chain (ev_var rfl) (c_last ev_lit ?_)) (ss_ret (ev_bin (ev_tup (es_cons ev_lit es_nil)) (ev_var rfl) ?_) (ret_plain rfl wf below_stk q)))
  .cases i with
   |tst k b t=>cases k<;>cases b<;>rfl
   |_=>rfl
  .cases i with
   |tst k b t=>cases k<;>cases b<;>rfl
   |_=>rfl
  .cases i<;>rfl)
end
end Mine.Internal
set_option maxRecDepth 4000
namespace Mine.Internal
open PySem PySem.W PyProof.Rows PySem.Calls
theorem op_le(i:I):i.op≤65:=by
 cases i with
 |tst k b t=>cases k<;>cases b<;>simp[I.op,tstOp]
 |_=>simp[I.op]
noncomputable def I.keeps:I→Bool
 | .tst true _ _=>true
 |_=>false
noncomputable def ways(pc:Nat)(i:I)(n:Nat):List (Nat×Nat):=
 (if i.isLast then[]else[(pc+1,n-i.taken+i.put)])++(match i.tgt with
  |none=>[]
  |some t=>[(t,if i.keeps then n else n-i.taken+i.put)])
noncomputable def gM(g:Nat→PV)(l:List Nat):List (Int×PV):=l.map fun(k:Nat)=>((k:Int),g k)
section
variable {sto:Sto} {g:Nat→PV} {l:List Nat} {k i:Nat}
theorem gM_has:((gM g l).map Prod.fst).contains (k:Int)=decide (k∈l):=by
 have:(gM g l).map Prod.fst=(setM l).map Prod.fst:=by unfold gM setM;rw[List.map_map,List.map_map];rfl
 rw[this,setM_has]
theorem notin_gM(h:sto[i]? =some (.dict (gM g l))):cmpV sto .notIn (.int k) (.ref i)=some (decide (k∉l)):=by
 show(opP sto[i]? none (inO k)).map _=_
 rw[op_at h]
 show some (!((gM g l).map Prod.fst).contains (k:Int))=_
 rw[gM_has]
 show some (!decide (k∈l))=_
 by_cases q:k∈l<;>simp[q]
theorem put_gM(hk:k∉l)(hm:l.length<lineN):putV (.dict (gM g l)) (.int k) (g k)=some (.dict (gM g (l++[k]))):=by
 refine(if_t ⟨by unfold gM;rw[List.length_map];exact hm,by rw[gM_has];simp[hk]⟩).trans ?_
 unfold gM
 rw[List.map_append];rfl
theorem look_gM:∀{l:List Nat},k∈l→(gM g l).lookup (k:Int)=some (g k)
 |[],h=>by contradiction
 |a::l,h=>by
  unfold gM
  rw[List.map_cons,List.lookup_cons]
  by_cases e:k=a
  .subst e;simp
  .have:((k:Int)==(a:Int))=false:=by simp;exact o83 e
   rw[this]
   exact look_gM ((List.mem_cons.mp h).resolve_left e)
theorem sub_gM(h:sto[i]? =some (.dict (gM g l)))(hk:k∈l):subV sto (.ref i) (.int k)=some (g k):=by
 refine(op_at h).trans ?_
 show List.lookup _ _=_
 rw[zip_self]
 exact look_gM hk
end
theorem ne_stk{sto:Sto}{n:Nat}(h:n≤1):cmpV sto .ne (stk n) (stk n)=some false:=by
 match n,h with
 |0,_=>rfl
 |1,_=>rfl
theorem len_stk{sto:Sto}{n:Nat}:lenV sto (stk n)=some n:=by
 show some (List.replicate n _).length=_;rw[List.length_replicate]
section
variable {K:Params→Frag} {w:World} {d:Nat} {sto:Sto}
theorem ev_last33{C:Cx}{rho:List (Option PV)}{t n:Nat}(h2:rho[2]? =some (some (stk n)))(h5:rho[5]? =some (some (.int t)))(hn:t≤n)(h1:n≤1):EvP C d (.from_ (.var 2) (.bin .sub (.bi .len (.var 2)) (.var 5))) ⟨rho,sto⟩ (stk t):=by
 have h:=ev_from_t (C:=C) (d:=d) (st:=⟨rho,sto⟩) (vs:=List.replicate n (.int (-1))) (ev_var h2) (ev_bin (op:=.sub) (ev_len (ev_var h2) (len_stk (n:=n))) (ev_var h5) rfl) (by constructor<;>omega) (by rw[List.length_replicate];exact o276 hn h1)
 rw[List.drop_replicate,o85 hn h1]at h
 exact h
theorem ev_rest33{C:Cx}{rho:List (Option PV)}{t n:Nat}(h2:rho[2]? =some (some (stk n)))(h5:rho[5]? =some (some (.int t)))(hn:t≤n)(h1:n≤1):EvP C d (.upto (.var 2) (.bin .sub (.bi .len (.var 2)) (.var 5))) ⟨rho,sto⟩ (stk (n-t)):=by
 have h:=ev_upto_t (C:=C) (d:=d) (st:=⟨rho,sto⟩) (vs:=List.replicate n (.int (-1))) (ev_var h2) (ev_bin (op:=.sub) (ev_len (ev_var h2) (len_stk (n:=n))) (ev_var h5) rfl) (by constructor<;>omega) (by rw[List.length_replicate];exact o276 hn h1)
 rw[List.take_replicate,o86 hn h1]at h
 exact h
theorem k3_f{C:Cx}{rho:List (Option PV)}{n:Nat}{k:Int}(h:rho[3]? =some (some (.int n)))(e:(n:Int)≠k):EvTP C d (.chain (.var 3) [(.eq,(.lit (.int k)))]) ⟨rho,sto⟩ false:=t_chain (ev_var h) (c_last ev_lit (eq_f e))
theorem put1(i:I):i.put≤1:=by cases i<;>first|exact Nat.le_refl _|exact Nat.zero_le _
theorem add_stk{m k:Nat}(h:m+k≤16777216):binV .add (stk m) (stk k)=some (stk (m+k)):=by
 show(if(List.replicate m (PV.int (-1))).length+(List.replicate k (PV.int (-1))).length≤lineN then some (PV.tup (List.replicate m (PV.int (-1))++List.replicate k (PV.int (-1))))else none)=_
 rw[List.replicate_append_replicate,if_pos];rfl
 rw[List.length_replicate,List.length_replicate]
 exact h
theorem ev_on33{C:Cx}{rho:List (Option PV)}{i:I}{pc m:Nat}(hc:Calls C d 4 [.int i.op] sto (.bool i.isLast) sto)(h1:rho[1]? =some (some (.int pc)))(h3:rho[3]? =some (some (.int i.op)))(h8:rho[8]? =some (some (stk m))):
  Ev C d (.ife (.call 4 [(.var 3)]) (.list []) (.list [(.tup [(.bin .add (.var 1) (.lit (.int (1)))),(.var 8)])])) ⟨rho,sto⟩ (.ref sto.length) ⟨rho,sto++[.list ((if i.isLast then[]else[(pc+1,m)]).map wayV)]⟩:=by
 refine ev_ife (t_call (ev_call (es_cons (ev_var h3) es_nil) hc)) (fun hz=>?_) fun hz=>?_
 .rw[hz];exact ev_listL es_nil
 .rw[hz];exact ev_listL (es_cons (ev_tup (es_cons (ev_bin (ev_var h1) ev_lit rfl) (es_cons (ev_var h8) es_nil))) es_nil)
theorem ev_kept33{C:Cx}{rho:List (Option PV)}{i:I}{m n:Nat}(h2:rho[2]? =some (some (stk n)))(h3:rho[3]? =some (some (.int i.op)))(h8:rho[8]? =some (some (stk m))):
  EvP C d (.ife (.chain (.var 3) [(.isIn,(.tup [(.lit (.int (61))),(.lit (.int (62)))]))]) (.var 2) (.var 8)) ⟨rho,sto⟩ (stk (if i.keeps then n else m)):=by
 refine ev_ife (z:=i.keeps) (t_chain (ev_var h3) (c_last (ev_tup (es_cons ev_lit (es_cons ev_lit es_nil))) (by cases i with
  |tst k b t=>cases k<;>cases b<;>rfl
  |_=>rfl))) (fun hz=>?_) fun hz=>?_
 .rw[hz];exact ev_var h2
 .rw[hz];exact ev_var h8
theorem ret33{C:Cx}{rho:List (Option PV)}{l l':List (Nat×Nat)}{Q:PV→Sto→Prop}(wf:WfB sto.length sto)(q:Q (.list (l.map wayV)) sto)(e:l'=l)(h9:rho[9]? =some (some (.ref sto.length))):wpSs C d [.ret (.var 9)] (retQ sto.length Q) ⟨rho,sto++[.list (l'.map wayV)]⟩:=by
 subst e
 exact ss_ret (ev_var h9) (ret_none rfl wf (frz_list (i:=0) rfl rfl (by simp) (frzs_clean below_ways)) q)
theorem kind_eq{i:I}{z:Bool}(h:i.tgt.isSome=z):cmpV sto .eq (strV i.kind) (strV "t")=some z:=by subst h;cases i<;>rfl
theorem on_len{i:I}{x:Nat×Nat}:((if i.isLast then[]else[x]).map wayV).length<16777216:=by rw[List.length_map];cases i.isLast<;>exact Nat.le_of_ble_eq_true rfl
theorem tail33(hK:KOk K){p x y a:PV}{pc n:Nat}{i:I}{x8 x9:Option PV}{Q:PV→Sto→Prop}(hn:i.taken≤n)(h1':n≤1)(h1:1<d)(wf:WfB sto.length sto)(q:Q (.list ((ways pc i n).map wayV)) sto)(ha:a=i.arg):
  wpSs (cxK K w) d (b33.drop 8) (retQ sto.length Q) ⟨[some p,some (.int pc),some (stk n),some (.int i.op),some a,some x,some y,some (stk (n-i.taken)),x8,x9],sto⟩:=by
 refine ss_var (ev_bin (ev_var rfl) (ev_call (es_cons (ev_var rfl) (es_cons (ev_call (es_cons (ev_var rfl) es_nil) (spec3 hK i h1)) es_nil)) (spec32 hK i h1)) (add_stk (o88 hn h1' (put1 i)))) (ss_var (ev_on33 (i:=i) (pc:=pc) (spec4 hK i h1) rfl rfl rfl) ?_)
 cases hti:i.tgt with
 |none=>exact ss_skip (t_chain (ev_call (es_cons (ev_var rfl) es_nil) (spec1 hK i h1)) (c_last ev_lit (kind_eq (hti▸rfl)))) (ret33 wf q (by unfold ways;rw[hti];exact(List.append_nil _).symm) rfl)
 |some t=>
  refine ss_ite_t (t_chain (ev_call (es_cons (ev_var rfl) es_nil) (spec1 hK i h1)) (c_last ev_lit (kind_eq (hti▸rfl)))) (ss_expr (m_appendL (i:=0) (v:=wayV (t,if i.keeps then n else n-i.taken+i.put)) (ev_var rfl) rfl
   (ev_tup (es_cons (ev_var (by rw[ha,arg_tgt hti];rfl)) (es_cons (ev_kept33 (i:=i) rfl rfl rfl) es_nil))) rfl on_len rfl) (ss_out ?_))
  have h:=ret33 (C:=cxK K w) (d:=d) (rho:=[some p,some (.int pc),some (stk n),some (.int i.op),some a,some x,some y,some (stk (n-i.taken)),some (stk (n-i.taken+i.put)),some (.ref sto.length)]) wf q (l':=(if i.isLast then[]else[(pc+1,n-i.taken+i.put)])++[(t,if i.keeps then n else n-i.taken+i.put)]) (by unfold ways;rw[hti]) rfl
  rw[List.map_append]at h
  exact h
theorem spec33(hK:KOk K){p:PV}{u:U}(hu:IsU sto p u){pc n:Nat}{i:I}(hi:u.code[pc]? =some i)(hn:i.taken≤n)(h1':n≤1)(hd:2<d):Calls (cxK K w) d 33 [p,.int pc,stk n] sto (.list ((ways pc i n).map wayV)) sto:=
 Calls.of hd (Nat.le_of_ble_eq_true rfl) fun d' h1 wf hb Q q=>use33 hK (up h1 rfl) (by
  refine ss_assign (ev_sub (ev_attr (ev_var rfl) (hu 2)) (ev_var rfl) (code_at hi)) (a_tup rfl (as_cons (a_var (as_cons (a_var (as_nil ?_))))))
  refine ss_var (ev_call (es_cons (ev_var rfl) (es_cons (ev_var rfl) es_nil)) (spec2 hK i h1)) (ss_skip (t_chain (ev_len (ev_var rfl) len_stk) (c_last (ev_var rfl) (lt_f (o84 hn)))) ?_)
  refine ss_assign (ev_tup (es_cons (ev_last33 (t:=i.taken) (n:=n) rfl rfl hn h1') (es_cons (ev_rest33 (t:=i.taken) (n:=n) rfl rfl hn h1') es_nil))) (a_tup rfl (as_cons (a_var (as_cons (a_var (as_nil ?_))))))
  refine x0_3 (o87 (op_le i)) fun n1 n2 n3 n4=>?_
  refine ss_skip (k3_f (n:=i.op) rfl n1) (ss_skip (k3_f (n:=i.op) rfl n2) (ss_skip (k3_f (n:=i.op) rfl n3) ?_))
  by_cases hp:i.op=6
  .exact ss_skip (t_chain (ev_var (v:=.int i.op) rfl) (c_last ev_lit (by rw[hp];rfl))) (tail33 hK hn h1' h1 wf q rfl)
  .exact ss_ite_t (t_chain (ev_var rfl) (c_last ev_lit (ne_t fun h=>hp (Int.ofNat.inj h)))) (ss_expr (ev_call (es_cons (ev_var rfl) (es_cons (ev_var rfl) (es_cons (ev_chain (ev_var rfl) (c_last ev_lit (eq_f n4))) es_nil))) (spec31 hK _ pc false h1)) (ss_out (tail33 hK hn h1' h1 wf q rfl))))
theorem ss_call{C:Cx}{st:St}{f:Nat}{l:List PE}{vs:List PV}{rho:List (Option PV)}{sto:Sto}{r:List PS}{Q:Out→St→Prop}(h:EvEs C d l st vs ⟨rho,sto⟩)(hc:CallOK C d f vs sto fun _ s=>wpSs C d r Q ⟨rho,s⟩):wpSs C d (.expr (.call f l)::r) Q st:=by
 exact h _ hc
theorem ways_ok{u:U}{ty:Nat→Nat}{pc:Nat}{i:I}(hpc:pc<u.code.length)(h:tyOk ty u.code.length pc i)(hh:∀h∈u.hs,ty h.t=1)(hl:∀h∈u.hs,h.t<u.code.length):∀x∈ways pc i (ty pc)++thrown u pc i,x.1<u.code.length∧x.2=ty x.1:=by
 intro x hx
 rcases List.mem_append.mp hx with hx|hx
 .cases i with
  |pop=>refine x0_2 h fun a b c=>?_;simp[ways,I.isLast,I.tgt,I.taken,I.put]at hx;subst hx;exact⟨b,by dsimp only;exact o89 a c⟩
  |ask y=>refine x0_3 h fun _ a b c=>?_;simp[ways,I.isLast,I.tgt,I.taken,I.put]at hx;subst hx;exact⟨b,by dsimp only;exact o90 a c⟩
  |decl y=>refine x0_3 h fun _ a b c=>?_;simp[ways,I.isLast,I.tgt,I.taken,I.put]at hx;subst hx;exact⟨b,by dsimp only;exact c▸a⟩
  |ret=>simp[ways,I.isLast,I.tgt]at hx
  |jmp t=>obtain⟨a,b⟩:=h;simp[ways,I.isLast,I.tgt,I.taken,I.put,I.keeps]at hx;subst hx;exact⟨a,b.symm⟩
  |tst k b t=>
   refine x0_4 h fun a b c e f=>?_
   simp[ways,I.isLast,I.tgt,I.taken,I.put]at hx
   rcases hx with rfl|rfl
   .exact⟨b,by dsimp only;exact o89 a c⟩
   .refine⟨e,?_⟩
    rw[f]
    cases k<;>simp[I.keeps]<;>omega
 .cases i with
  |decl y=>
   unfold thrown at hx
   cases hf:firstH u.hs pc with
   |none=>rw[hf]at hx;contradiction
   |some h'=>
    rw[hf]at hx
    rw[List.mem_singleton]at hx
    subst hx
    have hm:=List.mem_of_find?_eq_some hf
    exact⟨hl _ hm,(hh _ hm).symm⟩
  |_=>contradiction
theorem taken_ok{ty:Nat→Nat}{n pc:Nat}{i:I}(h:tyOk ty n pc i):i.taken≤ty pc:=by
 cases i with
 |pop=>exact Nat.le_of_eq h.1.symm
 |ret=>exact Nat.le_of_eq (Eq.symm h)
 |tst k b t=>exact Nat.le_of_eq h.1.symm
 |_=>exact Nat.zero_le _
end
end Mine.Internal
set_option maxRecDepth 4000
namespace Mine.Internal
open PySem PySem.W PyProof.Rows PySem.Calls
theorem ways_len(pc:Nat)(i:I)(n:Nat):(ways pc i n).length≤2:=by cases i<;>simp[ways,I.isLast,I.tgt]
theorem thrown_len(u:U)(pc:Nat)(i:I):(thrown u pc i).length≤1:=by
 cases i with
 |decl x=>unfold thrown;cases firstH u.hs pc<;>simp
 |_=>simp[thrown]
section
variable {K:Params→Frag} {w:World} {d:Nat} {sto:Sto}
inductive StkJ(u:U)(ty:Nat→Nat)(p:PV)(sto:Sto):Nat→St→Prop
 |mk (n:Nat) (f ws:List Nat) (a b c e x:Option PV) (hnd:f.Nodup) (hf:∀q∈f,q<u.code.length) (hw:∀q∈ws,q∈f) (hwf:ws.length≤f.length) (hn:2*u.code.length+ws.length+1≤n+2*f.length):
  StkJ u ty p sto n ⟨[some p,some (.ref (sto.length+0)),some (.ref (sto.length+1)),a,b,c,e,x],sto++[.dict (gM (fun k=>stk (ty k)) f),.list (ws.map natV)]⟩
inductive StkI(u:U)(ty:Nat→Nat)(p v:PV)(sto:Sto)(f w:List Nat)(pc:Nat):Nat→St→Prop
 |mk (k:Nat) (f' ws':List Nat) (y z:Option PV) (i1:f'.Nodup) (i2:∀q∈f',q<u.code.length) (i3:∀q∈ws',q∈f') (i4:ws'.length≤f'.length) (i5:ws'.length+f.length=f'.length+w.length) (i6:f.length≤f'.length):
  StkI u ty p v sto f w pc k ⟨[some p,some (.ref (sto.length+0)),some (.ref (sto.length+1)),some (natV pc),some (stk (ty pc)),some v,y,z],sto++[.dict (gM (fun k=>stk (ty k)) f'),.list (ws'.map natV)]⟩
theorem at_some{α:Type}{l:List α}{a:Nat}(h:a<l.length):∃x,l[a]? =some x:=⟨_,List.getElem?_eq_getElem h⟩
theorem snoc_of{l:List Nat}(h:(!l.isEmpty)=true):∃w a,l=w++[a]:=by
 rcases List.eq_nil_or_concat l with rfl|⟨w,a,rfl⟩
 .contradiction
 .exact⟨w,a,List.concat_eq_append⟩
theorem map_snoc{l:List Nat}{a:Nat}:l.map natV++[natV a]=(l++[a]).map natV:=(List.map_append (l₁:=l) (l₂:=[a])).symm
theorem gt0{l:List Nat}:cmpV sto .gt (.int (l.map natV).length) (.int 0)=some (!l.isEmpty):=by
 cases l with
 |nil=>rfl
 |cons a l=>exact gt_t (Int.natCast_pos.mpr (Nat.succ_pos _))
theorem ev_ways35{C:Cx}{rho:List (Option PV)}{p:PV}{pc n:Nat}{a b:List (Nat×Nat)}(ha:Calls C d 33 [p,.int pc,stk n] sto (.list (a.map wayV)) sto)(hb:Calls C d 30 [p,.int pc,stk n] sto (.list (b.map wayV)) sto)(h0:rho[0]? =some (some p))(h3:rho[3]? =some (some (.int pc)))(h4:rho[4]? =some (some (stk n)))(h1:a.length≤2)(h2:b.length≤1):
  EvP C d (.bin .add (.call 33 [(.var 0),(.var 3),(.var 4)]) (.call 30 [(.var 0),(.var 3),(.var 4)])) ⟨rho,sto⟩ (.list ((a++b).map wayV)):=by
 have h:=ev_cat (ev_call (es_cons (ev_var h0) (es_cons (ev_var h3) (es_cons (ev_var h4) es_nil))) ha) (ev_call (es_cons (ev_var h0) (es_cons (ev_var h3) (es_cons (ev_var h4) es_nil))) hb) rfl rfl (by rw[List.length_map,List.length_map];exact o92 h1 h2)
 rw[←List.map_append]at h
 exact h
theorem way_at{l:List (Nat×Nat)}{ty:Nat→Nat}{k n:Nat}{v:PV}(hx:(l.map wayV)[k]? =some v)(h:∀x∈l,x.1<n∧x.2=ty x.1):∃t,v=wayV (t,ty t)∧t<n:=by
 rw[List.getElem?_map]at hx
 refine x1_1 (Option.map_eq_some_iff.mp hx) fun t ht e=>?_;subst e
 refine x0_1 (h t (List.mem_of_getElem? ht)) fun a b=>?_
 exact⟨t.1,congrArg wayV (Prod.ext rfl b),a⟩
theorem StkI.add{u:U}{ty:Nat→Nat}{p v:PV}{f w f' ws':List Nat}{pc t k:Nat}(hin:t∉f')(o:t<u.code.length)(i1:f'.Nodup)(i2:∀q∈f',q<u.code.length)(i3:∀q∈ws',q∈f')(i4:ws'.length≤f'.length)(i5:ws'.length+f.length=f'.length+w.length)(i6:f.length≤f'.length):
  StkI u ty p v sto f w pc k ⟨[some p,some (.ref (sto.length+0)),some (.ref (sto.length+1)),some (natV pc),some (stk (ty pc)),some v,some (natV t),some (stk (ty t))],sto++[.dict (gM (fun k=>stk (ty k)) (f'++[t])),.list (ws'.map natV++[natV t])]⟩:=by
 rw[map_snoc]
 have e1:(f'++[t]).length=f'.length+1:=List.length_append
 have e2:(ws'++[t]).length=ws'.length+1:=List.length_append
 refine .mk _ _ _ _ _ ?_ (fun q hq=>?_) (fun q hq=>?_) ?_ ?_ ?_
 .rw[List.nodup_append];exact⟨i1,nd1,fun a ha b hb e=>hin (List.mem_singleton.mp hb▸e▸ha)⟩
 .exact(List.mem_append.mp hq).elim (i2 q) fun h=>List.mem_singleton.mp h▸o
 .exact(List.mem_append.mp hq).elim (fun h=>List.mem_append_left _ (i3 q h)) (List.mem_append_right _)
 .rw[e1,e2];exact Nat.succ_le_succ i4
 .rw[e1,e2];exact o95 i5
 .rw[e1];exact Nat.le_succ_of_le i6
theorem spec35(hK:KOk K){p:PV}{u:U}(hu:IsU sto p u)(g:Good u){Q:PV→Sto→Prop}(q:∀v,Q v sto)(hd:3<d):CallOK (cxK K w) d 35 [p] sto Q:=by
 refine x1_0 (show∃d',d=d'+1 from⟨d-1,(Nat.sub_add_cancel (up hd rfl)).symm⟩) fun d' e=>?_;subst e
 refine CallOK.wf fun wf hb=>use35 hK (o91 hd) ?_
 refine x1_3 g.ty fun ty ty0 tle hty hth=>?_
 refine ss_assign (ev_tup (es_cons (ev_dict1 ev_lit (ev_tup es_nil)) (es_cons (new_list (es_cons ev_lit es_nil)) es_nil))) (a_tup rfl (as_cons (a_var (as_cons (a_var (as_nil ?_))))))
 refine ss_while (StkJ u ty p sto) (2*u.code.length+2) ?_ fun n st hi=>?_
 .have h:StkJ u ty p sto (2*u.code.length+2) _:=.mk _ [0] [0] none none none none none nd1 (fun q hq=>List.mem_singleton.mp hq▸g.ne) (fun _ h=>h) (Nat.le_refl _) (Nat.le_add_right _ _)
  rw[show gM (fun k=>stk (ty k)) [0]=[(0,.tup [])]by unfold gM;rw[List.map_cons];dsimp only;rw[ty0];rfl]at h
  exact h
 .cases hi with|mk f ws a b c e x hnd hf hw hwf hn=>?_
  refine x1_0 (show∃m,n=m+1 from⟨n-1,o66 hn (nodup_le hnd hf)⟩) fun m em=>?_;subst em
  refine⟨!ws.isEmpty,_,t_chain (ev_len (ev_var rfl) (len_ref loc)) (c_last ev_lit gt0),fun hz=>?_,fun _=>?_⟩
  .refine x2_0 (snoc_of hz) fun w' pc ew=>?_;subst ew
   refine x1_0 (at_some (hf pc (hw pc ms))) fun i hip=>?_
   refine ss_var (m_popL (i:=1) (w:=w'.map natV) (v:=natV pc) (ev_var rfl) (congrArg (fun l=>some (SObj.list l)) map_snoc.symm) rfl) (ss_var (ev_sub (ev_var rfl) (ev_var rfl) (sub_gM (loc (i:=0)) (hw pc ms))) ?_)
   refine ss_var (ev_ways35 (spec33 hK hu.app hip (taken_ok (hty pc i hip)) (tle pc) (Nat.le_of_succ_le_succ hd)) (spec30 hK hu.app hip (Nat.le_of_succ_le_succ hd)) rfl rfl rfl (ways_len pc i (ty pc)) (thrown_len u pc i)) ?_
   refine ss_forF (StkI u ty p _ sto f w' pc) (i_list (ev_var rfl)) (.mk _ f w' e x hnd hf (fun q hq=>hw q (List.mem_append_left _ hq)) (Nat.le_of_lt (by rw[List.length_append]at hwf;exact hwf)) o280 (Nat.le_refl _)) (fun k v st hx hi=>?_) fun st hi=>?_
   .cases hi with|mk f' ws' y z i1 i2 i3 i4 i5 i6=>?_
    refine x1_1 (way_at hx (ways_ok (hf pc (hw pc ms)) (hty pc i hip) hth fun h hh=>(g.hs h hh).2.2)) fun t ev o=>?_;subst ev
    refine a_tup rfl (as_cons (a_var (as_cons (a_var (as_nil ?_)))))
    refine ss_skip (t_chain (ev_var rfl) (c_last (len_unit rfl hu.app) (ge_f fun h=>Nat.not_le.mpr o (Int.ofNat_le.mp h)))) ?_
    by_cases hin:t∈f'
    .exact ss_ite_f (t_chain (ev_var rfl) (c_last (ev_var rfl) ((notin_gM (loc (i:=0))).trans (congrArg some (decide_eq_false fun h=>h hin))))) (ss_skip (t_chain (ev_sub (ev_var rfl) (ev_var rfl) (sub_gM (loc (i:=0)) hin)) (c_last (ev_var rfl) (ne_stk (tle t)))) (ss_out (ss_nil (StkI.mk _ f' ws' (some (natV t)) (some (stk (ty t))) i1 i2 i3 i4 i5 i6))))
    .refine ss_ite_t (t_chain (ev_var rfl) (c_last (ev_var rfl) ((notin_gM (loc (i:=0))).trans (congrArg some (decide_eq_true hin))))) ?_
     refine ss_assign (ev_var rfl) (a_subL (i:=0) (ev_var rfl) (ev_var rfl) rfl (put_gM (g:=fun k=>stk (ty k)) hin (o93 g.few (nodup_le i1 i2))) rfl ?_)
     exact ss_expr (m_appendL (i:=1) (ev_var rfl) rfl (ev_var rfl) rfl (by rw[List.length_map];exact o94 g.few i4 (nodup_le i1 i2)) rfl) (ss_out (ss_nil (StkI.add hin o i1 i2 i3 i4 i5 i6)))
   .cases hi with|mk f' ws' y z i1 i2 i3 i4 i5 i6=>?_
    rw[List.length_append]at hn
    exact ss_nil ⟨m,Nat.lt_succ_self _,.mk _ f' ws' _ _ _ y z i1 i2 i3 i4 (o96 i5 i6 hn)⟩
  .refine ss_ret (ev_var rfl) (ret_none rfl wf (frz_dict (i:=0) rfl rfl (by simp) (frzs_clean ?_)) (q _))
   unfold gM;rw[List.map_map];exact belows_map (f:=fun k=>stk (ty k)) (fun _=>below_stk) f
theorem spec36(hK:KOk K){p:PV}{u:U}(hu:IsU sto p u)(g:Good u)(hd:4<d):Calls (cxK K w) d 36 [p] sto .none sto:=
 Calls.of hd (by decide) fun d' h1 wf hb Q q=>use36 hK (by exact up h1 rfl) (by
  have few:=g.few
  refine ss_expr (ev_call (es_cons (ev_var rfl) es_nil) (spec25 hK hu g (by exact up h1 rfl))) ?_
  refine ss_forF (l:=rngI 0 u.code.length) (fun k st=>∃a,st=⟨[some p,a],sto⟩) (i_range1 (len_unit rfl hu) (by exact o97 few) (by show _≤((16777216:Nat):Int);exact o258 few)) ⟨none,rfl⟩ ?_ ?_
  .rintro k x st hx ⟨a,rfl⟩
   have hkl:=(List.getElem?_eq_some_iff.mp hx).1
   have hl:(rngI 0 u.code.length).length=u.code.length:=by unfold rngI;simp
   rw[hl]at hkl
   have hxk:x=.int k:=by
    unfold rngI at hx
    rw[List.getElem?_map,List.getElem?_range (by exact hkl)]at hx
    simp at hx
    exact hx.symm
   subst hxk
   exact a_var (ss_expr (ev_call (es_cons (ev_var rfl) (es_cons (ev_var rfl) es_nil)) (spec23 hK hu g (List.getElem?_eq_getElem hkl) (by exact up h1 rfl))) (ss_nil ⟨_,rfl⟩))
  .rintro st ⟨a,rfl⟩
   refine ss_expr (ev_call (es_cons (ev_var rfl) es_nil) (spec27 hK hu g (by exact up h1 rfl))) ?_
   exact ss_call (es_cons (ev_var rfl) es_nil) (spec35 hK hu g (fun v=>ss_nil (ret_plain rfl wf below_none q)) (by exact h1)))
theorem spec37(hK:KOk K){p:PV}{u:U}(hu:IsU sto p u)(g:Good u)(hd:5<d):Calls (cxK K w) d 37 [p] sto .none sto:=
 Calls.of hd (by decide) fun d' h1 wf hb Q q=>use37 hK (by exact up h1 rfl) (by
  refine ss_var (ev_listL (es_cons (ev_var rfl) es_nil)) ?_
  refine ss_while (fun n st=>∃(a:Option PV) (l:List PV),st=⟨[some p,some (.ref sto.length),a],sto++[.list l]⟩∧((n=1∧l=[p])∨(n=0∧l=[]))) 1 ⟨none,[p],rfl,.inl ⟨rfl,rfl⟩⟩ fun n st hi=>?_
  refine x2_1 hi fun a l zE hn=>?_;subst zE
  rcases hn with⟨rfl,rfl⟩|⟨rfl,rfl⟩
  .refine⟨true,_,t_chain (ev_len (ev_var rfl) (len_ref at_app)) (c_last ev_lit rfl),fun _=>?_,fun h=>(by exact nT h)⟩
   refine ss_var (m_popL (i:=0) (w:=[]) (v:=p) (ev_var rfl) rfl rfl) ?_
   refine ss_expr (ev_call (es_cons (ev_var rfl) es_nil) (spec36 hK hu.app g (by exact h1))) ?_
   refine ss_expr (m_extend (i:=sto.length) (ev_var rfl) at_app (ev_attr (ev_var rfl) (hu.app 4)) at_app rfl (fun j e=>by exact nomatch e) (Nat.zero_le _)) (ss_nil ⟨0,Nat.zero_lt_one,some p,[],?_,.inr ⟨rfl,rfl⟩⟩)
   exact congrArg (St.mk _) (set_app (o':=.list []))
  .exact⟨false,_,t_chain (ev_len (ev_var rfl) (len_ref at_app)) (c_last ev_lit rfl),fun h=>(by exact nF h),fun _=>ss_nil (ret_clean rfl wf below_none q)⟩)
theorem spec38(hK:KOk K){p:PV}{u:U}(hu:IsU sto p u)(g:Good u)(hd:6<d):Calls (cxK K w) d 38 [p] sto (.bool true) sto:=
 Calls.of hd (by decide) fun d' h1 wf hb Q q=>use38 hK (by exact up h1 rfl) (ss_try (ss_expr (ev_call (es_cons (ev_var rfl) es_nil) (spec37 hK hu g (by exact o281 h1))) (ss_out (ss_ret ev_lit (ret_plain rfl wf below_bool q)))))
end
end Mine.Internal
set_option maxRecDepth 4000
namespace Mine.Internal
open PySem PySem.W PyProof.Rows PySem.Calls
theorem intsOf_nats:∀l:List Nat,intsOf (l.map natV)=some (l.map fun(n:Nat)=>(n:Int))
 |[]=>rfl
 |n::l=>by
  show(intsOf (l.map natV)).map _=_
  rw[intsOf_nats l];rfl
theorem nats_has{l:List Nat}{k:Nat}:(l.map fun(n:Nat)=>(n:Int)).contains (k:Int)=decide (k∈l):=by
 rw[←setM_fst,setM_has]
theorem in_list{sto:Sto}{i k:Nat}{l:List Nat}(h:sto[i]? =some (.list (l.map natV))):cmpV sto .isIn (.int k) (.ref i)=some (decide (k∈l)):=by
 refine(op_at h).trans ?_
 show(intsOf _).map _=_
 rw[intsOf_nats]
 exact congrArg some nats_has
theorem notin_list{sto:Sto}{i k:Nat}{l:List Nat}(h:sto[i]? =some (.list (l.map natV))):cmpV sto .notIn (.int k) (.ref i)=some (decide (k∉l)):=by
 show(inV sto (.int k) (.ref i)).map _=_
 have:inV sto (.int k) (.ref i)=some (decide (k∈l)):=in_list h
 rw[this]
 show some (!decide (k∈l))=_
 by_cases q:k∈l<;>simp[q]
theorem nodup_snoc{l:List Nat}{a:Nat}(h:l.Nodup)(ha:a∉l):(l++[a]).Nodup:=by
 rw[List.nodup_append];exact⟨h,nd1,fun x hx b hb=>by rw[List.mem_singleton]at hb;subst hb;exact fun e=>ha (e▸hx)⟩
theorem lt_snoc{l:List Nat}{a n:Nat}(h:∀q∈l,q<n)(ha:a<n):∀q∈l++[a],q<n:=fun q hq=>by
 rcases List.mem_append.mp hq with hq|hq
 .exact h q hq
 .rw[List.mem_singleton]at hq;exact hq▸ha
noncomputable def optV:Option Nat→PV
 |none=>.none
 |some n=>.int n
noncomputable def endsV(r:List Nat×Option Nat):PV:=.tup [linesV r.1,optV r.2]
noncomputable def Within(c:List I):Prop:=∀(pc:Nat)(i:I)(t:Nat),c[pc]? =some i→i.tgt=some t→t<c.length
theorem Good.within{u:U}(g:Good u):Within u.code:=fun _ _ _ h ht=>tgt_ok g h ht
theorem endsGo_lt{c:List I}(hw:Within c):∀{n:Nat}{met:List Nat}{p q:Nat},p<c.length→(endsGo c n met p).2=some q→q<c.length
 |0,met,p,q,hp,h=>by obtain rfl:=Option.some.inj h;exact hp
 |n+1,met,p,q,hp,h=>by
  unfold endsGo at h
  split at h
  .rename_i t ht
   split at h
   .contradiction
   .exact endsGo_lt hw (hw p _ t ht rfl) h
  .obtain rfl:=Option.some.inj h;exact hp
section
variable {K:Params→Frag} {w:World} {d:Nat} {sto:Sto}
noncomputable def endsInv(c:List I)(p0:Nat)(sto:Sto)(n:Nat)(st:St):Prop:=∃met p,st=⟨[some (codeV c),some (.int (p:Nat)),some (.ref sto.length)],sto++[.list (met.map natV)]⟩∧
 endsGo c n met p=ends c p0∧n+met.length=c.length+1∧met.Nodup∧(∀q∈met,q<c.length)∧p<c.length
theorem spec44(hK:KOk K)(c:List I)(hc:c.length≤200)(hw:Within c)(p:Nat)(hp:p<c.length)(hd:1<d):Calls (cxK K w) d 44 [codeV c,.int p] sto (endsV (ends c p)) sto:=
 Calls.of hd (Nat.le_refl _) fun d' h1 wf hb Q q=>use44 hK h1 (by
  refine ss_var (ev_listL es_nil) (ss_while (endsInv c p sto) (c.length+1) ⟨[],p,rfl,rfl,rfl,List.nodup_nil,fun q hq=>(by contradiction),hp⟩ fun n st hi=>?_)
  refine x2_1 hi fun met p zE zR=>?_;subst zE;refine x0_4 zR fun hr hn hnd hlt hp=>?_
  have hsl:=nodup_le hnd hlt
  obtain⟨m,rfl⟩:∃m,n=m+1:=⟨n-1,by exact o54 hn hsl⟩
  have out:∀{v:PV}{o:Option Nat},endsGo c (m+1) met p=(met,o)→v=optV o→RetOK sto.length (sto++[.list (met.map natV)]) (.tup [.ref sto.length,v]) Q:=fun e hv=>by
   subst hv
   rw[←hr,e]at q
   refine ret_none rfl wf (.tup (.cons (frz_list (i:=0) rfl rfl (by simp) (frzs_clean (belows_map (f:=natV) (fun _=>trivial) _))) (.cons (frz_clean (by cases ‹Option Nat› <;>exact trivial)) .nil))) q
  have hcp:c[p]? =some c[p]:=List.getElem?_eq_getElem hp
  generalize c[p]=i at hcp
  have e1:EvP (cxK K w) d' (.sub (.sub (.var 0) (.var 1)) (.lit (.int (0)))) ⟨[some (codeV c),some (.int (p:Nat)),some (.ref sto.length)],sto++[.list (met.map natV)]⟩ (.int i.op):=ev_sub (ev_sub (ev_var rfl) (ev_var rfl) (code_at hcp)) ev_lit rfl
  by_cases hj:∃t,i=.jmp t
  .obtain⟨t,rfl⟩:=hj
   refine⟨true,_,t_chain e1 (c_last ev_lit rfl),fun _=>?_,fun h=>(by contradiction)⟩
   by_cases hs:p∈met
   .refine ss_ite_t (t_chain (ev_var rfl) (c_last (ev_var rfl) ((in_list at_app).trans (congrArg some (decide_eq_true hs))))) (ss_ret (ev_tup (es_cons (ev_var rfl) (es_cons ev_lit es_nil))) (out (o:=none) ?_ rfl))
    unfold endsGo;rw[hcp];simp[hs]
   .refine ss_skip (t_chain (ev_var rfl) (c_last (ev_var rfl) ((in_list at_app).trans (congrArg some (decide_eq_false hs))))) ?_
    refine ss_expr (m_appendL (i:=0) (ev_var rfl) rfl (ev_var rfl) rfl (by rw[List.length_map];show _<16777216;exact o98 hc (by assumption) hsl hn) rfl) ?_
    refine ss_var (ev_sub (ev_sub (ev_var rfl) (ev_var rfl) (code_at hcp)) ev_lit rfl) (ss_nil ⟨m,Nat.lt_succ_self _,met++[p],t,?_,?_,?_,nodup_snoc hnd hs,lt_snoc hlt hp,hw p _ t hcp rfl⟩)
    .rw[List.map_append];rfl
    .rw[←hr];conv=>rhs;unfold endsGo
     rw[hcp];simp[hs]
    .simp;exact o57 hn
  .refine⟨false,_,t_chain e1 (c_last ev_lit ?_),fun h=>(by contradiction),fun _=>ss_ret (ev_tup (es_cons (ev_var rfl) (es_cons (ev_var rfl) es_nil))) (out (o:=some p) ?_ rfl)⟩
   .cases i with
    |jmp t=>exact absurd ⟨t,rfl⟩ hj
    |tst k b t=>cases k<;>cases b<;>rfl
    |_=>rfl
   .unfold endsGo;rw[hcp]
    cases i with
    |jmp t=>exact absurd ⟨t,rfl⟩ hj
    |_=>rfl)
theorem keep_op{i:I}{b:Bool}(h:i.op=tstOp true b):∃t,i=.tst true b t:=by
 cases i with
 |tst k b' t=>cases k<;>cases b<;>cases b'<;>first|exact⟨t,rfl⟩|(simp[I.op,tstOp]at h)
 |_=>cases b<;>simp[I.op,tstOp]at h
noncomputable def ringInv(c:List I)(b:Bool)(p0:Nat)(sto:Sto)(n:Nat)(st:St):Prop:=∃met p,st=⟨[some (codeV c),some (.int (tstOp true b)),some (.int (p:Nat)),some (.ref sto.length)],sto++[.list (met.map natV)]⟩∧
 ringGo c (tstOp true b) n met p=isRing c (tstOp true b) p0∧n+met.length=c.length+1∧met.Nodup∧(∀q∈met,q<c.length)∧p<c.length
theorem spec46(hK:KOk K)(c:List I)(hc:c.length≤200)(hw:Within c)(b:Bool)(p:Nat)(hp:p<c.length)(hd:2<d):Calls (cxK K w) d 46 [codeV c,.int (tstOp true b),.int p] sto (.bool (isRing c (tstOp true b) p)) sto:=
 Calls.of hd (by decide) fun d' h1 wf hb Q q=>use46 hK (by exact up h1 rfl) (by
  refine ss_var (ev_listL es_nil) (ss_while (ringInv c b p sto) (c.length+1) ⟨[],p,rfl,rfl,rfl,List.nodup_nil,fun q hq=>(by contradiction),hp⟩ fun n st hi=>?_)
  refine x2_1 hi fun met p zE zR=>?_;subst zE;refine x0_4 zR fun hr hn hnd hlt hp=>?_
  have hsl:=nodup_le hnd hlt
  obtain⟨m,rfl⟩:∃m,n=m+1:=⟨n-1,by exact o54 hn hsl⟩
  have out:∀{z:Bool}{L:Sto},ringGo c (tstOp true b) (m+1) met p=z→RetOK sto.length (sto++L) (.bool z) Q:=fun e=>by
   rw[←hr,e]at q
   exact ret_clean rfl wf below_bool q
  refine⟨decide (p∉met),_,t_chain (ev_var rfl) (c_last (ev_var rfl) (notin_list at_app)),fun hz=>?_,fun hz=>?_⟩
  .have hs:p∉met:=of_decide_eq_true hz
   have hcp:c[p]? =some c[p]:=List.getElem?_eq_getElem hp
   generalize c[p]=i at hcp
   refine ss_expr (m_appendL (i:=0) (ev_var rfl) rfl (ev_var rfl) rfl (by rw[List.length_map];show _<16777216;exact o98 hc (by assumption) hsl hn) rfl) ?_
   have e1:∀{L:Sto},EvP (cxK K w) d' (.sub (.sub (.var 0) (.var 2)) (.lit (.int (0)))) ⟨[some (codeV c),some (.int (tstOp true b)),some (.int (p:Nat)),some (.ref sto.length)],sto++L⟩ (.int i.op):=ev_sub (ev_sub (ev_var rfl) (ev_var rfl) (code_at hcp)) ev_lit rfl
   by_cases hop:i.op=tstOp true b
   .obtain⟨t,rfl⟩:=keep_op hop
    have ht:=hw p _ t hcp rfl
    refine ss_skip (t_chain e1 (c_last (ev_var rfl) (ne_f (by rw[hop])))) ?_
    refine ss_var (ev_sub (ev_call (es_cons (ev_var rfl) (es_cons (ev_sub (ev_sub (ev_var rfl) (ev_var rfl) (code_at hcp)) ev_lit rfl) es_nil)) (spec44 hK c hc hw t ht (by exact h1))) ev_lit rfl) ?_
    cases he:(ends c t).2 with
    |none=>
     refine ss_ite_t (t_chain (ev_var rfl) (c_last ev_lit rfl)) (ss_ret ev_lit (out ?_))
     unfold ringGo;rw[if_neg hs,hcp];simp[hop,I.tgt,he]
    |some q'=>
     refine ss_skip (t_chain (ev_var rfl) (c_last ev_lit rfl)) (ss_nil ⟨m,Nat.lt_succ_self _,met++[p],q',?_,?_,?_,nodup_snoc hnd hs,lt_snoc hlt hp,endsGo_lt hw ht he⟩)
     .rw[List.map_append];rfl
     .rw[←hr];conv=>rhs;unfold ringGo
      rw[if_neg hs,hcp];simp[hop,I.tgt,he]
     .simp;exact o57 hn
   .refine ss_ite_t (t_chain e1 (c_last (ev_var rfl) (ne_t (by exact o99 hop)))) (ss_ret ev_lit (out ?_))
    unfold ringGo;rw[if_neg hs,hcp];simp[hop]
  .have hs:p∈met:=by simpa using hz
   exact ss_ret ev_lit (out (by unfold ringGo;rw[if_pos hs])))
end
end Mine.Internal
set_option maxRecDepth 4000
namespace Mine.Internal
open PySem PySem.W PyProof.Rows PySem.Calls
theorem ends_isNot{sto:Sto}{o:Option Nat}:cmpV sto .isNot (optV o) .none=some o.isSome:=by cases o<;>rfl
theorem ne_met{sto:Sto}{l:List Nat}:cmpV sto .ne (linesV l) (.list [])=some (!l.isEmpty):=by
 cases l with
 |nil=>rfl
 |cons a l=>exact ne_nil (by simp)
theorem ne_nil_ref{sto:Sto}{i:Nat}{l:List Nat}(h:sto[i]? =some (.list (l.map natV))):cmpV sto .ne (.ref i) (.list [])=some (!l.isEmpty):=by
 rw[←ne_met (sto:=sto)]
 show(eqV sto (.ref i) (.list [])).map _=(eqV sto (linesV l) (.list [])).map _
 have:eqV sto (.ref i) (.list [])=eqV sto (linesV l) (.list []):=by
  show deepEq sto _ _=deepEq sto _ _
  have:dataOf sto (.ref i)=dataOf sto (linesV l):=congrArg (fun o=>opP o none fun l=>(toDs l).map PyData.list) (op_at (f:=oList) h)
  unfold deepEq
  rw[this]
 rw[this]
section
variable {K:Params→Frag} {w:World} {d:Nat} {sto:Sto}
theorem spec45(hK:KOk K){p:PV}{u:U}(hu:IsU sto p u)(hc:u.code.length≤200)(hw:Within u.code)(hs:straight u=true)(hd:3<d):Calls (cxK K w) d 45 [p] sto (.bool true) sto:=
 Calls.of hd (by decide) fun d' h1 wf hb Q q=>use45 hK (by exact up h1 rfl) (by
  refine ss_forF (l:=u.code.map encI) (fun k st=>∃a b c e,st=⟨[some p,a,b,c,e],sto⟩) (i_list (ev_attr (ev_var rfl) (hu 2))) ⟨none,none,none,none,rfl⟩ ?_ ?_
  .rintro k x st hx ⟨a,b,c,e,rfl⟩
   rw[List.getElem?_map]at hx
   refine x1_1 (Option.map_eq_some_iff.mp hx) fun i hi zL=>?_;subst zL
   have hst:=List.all_eq_true.mp hs i (List.mem_of_getElem? hi)
   refine a_tup rfl (as_cons (a_var (as_cons (a_var (as_nil ?_)))))
   cases hti:i.tgt with
   |none=>
    by_cases ho:58≤i.op
    .refine ss_skip (t_chain ev_lit (c_go (ev_var rfl) (le_t (by exact Int.ofNat_lt.mpr ho)) (c_last ev_lit (lt_f ?_)))) (ss_nil ⟨_,_,_,_,rfl⟩)
     cases i with
     |ret=>decide
     |jmp t=>contradiction
     |tst k b t=>contradiction
     |_=>simp[I.op]at ho
    .exact ss_skip (t_chain ev_lit (c_stop (ev_var rfl) (le_f (by exact o100 ho)))) (ss_nil ⟨_,_,_,_,rfl⟩)
   |some t=>
    have ht:=hw k i t hi hti
    have ho:58≤i.op∧i.op<63:=by
     cases i with
     |jmp t=>exact⟨Nat.le_refl _,Nat.le_add_left _ _⟩
     |tst k b t=>cases k<;>cases b<;>exact⟨Nat.le_add_left _ _,by simp[I.op,tstOp]⟩
     |_=>contradiction
    unfold straightI at hst
    rw[hti]at hst
    rw[Bool.and_eq_true]at hst
    obtain⟨s1,s2⟩:=hst
    refine ss_ite_t (t_chain ev_lit (c_go (ev_var rfl) (le_t (by exact o101 ho)) (c_last ev_lit (lt_t (by exact o282 ho))))) ?_
    refine ss_assign (ev_call (es_cons (ev_attr (ev_var rfl) (hu 2)) (es_cons (ev_var (v:=.int t) (by rw[arg_tgt hti];rfl)) es_nil)) (spec44 hK u.code hc hw t ht (by exact up h1 rfl))) (a_tup rfl (as_cons (a_var (as_cons (a_var (as_nil ?_))))))
    have w1:EvTP (cxK K w) d' (.chain (.var 3) [(.ne,(.list []))]) ⟨[some p,some (.int i.op),some i.arg,some (linesV (ends u.code t).1),some (optV (ends u.code t).2)],sto⟩ (!(ends u.code t).1.isEmpty):=t_chain (ev_var rfl) (c_last (ev_listF es_nil) ne_met)
    have w2:EvTP (cxK K w) d' (.chain (.var 4) [(.isNot,(.lit (.none)))]) ⟨[some p,some (.int i.op),some i.arg,some (linesV (ends u.code t).1),some (optV (ends u.code t).2)],sto⟩ (ends u.code t).2.isSome:=t_chain (ev_var rfl) (c_last ev_lit ends_isNot)
    have w12:EvTP (cxK K w) d' (.and [(.chain (.var 3) [(.ne,(.list []))]),(.chain (.var 4) [(.isNot,(.lit (.none)))])]) ⟨[some p,some (.int i.op),some i.arg,some (linesV (ends u.code t).1),some (optV (ends u.code t).2)],sto⟩ false:=by
     refine t_and ?_
     cases hm:(!(ends u.code t).1.isEmpty)with
     |false=>rw[hm]at w1;exact and_stop w1
     |true=>
      rw[hm]at s1 w1
      have:(ends u.code t).2.isSome=false:=by simpa using s1
      rw[this]at w2
      exact and_go w1 (all_last w2)
    refine ss_skip w12 ?_
    have w3:EvTP (cxK K w) d' (.chain (.var 1) [(.gt,(.lit (.int (60))))]) ⟨[some p,some (.int i.op),some i.arg,some (linesV (ends u.code t).1),some (optV (ends u.code t).2)],sto⟩ (decide (60<i.op)):=by
     rw[←show decide ((60:Int)<(i.op:Int))=decide (60<i.op)from decide_eq_decide.mpr (by exact o102 ho)]
     exact t_chain (ev_var rfl) (c_last ev_lit rfl)
    by_cases h60:60<i.op
    .rw[decide_eq_true h60]at w3
     cases hl:(ends u.code t).2 with
     |none=>
      rw[hl]at w2 w3
      exact ss_skip (t_and (and_go w3 (and_stop w2))) (ss_out (ss_nil ⟨_,_,_,_,rfl⟩))
     |some l=>
      rw[hl]at s2 w2 w3
      dsimp only at s2
      have hll:=endsGo_lt hw ht hl
      have hlc:u.code[l]? =some (u.code.getD l .pop):=by rw[List.getD_eq_getElem?_getD,List.getElem?_eq_getElem hll];rfl
      have w4:EvTP (cxK K w) d' (.chain (.sub (.sub (.attr (.var 0) 2) (.var 4)) (.lit (.int (0)))) [(.isIn,(.tup [(.lit (.int (6))),(.lit (.int (59))),(.lit (.int (60))),(.lit (.int (61))),(.lit (.int (62)))]))])
        ⟨[some p,some (.int i.op),some i.arg,some (linesV (ends u.code t).1),some (optV (some l))],sto⟩ ([6,59,60,61,62].contains (u.code.getD l .pop).op):=
       t_chain (ev_sub (ev_sub (ev_attr (ev_var rfl) (hu 2)) (ev_var rfl) (code_at hlc)) ev_lit rfl) (c_last (ev_tup (es_cons ev_lit (es_cons ev_lit (es_cons ev_lit (es_cons ev_lit (es_cons ev_lit es_nil)))))) (by
        generalize u.code.getD l .pop=j
        cases j with
        |tst k b t=>cases k<;>cases b<;>rfl
        |_=>rfl))
      cases hcn:[6,59,60,61,62].contains (u.code.getD l .pop).op with
      |false=>
       rw[hcn]at w4
       exact ss_skip (t_and (and_go w3 (and_go w2 (all_last w4)))) (ss_out (ss_nil ⟨_,_,_,_,rfl⟩))
      |true=>
       rw[hcn]at w4 s2
       have hring:isRing u.code i.op l=true:=by
        rw[decide_eq_true h60]at s2
        simpa using s2
       obtain⟨b,hb'⟩:∃b,i.op=tstOp true b:=by
        cases i with
        |tst k b t=>
         cases k with
         |true=>exact⟨b,rfl⟩
         |false=>cases b<;>simp[I.op,tstOp]at h60
        |jmp t=>simp[I.op]at h60
        |_=>contradiction
       have h46:=spec46 hK (w:=w) (d:=d') (sto:=sto) u.code hc hw b l hll (by exact h1)
       rw[←hb',hring]at h46
       exact ss_ite_t (t_and (and_go w3 (and_go w2 (all_last w4)))) (ss_skip (t_not (z:=true) (t_call (ev_call (es_cons (ev_attr (ev_var rfl) (hu 2)) (es_cons (ev_var rfl) (es_cons (ev_var rfl) es_nil))) h46))) (ss_out (ss_out (ss_nil ⟨_,_,_,_,rfl⟩))))
    .rw[decide_eq_false h60]at w3
     exact ss_skip (t_and (and_stop w3)) (ss_out (ss_nil ⟨_,_,_,_,rfl⟩))
  .rintro st ⟨a,b,c,e,rfl⟩
   exact ss_ret ev_lit (ret_plain rfl wf below_bool q))
inductive LeanJ(u:U)(p:PV)(sto:Sto):Nat→St→Prop
 |mk (n:Nat) (met ws:List Nat) (a b c:Option PV) (hr:leanGo u n met ws=true) (hnd:met.Nodup) (hlt:∀q∈met,q<u.code.length) (hn:ws.length+3*u.code.length+1≤n+3*met.length) (hwl:ws.length≤3*met.length+1):
  LeanJ u p sto n ⟨[some p,some (.ref (sto.length+0)),some (.ref (sto.length+1)),a,b,c],sto++[.list (met.map natV),.list (ws.map natV)]⟩
theorem lean_skip{u:U}{m a:Nat}{met w:List Nat}(h:a∈met∨u.code.length≤a)(hr:leanGo u (m+1) met (w++[a])=true):leanGo u m met w=true:=by
 unfold leanGo at hr
 rw[List.getLast?_concat,List.dropLast_concat]at hr
 exact(if_pos h).symm.trans hr
theorem lean_step{u:U}{m a:Nat}{met w:List Nat}{i:I}(h:¬(a∈met∨u.code.length≤a))(hi:u.code[a]? =some i)(hr:leanGo u (m+1) met (w++[a])=true):
  i≠.jmp (a+1)∧leanGo u m (met++[a]) (w++i.tgt.toList++(if i.isLast then[]else[a+1])++((firstH u.hs a).map H.t).toList)=true:=by
 unfold leanGo at hr
 rw[List.getLast?_concat,List.dropLast_concat]at hr
 have hr:=(if_neg h).symm.trans hr
 rw[List.getD_eq_getElem?_getD,hi]at hr
 refine⟨fun e=>?_,?_⟩
 .rw[e]at hr;exact Bool.false_ne_true ((if_pos rfl).symm.trans hr)
 .by_cases hj:i=.jmp (a+1)
  .exact absurd ((if_pos hj).symm.trans hr) Bool.false_ne_true
  .exact(if_neg hj).symm.trans hr
theorem t_or2{C:Cx}{a b:PE}{st:St}{y z:Bool}(ha:EvTP C d a st z)(hb:EvTP C d b st y):EvTP C d (.or [a,b]) st (z||y):=by
 cases z with
 |true=>exact t_or (or_stop ha)
 |false=>exact t_or (or_go ha (all_last hb))
theorem lean_or{a n:Nat}{met:List Nat}(h:(decide (a∈met)||decide (n≤a))=true):a∈met∨n≤a:=(Bool.or_eq_true_iff.mp h).imp of_decide_eq_true of_decide_eq_true
theorem lean_nor{a n:Nat}{met:List Nat}(h:(decide (a∈met)||decide (n≤a))=false):¬(a∈met∨n≤a):=fun x=>Bool.false_ne_true (h.symm.trans (Bool.or_eq_true_iff.mpr (x.imp decide_eq_true decide_eq_true)))
section
variable {C:Cx} {rho:List (Option PV)} {i:I} {a:Nat} (h4:rho[4]? =some (some (.int i.op)))
include h4
theorem ev_no58(h3:rho[3]? =some (some (natV a)))(h5:rho[5]? =some (some i.arg))(hj:i≠.jmp (a+1)):EvTP C d (.and [(.chain (.var 4) [(.eq,(.lit (.int (58))))]),(.chain (.var 5) [(.eq,(.bin .add (.var 3) (.lit (.int (1)))))])]) ⟨rho,sto⟩ false:=by
 refine t_and ?_
 cases i with
 |jmp t=>exact and_go (t_chain (ev_var h4) (c_last ev_lit rfl)) (all_last (t_chain (ev_var h5) (c_last (ev_bin (ev_var h3) ev_lit rfl) (eq_f fun e=>hj (congrArg I.jmp (o108 e))))))
 |tst k b t=>cases k<;>cases b<;>exact and_stop (t_chain (ev_var h4) (c_last ev_lit rfl))
 |_=>exact and_stop (t_chain (ev_var h4) (c_last ev_lit rfl))
theorem ev_rng58{y:Bool}(hy:i.tgt.isSome=y):EvTP C d (.chain (.lit (.int (58))) [(.le,(.var 4)),(.lt,(.lit (.int (63))))]) ⟨rho,sto⟩ y:=by
 have e:(decide ((58:Int)≤(i.op:Int))&&decide ((i.op:Int)<63))=i.tgt.isSome:=by cases i with
  |tst k b t=>cases k<;>cases b<;>rfl
  |_=>rfl
 exact(e.trans hy)▸t_chain ev_lit (c_two (ev_var h4) rfl ev_lit rfl)
theorem ev_tgt(h5:rho[5]? =some (some i.arg)):EvP C d (.ife (.chain (.lit (.int (58))) [(.le,(.var 4)),(.lt,(.lit (.int (63))))]) (.list [(.var 5)]) (.list [])) ⟨rho,sto⟩ (linesV i.tgt.toList):=by
 cases hti:i.tgt with
 |none=>exact ev_ife_f (ev_rng58 h4 (hti▸rfl)) (ev_listF es_nil)
 |some t=>exact ev_ife_t (ev_rng58 h4 (hti▸rfl)) (ev_listF (es_cons (ev_var (v:=.int t) (h5.trans (congrArg (fun x=>some (some x)) (arg_tgt hti)))) es_nil))
theorem ev_isLast(h3:rho[3]? =some (some (natV a))):EvP C d (.ife (.chain (.var 4) [(.notIn,(.tup [(.lit (.int (58))),(.lit (.int (65)))]))]) (.list [(.bin .add (.var 3) (.lit (.int (1))))]) (.list [])) ⟨rho,sto⟩ (linesV (if i.isLast then[]else[a+1])):=by
 have hni:EvTP C d (.chain (.var 4) [(.notIn,(.tup [(.lit (.int (58))),(.lit (.int (65)))]))]) ⟨rho,sto⟩ (!i.isLast):=t_chain (ev_var h4) (c_last (ev_tup (es_cons ev_lit (es_cons ev_lit es_nil))) (by cases i with
  |tst k b t=>cases k<;>cases b<;>rfl
  |_=>rfl))
 cases hil:i.isLast with
 |true=>rw[hil]at hni;exact ev_ife_f hni (ev_listF es_nil)
 |false=>rw[hil]at hni;exact ev_ife_t hni (ev_listF (es_cons (ev_bin (ev_var h3) ev_lit rfl) es_nil))
end
noncomputable def covQ(a:Int):PV→Bool
 | .tup [.int s,.int e,_,_,_]=>decide (s≤a)&&decide (a<e)
 |_=>false
noncomputable def tgtQ:PV→PV
 | .tup [_,_,t,_,_]=>t
 |_=>.none
theorem covQ_enc(a:Nat):covQ a ∘ encH=cov a:=by
 funext h
 show(decide ((h.s:Int)≤(a:Int))&&decide ((a:Int)<(h.e:Int)))=(decide (h.s≤a)&&decide (a<h.e))
 rw[decide_eq_decide.mpr Int.ofNat_le,decide_eq_decide.mpr Int.ofNat_lt]
theorem ev_hand{C:Cx}{rho:List (Option PV)}{p:PV}{u:U}{a:Nat}{L:Sto}(hu:IsU sto p u)(hh:u.hs.length≤2)(h0:rho[0]? =some (some p))(h3:rho[3]? =some (some (natV a))):
  EvP C d (.upto (.comp (.sub (.var 0) (.lit (.int (2)))) (.val (.attr (.var 0) 5)) [(.chain (.sub (.var 0) (.lit (.int (0)))) [(.le,(.var 1)),(.lt,(.sub (.var 0) (.lit (.int (1)))))])] [3]) (.lit (.int (1)))) ⟨rho,sto++L⟩ (linesV ((firstH u.hs a).map H.t).toList):=by
 have hcomp:=ev_comp (C:=C) (d:=d) (elt:=.sub (.var 0) (.lit (.int 2))) (ifs:=[(.chain (.sub (.var 0) (.lit (.int (0)))) [(.le,(.var 1)),(.lt,(.sub (.var 0) (.lit (.int (1)))))])]) (cs:=[3]) (l:=u.hs.map encH) (rho:=rho) (sto:=sto++L) (i_list (ev_attr (ev_var h0) (hu.app 5))) (by rw[List.length_map];exact Nat.le_trans hh (Nat.le_of_ble_eq_true rfl)) (covQ a) tgtQ
  (fun x hx=>by
   refine x1_1 (List.mem_map.mp hx) fun h _ zL=>?_;subst zL
   have hv:Ev C d (.var 1) ⟨some (encH h)::caps rho [3],sto++L⟩ (natV a) ⟨some (encH h)::caps rho [3],sto++L⟩:=ev_var (congrArg (fun o=>some (Option.join o)) h3)
   exact all_last (t_chain (ev_sub (ev_var rfl) ev_lit rfl) (c_two hv rfl (ev_sub (ev_var rfl) ev_lit rfl) rfl)))
  (fun x hx _=>by
   refine x1_1 (List.mem_map.mp hx) fun h _ zL=>?_;subst zL
   exact ev_sub (ev_var rfl) ev_lit rfl)
 have e2:(((u.hs.map encH).filter (covQ a)).map tgtQ).take (1:Int).toNat=((firstH u.hs a).map H.t).toList.map natV:=by
  rw[List.filter_map,covQ_enc,List.map_map]
  unfold firstH
  rw[←List.head?_filter]
  cases u.hs.filter (cov a)<;>rfl
 have h:=ev_upto_l hcomp (fun l e=>nomatch e) (ev_lit (v:=.int 1)) (by constructor<;>decide) rfl
 rw[e2]at h
 exact h
theorem ss_ext{C:Cx}{rho:List (Option PV)}{k:Nat}{e:PE}{r:List PS}{Q:Out→St→Prop}{l x:List Nat}{o:SObj}(h2:rho[2]? =some (some (.ref (sto.length+1))))(he:EvP C d e ⟨rho,sto++[o,.list (l.map natV)]⟩ (linesV x))(hl:l.length≤k)(hx:x.length≤1)(hk:k+1≤16777216)
  (hq:wpSs C d r Q ⟨rho,sto++[o,.list ((l++x).map natV)]⟩):wpSs C d (.expr (.meth .extend (.var 2) [e])::r) Q ⟨rho,sto++[o,.list (l.map natV)]⟩:=by
 refine ss_expr (m_extend (ev_var h2) (loc (i:=1)) he (loc (i:=1)) rfl (fun j e=>by contradiction) (by rw[List.length_map,List.length_map];exact Nat.le_trans (Nat.add_le_add hl hx) hk)) ?_
 rw[loc_set (i:=1) rfl]
 rw[List.map_append (l₁:=l)]at hq
 exact hq
theorem opt1{α:Type}(o:Option α):o.toList.length≤1:=by cases o;exact Nat.zero_le _;exact Nat.le_refl _
theorem ite1{α:Type}{b:Bool}{x:α}:(if b then[]else[x]).length≤1:=by cases b;exact Nat.le_refl _;exact Nat.zero_le _
theorem len_app{α:Type}{l x:List α}{k:Nat}(hl:l.length≤k)(hx:x.length≤1):(l++x).length≤k+1:=by rw[List.length_append];exact Nat.add_le_add hl hx
theorem LeanJ.skip{u:U}{p:PV}{m at_:Nat}{met w:List Nat}{a b c:Option PV}(hnd:met.Nodup)(hlt:∀q∈met,q<u.code.length)(hn:(w++[at_]).length+3*u.code.length+1≤m+1+3*met.length)(hwl:(w++[at_]).length≤3*met.length+1)(hr:leanGo u m met w=true):
  ∃k,k<m+1∧LeanJ u p sto k ⟨[some p,some (.ref (sto.length+0)),some (.ref (sto.length+1)),a,b,c],sto++[.list (met.map natV),.list (w.map natV)]⟩:=by
 rw[List.length_append]at hn hwl
 exact⟨m,Nat.lt_succ_self _,.mk _ _ _ _ _ _ hr hnd hlt (o106 hn) (o283 hwl)⟩
theorem LeanJ.step{u:U}{p:PV}{m at_:Nat}{met w x y z:List Nat}{a b c:Option PV}(hnd:met.Nodup)(hlt:∀q∈met,q<u.code.length)(hn:(w++[at_]).length+3*u.code.length+1≤m+1+3*met.length)(hwl:(w++[at_]).length≤3*met.length+1)
  (k1:at_∉met) (hal:at_<u.code.length) (hx:x.length≤1) (hy:y.length≤1) (hz:z.length≤1) (hr:leanGo u m (met++[at_]) (w++x++y++z)=true):
  ∃k,k<m+1∧LeanJ u p sto k ⟨[some p,some (.ref (sto.length+0)),some (.ref (sto.length+1)),a,b,c],sto++[.list ((met++[at_]).map natV),.list ((w++x++y++z).map natV)]⟩:=by
 rw[List.length_append]at hn hwl
 refine⟨m,Nat.lt_succ_self _,.mk _ _ _ _ _ _ hr (nodup_snoc hnd k1) (lt_snoc hlt hal) ?_ ?_⟩<;>rw[List.length_append,List.length_append,List.length_append,List.length_append]
 .exact o113 hn hx hy hz
 .exact o284 hwl hx hy hz
theorem lean_w{u:U}{met w:List Nat}{at_:Nat}(hc:u.code.length≤200)(hml:met.length≤u.code.length)(hwl:(w++[at_]).length≤3*met.length+1):w.length≤1000:=by
 rw[List.length_append]at hwl;exact o110 hc hml hwl
theorem lean_fin{u:U}{m:Nat}{met:List Nat}(h:leanGo u (m+1) met []=true):met.length=u.code.length:=by unfold leanGo at h;exact of_decide_eq_true h
theorem spec47(hK:KOk K){p:PV}{u:U}(hu:IsU sto p u)(hc:u.code.length≤200)(hh:u.hs.length≤2)(hs:lean u=true)(hd:1<d):Calls (cxK K w) d 47 [p] sto (.bool true) sto:=
 Calls.of hd (Nat.le_refl _) fun d' h1 wf hb Q q=>use47 hK h1 (by
  refine ss_assign (ev_tup (es_cons (ev_listL es_nil) (es_cons (new_list (es_cons ev_lit es_nil)) es_nil))) (a_tup rfl (as_cons (a_var (as_cons (a_var (as_nil ?_))))))
  refine ss_while (LeanJ u p sto) (4*u.code.length+2) (.mk _ [] [0] none none none hs List.nodup_nil (fun q hq=>nM hq) (Nat.succ_le_succ (o103 hc)) (Nat.le_refl _)) fun n st hi=>?_
  cases hi with|mk met ws a b c hr hnd hlt hn hwl=>?_
  refine x1_0 (show∃m,n=m+1 from⟨n-1,o104 hn (nodup_le hnd hlt)⟩) fun m e=>?_;subst e
  refine⟨_,_,t_chain (ev_var rfl) (c_last (ev_listF es_nil) (ne_nil_ref loc)),fun hz=>?_,fun hz=>?_⟩
  .refine x2_0 (snoc_of hz) fun w' at_ e=>?_;subst e
   refine ss_var (m_popL (i:=1) (w:=w'.map natV) (v:=natV at_) (ev_var rfl) (congrArg (fun l=>some (SObj.list l)) List.map_append) rfl) ?_
   refine ss_ite (z:=decide (at_∈met)||decide (u.code.length≤at_)) (t_or2 (t_chain (ev_var rfl) (c_last (ev_var rfl) (in_list (loc (i:=0))))) (t_chain (ev_var rfl) (c_last (len_unit rfl hu.app) (congrArg some (decide_eq_decide.mpr o105))))) (fun hk=>?_) fun hk=>?_
   .exact ss_continue (LeanJ.skip hnd hlt hn hwl (lean_skip (lean_or hk) hr))
   .refine ss_out (x1_0 (at_some (Nat.not_le.mp fun h=>lean_nor hk (.inr h))) fun i hip=>?_)
    refine ss_expr (m_appendL (i:=0) (ev_var rfl) rfl (ev_var rfl) rfl (by rw[List.length_map];exact o93 hc (nodup_le hnd hlt)) rfl) ?_
    refine ss_assign (ev_sub (ev_attr (ev_var rfl) (hu.app 2)) (ev_var rfl) (code_at hip)) (a_tup rfl (as_cons (a_var (as_cons (a_var (as_nil ?_))))))
    refine x0_1 (lean_step (lean_nor hk) hip hr) fun hj hr'=>?_
    refine ss_skip (ev_no58 rfl rfl rfl hj) ?_
    refine ss_ext (k:=1000) rfl (ev_tgt (i:=i) rfl rfl) (lean_w hc (nodup_le hnd hlt) hwl) (opt1 _) (Nat.le_of_ble_eq_true rfl) (ss_ext (k:=1001) rfl (ev_isLast (i:=i) (a:=at_) rfl rfl) (len_app (lean_w hc (nodup_le hnd hlt) hwl) (opt1 _)) ite1 (Nat.le_of_ble_eq_true rfl)
     (ss_ext (k:=1002) rfl (ev_hand hu hh rfl rfl) (len_app (len_app (lean_w hc (nodup_le hnd hlt) hwl) (opt1 _)) ite1) (opt1 _) (Nat.le_of_ble_eq_true rfl) (ss_nil ?_)))
    have h:=LeanJ.step (p:=p) (sto:=sto) (a:=some (natV at_)) (b:=some (.int i.op)) (c:=some i.arg) hnd hlt hn hwl (fun h=>lean_nor hk (.inl h)) (List.getElem?_eq_some_iff.mp hip).1 (opt1 _) ite1 (opt1 _) hr'
    rw[←map_snoc]at h
    exact h
  .cases ws with
   |cons x l=>exact Bool.noConfusion hz
   |nil=>exact ss_ret (ev_chain (ev_len (ev_var rfl) (len_ref (loc (i:=0)))) (c_last (len_unit rfl hu.app) (eq_t (by rw[List.length_map,lean_fin hr])))) (ret_clean rfl wf below_bool q))
end
end Mine.Internal
set_option maxRecDepth 4000
namespace Mine.Internal
open PySem PySem.W PyProof.Rows PySem.Calls
theorem textFrom_le:∀(ts:List Str)(k:Nat)(acc:Str),(textFrom k acc ts).length≤acc.length+piled ts
 |[],k,acc=>Nat.le_refl _
 |t::r,k,acc=>by
  refine Nat.le_trans (textFrom_le r (k+1) _) ?_
  rw[strLen_append,strLen_append,piled_cons]
  have:(((if k>0 then ", " else "":String):Str)).length≤2:=by split<;>decide
  exact o114 this
theorem listText_le(ts:List Str):(listText ts).length≤2+piled ts:=by
 unfold listText
 rw[strLen_append]
 have h1:=textFrom_le ts 0 "["
 have h2:((("[":String):Str)).length=1:=rfl
 have h3:((("]":String):Str)).length=1:=rfl
 exact o115 h1 h2 h3
theorem tupleText_le(ts:List Str):(tupleText ts).length≤3+piled ts:=by
 unfold tupleText
 rw[strLen_append,strLen_append]
 have e1:((("(":String):Str)).length=1:=rfl
 have e3:(((if ts.length==1 then ",)" else ")":String):Str)).length≤2:=by split<;>decide
 have e4:(Str.join ", " ts).length≤piled ts:=by
  cases ts with
  |nil=>decide
  |cons t r=>have:=join_length_add (t::r) (by simp);exact o116 this
 exact o117 e1 e3 e4
structure Small(n:Nat)(d:PyData):Prop where
 shows:d.showable=true
 short:d.shown.length≤n
 plain:d.hasDict=false
structure Smalls(n:Nat)(ds:List PyData):Prop where
 shows:PyData.showableAll ds=true
 short:piled (PyData.shownAll ds)≤n*ds.length
 plain:PyData.hasDictAll ds=false
theorem small_int{i:Nat}(h:i<10000):Small 5 (.int i) where
 shows:=by
  simp only[PyData.showable,decide_eq_true_eq]
  have:(i:Int).natAbs=i:=rfl
  rw[this]
  by_cases h0:i=0
  .subst h0;decide
  .exact(Nat.log2_lt h0).mpr (Nat.lt_of_lt_of_le h (by decide))
 short:=by
  simp only[PyData.shown]
  show(Str.ofString (toString (i:Int))).length≤5
  rw[PySem.ofString_length]
  exact int_text_length_le10 (k:=4) (by decide) (show(i:Int).natAbs<10^4 from h)
 plain:=by simp only[PyData.hasDict]
theorem small_none:Small 4 .none:=⟨by simp only[PyData.showable],by simp only[PyData.shown];decide,by simp only[PyData.hasDict]⟩
theorem small_bool{b:Bool}:Small 5 (.bool b):=⟨by simp only[PyData.showable],by simp only[PyData.shown];cases b<;>decide,by simp only[PyData.hasDict]⟩
theorem Small.mono{n m:Nat}{d:PyData}(h:Small n d)(hm:n≤m):Small m d:=⟨h.shows,Nat.le_trans h.short hm,h.plain⟩
theorem smalls_nil{n:Nat}:Smalls n []:=⟨by simp only[PyData.showableAll],by simp only[PyData.shownAll];exact Nat.zero_le _,by simp only[PyData.hasDictAll]⟩
theorem smalls_cons{n:Nat}{d:PyData}{ds:List PyData}(h:Small n d)(hs:Smalls (n+2) ds):Smalls (n+2) (d::ds) where
 shows:=by simp only[PyData.showableAll,h.shows,hs.shows];rfl
 short:=by
  simp only[PyData.shownAll]
  rw[piled_cons,List.length_cons,Nat.mul_succ]
  have:=h.short
  have:=hs.short
  exact o118 (by assumption) this
 plain:=by simp only[PyData.hasDictAll,h.plain,hs.plain];rfl
theorem smalls_map{α:Type}{n:Nat}{f:α→PyData}:∀{l:List α},(∀x∈l,Small n (f x))→Smalls (n+2) (l.map f)
 |[],_=>smalls_nil
 |x::l,h=>smalls_cons (h x (.head _)) (smalls_map fun y hy=>h y (.tail _ hy))
theorem small_list{n m:Nat}{ds:List PyData}(h:Smalls n ds)(hm:2+n*ds.length≤m):Small m (.list ds) where
 shows:=by simp only[PyData.showable];exact h.shows
 short:=by simp only[PyData.shown];exact Nat.le_trans (listText_le _) (by have:=h.short;exact o119 hm this)
 plain:=by simp only[PyData.hasDict];exact h.plain
theorem small_tuple{n m:Nat}{ds:List PyData}(h:Smalls n ds)(hm:3+n*ds.length≤m):Small m (.tuple ds) where
 shows:=by simp only[PyData.showable];exact h.shows
 short:=by simp only[PyData.shown];exact Nat.le_trans (tupleText_le _) (by have:=h.short;exact o120 hm this)
 plain:=by simp only[PyData.hasDict];exact h.plain
noncomputable def argD(i:I):PyData:=match i with
 | .pop=>.none
 | .ret=>.none
 | .ask x=>.int x
 | .decl x=>.int x
 | .jmp t=>.int t
 | .tst _ _ t=>.int t
noncomputable def insD(i:I):PyData:=.tuple [.int i.op,argD i]
noncomputable def hD(h:H):PyData:=.tuple [.int h.s,.int h.e,.int h.t,.int 0,.bool false]
noncomputable def natD(n:Nat):PyData:=.int n
noncomputable def strD(s:String):PyData:=.str (Str.ofString s)
noncomputable def unitD(u:U):PyData:=.list [.list (u.code.map insD),.list (u.hs.map hD),.list (u.lines.map natD),.list [strD "p",strD "q",strD "r"]]
theorem toDs_map{α:Type}{f:α→PV}{g:α→PyData}(h:∀x,toD (f x)=some (g x)):∀l:List α,toDs (l.map f)=some (l.map g)
 |[]=>rfl
 |x::l=>by
  show(toD (f x)).bind (fun d=>(toDs (l.map f)).map fun r=>d::r)=_
  rw[h,toDs_map h l];rfl
theorem toD_ins(i:I):toD (encI i)=some (insD i):=by cases i<;>rfl
theorem toD_h(h:H):toD (encH h)=some (hD h):=rfl
theorem toD_list{l:List PV}{ds:List PyData}(h:toDs l=some ds):toD (.list l)=some (.list ds):=by
 show(toDs l).map _=_
 rw[h];rfl
theorem toD_unit(u:U):toD (.list [codeV u.code,hsV u.hs,linesV u.lines,.list [strV "p",strV "q",strV "r"]])=some (unitD u):=by
 refine toD_list ?_
 show(toD (codeV u.code)).bind (fun d=>(toDs [hsV u.hs,linesV u.lines,.list [strV "p",strV "q",strV "r"]]).map fun r=>d::r)=_
 rw[show toD (codeV u.code)=_ from toD_list (toDs_map toD_ins u.code)]
 show((toDs [hsV u.hs,linesV u.lines,.list [strV "p",strV "q",strV "r"]]).map _)=_
 show(((toD (hsV u.hs)).bind (fun d=>(toDs [linesV u.lines,.list [strV "p",strV "q",strV "r"]]).map fun r=>d::r)).map _)=_
 rw[show toD (hsV u.hs)=_ from toD_list (toDs_map toD_h u.hs)]
 show((((toD (linesV u.lines)).bind (fun d=>(toDs [.list [strV "p",strV "q",strV "r"]]).map fun r=>d::r)).map _).map _)=_
 rw[show toD (linesV u.lines)=_ from toD_list (toDs_map (f:=natV) (g:=natD) (fun _=>rfl) u.lines)]
 rfl
theorem depth_flat{α:Type}{g:α→PyData}{k:Nat}(h:∀x,(g x).depth≤k):∀l:List α,PyData.depthAll (l.map g)≤k
 |[]=>by simp only[List.map_nil,PyData.depthAll];exact Nat.zero_le _
 |x::l=>by
  simp only[List.map_cons,PyData.depthAll]
  exact Nat.max_le.mpr ⟨h x,depth_flat h l⟩
theorem depth_unit(u:U):(unitD u).depth≤64:=by
 have h1:=depth_flat (k:=1) (g:=insD) (fun i=>by cases i<;>simp[insD,argD,PyData.depth,PyData.depthAll]) u.code
 have h2:=depth_flat (k:=1) (g:=hD) (fun h=>Nat.succ_pos _) u.hs
 have h3:=depth_flat (k:=1) (g:=natD) (fun h=>Nat.zero_le _) u.lines
 simp only[unitD,PyData.depth,PyData.depthAll,strD]
 exact o121 h1 h2 h3
theorem small_ins{n:Nat}{i:I}(h:∀k,argD i=.int k→∃m:Nat,k=m∧m<10000):Small 17 (insD i):=by
 have ha:Small 5 (argD i):=by
  cases i with
  |pop=>exact small_none.mono (by decide)
  |ret=>exact small_none.mono (by decide)
  |ask x=>refine x1_1 (h _ rfl) fun m e hm=>?_;have:x=m:=o122 e;subst this;exact small_int hm
  |decl x=>refine x1_1 (h _ rfl) fun m e hm=>?_;have:x=m:=o122 e;subst this;exact small_int hm
  |jmp x=>refine x1_1 (h _ rfl) fun m e hm=>?_;have:x=m:=o122 e;subst this;exact small_int hm
  |tst k b x=>refine x1_1 (h _ rfl) fun m e hm=>?_;have:x=m:=o122 e;subst this;exact small_int hm
 have ho:Small 5 (.int i.op):=small_int (by have:=op_le i;exact o123 this)
 exact small_tuple (n:=7) (smalls_cons ho (smalls_cons ha smalls_nil)) (show 3+7*2≤17 by decide)
theorem small_unit{u:U}(g:Good u):Small 100000 (unitD u):=by
 have few:=g.few
 have hw:=g.within
 refine x1_3 g.ty fun ty _ _ hty _=>?_
 have c1:Small 5000 (.list (u.code.map insD)):=small_list (n:=19) (smalls_map fun i hi=>small_ins (n:=0) fun k hk=>by
  obtain⟨j,hj⟩:=List.getElem?_of_mem hi
  have ht:=hty j i hj
  cases i with
  |pop=>contradiction
  |ret=>contradiction
  |ask x=>cases hk;exact⟨x,rfl,by have:=ht.1;exact Nat.le_trans this (Nat.le_add_left _ _)⟩
  |decl x=>cases hk;exact⟨x,rfl,by have:=ht.1;exact Nat.le_trans this (Nat.le_add_left _ _)⟩
  |jmp t=>cases hk;exact⟨t,rfl,by have:=hw j _ t hj rfl;exact o124 few this⟩
  |tst k' b t=>cases hk;exact⟨t,rfl,by have:=hw j _ t hj rfl;exact o124 few this⟩) (by rw[List.length_map];exact o285 few)
 have c2:Small 5000 (.list (u.hs.map hD)):=small_list (n:=40) (smalls_map fun h hh=>by
  refine x0_2 (g.hs h hh) fun g1 g2 g3=>?_
  exact small_tuple (n:=7) (smalls_cons (small_int (by exact o125 few g1 g2 g3)) (smalls_cons (small_int (by exact o286 few g1 g2 g3)) (smalls_cons (small_int (by exact o287 few g3)) (smalls_cons (small_int (i:=0) (by decide)) (smalls_cons small_bool smalls_nil))))) (show 3+7*5≤38 by decide)) (by rw[List.length_map];have:=g.hfew;exact o288 this)
 have c3:Small 5000 (.list (u.lines.map natD)):=small_list (n:=7) (smalls_map fun l hl=>small_int (by have:=g.small l hl;exact Nat.le_trans this (Nat.le_add_left _ _))) (by rw[List.length_map,g.lens];exact o289 few)
 have c4:Small 5000 (.list [strD "p",strD "q",strD "r"]):=⟨by decide+kernel,by decide+kernel,by decide+kernel⟩
 exact small_list (n:=5002) (smalls_cons c1 (smalls_cons c2 (smalls_cons c3 (smalls_cons c4 smalls_nil)))) (show 2+5002*4≤100000 by decide)
noncomputable def shownU(u:U):PV:=.str (unitD u).shown
section
variable {K:Params→Frag} {w:World} {d:Nat} {sto:Sto}
theorem spec48(hK:KOk K){p:PV}{u:U}(hu:IsU sto p u)(g:Good u)(hd:1<d):Calls (cxK K w) d 48 [p] sto (shownU u) sto:=
 Calls.of hd (Nat.le_refl _) fun d' h1 wf hb Q q=>use48 hK h1 (by
  have hs:=small_unit g
  exact ss_ret (ev_repr (ev_listF (es_cons (ev_attr (ev_var rfl) (hu 2)) (es_cons (ev_attr (ev_var rfl) (hu 5)) (es_cons (ev_attr (ev_var rfl) (hu 6)) (es_cons (ev_attr (ev_var rfl) (hu 3)) es_nil))))) (toD_unit u) hs.shows (depth_unit u) (Nat.le_trans hs.short (by decide)) hs.plain rfl) (ret_plain rfl wf trivial q))
end
end Mine.Internal
set_option maxRecDepth 4000
namespace Mine.Internal
open PySem PySem.W PyProof.Rows PySem.Calls
theorem fmod_nat(a b:Nat):(a:Int).fmod b=((a%b:Nat):Int):=by
 rw[Int.fmod_eq_emod_of_nonneg _ (Int.natCast_nonneg b)];rfl
theorem fdiv_nat(a b:Nat):(a:Int).fdiv b=((a/b:Nat):Int):=by
 rw[Int.fdiv_eq_ediv_of_nonneg _ (Int.natCast_nonneg b)];rfl
theorem mod_nat{a b:Nat}(h:0<b):binV .mod (.int a) (.int b)=some (.int (a%b:Nat)):=by
 show(if((b:Int) != 0)=true then some (PV.int ((a:Int).fmod b))else none)=_
 rw[if_pos (by simp;exact Nat.ne_of_gt h),fmod_nat]
theorem shaped_hs(l:List H):SeqAt.shaped (.list (l.map hD))=true:=by
 have h1:=depth_flat (k:=1) (g:=hD) (fun h=>Nat.succ_pos _) l
 have h2:PyData.canLayAll0 (l.map hD)=true:=by
  induction l with
  |nil=>simp[PyData.canLayAll0]
  |cons a l ih=>simp only[List.map_cons,PyData.canLayAll0,ih (depth_flat (k:=1) (g:=hD) (fun h=>Nat.succ_pos _) l),hD,PyData.canLay0];rfl
 show(PyData.canLay0 (.list (l.map hD))&&decide (PyData.depth (.list (l.map hD))≤64))=true
 rw[Bool.and_eq_true]
 exact⟨by simp only[PyData.canLay0];exact h2,decide_eq_true (by simp only[PyData.depth];exact o126 h1)⟩
theorem eq_nil_hs{sto:Sto}{l:List H}:cmpV sto .eq (.list (l.map encH)) (.list [])=some l.isEmpty:=by
 show deepEq sto _ _=_
 show((toDs (l.map encH)).map PyData.list).bind _=_
 rw[toDs_map toD_h]
 show(if SeqAt.shaped (.list (l.map hD))&&SeqAt.shaped (.list [])then _ else _)=_
 rw[shaped_hs]
 cases l<;>rfl
noncomputable def boolD(l:List Bool):PyData:=.list (l.map .bool)
noncomputable def encE:E→PV
 | .ev i=>encI i
 | .forever=>strV "for ever"
 | .thrown=>strV "thrown"
 | .fin l=>.str (Str.ofString "end "++(boolD l).shown)
theorem below_encE(e:E):Below 0 (encE e):=by
 cases e with
 |ev i=>exact below_encI
 |_=>exact trivial
noncomputable def eventsV(r:List E×Nat):PV:=.tup [.list (r.1.map encE),.int r.2]
theorem at_last{α:Type}{l:List α}(h:l≠[]):∃l' x,l=l'++[x]:=by
 rcases List.eq_nil_or_concat l with rfl|⟨l',x,rfl⟩
 .exact absurd rfl h
 .exact⟨l',x,List.concat_eq_append⟩
section
variable {K:Params→Frag} {w:World} {d:Nat} {sto:Sto}
noncomputable abbrev evR(p:PV)(words:List Nat)(n0 i a steps asked idl:Nat)(x8 x9 x10 x11 x12:Option PV):List (Option PV):=
 [some p,some (linesV words),some (.ref (n0+0)),some (.ref (n0+i)),some (.int a),some (.int steps),some (.int asked),some (.int idl),x8,x9,x10,x11,x12]
inductive EvJ(u:U)(ty:Nat→Nat)(words:List Nat)(p:PV)(sto:Sto):Nat→St→Prop
 |mk (m:Nat) (found:List E) (stk:List Bool) (a steps asked idl i:Nat) (L:Sto) (x8 x9 x10 x11 x12:Option PV) (hL0:L[0]? =some (.list (found.map encE))) (hLi:L[i]? =some (.list (stk.map .bool))) (hi0:i≠0)
  (hr:events u words=evGo u words (m+1) found stk a steps asked idl) (hsl:stk.length=ty a) (hal:a<u.code.length) (hfl:found.length≤15) (hidl:idl≤2*u.code.length+4)
  (hn:(15-found.length)*(2*u.code.length+6)+(2*u.code.length+6-idl)+1≤m+1):EvJ u ty words p sto (m+1) ⟨evR p words sto.length i a steps asked idl x8 x9 x10 x11 x12,sto++L⟩
theorem getD_at{l:List Nat}{k:Nat}(h:k<l.length):l[k]? =some (l.getD k 0):=by
 rw[List.getD_eq_getElem?_getD,List.getElem?_eq_getElem h];rfl
theorem k_eq{C:Cx}{rho:List (Option PV)}{ins:I}(k:Nat)(h:rho[8]? =some (some (.int ins.op))):EvTP C d (.chain (.var 8) [(.eq,(.lit (.int k)))]) ⟨rho,sto⟩ (decide (ins.op=k)):=by
 rw[←show((ins.op:Int)==(k:Int))=decide (ins.op=k)by rw[Bool.eq_iff_iff,beq_iff_eq,decide_eq_true_eq];exact o129]
 exact t_chain (ev_var h) (c_last ev_lit rfl)
theorem k_t{C:Cx}{rho:List (Option PV)}(k:Nat)(h:rho[8]? =some (some (.int k))):EvTP C d (.chain (.var 8) [(.eq,(.lit (.int k)))]) ⟨rho,sto⟩ true:=t_chain (ev_var h) (c_last ev_lit (congrArg some (beq_self_eq_true (k:Int))))
theorem k_f{C:Cx}{rho:List (Option PV)}{n:Nat}(k:Nat)(h:rho[8]? =some (some (.int n)))(e:Nat.beq n k=false):EvTP C d (.chain (.var 8) [(.eq,(.lit (.int k)))]) ⟨rho,sto⟩ false:=t_chain (ev_var h) (c_last ev_lit (congrArg some (beq_eq_false_iff_ne.mpr fun h=>Nat.ne_of_beq_eq_false e (Int.ofNat.inj h))))
theorem k_no{C:Cx}{rho:List (Option PV)}{ins:I}(k:Nat)(h:rho[8]? =some (some (.int ins.op)))(n:ins.op≠k):EvTP C d (.chain (.var 8) [(.eq,(.lit (.int k)))]) ⟨rho,sto⟩ false:=decide_eq_false n▸k_eq k h
theorem evGo_at{u:U}{words:List Nat}{m:Nat}{found:List E}{stk:List Bool}{a steps asked idl:Nat}{ins:I}(h15:found.length<15)(hip:u.code[a]? =some ins):
  evGo u words (m+1) found stk a steps asked idl=(if 2*u.code.length+4<idl+1 then(found++[E.forever],0)else match ins with
     | .ret=>(found++[E.fin stk],steps+1)
     | .ask x=>evGo u words m (found++[.ev (.ask x)]) (stk++[decide (words.getD (asked%words.length) 0%2=0)]) (a+1) (steps+1) (asked+1) 0
     | .decl x=>if words.getD (asked%words.length) 0%3=0 then(match firstH u.hs a with
       |none=>(found++[.ev (.decl x),.thrown],steps+1)
       |some h=>evGo u words m (found++[E.ev (.decl x)]) [true] h.t (steps+1) (asked+1) 0)
      else evGo u words m (found++[E.ev (.decl x)]) stk (a+1) (steps+1) (asked+1) 0
     | .pop=>evGo u words m found stk.dropLast (a+1) (steps+1) asked (idl+1)
     | .jmp t=>evGo u words m found stk t (steps+1) asked (idl+1)
     | .tst k b t=>if stk.getLast?=some b then evGo u words m found (if k then stk else stk.dropLast) t (steps+1) asked (idl+1)
      else evGo u words m found stk.dropLast (a+1) (steps+1) asked (idl+1)):=by
 conv=>lhs;unfold evGo
 rw[if_neg (Nat.not_le.mpr h15)]
 split
 .rfl
 .rw[hip]
  cases ins<;>rfl
theorem tooMany{u:U}{p:PV}{rho:List (Option PV)}{K:Params→Frag}{idl:Nat}{z:Bool}(hu:IsU sto p u)(few:u.code.length≤200)(hidl:idl≤2*u.code.length+4)(h0:rho[0]? =some (some p))(h7:rho[7]? =some (some (.int (idl+1:Nat))))(hz:decide (2*u.code.length+4<idl+1)=z){L:Sto}:
  EvTP (cxK K w) d (.chain (.var 7) [(.gt,(.bin .add (.bin .mul (.lit (.int (2))) (.bi .len (.attr (.var 0) 2))) (.lit (.int (4)))))]) ⟨rho,sto++L⟩ z:=by
 rw[←hz, ←show decide ((2:Int)*(u.code.length:Int)+4<((idl+1:Nat):Int))=decide (2*u.code.length+4<idl+1)from decide_eq_decide.mpr (o128 hidl)]
 have hm:binV .mul (.int 2) (.int u.code.length)=some (.int (2*(u.code.length:Int))):=mul_v (by decide) (o290 few)
 exact t_chain (ev_var h7) (c_last (ev_bin (v:=.int (2*(u.code.length:Int)+4)) (ev_bin ev_lit (len_unit h0 hu.app) hm) ev_lit rfl) rfl)
theorem mEv{f c i m:Nat}(few:c≤200)(hfl:f≤15)(hf15:f<15)(hmany:¬2*c+4<i+1)(hn:(15-f)*(2*c+6)+(2*c+6-i)+1≤m+1):(15-(f+1))*(2*c+6)+(2*c+6-0)+1≤m:=by
 rw[o131 hfl hf15,Nat.succ_mul]at hn
 rw[o132 hfl hf15 (o131 hfl hf15)]
 exact o133 few hfl hf15 hmany hn
theorem up1{m n:Nat}(h:n+1≤m):∃k,m=k+1:=⟨m-1,(Nat.sub_add_cancel (Nat.le_trans (Nat.le_add_left 1 n) h)).symm⟩
theorem EvJ.stepI{u:U}{ty:Nat→Nat}{words:List Nat}{p:PV}{m:Nat}{found:List E}{stk':List Bool}{a' steps' asked' idl i':Nat}{L':Sto}{y8 y9 y10 y11 y12:Option PV}(hfl:found.length≤15)(hm:¬2*u.code.length+4<idl+1)
  (hn:(15-found.length)*(2*u.code.length+6)+(2*u.code.length+6-idl)+1≤m+1)
  (h1:L'[0]? =some (.list (found.map encE))) (h2:L'[i']? =some (.list (stk'.map .bool))) (h3:i'≠0) (h4:events u words=evGo u words m found stk' a' steps' asked' (idl+1)) (h5:stk'.length=ty a') (h6:a'<u.code.length):
  ∃k,k<m+1∧EvJ u ty words p sto k ⟨evR p words sto.length i' a' steps' asked' (idl+1) y8 y9 y10 y11 y12,sto++L'⟩:=by
 have h9:=o130 hn hm
 refine x1_0 (up1 h9) fun k e=>?_;subst e
 exact⟨k+1,Nat.lt_succ_self _,.mk _ _ _ _ _ _ _ _ _ _ _ _ _ _ h1 h2 h3 h4 h5 h6 hfl (Nat.not_lt.mp hm) h9⟩
theorem len_snoc{α:Type}{l:List α}{x:α}{n:Nat}(h:l.length<n):(l++[x]).length≤n:=by rw[List.length_append];exact h
theorem EvJ.stepE{u:U}{ty:Nat→Nat}{words:List Nat}{p:PV}{m:Nat}{found:List E}{x:E}{stk':List Bool}{a' steps' asked' idl i':Nat}{L':Sto}{y8 y9 y10 y11 y12:Option PV}(few:u.code.length≤200)(hfl:found.length≤15)(hf:found.length<15)(hm:¬2*u.code.length+4<idl+1)
  (hn:(15-found.length)*(2*u.code.length+6)+(2*u.code.length+6-idl)+1≤m+1)
  (h1:L'[0]? =some (.list (found.map encE++[encE x]))) (h2:L'[i']? =some (.list (stk'.map .bool))) (h3:i'≠0) (h4:events u words=evGo u words m (found++[x]) stk' a' steps' asked' 0) (h5:stk'.length=ty a') (h6:a'<u.code.length):
  ∃k,k<m+1∧EvJ u ty words p sto k ⟨evR p words sto.length i' a' steps' asked' 0 y8 y9 y10 y11 y12,sto++L'⟩:=by
 have h9:(15-(found++[x]).length)*(2*u.code.length+6)+(2*u.code.length+6-0)+1≤m:=by rw[List.length_append];exact mEv few hfl hf hm hn
 refine x1_0 (up1 h9) fun k e=>?_;subst e
 exact⟨k+1,Nat.lt_succ_self _,.mk _ _ _ _ _ _ _ _ _ _ _ _ _ _ (h1.trans (congrArg (fun l=>some (SObj.list l)) (List.map_append (l₁:=found) (l₂:=[x])).symm)) h2 h3 h4 h5 h6 (len_snoc hf) (Nat.zero_le _) h9⟩
theorem ev_clean(l:List E):Belows 0 (l.map encE):=belows_map below_encE l
theorem ev_word{C:Cx}{rho:List (Option PV)}{words:List Nat}{k:Nat}(hwl:0<words.length)(h1:rho[1]? =some (some (linesV words)))(h6:rho[6]? =some (some (.int k))):
  EvP C d (.sub (.var 1) (.bin .mod (.var 6) (.bi .len (.var 1)))) ⟨rho,sto⟩ (.int (words.getD (k%words.length) 0:Nat)):=
 ev_sub (ev_var h1) (ev_bin (ev_var h6) (ev_len (ev_var h1) len_list) (by rw[List.length_map];exact mod_nat hwl)) (sub_nat (by rw[List.getElem?_map,getD_at (Nat.mod_lt _ hwl)];rfl))
theorem w_mod2{x:Nat}:((((x%2:Nat):Int)==(0:Int)))=decide (x%2=0):=by rw[Bool.eq_iff_iff,beq_iff_eq,decide_eq_true_eq];exact o140
theorem w_mod3{x:Nat}:((((x%3:Nat):Int)==(0:Int)))=decide (x%3=0):=by rw[Bool.eq_iff_iff,beq_iff_eq,decide_eq_true_eq];exact o143
theorem tst_rng{k b:Bool}:59≤tstOp k b∧tstOp k b≤62:=by cases k<;>cases b<;>decide
theorem tst_ne{k b:Bool}{t:Nat}(x:Nat)(hx:x<59∨62<x):(I.tst k b t).op≠x:=fun e=>hx.elim (fun h=>Nat.not_le.mpr (e▸h) tst_rng.1) fun h=>Nat.not_le.mpr (e▸h) tst_rng.2
theorem ev_cov{C:Cx}{u:U}{p:PV}(hu:IsU sto p u)(few:u.hs.length≤200){L:Sto}{rho:List (Option PV)}{a:Nat}(h0:rho[0]? =some (some p))(h4:rho[4]? =some (some (.int (a+1:Nat)))):
  EvP C d (.comp (.var 0) (.val (.attr (.var 0) 5)) [(.chain (.sub (.var 0) (.lit (.int (0)))) [(.le,(.bin .sub (.var 1) (.lit (.int (1))))),(.lt,(.sub (.var 0) (.lit (.int (1)))))])] [4]) ⟨rho,sto++L⟩ (.list ((u.hs.filter (cov a)).map encH)):=by
 have hcomp:=ev_comp (C:=C) (d:=d) (elt:=.var 0) (ifs:=[(.chain (.sub (.var 0) (.lit (.int (0)))) [(.le,(.bin .sub (.var 1) (.lit (.int (1))))),(.lt,(.sub (.var 0) (.lit (.int (1)))))])]) (cs:=[4]) (l:=u.hs.map encH) (rho:=rho) (sto:=sto++L) (i_list (ev_attr (ev_var h0) (hu.app 5))) (by rw[List.length_map];exact Nat.le_trans few (Nat.le_of_ble_eq_true rfl)) (covQ (((a+1:Nat):Int)-1)) id
  (fun x hx=>by
   obtain⟨h,_,rfl⟩:=List.mem_map.mp hx
   have hv:Ev C d (.bin .sub (.var 1) (.lit (.int 1))) ⟨some (encH h)::caps rho [4],sto++L⟩ (.int (((a+1:Nat):Int)-1)) ⟨some (encH h)::caps rho [4],sto++L⟩:=ev_bin (ev_var (v:=.int (a+1:Nat)) (congrArg (fun o=>some (Option.join o)) h4)) ev_lit rfl
   exact all_last (t_chain (ev_sub (ev_var rfl) ev_lit rfl) (c_two hv rfl (ev_sub (ev_var rfl) ev_lit rfl) rfl)))
  (fun x hx _=>ev_var rfl)
 rw[List.map_id,List.filter_map,show(((a+1:Nat):Int)-1)=(a:Int)from Int.add_sub_cancel a 1,covQ_enc]at hcomp
 exact hcomp
section
variable {u:U} {words:List Nat} {m:Nat} {found:List E} {stk:List Bool} {a steps asked idl:Nat} (h15:found.length<15) (hm:¬2*u.code.length+4<idl+1)
theorem go_many{ins:I}(h15:found.length<15)(hip:u.code[a]? =some ins)(hm:2*u.code.length+4<idl+1):evGo u words (m+1) found stk a steps asked idl=(found++[E.forever],0):=(evGo_at h15 hip).trans (if_pos hm)
theorem go_end(h:15≤found.length):evGo u words (m+1) found stk a steps asked idl=(found,steps):=by unfold evGo;exact if_pos h
include h15 hm
theorem go_ret(hip:u.code[a]? =some .ret):evGo u words (m+1) found stk a steps asked idl=(found++[E.fin stk],steps+1):=(evGo_at h15 hip).trans (if_neg hm)
theorem go_ask{x:Nat}(hip:u.code[a]? =some (.ask x)):evGo u words (m+1) found stk a steps asked idl=evGo u words m (found++[.ev (.ask x)]) (stk++[decide (words.getD (asked%words.length) 0%2=0)]) (a+1) (steps+1) (asked+1) 0:=(evGo_at h15 hip).trans (if_neg hm)
theorem go_pop(hip:u.code[a]? =some .pop):evGo u words (m+1) found stk a steps asked idl=evGo u words m found stk.dropLast (a+1) (steps+1) asked (idl+1):=(evGo_at h15 hip).trans (if_neg hm)
theorem go_jmp{t:Nat}(hip:u.code[a]? =some (.jmp t)):evGo u words (m+1) found stk a steps asked idl=evGo u words m found stk t (steps+1) asked (idl+1):=(evGo_at h15 hip).trans (if_neg hm)
theorem go_tst{k b z:Bool}{t:Nat}(hip:u.code[a]? =some (.tst k b t))(hz:stk=[z]):evGo u words (m+1) found stk a steps asked idl=evGo u words m found (cond (!k|| !(z==b)) [] [z]) (cond (z==b) t (a+1)) (steps+1) asked (idl+1):=by
 subst hz;refine(evGo_at h15 hip).trans ((if_neg hm).trans ?_)
 cases k<;>cases b<;>cases z<;>rfl
theorem go_decl{x:Nat}(hip:u.code[a]? =some (.decl x))(h3:¬words.getD (asked%words.length) 0%3=0):evGo u words (m+1) found stk a steps asked idl=evGo u words m (found++[.ev (.decl x)]) stk (a+1) (steps+1) (asked+1) 0:=(evGo_at h15 hip).trans ((if_neg hm).trans (if_neg h3))
theorem go_hand{x:Nat}{h:H}(hip:u.code[a]? =some (.decl x))(h3:words.getD (asked%words.length) 0%3=0)(hh:firstH u.hs a=some h):evGo u words (m+1) found stk a steps asked idl=evGo u words m (found++[.ev (.decl x)]) [true] h.t (steps+1) (asked+1) 0:=
 (evGo_at h15 hip).trans ((if_neg hm).trans ((if_pos h3).trans (by rw[hh])))
theorem go_thrown{x:Nat}(hip:u.code[a]? =some (.decl x))(h3:words.getD (asked%words.length) 0%3=0)(hh:firstH u.hs a=none):evGo u words (m+1) found stk a steps asked idl=((found++[.ev (.decl x)])++[.thrown],steps+1):=
 (evGo_at h15 hip).trans ((if_neg hm).trans ((if_pos h3).trans (by rw[hh,List.append_assoc];rfl)))
end
theorem first_of{l:List H}{a:Nat}(h:(l.filter (cov a)).isEmpty=false):∃h,firstH l a=some h∧(l.filter (cov a))[0]? =some h∧h∈l:=by
 unfold firstH;rw[←List.head?_filter]
 cases e:l.filter (cov a)with
 |nil=>rw[e]at h;exact nomatch h
 |cons x r=>exact⟨x,rfl,rfl,(List.mem_filter.mp (e▸List.mem_cons_self)).1⟩
theorem first_no{l:List H}{a:Nat}(h:(l.filter (cov a)).isEmpty=true):firstH l a=none:=by
 unfold firstH;rw[←List.head?_filter,List.isEmpty_iff.mp h];rfl
theorem set_at{L:Sto}{i:Nat}{v w:SObj}(h:L[i]? =some w):(L.set i v)[i]? =some v:=List.getElem?_set_self (List.getElem?_eq_some_iff.mp h).1
theorem set_no{L:Sto}{i j:Nat}{v w:SObj}(hi:i≠j)(h:L[j]? =some w):(L.set i v)[j]? =some w:=(List.getElem?_set_ne hi).trans h
theorem len16{l:List E}(h:l.length≤15){x:PV}:(l.map encE).length+[x].length≤16777216:=by rw[List.length_map];exact Nat.le_trans (Nat.succ_le_succ h) (Nat.le_of_ble_eq_true rfl)
theorem len15{l:List E}(h:l.length<15):(l.map encE).length<16777216:=by rw[List.length_map];exact Nat.le_trans h (Nat.le_of_ble_eq_true rfl)
theorem ev_end{u:U}{words:List Nat}{L':Sto}{found:List E}{x:E}{s:Nat}{Q:PV→Sto→Prop}(wf:WfB sto.length sto)(q:Q (eventsV (events u words)) sto)(e:events u words=(found++[x],s)):RetOK sto.length (sto++L') (.tup [.list (found.map encE++[encE x]),.int s]) Q:=by
 rw[e]at q
 have h:=belows_map below_encE (found++[x])
 rw[List.map_append]at h
 refine ret_none rfl wf (.tup (.cons (frz_clean (below_list h)) (.cons (.int _) .nil))) ?_
 rw[eventsV,List.map_append]at q;exact q
theorem ev_fin{C:Cx}{rho:List (Option PV)}{stk:List Bool}{r:Nat}{ty:Nat}(h3:rho[3]? =some (some (.ref r)))(h:sto[r]? =some (.list (stk.map .bool)))(hl:stk.length=ty)(ht:ty≤1):EvP C d (.bin .add (.lit (.str "end ")) (.bi .str (.var 3))) ⟨rho,sto⟩ (encE (.fin stk)):=by
 have hD:dataOf sto (.ref r)=some (boolD stk):=by
  refine(congrArg (fun o=>opP o none fun l=>(toDs l).map PyData.list) (op_at (f:=oList) h)).trans ?_
  show(toDs _).map _=_
  rw[toDs_map (f:=PV.bool) (g:=PyData.bool) (fun _=>rfl)];rfl
 have hs:Small 100 (boolD stk):=small_list (n:=7) (smalls_map fun b _=>small_bool) (by rw[List.length_map,hl];exact o134 hl ht)
 refine ev_bin ev_lit (ev_str (ev_var h3) hD hs.shows ?_ (Nat.le_trans hs.short (by decide)) hs.plain rfl) ?_
 .have:=depth_flat (k:=0) (g:=PyData.bool) (fun b=>Nat.zero_le _) stk
  simp only[boolD,PyData.depth];exact o135 this
 .show(if(Str.ofString "end ").length+(boolD stk).shown.length≤lineN then some (PV.str (Str.ofString "end "++(boolD stk).shown))else none)=_
  rw[if_pos];rfl
  exact o136 (rfl:(Str.ofString "end ").length=4) hs.short
theorem pop_at{L:Sto}{i:Nat}{stk:List Bool}(hLi:L[i]? =some (.list (stk.map .bool)))(h:stk.length=1):∃b,L[i]? =some (.list ((stk.dropLast.map .bool)++[.bool b]))∧stk=[b]:=by
 refine x1_0 (List.length_eq_one_iff.mp h) fun b e=>?_;subst e
 exact⟨b,hLi,rfl⟩
theorem ev_pick{C:Cx}{rho:List (Option PV)}{y:Bool}{t a:Nat}(h12:rho[12]? =some (some (.bool y)))(h9:rho[9]? =some (some (.int t)))(h4:rho[4]? =some (some (.int a))):EvP C d (.ife (.var 12) (.var 9) (.var 4)) ⟨rho,sto⟩ (.int (cond y t a:Nat)):=by
 cases y with
 |true=>exact ev_ife_t (t_var (ev_var h12)) (ev_var h9)
 |false=>exact ev_ife_f (t_var (ev_var h12)) (ev_var h4)
theorem ss_popIf{C:Cx}{rho:List (Option PV)}{c:Bool}{t:PE}{r:List PS}{L:Sto}{i:Nat}{v:PV}{Q:Out→St→Prop}(ht:EvTP C d t ⟨rho,sto++L⟩ c)(h3:rho[3]? =some (some (.ref (sto.length+i))))(hL:L[i]? =some (.list ([]++[v])))
  (h:wpSs C d r Q ⟨rho,sto++cond c (L.set i (.list [])) L⟩):wpSs C d (.ite t [.expr (.meth .pop (.var 3) [])] []::r) Q ⟨rho,sto++L⟩:=by
 cases c with
 |true=>exact ss_ite_t ht (ss_expr (m_popL (ev_var h3) hL rfl) (ss_out h))
 |false=>exact ss_skip ht h
theorem ev_so{C:Cx}{rho:List (Option PV)}{k b z:Bool}{t r:Nat}(h8:rho[8]? =some (some (.int (I.tst k b t).op)))(h3:rho[3]? =some (some (.ref r)))(hL:sto[r]? =some (.list [.bool z])):
  EvP C d (.or [(.chain (.var 8) [(.eq,(.lit (.int (58))))]),(.chain (.sub (.var 3) (.bin .sub (.bi .len (.var 3)) (.lit (.int (1))))) [(.eq,(.chain (.var 8) [(.isIn,(.tup [(.lit (.int (60))),(.lit (.int (62)))]))]))])]) ⟨rho,sto⟩ (.bool (z==b)):=by
 refine ev_or (or_go (k_no 58 h8 (tst_ne 58 (.inl (by decide)))) (all_last (t_chain (ev_sub (ev_var h3) (ev_bin (ev_len (ev_var h3) (len_ref hL)) ev_lit rfl) (sub_ref (k:=0) hL rfl)) (c_last (ev_chain (z:=b) (ev_var h8) (c_last (ev_tup (es_cons ev_lit (es_cons ev_lit es_nil))) ?_)) rfl))))
 cases k<;>cases b<;>rfl
theorem ev_off{C:Cx}{rho:List (Option PV)}{k b y:Bool}{t:Nat}(h8:rho[8]? =some (some (.int (I.tst k b t).op)))(h12:rho[12]? =some (some (.bool y))):
  EvTP C d (.or [(.chain (.var 8) [(.isIn,(.tup [(.lit (.int (59))),(.lit (.int (60)))]))]),(.and [(.chain (.var 8) [(.gt,(.lit (.int (60))))]),(.not (.var 12))])]) ⟨rho,sto⟩ (!k|| !y):=by
 refine t_or ?_
 cases k with
 |false=>exact or_stop (t_chain (ev_var h8) (c_last (ev_tup (es_cons ev_lit (es_cons ev_lit es_nil))) (by cases b<;>rfl)))
 |true=>exact or_go (t_chain (ev_var h8) (c_last (ev_tup (es_cons ev_lit (es_cons ev_lit es_nil))) (by cases b<;>rfl))) (all_last (t_and (and_go (t_chain (ev_var h8) (c_last ev_lit (by cases b<;>rfl))) (all_last (t_not (t_var (ev_var h12)))))))
theorem tst_len{ty:Nat→Nat}{k y z:Bool}{a t:Nat}(o3:ty (a+1)=0)(o5:ty t=if k then 1 else 0):(cond (!k|| !y) [] [z]).length=ty (cond y t (a+1)):=by
 cases y with
 |true=>refine Eq.trans ?_ o5.symm;cases k<;>rfl
 |false=>refine Eq.trans ?_ o3.symm;cases k<;>rfl
theorem ev_third{C:Cx}{rho:List (Option PV)}{x:Nat}{z:Bool}(h:rho[10]? =some (some (.int x)))(hz:decide (x%3=0)=z):EvTP C d (.chain (.bin .mod (.var 10) (.lit (.int (3)))) [(.eq,(.lit (.int (0))))]) ⟨rho,sto⟩ z:=by
 rw[←hz, ←w_mod3];exact t_chain (ev_bin (ev_var h) ev_lit (mod_nat (b:=3) (by decide))) (c_last ev_lit rfl)
theorem ev_half{C:Cx}{rho:List (Option PV)}{x:Nat}(h:rho[10]? =some (some (.int x))):EvP C d (.chain (.bin .mod (.var 10) (.lit (.int (2)))) [(.eq,(.lit (.int (0))))]) ⟨rho,sto⟩ (.bool (decide (x%2=0))):=by
 rw[←w_mod2];exact ev_chain (ev_bin (ev_var h) ev_lit (mod_nat (b:=2) (by decide))) (c_last ev_lit rfl)
theorem sub_hd{l:List H}{h:H}(e:l[0]? =some h):subV sto (.list (l.map encH)) (.int 0)=some (encH h):=sub_nat (k:=0) (by rw[List.getElem?_map,e];rfl)
theorem o401{c:Nat}:(15-0)*(2*c+6)+(2*c+6-0)+1≤16*(2*c+6)+1:=Nat.le_of_eq (congrArg (· +1) (Nat.succ_mul 15 _).symm)
theorem spec43(hK:KOk K){p:PV}{u:U}(hu:IsU sto p u)(g:Good u){words:List Nat}(hwl:0<words.length)(hd:1<d):Calls (cxK K w) d 43 [p,linesV words] sto (eventsV (events u words)) sto:=
 Calls.of hd (Nat.le_refl _) fun d' h1 wf hb Q q=>use43 hK h1 (by
  refine x1_3 g.ty fun ty ty0 tle hty hth=>?_
  refine ss_assign (ev_tup (es_cons (ev_listL es_nil) (es_cons (new_list es_nil) (es_cons ev_lit (es_cons ev_lit (es_cons ev_lit (es_cons ev_lit es_nil)))))))
   (a_tup rfl (as_cons (a_var (as_cons (a_var (as_cons (a_var (as_cons (a_var (as_cons (a_var (as_cons (a_var (as_nil ?_))))))))))))))
  refine ss_while (EvJ u ty words p sto) (evFuel u) (.mk (16*(2*u.code.length+6)) [] [] 0 0 0 0 1 [.list [],.list []] none none none none none rfl rfl Nat.one_ne_zero rfl ty0.symm g.ne (Nat.zero_le _) (Nat.zero_le _) o401) fun n st hi=>?_
  cases hi with|mk m found stk a steps asked idl i L x8 x9 x10 x11 x12 hL0 hLi hi0 hr hsl hal hfl hidl hn=>?_
  refine⟨decide (found.length<15),_,t_chain (ev_len (ev_var rfl) (len_ref (loc.trans hL0))) (c_last ev_lit (congrArg some ((congrArg (fun n:Nat=>decide ((n:Int)<15)) (List.length_map _)).trans (decide_eq_decide.mpr (o127 hfl))))),fun hz=>?_,fun hz=>?_⟩
  .refine x1_0 (at_some hal) fun ins hip=>?_
   refine ss_assign (ev_sub (ev_attr (ev_var rfl) (hu.app 2)) (ev_var rfl) (code_at hip)) (a_tup rfl (as_cons (a_var (as_cons (a_var (as_nil ?_))))))
   refine ss_assign (ev_tup (es_cons (ev_bin (ev_var rfl) ev_lit rfl) (es_cons (ev_bin (ev_var rfl) ev_lit rfl) (es_cons (ev_bin (ev_var rfl) ev_lit rfl) es_nil)))) (a_tup rfl (as_cons (a_var (as_cons (a_var (as_cons (a_var (as_nil ?_))))))))
   by_cases hm:2*u.code.length+4<idl+1
   .exact ss_ite_t (tooMany hu g.few hidl rfl rfl (decide_eq_true hm)) (ss_ret (ev_tup (es_cons (ev_cat (u:=found.map encE) (w:=[encE .forever]) (ev_var rfl) (ev_listF (es_cons ev_lit es_nil)) (lst_ref (loc.trans hL0)) rfl (len16 hfl)) (es_cons ev_lit es_nil))) (ev_end wf q (hr.trans (go_many (of_decide_eq_true hz) hip hm))))
   .refine ss_skip (tooMany hu g.few hidl rfl rfl (decide_eq_false hm)) ?_
    cases ins with
    |ret=>
     exact ss_ite_t (k_t 65 rfl) (ss_ret (ev_tup (es_cons (ev_cat (u:=found.map encE) (w:=[encE (.fin stk)]) (ev_var rfl) (ev_listF (es_cons (ev_fin rfl (loc.trans hLi) hsl (tle a)) es_nil)) (lst_ref (loc.trans hL0)) rfl (len16 hfl)) (es_cons (ev_var rfl) es_nil))) (ev_end wf q (hr.trans (go_ret (of_decide_eq_true hz) hm hip))))
    |pop=>
     refine x0_2 (hty a _ hip) fun o1 o2 o3=>?_
     refine x1_1 (pop_at hLi (hsl.trans o1)) fun b hb e=>?_
     refine ss_skip (k_f 65 rfl rfl) (ss_ite_f (t_or (or_go (k_f 11 rfl rfl) (all_last (k_f 21 rfl rfl)))) (ss_ite_t (k_t 6 rfl) (ss_expr (m_popL (i:=i) (ev_var rfl) hb rfl) (ss_out (ss_out (ss_nil ?_))))))
     exact EvJ.stepI hfl hm hn (set_no hi0 hL0) (set_at hLi) hi0 (hr.trans (go_pop (of_decide_eq_true hz) hm hip)) (e▸o3.symm) o2
    |jmp t=>
     refine x0_1 (hty a _ hip) fun o1 o2=>?_
     refine ss_skip (k_f 65 rfl rfl) (ss_ite_f (t_or (or_go (k_f 11 rfl rfl) (all_last (k_f 21 rfl rfl)))) (ss_ite_f (k_f 6 rfl rfl) (ss_var (ev_or (or_stop (k_t 58 rfl))) ?_)))
     refine ss_skip (t_or (or_go (t_chain (ev_var rfl) (c_last (ev_tup (es_cons ev_lit (es_cons ev_lit es_nil))) rfl)) (all_last (t_and (and_stop (t_chain (ev_var rfl) (c_last ev_lit rfl))))))) (ss_var (ev_pick (y:=true) rfl rfl rfl) (ss_out (ss_out (ss_nil ?_))))
     exact EvJ.stepI hfl hm hn hL0 hLi hi0 (hr.trans (go_jmp (of_decide_eq_true hz) hm hip)) (hsl.trans o2.symm) o1
    |tst k b t=>
     refine x0_4 (hty a _ hip) fun o1 o2 o3 o4 o5=>?_
     refine x1_1 (pop_at hLi (hsl.trans o1)) fun z hb e=>?_
     have hb':L[i]? =some (.list ([]++[.bool z])):=by subst e;exact hLi
     refine ss_skip (k_no 65 rfl (tst_ne 65 (.inr (by decide)))) (ss_ite_f (t_or (or_go (k_no 11 rfl (tst_ne 11 (.inl (by decide)))) (all_last (k_no 21 rfl (tst_ne 21 (.inl (by decide))))))) (ss_ite_f (k_no 6 rfl (tst_ne 6 (.inl (by decide)))) (ss_var (ev_so rfl rfl (loc.trans hb')) (ss_popIf (ev_off rfl rfl) rfl hb' (ss_var (ev_pick rfl rfl rfl) (ss_out (ss_out (ss_nil ?_))))))))
     refine EvJ.stepI (stk':=cond (!k|| !(z==b)) [] [z]) hfl hm hn ?_ ?_ hi0 (hr.trans (go_tst (of_decide_eq_true hz) hm hip e)) (tst_len o3 o5) ?_
     .cases !k|| !(z==b)with
      |true=>exact set_no hi0 hL0
      |false=>exact hL0
     .cases !k|| !(z==b)with
      |true=>exact set_at hb'
      |false=>exact hb'
     .cases z==b with
      |true=>exact o4
      |false=>exact o2
    |ask x=>
     refine x0_3 (hty a _ hip) fun _ o1 o2 o3=>?_
     refine ss_skip (k_f 65 rfl rfl) (ss_ite_t (t_or (or_stop (k_t 11 rfl))) (ss_var (ev_word hwl rfl rfl) (ss_expr (m_appendL (i:=0) (ev_var rfl) hL0 (v:=encE (.ev (.ask x))) (ev_tup (es_cons (ev_var rfl) (es_cons (ev_var rfl) es_nil))) hL0 (len15 (of_decide_eq_true hz)) rfl) (ss_assign (ev_tup (es_cons (ev_bin (ev_var rfl) ev_lit rfl) (es_cons ev_lit es_nil))) (a_tup rfl (as_cons (a_var (as_cons (a_var (as_nil ?_))))))))))
     refine ss_ite_t (k_t 11 rfl) (ss_expr (m_appendL (i:=i) (ev_var rfl) (set_no hi0.symm hLi) (ev_half rfl) (set_no hi0.symm hLi) (by rw[List.length_map,hsl];exact o141 o1) rfl) (ss_out (ss_out (ss_nil ?_))))
     refine EvJ.stepE g.few hfl (of_decide_eq_true hz) hm hn (set_no hi0 (set_at hL0)) ?_ hi0 (hr.trans (go_ask (of_decide_eq_true hz) hm hip)) ?_ o2
     .rw[set_at (set_no hi0.symm hLi),List.map_append];rfl
     .rw[List.length_append,hsl,o1,o3];rfl
    |decl x=>
     refine x0_3 (hty a _ hip) fun _ o1 o2 o3=>?_
     refine ss_skip (k_f 65 rfl rfl) (ss_ite_t (t_or (or_go (k_f 11 rfl rfl) (all_last (k_t 21 rfl)))) (ss_var (ev_word hwl rfl rfl) (ss_expr (m_appendL (i:=0) (ev_var rfl) hL0 (v:=encE (.ev (.decl x))) (ev_tup (es_cons (ev_var rfl) (es_cons (ev_var rfl) es_nil))) hL0 (len15 (of_decide_eq_true hz)) rfl) (ss_assign (ev_tup (es_cons (ev_bin (ev_var rfl) ev_lit rfl) (es_cons ev_lit es_nil))) (a_tup rfl (as_cons (a_var (as_cons (a_var (as_nil (ss_ite_f (k_f 11 rfl rfl) ?_)))))))))))
     by_cases h3:words.getD (asked%words.length) 0%3=0
     .refine ss_ite_t (ev_third rfl (decide_eq_true h3)) (ss_var (ev_cov hu (Nat.le_trans g.hfew (by decide)) rfl rfl) (ss_ite (t_chain (ev_var rfl) (c_last (ev_listF es_nil) eq_nil_hs)) (fun hc=>?_) (fun hc=>ss_out ?_)))
      .exact ss_ret (ev_tup (es_cons (ev_cat (u:=(found++[E.ev (.decl x)]).map encE) (w:=[encE .thrown]) (ev_var rfl) (ev_listF (es_cons ev_lit es_nil)) ((lst_ref (loc.trans (set_at hL0))).trans (congrArg some (List.map_append (l₁:=found) (l₂:=[E.ev (.decl x)])).symm)) rfl (len16 (len_snoc (of_decide_eq_true hz)))) (es_cons (ev_var rfl) es_nil))) (ev_end wf q (hr.trans (go_thrown (of_decide_eq_true hz) hm hip h3 (first_no hc))))
      .refine x1_2 (first_of hc) fun h f1 f2 f3=>?_
       refine ss_assign (ev_tup (es_cons (ev_sub (ev_sub (ev_var rfl) ev_lit (sub_hd f2)) ev_lit rfl) (es_cons (ev_catL (ev_upto_l (k:=0) (ev_var rfl) (fun l e=>nomatch e) (ev_sub (ev_sub (ev_var rfl) ev_lit (sub_hd f2)) ev_lit rfl) (by constructor<;>decide) (lst_ref (loc.trans (set_no hi0.symm hLi)))) (ev_listF (es_cons ev_lit es_nil)) rfl rfl (Nat.le_of_ble_eq_true rfl)) es_nil))) (a_tup rfl (as_cons (a_var (as_cons (a_var (as_nil (ss_out (ss_out (ss_out (ss_nil ?_))))))))))
       exact EvJ.stepE (stk':=[true]) g.few hfl (of_decide_eq_true hz) hm hn ((List.getElem?_append_left (List.getElem?_eq_some_iff.mp (set_at hL0)).1).trans (set_at hL0)) at_app (Nat.ne_of_gt (List.getElem?_eq_some_iff.mp (set_at hL0)).1) (hr.trans (go_hand (of_decide_eq_true hz) hm hip h3 f1)) (hth h f3).symm (g.hs h f3).2.2
     .refine ss_skip (ev_third rfl (decide_eq_false h3)) (ss_out (ss_out (ss_nil ?_)))
      exact EvJ.stepE g.few hfl (of_decide_eq_true hz) hm hn (set_at hL0) (set_no hi0.symm hLi) hi0 (hr.trans (go_decl (of_decide_eq_true hz) hm hip h3)) (hsl.trans (o1.trans o3.symm)) o2
  .refine ss_ret (ev_tup (es_cons (ev_var rfl) (es_cons (ev_var rfl) es_nil))) (ret_none rfl wf (.tup (.cons (frz_list (i:=0) rfl hL0 (by simp) (frzs_clean (ev_clean found))) (.cons (.int _) .nil))) ?_)
   rw[hr,go_end (Nat.not_lt.mp (of_decide_eq_false hz))]at q;exact q)
end
end Mine.Internal
set_option maxRecDepth 4000
namespace Mine.Internal
open PySem PySem.W PyProof.Rows PySem.Calls
structure Box where
 q:List Int
 s:Int
noncomputable def take(b:Box)(m:Nat):Nat×Box:=match b.q with
 |x::r=>((x.fmod m).toNat,⟨r,b.s⟩)
 |[]=>((((b.s*4099+12301).fmod 1000003).fdiv 16 |>.fmod m).toNat,⟨[],(b.s*4099+12301).fmod 1000003⟩)
inductive Info where
 |no|num (n:Nat)|blk (n:Nat)|lnd (n:Nat)
noncomputable abbrev J:=Nat×Info
noncomputable def infoV:Info→PV
 | .no=>.none
 | .num n=>.int n
 | .blk n=>.tup [strV "block",.int n]
 | .lnd n=>.tup [strV "landing",.int n]
noncomputable def encJ(j:J):PV:=.tup [.int j.1,infoV j.2]
noncomputable def landing(b:Box)(many lands:Nat):List J×Box:=
 let f:=take b 5
 let g:=take f.2 many
 if f.1=0 then([(6,.no),(58,.blk g.1)],g.2)
 else if f.1<3 then([(58+f.1,.blk (take g.2 many).1),(58,.blk g.1)],(take g.2 many).2)
 else([(58+f.1,.lnd (take g.2 lands).1),(58,.blk g.1)],(take g.2 lands).2)
noncomputable def blockA(f:Nat×Box)(at_ many lands:Nat):List J×Box:=
 if f.1<2 then([(21,.num (take f.2 3).1)],(take f.2 3).2)
 else if f.1<4 then
  let x:=take f.2 3
  let y:=take x.2 many
  let z:=take y.2 3
  ([(11,.num x.1),(59+f.1%2,.blk y.1),(21,.num z.1)],z.2)
 else if f.1<6 then
  let x:=take f.2 3
  let y:=take x.2 lands
  ([(11,.num x.1),(61+f.1%2,.lnd y.1)],y.2)
 else if f.1=6∧0<at_ then([(11,.num 0),(65,.no)],f.2)
 else([],f.2)
noncomputable def block(b:Box)(at_ many lands:Nat):List J×Box:=
 let f:=take b 8
 let r:=blockA f at_ many lands
 if f.1=7∨at_+1=many then(r.1++[(58,.blk (take r.2 many).1)],(take r.2 many).2)else r
structure Gen where
 code:List J
 starts:List Nat
 box:Box
noncomputable def blocks(b:Box)(many lands:Nat):Nat→Gen
 |0=>⟨[],[],b⟩
 |k+1=>let p:=blocks b many lands k
  let r:=block p.box k many lands
  ⟨p.code++r.1,p.starts++[p.code.length],r.2⟩
noncomputable def lands(c:List J)(b:Box)(many lnds:Nat):Nat→Gen
 |0=>⟨c,[],b⟩
 |k+1=>let p:=lands c b many lnds k
  let r:=landing p.box many lnds
  ⟨p.code++r.1,p.starts++[p.code.length],r.2⟩
noncomputable def place(bs ls:List Nat):Info→Nat
 | .no=>0
 | .num n=>n
 | .blk n=>bs.getD n 0
 | .lnd n=>ls.getD n 0
noncomputable def toI(bs ls:List Nat)(j:J):I:=match j.1 with
 |6=>.pop
 |11=>.ask (place bs ls j.2)
 |21=>.decl (place bs ls j.2)
 |58=>.jmp (place bs ls j.2)
 |59=>.tst false false (place bs ls j.2)
 |60=>.tst false true (place bs ls j.2)
 |61=>.tst true false (place bs ls j.2)
 |62=>.tst true true (place bs ls j.2)
 |_=>.ret
structure HGen where
 s:Nat
 e:Nat
 hs:List H
 box:Box
noncomputable def hgen(ls:List Nat)(lnds last:Nat)(b:Box):Nat→HGen
 |0=>⟨0,last,[],b⟩
 |k+1=>let p:=hgen ls lnds last b k
  let x:=take p.box (p.e-p.s)
  let y:=take x.2 (p.e-(p.s+x.1))
  let z:=take y.2 lnds
  ⟨p.s+x.1,p.s+x.1+1+y.1,⟨p.s+x.1,p.s+x.1+1+y.1,ls.getD z.1 0⟩::p.hs,z.2⟩
noncomputable def genU(b:Box):U×Box:=
 let a:=take b 6
 let c:=take a.2 3
 let many:=4+a.1
 let lnds:=2+c.1
 let p:=blocks c.2 many lnds many
 let r:=lands p.code p.box many lnds lnds
 let t:=take r.box 3
 let h:=hgen r.starts lnds p.code.length t.2 t.1
 (⟨r.code.map (toI p.starts r.starts),h.hs,(List.range r.code.length).map (5+ ·)⟩,h.box)
noncomputable def boxS(B:Sto)(i j:Nat)(b:Box):Sto:=(B.set j (.list (b.q.map .int))).set i (.list [.ref j,.int b.s])
noncomputable def BoxOk(b:Box):Prop:=0≤b.s∧b.s<1000003
theorem take_ok{b:Box}(h:BoxOk b)(m:Nat):BoxOk (take b m).2:=by
 unfold take
 split
 .exact h
 .exact⟨Int.fmod_nonneg_of_pos _ (by decide),Int.fmod_lt_of_pos _ (by decide)⟩
theorem take_lt{b:Box}{m:Nat}(hm:0<m):(take b m).1<m:=by
 have h:∀x:Int,(x.fmod m).toNat<m:=fun x=>by
  have h1:=Int.fmod_nonneg_of_pos x (b:=(m:Int)) (by exact Int.ofNat_lt.mpr hm)
  have h2:=Int.fmod_lt_of_pos x (b:=(m:Int)) (by exact Int.ofNat_lt.mpr hm)
  exact o146 h1 h2
 unfold take
 split
 .exact h _
 .exact h _
section
variable {B L:Sto} {i j:Nat} {b b':Box}
theorem boxS_len:(boxS B i j b).length=B.length:=by unfold boxS;simp
theorem boxS_i(hi:i<B.length):(boxS B i j b)[i]? =some (.list [.ref j,.int b.s]):=by
 exact List.getElem?_set_self (by simpa using hi)
theorem boxS_j(hj:j<B.length)(hn:i≠j):(boxS B i j b)[j]? =some (.list (b.q.map .int)):=by
 unfold boxS;rw[List.getElem?_set_ne hn];exact List.getElem?_set_self hj
theorem boxS_other{k:Nat}(h1:i≠k)(h2:j≠k):(boxS B i j b)[k]? =B[k]? :=by
 unfold boxS;rw[List.getElem?_set_ne h1,List.getElem?_set_ne h2]
theorem boxS_seti{s:Int}:(boxS B i j b).set i (.list [.ref j,.int s])=boxS B i j ⟨b.q,s⟩:=by
 unfold boxS;rw[List.set_set]
theorem boxS_setj{q:List Int}(hn:i≠j):(boxS B i j b).set j (.list (q.map .int))=boxS B i j ⟨q,b.s⟩:=by
 unfold boxS;rw[List.set_comm _ _ hn,List.set_set]
theorem boxS_app(hi:i<B.length)(hj:j<B.length):boxS (B++L) i j b=boxS B i j b++L:=by
 unfold boxS
 rw[List.set_append_left (h:=hj),List.set_append_left (h:=by simpa using hi)]
theorem boxS_wf(hj:j<B.length)(wf:WfB B.length B):WfB B.length (boxS B i j b):=fun k o e=>by
 by_cases h1:i=k
 .subst h1
  have hlt:=(List.getElem?_eq_some_iff.mp e).1
  rw[boxS_len]at hlt
  rw[boxS_i hlt]at e
  obtain rfl:=Option.some.inj e
  exact⟨hj,trivial,trivial⟩
 .by_cases h2:j=k
  .subst h2
   rw[boxS_j hj h1]at e
   obtain rfl:=Option.some.inj e
   exact belows_map (f:=PV.int) (fun _=>trivial) b.q
  .rw[boxS_other h1 h2]at e
   exact wf k o e
theorem boxS_boxS(hn:i≠j):boxS (boxS B i j b) i j b'=boxS B i j b':=by
 unfold boxS
 have e:((B.set j (SObj.list (b.q.map .int))).set i (.list [.ref j,.int b.s])).set j (.list (b'.q.map .int))=((B.set j (SObj.list (b.q.map .int))).set j (.list (b'.q.map .int))).set i (.list [.ref j,.int b.s]):=List.set_comm _ _ hn
 rw[e,List.set_set,List.set_set]
end
end Mine.Internal
set_option maxRecDepth 4000
namespace Mine.Internal
open PySem PySem.W PyProof.Rows PySem.Calls
theorem below_encJ(x:J):Below 0 (encJ x):=by
 obtain⟨n,i⟩:=x
 cases i<;>exact⟨trivial,(by first|trivial|exact⟨trivial,trivial,trivial⟩),trivial⟩
noncomputable def codeS(B:Sto)(i j c:Nat)(b:Box)(l:List J):Sto:=boxS (B.set c (.list (l.map encJ))) i j b
structure Apt(B:Sto)(i j c:Nat):Prop where
 li:i<B.length
 lj:j<B.length
 lc:c<B.length
 ij:i≠j
 ic:i≠c
 jc:j≠c
section
variable {B:Sto} {i j c:Nat} {b b':Box} {l l':List J}
theorem codeS_c(h:Apt B i j c):(codeS B i j c b l)[c]? =some (.list (l.map encJ)):=by
 unfold codeS
 rw[boxS_other h.ic h.jc];exact List.getElem?_set_self h.lc
theorem codeS_set(h:Apt B i j c):(codeS B i j c b l).set c (.list (l'.map encJ))=codeS B i j c b l':=by
 unfold codeS boxS
 rw[List.set_comm _ _ h.ic,List.set_comm _ _ h.jc,List.set_set]
theorem codeS_len:(codeS B i j c b l).length=B.length:=by unfold codeS;rw[boxS_len];simp
theorem codeS_wf(h:Apt B i j c)(wf:WfB B.length B):WfB B.length (codeS B i j c b l):=by
 have e:(B.set c (.list (l.map encJ))).length=B.length:=List.length_set
 have:=boxS_wf (B:=B.set c (.list (l.map encJ))) (i:=i) (b:=b) (by rw[e];exact h.lj) (by
  rw[e]
  intro k o hk
  by_cases hc:c=k
  .subst hc
   rw[List.getElem?_set_self h.lc]at hk
   obtain rfl:=Option.some.inj hk
   exact(belows_map below_encJ l).mono (Nat.zero_le _)
  .rw[List.getElem?_set_ne hc]at hk
   exact wf k o hk)
 rwa [e]at this
end
section
variable {K:Params→Frag} {w:World} {d:Nat}
theorem spec39(hK:KOk K){B:Sto}{i j m:Nat}{b:Box}(hi:i<B.length)(hj:j<B.length)(hn:i≠j)(hb:BoxOk b)(hm:0<m)(hd:1<d):Calls (cxK K w) d 39 [.ref i,.int m] (boxS B i j b) (.int (take b m).1) (boxS B i j (take b m).2):=
 Calls.of hd (Nat.le_refl _) fun d' h1 wf hbl Q q=>use39 hK h1 (by
  rw[boxS_len]at wf ⊢
  have modm:∀x:Int,binV .mod (.int x) (.int m)=some (.int (x.fmod m).toNat):=fun x=>by
   show(if((m:Int) != 0)=true then some (PV.int (x.fmod m))else none)=_
   rw[if_pos (by simp;exact Nat.ne_of_gt hm),Int.toNat_of_nonneg (Int.fmod_nonneg_of_pos x (by exact o297 hm))]
  have e0:EvP (cxK K w) d' (.sub (.var 0) (.lit (.int (0)))) ⟨[some (.ref i),some (.int m)],boxS B i j b⟩ (.ref j):=ev_sub (ev_var rfl) ev_lit (sub_ref (k:=0) (boxS_i hi) rfl)
  have wfa:∀{b':Box},WfB B.length (boxS B i j b'):=fun{b'}=>by
   have:=boxS_wf (B:=boxS B i j b) (i:=i) (b:=b') (by rw[boxS_len];exact hj) (by rw[boxS_len];exact wf)
   rw[boxS_boxS hn,boxS_len]at this
   exact this
  obtain⟨q0,s⟩:=b
  cases q0 with
  |cons x r=>
   refine ss_ite_t (t_chain (ev_len e0 (len_ref (boxS_j hj hn))) (c_last ev_lit (gt_t (by simp)))) (ss_ret (ev_bin (m_pop0 (v:=.int x) (w:=r.map .int) e0 (boxS_j hj hn) ev_lit) (ev_var rfl) (modm x)) ?_)
   rw[boxS_setj hn]
   exact ret_plain boxS_len wfa below_int q
  |nil=>
   refine ss_skip (t_chain (ev_len e0 (len_ref (boxS_j hj hn))) (c_last ev_lit rfl)) ?_
   have e1:∀{s':Int},EvP (cxK K w) d' (.sub (.var 0) (.lit (.int (1)))) ⟨[some (.ref i),some (.int m)],boxS B i j ⟨[],s'⟩⟩ (.int s'):=fun{s'}=>ev_sub (ev_var rfl) ev_lit (sub_ref (k:=1) (boxS_i hi) rfl)
   have hmul:binV .mul (.int s) (.int 4099)=some (.int (s*4099)):=mul_v (have h1:0≤s:=hb.1;have h2:s<1000003:=hb.2;by exact o298 h1 h2) (by decide)
   refine ss_assign (ev_bin (v:=.int ((s*4099+12301).fmod 1000003)) (ev_bin (v:=.int (s*4099+12301)) (ev_bin e1 ev_lit hmul) ev_lit rfl) ev_lit rfl) (a_sub (o':=.list [.ref j,.int ((s*4099+12301).fmod 1000003)]) (ev_var rfl) ev_lit (boxS_i hi) rfl ?_)
   rw[boxS_seti]
   refine ss_ret (ev_bin (ev_bin (v:=.int (((s*4099+12301).fmod 1000003).fdiv 16)) e1 ev_lit rfl) (ev_var rfl) (modm _)) ?_
   exact ret_plain boxS_len wfa below_int q)
variable {B:Sto} {i j c:Nat}
theorem take_ev(hK:KOk K)(h:Apt B i j c){d':Nat}{rho:List (Option PV)}{b:Box}{l:List J}{m:Nat}{e:PE}(h0:rho[0]? =some (some (.ref i)))(hb:BoxOk b)(hm:0<m)(he:Ev (cxK K w) d' e ⟨rho,codeS B i j c b l⟩ (.int m) ⟨rho,codeS B i j c b l⟩)(hd:1<d'):
  Ev (cxK K w) d' (.call 39 [.var 0,e]) ⟨rho,codeS B i j c b l⟩ (.int (take b m).1) ⟨rho,codeS B i j c (take b m).2 l⟩:=
 ev_call (es_cons (ev_var h0) (es_cons he es_nil)) (spec39 hK (by simpa using h.li) (by simpa using h.lj) h.ij hb hm hd)
theorem app_ev(h:Apt B i j c){d':Nat}{rho rho':List (Option PV)}{b b':Box}{l:List J}{x:J}{e:PE}{k:Nat}(hk:rho[k]? =some (some (.ref c)))(he:Ev (cxK K w) d' e ⟨rho,codeS B i j c b l⟩ (encJ x) ⟨rho',codeS B i j c b' l⟩)(hl:l.length≤1000):
  Ev (cxK K w) d' (.meth .append (.var k) [e]) ⟨rho,codeS B i j c b l⟩ .none ⟨rho',codeS B i j c b' (l++[x])⟩:=by
 have:=m_append (ev_var hk) (codeS_c h) he (codeS_c h) (by rw[List.length_map];show _<16777216;exact o147 hl)
 rw[show l.map encJ++[encJ x]=(l++[x]).map encJ by rw[List.map_append];rfl,codeS_set h]at this
 exact this
theorem ext_ev(h:Apt B i j c){d':Nat}{rho rho':List (Option PV)}{b b':Box}{l x:List J}{e:PE}{k:Nat}(hk:rho[k]? =some (some (.ref c)))(he:Ev (cxK K w) d' e ⟨rho,codeS B i j c b l⟩ (.list (x.map encJ)) ⟨rho',codeS B i j c b' l⟩)(hl:l.length≤1000)(hx:x.length≤10):
  Ev (cxK K w) d' (.meth .extend (.var k) [e]) ⟨rho,codeS B i j c b l⟩ .none ⟨rho',codeS B i j c b' (l++x)⟩:=by
 have:=m_extend (ev_var hk) (codeS_c h) he (codeS_c h) rfl (fun j e=>by exact nomatch e) (by rw[List.length_map,List.length_map];show _≤16777216;exact o148 hl hx)
 rw[←List.map_append,codeS_set h]at this
 exact this
theorem codeS_codeS(h:Apt B i j c){b b':Box}{l l':List J}:codeS (codeS B i j c b l) i j c b' l'=codeS B i j c b' l':=by
 rw[show codeS (codeS B i j c b l) i j c b' l'=boxS ((codeS B i j c b l).set c (.list (l'.map encJ))) i j b' from rfl,codeS_set h]
 exact boxS_boxS h.ij
theorem codeS_wf'(h:Apt B i j c){b b':Box}{l l':List J}(wf:WfB B.length (codeS B i j c b l)):WfB B.length (codeS B i j c b' l'):=by
 have h':Apt (codeS B i j c b l) i j c:=⟨by rw[codeS_len];exact h.li,by rw[codeS_len];exact h.lj,by rw[codeS_len];exact h.lc,h.ij,h.ic,h.jc⟩
 have:=codeS_wf (b:=b') (l:=l') h' (by rw[codeS_len];exact wf)
 rwa [codeS_codeS h,codeS_len]at this
theorem spec40(hK:KOk K)(h:Apt B i j c){b:Box}{l:List J}{many lnds:Nat}(hb:BoxOk b)(hm:0<many)(hl:0<lnds)(hln:l.length≤500)(hd:2<d):
  Calls (cxK K w) d 40 [.ref i,.int many,.int lnds,.ref c] (codeS B i j c b l) .none (codeS B i j c (landing b many lnds).2 (l++(landing b many lnds).1)):=
 Calls.of hd (by decide) fun d' h1 wf hbl Q q=>use40 hK (by exact up h1 rfl) (by
  rw[codeS_len]at wf ⊢
  have b1:=take_ok hb 5
  have b2:=take_ok b1 many
  refine ss_assign (ev_tup (es_cons (take_ev hK h (m:=5) rfl hb (by decide) ev_lit (by exact h1)) (es_cons (ev_tup (es_cons ev_lit (es_cons (take_ev hK h rfl b1 hm (ev_var rfl) (by exact o277 h1)) es_nil))) es_nil))) (a_tup rfl (as_cons (a_var (as_cons (a_var (as_nil ?_))))))
  have hf:(take b 5).1<5:=take_lt (by decide)
  have last:∀{b':Box}{l':List J}{r:List PV},(landing b many lnds)=(l'++[(58,.blk (take (take b 5).2 many).1)],b')→l'.length≤10→wpSs (cxK K w) d' [.expr (.meth .append (.var 3) [.tup [.lit (.int 58),.var 5]])] (retQ B.length Q)
    ⟨[some (.ref i),some (.int many),some (.int lnds),some (.ref c),some (.int (take b 5).1),some (infoV (.blk (take (take b 5).2 many).1))],codeS B i j c b' (l++l')⟩:=fun{b' l' r} e hl'=>by
   rw[e]at q
   refine ss_expr (app_ev (x:=(58,.blk (take (take b 5).2 many).1)) h rfl (ev_tup (es_cons ev_lit (es_cons (ev_var rfl) es_nil))) (by rw[List.length_append];exact o149 hln hl')) (ss_nil (ret_plain codeS_len (codeS_wf' h wf) below_none ?_))
   rw[List.append_assoc]
   exact q
  by_cases h0:(take b 5).1=0
  .refine ss_ite_t (t_chain (ev_var rfl) (c_last ev_lit (eq_t (by exact o150 h0)))) (ss_expr (app_ev (x:=(6,.no)) h rfl (ev_tup (es_cons ev_lit (es_cons ev_lit es_nil))) (by exact o299 hln)) (ss_out (last (r:=[]) ?_ (by decide))))
   unfold landing;dsimp only;rw[if_pos h0];rfl
  .refine ss_ite_f (t_chain (ev_var rfl) (c_last ev_lit (eq_f (by exact o151 h0)))) ?_
   by_cases h3:(take b 5).1<3
   .refine ss_ite_t (t_chain (ev_var rfl) (c_last ev_lit (lt_t (by exact Int.ofNat_lt.mpr h3)))) (ss_expr (app_ev (x:=(58+(take b 5).1,.blk (take (take (take b 5).2 many).2 many).1)) h rfl (ev_tup (es_cons (ev_bin ev_lit (ev_var rfl) rfl) (es_cons (ev_tup (es_cons ev_lit (es_cons (take_ev hK h rfl b2 hm (ev_var rfl) (by exact o277 h1)) es_nil))) es_nil))) (by exact o299 hln)) (ss_out (ss_out (last (r:=[]) ?_ (Nat.succ_pos _)))))
    unfold landing;dsimp only;rw[if_neg h0,if_pos h3];rfl
   .refine ss_ite_f (t_chain (ev_var rfl) (c_last ev_lit (lt_f (by exact o152 hf h3)))) (ss_expr (app_ev (x:=(58+(take b 5).1,.lnd (take (take (take b 5).2 many).2 lnds).1)) h rfl (ev_tup (es_cons (ev_bin ev_lit (ev_var rfl) rfl) (es_cons (ev_tup (es_cons ev_lit (es_cons (take_ev hK h rfl b2 hl (ev_var rfl) (by exact o277 h1)) es_nil))) es_nil))) (by exact o299 hln)) (ss_out (ss_out (last (r:=[]) ?_ (Nat.succ_pos _)))))
    unfold landing;dsimp only;rw[if_neg h0,if_neg h3];rfl)
end
end Mine.Internal
set_option maxRecDepth 4000
namespace Mine.Internal
open PySem PySem.W PyProof.Rows PySem.Calls
section
variable {K:Params→Frag} {w:World} {d:Nat} {B:Sto} {i j c:Nat}
theorem blockA_len(f:Nat×Box)(at_ many lnds:Nat):(blockA f at_ many lnds).1.length≤3:=by
 unfold blockA
 split
 .simp
 .split
  .simp
  .split
   .simp
   .split<;>simp
theorem blockA_ok{f:Nat×Box}(h:BoxOk f.2)(at_ many lnds:Nat):BoxOk (blockA f at_ many lnds).2:=by
 unfold blockA
 split
 .exact take_ok h _
 .split
  .exact take_ok (take_ok (take_ok h _) _) _
  .split
   .exact take_ok (take_ok h _) _
   .split<;>exact h
theorem spec41(hK:KOk K)(h:Apt B i j c){b:Box}{l:List J}{at_ many lnds:Nat}(hb:BoxOk b)(hm:0<many)(hl:0<lnds)(hln:l.length≤500)(hd:2<d):
  Calls (cxK K w) d 41 [.ref i,.int at_,.int many,.int lnds,.ref c] (codeS B i j c b l) .none (codeS B i j c (block b at_ many lnds).2 (l++(block b at_ many lnds).1)):=
 Calls.of hd (by decide) fun d' h1 wf hbl Q q=>use41 hK (by exact up h1 rfl) (by
  rw[codeS_len]at wf ⊢
  have b1:=take_ok hb 8
  have hf:(take b 8).1<8:=take_lt (by decide)
  refine ss_var (take_ev hK h (m:=8) rfl hb (by decide) ev_lit (by exact h1)) ?_
  have tail:wpSs (cxK K w) d' [.ite (.or [(.chain (.var 5) [(.eq,(.lit (.int (7))))]),(.chain (.bin .add (.var 1) (.lit (.int (1)))) [(.eq,(.var 2))])]) [.expr (.meth .append (.var 4) [(.tup [(.lit (.int (58))),(.tup [(.lit (.str "block")),(.call 39 [(.var 0),(.var 2)])])])])] []] (retQ B.length Q)
    ⟨[some (.ref i),some (.int at_),some (.int many),some (.int lnds),some (.ref c),some (.int (take b 8).1)],codeS B i j c (blockA (take b 8) at_ many lnds).2 (l++(blockA (take b 8) at_ many lnds).1)⟩:=by
   have hla:=blockA_len (take b 8) at_ many lnds
   have hba:=blockA_ok b1 at_ many lnds
   have t1:∀{S:Sto},EvTP (cxK K w) d' (.chain (.var 5) [(.eq,(.lit (.int (7))))]) ⟨[some (.ref i),some (.int at_),some (.int many),some (.int lnds),some (.ref c),some (.int (take b 8).1)],S⟩ (decide ((take b 8).1=7)):=fun{S}=>by
    rw[←show(((take b 8).1:Int)==(7:Int))=decide ((take b 8).1=7)by rw[Bool.eq_iff_iff,beq_iff_eq,decide_eq_true_eq];exact o153]
    exact t_chain (ev_var rfl) (c_last ev_lit rfl)
   have t2:∀{S:Sto},EvTP (cxK K w) d' (.chain (.bin .add (.var 1) (.lit (.int (1)))) [(.eq,(.var 2))]) ⟨[some (.ref i),some (.int at_),some (.int many),some (.int lnds),some (.ref c),some (.int (take b 8).1)],S⟩ (decide (at_+1=many)):=fun{S}=>by
    rw[←show(((at_:Int)+1)==(many:Int))=decide (at_+1=many)by rw[Bool.eq_iff_iff,beq_iff_eq,decide_eq_true_eq];exact o154]
    exact t_chain (ev_bin (ev_var rfl) ev_lit rfl) (c_last (ev_var rfl) rfl)
   by_cases hc:(take b 8).1=7∨at_+1=many
   .have hblk:block b at_ many lnds=((blockA (take b 8) at_ many lnds).1++[(58,.blk (take (blockA (take b 8) at_ many lnds).2 many).1)],(take (blockA (take b 8) at_ many lnds).2 many).2):=by unfold block;dsimp only;rw[if_pos hc]
    have tt:∀{S:Sto},EvTP (cxK K w) d' (.or [(.chain (.var 5) [(.eq,(.lit (.int (7))))]),(.chain (.bin .add (.var 1) (.lit (.int (1)))) [(.eq,(.var 2))])]) ⟨[some (.ref i),some (.int at_),some (.int many),some (.int lnds),some (.ref c),some (.int (take b 8).1)],S⟩ true:=fun{S}=>by
     have t1:=t1 (S:=S)
     have t2:=t2 (S:=S)
     by_cases h7:(take b 8).1=7
     .rw[decide_eq_true h7]at t1;exact t_or (or_stop t1)
     .rw[decide_eq_false h7]at t1;rw[decide_eq_true (hc.resolve_left h7)]at t2;exact t_or (or_go t1 (all_last t2))
    rw[hblk]at q
    refine ss_ite_t tt (ss_expr (app_ev (x:=(58,.blk (take (blockA (take b 8) at_ many lnds).2 many).1)) h rfl (ev_tup (es_cons ev_lit (es_cons (ev_tup (es_cons ev_lit (es_cons (take_ev hK h rfl hba hm (ev_var rfl) (by exact h1)) es_nil))) es_nil))) (by rw[List.length_append];exact o300 hln hla)) (ss_out (ss_nil (ret_plain codeS_len (codeS_wf' h wf) below_none ?_))))
    rw[List.append_assoc];exact q
   .have hblk:block b at_ many lnds=blockA (take b 8) at_ many lnds:=by unfold block;dsimp only;rw[if_neg hc]
    rw[hblk]at q
    rw[not_or]at hc
    have t1:=t1 (S:=codeS B i j c (blockA (take b 8) at_ many lnds).2 (l++(blockA (take b 8) at_ many lnds).1))
    have t2:=t2 (S:=codeS B i j c (blockA (take b 8) at_ many lnds).2 (l++(blockA (take b 8) at_ many lnds).1))
    rw[decide_eq_false hc.1]at t1
    rw[decide_eq_false hc.2]at t2
    exact ss_skip (t_or (or_go t1 (all_last t2))) (ss_nil (ret_plain codeS_len (codeS_wf' h wf) below_none q))
  by_cases h2:(take b 8).1<2
  .refine ss_ite_t (t_chain (ev_var rfl) (c_last ev_lit (lt_t (by exact Int.ofNat_lt.mpr h2)))) (ss_expr (app_ev (x:=(21,.num (take (take b 8).2 3).1)) h rfl (ev_tup (es_cons ev_lit (es_cons (take_ev hK h (m:=3) rfl b1 (by decide) ev_lit (by exact o277 h1)) es_nil))) (by exact o299 hln)) (ss_out ?_))
   have e:blockA (take b 8) at_ many lnds=([(21,.num (take (take b 8).2 3).1)],(take (take b 8).2 3).2):=by unfold blockA;rw[if_pos h2]
   rw[e]at tail;exact tail
  .refine ss_ite_f (t_chain (ev_var rfl) (c_last ev_lit (lt_f (by exact o155 hf h2)))) ?_
   have hmod:∀{S:Sto}{z:Nat},Ev (cxK K w) d' (.bin .add (.lit (.int z)) (.bin .mod (.var 5) (.lit (.int (2))))) ⟨[some (.ref i),some (.int at_),some (.int many),some (.int lnds),some (.ref c),some (.int (take b 8).1)],S⟩ (.int (z+(take b 8).1%2:Nat)) ⟨[some (.ref i),some (.int at_),some (.int many),some (.int lnds),some (.ref c),some (.int (take b 8).1)],S⟩:=
    ev_bin ev_lit (ev_bin (ev_var rfl) ev_lit (mod_nat (b:=2) (by decide))) rfl
   by_cases h4:(take b 8).1<4
   .have b2:=take_ok b1 3
    have b3:=take_ok b2 many
    refine ss_ite_t (t_chain (ev_var rfl) (c_last ev_lit (lt_t (by exact Int.ofNat_lt.mpr h4)))) (ss_expr (app_ev (x:=(11,.num (take (take b 8).2 3).1)) h rfl (ev_tup (es_cons ev_lit (es_cons (take_ev hK h (m:=3) rfl b1 (by decide) ev_lit (by exact o277 h1)) es_nil))) (by exact o299 hln)) ?_)
    refine ss_expr (ext_ev (x:=[(59+(take b 8).1%2,.blk (take (take (take b 8).2 3).2 many).1),(21,.num (take (take (take (take b 8).2 3).2 many).2 3).1)]) h rfl
     (ev_listF (es_cons (ev_tup (es_cons (hmod (z:=59)) (es_cons (ev_tup (es_cons ev_lit (es_cons (take_ev hK h rfl b2 hm (ev_var rfl) (by exact h1)) es_nil))) es_nil))) (es_cons (ev_tup (es_cons ev_lit (es_cons (take_ev hK h (m:=3) rfl b3 (by decide) ev_lit (by exact o277 h1)) es_nil))) es_nil))) (by simp;exact o301 hln) (Nat.le_add_left _ _)) (ss_out (ss_out ?_))
    have e:blockA (take b 8) at_ many lnds=([(11,.num (take (take b 8).2 3).1),(59+(take b 8).1%2,.blk (take (take (take b 8).2 3).2 many).1),(21,.num (take (take (take (take b 8).2 3).2 many).2 3).1)],(take (take (take (take b 8).2 3).2 many).2 3).2):=by
     unfold blockA;rw[if_neg h2,if_pos h4]
    rw[e]at tail
    rw[List.append_assoc];exact tail
   .refine ss_ite_f (t_chain (ev_var rfl) (c_last ev_lit (lt_f (by exact o156 hf h2 h4)))) ?_
    by_cases h6:(take b 8).1<6
    .have b2:=take_ok b1 3
     refine ss_ite_t (t_chain (ev_var rfl) (c_last ev_lit (lt_t (by exact Int.ofNat_lt.mpr h6)))) ?_
     refine ss_expr (ext_ev (x:=[(11,.num (take (take b 8).2 3).1),(61+(take b 8).1%2,.lnd (take (take (take b 8).2 3).2 lnds).1)]) h rfl
      (ev_listF (es_cons (ev_tup (es_cons ev_lit (es_cons (take_ev hK h (m:=3) rfl b1 (by decide) ev_lit (by exact h1)) es_nil))) (es_cons (ev_tup (es_cons (hmod (z:=61)) (es_cons (ev_tup (es_cons ev_lit (es_cons (take_ev hK h rfl b2 hl (ev_var rfl) (by exact o277 h1)) es_nil))) es_nil))) es_nil))) (by exact o299 hln) (Nat.le_add_left _ _)) (ss_out (ss_out (ss_out ?_)))
     have e:blockA (take b 8) at_ many lnds=([(11,.num (take (take b 8).2 3).1),(61+(take b 8).1%2,.lnd (take (take (take b 8).2 3).2 lnds).1)],(take (take (take b 8).2 3).2 lnds).2):=by
      unfold blockA;rw[if_neg h2,if_neg h4,if_pos h6]
     rw[e]at tail;exact tail
    .refine ss_ite_f (t_chain (ev_var rfl) (c_last ev_lit (lt_f (by exact o157 hf h2 h4 h6)))) ?_
     have t1:∀{S:Sto},EvTP (cxK K w) d' (.chain (.var 5) [(.eq,(.lit (.int (6))))]) ⟨[some (.ref i),some (.int at_),some (.int many),some (.int lnds),some (.ref c),some (.int (take b 8).1)],S⟩ (decide ((take b 8).1=6)):=fun{S}=>by
      rw[←show(((take b 8).1:Int)==(6:Int))=decide ((take b 8).1=6)by rw[Bool.eq_iff_iff,beq_iff_eq,decide_eq_true_eq];exact o158]
      exact t_chain (ev_var rfl) (c_last ev_lit rfl)
     have t2:∀{S:Sto},EvTP (cxK K w) d' (.chain (.var 1) [(.gt,(.lit (.int (0))))]) ⟨[some (.ref i),some (.int at_),some (.int many),some (.int lnds),some (.ref c),some (.int (take b 8).1)],S⟩ (decide (0<at_)):=fun{S}=>by
      rw[←show decide ((0:Int)<(at_:Int))=decide (0<at_)from decide_eq_decide.mpr (by exact o159)]
      exact t_chain (ev_var rfl) (c_last ev_lit rfl)
     have t1:=t1 (S:=codeS B i j c (take b 8).2 l)
     have t2:=t2 (S:=codeS B i j c (take b 8).2 l)
     by_cases hc:(take b 8).1=6∧0<at_
     .rw[decide_eq_true hc.1]at t1
      rw[decide_eq_true hc.2]at t2
      refine ss_ite_t (t_and (and_go t1 (all_last t2))) (ss_expr (ext_ev (x:=[(11,.num 0),(65,.no)]) h rfl (ev_listF (es_cons (ev_tup (es_cons ev_lit (es_cons ev_lit es_nil))) (es_cons (ev_tup (es_cons ev_lit (es_cons ev_lit es_nil))) es_nil))) (by exact Nat.le_trans hln (Nat.le_add_left _ _)) (Nat.le_add_left _ _)) (ss_out (ss_out (ss_out (ss_out ?_)))))
      have e:blockA (take b 8) at_ many lnds=([(11,.num 0),(65,.no)],(take b 8).2):=by
       unfold blockA;rw[if_neg h2,if_neg h4,if_neg h6,if_pos hc]
      rw[e]at tail;exact tail
     .have e:blockA (take b 8) at_ many lnds=([],(take b 8).2):=by
       unfold blockA;rw[if_neg h2,if_neg h4,if_neg h6,if_neg hc]
      rw[e,List.append_nil]at tail
      have tf:EvTP (cxK K w) d' (.and [(.chain (.var 5) [(.eq,(.lit (.int (6))))]),(.chain (.var 1) [(.gt,(.lit (.int (0))))])]) ⟨[some (.ref i),some (.int at_),some (.int many),some (.int lnds),some (.ref c),some (.int (take b 8).1)],codeS B i j c (take b 8).2 l⟩ false:=by
       by_cases h6':(take b 8).1=6
       .rw[decide_eq_true h6']at t1
        rw[decide_eq_false fun h=>hc ⟨h6',h⟩]at t2
        exact t_and (and_go t1 (all_last t2))
       .rw[decide_eq_false h6']at t1
        exact t_and (and_stop t1)
      exact ss_skip tf (ss_out (ss_out (ss_out tail))))
end
end Mine.Internal
set_option maxRecDepth 4000
namespace Mine.Internal
open PySem PySem.W PyProof.Rows PySem.Calls
noncomputable def JOk(many lnds:Nat)(x:J):Prop:=match x.2 with
 | .no=>x.1=6∨x.1=65
 | .num n=>(x.1=11∨x.1=21)∧n<3
 | .blk n=>(x.1=58∨x.1=59∨x.1=60)∧n<many
 | .lnd n=>(x.1=61∨x.1=62)∧n<lnds
theorem landing_ok{b:Box}{many lnds:Nat}(hm:0<many)(hl:0<lnds):(landing b many lnds).1.length=2∧∀x∈(landing b many lnds).1,JOk many lnds x:=by
 have hf:(take b 5).1<5:=take_lt (by decide)
 have g:(take (take b 5).2 many).1<many:=take_lt hm
 have g1:(take (take (take b 5).2 many).2 many).1<many:=take_lt hm
 have g2:(take (take (take b 5).2 many).2 lnds).1<lnds:=take_lt hl
 unfold landing
 dsimp only
 split
 .refine⟨rfl,fun x hx=>?_⟩
  simp only[List.mem_cons,List.not_mem_nil,or_false]at hx
  rcases hx with rfl|rfl
  .exact .inl rfl
  .exact⟨.inl rfl,g⟩
 .split
  .refine⟨rfl,fun x hx=>?_⟩
   simp only[List.mem_cons,List.not_mem_nil,or_false]at hx
   rcases hx with rfl|rfl
   .exact⟨by dsimp only;exact o160 hf (by assumption),g1⟩
   .exact⟨.inl rfl,g⟩
  .refine⟨rfl,fun x hx=>?_⟩
   simp only[List.mem_cons,List.not_mem_nil,or_false]at hx
   rcases hx with rfl|rfl
   .exact⟨by dsimp only;exact o161 hf (by assumption),g2⟩
   .exact⟨.inl rfl,g⟩
theorem blockA_jok{f:Nat×Box}{at_ many lnds:Nat}(hm:0<many)(hl:0<lnds):∀x∈(blockA f at_ many lnds).1,JOk many lnds x:=by
 intro x hx
 have t3:∀{b:Box},(take b 3).1<3:=fun{b}=>take_lt (by decide)
 unfold blockA at hx
 split at hx
 .simp only[List.mem_singleton]at hx;subst hx;exact⟨.inr rfl,t3⟩
 .split at hx
  .simp only[List.mem_cons,List.not_mem_nil,or_false]at hx
   rcases hx with rfl|rfl|rfl
   .exact⟨.inl rfl,t3⟩
   .exact⟨by dsimp only;exact o162,take_lt hm⟩
   .exact⟨.inr rfl,t3⟩
  .split at hx
   .simp only[List.mem_cons,List.not_mem_nil,or_false]at hx
    rcases hx with rfl|rfl
    .exact⟨.inl rfl,t3⟩
    .exact⟨by dsimp only;exact o163,take_lt hl⟩
   .split at hx
    .simp only[List.mem_cons,List.not_mem_nil,or_false]at hx
     rcases hx with rfl|rfl
     .exact⟨.inl rfl,by decide⟩
     .exact .inr rfl
    .exact nM hx
theorem block_ok{b:Box}{at_ many lnds:Nat}(hm:0<many)(hl:0<lnds):(block b at_ many lnds).1.length≤4∧∀x∈(block b at_ many lnds).1,JOk many lnds x:=by
 have h1:=blockA_len (take b 8) at_ many lnds
 have h2:=blockA_jok (f:=take b 8) (at_:=at_) hm hl
 unfold block
 dsimp only
 split
 .refine⟨by simp;exact h1,fun x hx=>?_⟩
  rcases List.mem_append.mp hx with hx|hx
  .exact h2 x hx
  .rw[List.mem_singleton]at hx;subst hx;exact⟨.inl rfl,take_lt hm⟩
 .exact⟨by exact Nat.le_succ_of_le h1,h2⟩
theorem block_box{b:Box}(h:BoxOk b)(at_ many lnds:Nat):BoxOk (block b at_ many lnds).2:=by
 have:=blockA_ok (take_ok h 8) at_ many lnds
 unfold block
 dsimp only
 split
 .exact take_ok this _
 .exact this
theorem landing_box{b:Box}(h:BoxOk b)(many lnds:Nat):BoxOk (landing b many lnds).2:=by
 unfold landing
 dsimp only
 split
 .exact take_ok (take_ok h _) _
 .split<;>exact take_ok (take_ok (take_ok h _) _) _
theorem blocks_ok{b:Box}{many lnds:Nat}(hb:BoxOk b)(hm:0<many)(hl:0<lnds):∀k,(blocks b many lnds k).code.length≤4*k∧(blocks b many lnds k).starts.length=k∧(∀x∈(blocks b many lnds k).code,JOk many lnds x)∧BoxOk (blocks b many lnds k).box
 |0=>⟨Nat.le_refl _,rfl,fun x hx=>(by exact nM hx),hb⟩
 |k+1=>by
  refine x0_3 (blocks_ok hb hm hl k) fun i1 i2 i3 i4=>?_
  obtain⟨j1,j2⟩:=block_ok (b:=(blocks b many lnds k).box) (at_:=k) hm hl
  unfold blocks
  refine⟨by rw[List.length_append];exact Nat.add_le_add i1 j1,by rw[List.length_append,i2];rfl,fun x hx=>?_,block_box i4 _ _ _⟩
  rcases List.mem_append.mp hx with hx|hx
  .exact i3 x hx
  .exact j2 x hx
theorem lands_ok{c:List J}{b:Box}{many lnds:Nat}(hb:BoxOk b)(hc:∀x∈c,JOk many lnds x)(hm:0<many)(hl:0<lnds):∀k,(lands c b many lnds k).code.length=c.length+2*k∧(lands c b many lnds k).starts.length=k∧(∀x∈(lands c b many lnds k).code,JOk many lnds x)∧BoxOk (lands c b many lnds k).box
 |0=>⟨rfl,rfl,hc,hb⟩
 |k+1=>by
  refine x0_3 (lands_ok hb hc hm hl k) fun i1 i2 i3 i4=>?_
  obtain⟨j1,j2⟩:=landing_ok (b:=(lands c b many lnds k).box) hm hl
  unfold lands
  refine⟨by rw[List.length_append];exact o164 i1 j1,by rw[List.length_append,i2];rfl,fun x hx=>?_,landing_box i4 _ _⟩
  rcases List.mem_append.mp hx with hx|hx
  .exact i3 x hx
  .exact j2 x hx
theorem hgen_ok{ls:List Nat}{lnds last:Nat}{b:Box}(hb:BoxOk b)(hlast:0<last):∀k,(hgen ls lnds last b k).s<(hgen ls lnds last b k).e∧(hgen ls lnds last b k).e≤last∧(hgen ls lnds last b k).hs.length=k∧BoxOk (hgen ls lnds last b k).box
 |0=>⟨hlast,Nat.le_refl _,rfl,hb⟩
 |k+1=>by
  refine x0_3 (hgen_ok (ls:=ls) (lnds:=lnds) hb hlast k) fun i1 i2 i3 i4=>?_
  have h1:(take (hgen ls lnds last b k).box ((hgen ls lnds last b k).e-(hgen ls lnds last b k).s)).1<(hgen ls lnds last b k).e-(hgen ls lnds last b k).s:=take_lt (by exact Nat.sub_pos_of_lt i1)
  have h2:(take (take (hgen ls lnds last b k).box ((hgen ls lnds last b k).e-(hgen ls lnds last b k).s)).2 ((hgen ls lnds last b k).e-((hgen ls lnds last b k).s+(take (hgen ls lnds last b k).box ((hgen ls lnds last b k).e-(hgen ls lnds last b k).s)).1))).1<(hgen ls lnds last b k).e-((hgen ls lnds last b k).s+(take (hgen ls lnds last b k).box ((hgen ls lnds last b k).e-(hgen ls lnds last b k).s)).1):=take_lt (by exact o165 i1 h1)
  unfold hgen
  dsimp only
  exact⟨by exact Nat.le_add_right _ _,by exact o302 i2 h2,by rw[List.length_cons,i3],take_ok (take_ok (take_ok i4 _) _) _⟩
noncomputable def pM(s:String)(bs:List Nat):List ((Str×Int)×PV):=(List.range bs.length).map fun k=>((Str.ofString s,((k:Nat):Int)),natV (bs.getD k 0))
theorem pM_snoc{s:String}{bs:List Nat}{x:Nat}:pM s (bs++[x])=pM s bs++[((Str.ofString s,(bs.length:Int)),natV x)]:=by
 unfold pM
 rw[List.length_append,List.length_singleton,List.range_succ,List.map_append]
 congr 1
 .refine List.map_congr_left fun k hk=>?_
  rw[List.mem_range]at hk
  rw[List.getD_eq_getElem?_getD,List.getD_eq_getElem?_getD,List.getElem?_append_left hk]
 .simp
theorem look_none{s t:String}{bs:List Nat}{k:Nat}(h:bs.length≤k∨Str.ofString s≠Str.ofString t):(pM s bs).find? (fun x=>x.1==(Str.ofString t,(k:Int)))=none:=by
 rw[List.find?_eq_none]
 intro x hx
 refine x1_1 (List.mem_map.mp hx) fun n hn zL=>?_;subst zL
 rw[List.mem_range]at hn
 intro e
 have e:=beq_iff_eq.mp e
 rw[Prod.mk.injEq]at e
 rcases h with h|h
 .omega
 .exact h e.1
theorem look_some{s:String}:∀{bs:List Nat}{k:Nat},k<bs.length→(pM s bs).find? (fun x=>x.1==(Str.ofString s,(k:Int)))=some ((Str.ofString s,(k:Int)),natV (bs.getD k 0)):=by
 intro bs k hk
 unfold pM
 rw[List.find?_map]
 have:(List.range bs.length).find? ((fun x=>x.1==(Str.ofString s,(k:Int))) ∘ fun(k:Nat)=>((Str.ofString s,(k:Int)),natV (bs.getD k 0)))=some k:=by
  refine find_at (k:=k) (by rw[List.getElem?_range hk]) (beq_self_eq_true _) fun j y hj hy=>?_
  rw[List.getElem?_range (by exact o166 hk hj)]at hy
  obtain rfl:=Option.some.inj hy
  simp;exact o167 hj
 rw[this];rfl
theorem bl_ne:Str.ofString "block"≠Str.ofString "landing":=by decide+kernel
theorem lookT_blk{bs ls:List Nat}{k:Nat}(h:k<bs.length):lookT (pM "block" bs++pM "landing" ls) (Str.ofString "block",(k:Int))=some (natV (bs.getD k 0)):=by
 unfold lookT;rw[List.find?_append,look_some h];rfl
theorem lookT_lnd{bs ls:List Nat}{k:Nat}(h:k<ls.length):lookT (pM "block" bs++pM "landing" ls) (Str.ofString "landing",(k:Int))=some (natV (ls.getD k 0)):=by
 unfold lookT;rw[List.find?_append,look_none (.inr bl_ne),look_some h];rfl
theorem put_blk{bs:List Nat}{v:Nat}(hl:bs.length≤100):putV (.tdict (pM "block" bs)) (.tup [strV "block",.int bs.length]) (natV v)=some (.tdict (pM "block" (bs++[v]))):=by
 refine(if_t (p:=(pM "block" bs).length<lineN∧lookT (pM "block" bs) (Str.ofString "block",(bs.length:Int))=none) ?_).trans (by rw[pM_snoc])
 refine⟨by unfold pM;rw[List.length_map,List.length_range];show _<16777216;exact o168 hl,?_⟩
 unfold lookT;rw[look_none (.inl (Nat.le_refl _))];rfl
theorem put_lnd{bs ls:List Nat}{v:Nat}(hb:bs.length≤100)(hl:ls.length≤100):putV (.tdict (pM "block" bs++pM "landing" ls)) (.tup [strV "landing",.int ls.length]) (natV v)=some (.tdict (pM "block" bs++pM "landing" (ls++[v]))):=by
 refine(if_t (p:=(pM "block" bs++pM "landing" ls).length<lineN∧lookT (pM "block" bs++pM "landing" ls) (Str.ofString "landing",(ls.length:Int))=none) ?_).trans (by rw[pM_snoc, ←List.append_assoc])
 refine⟨by rw[List.length_append];unfold pM;rw[List.length_map,List.length_range,List.length_map,List.length_range];show _<16777216;exact o169 hb hl,?_⟩
 unfold lookT;rw[List.find?_append,look_none (.inr bl_ne),look_none (.inl (Nat.le_refl _))];rfl
theorem sub_t{sto:Sto}{i:Nat}{m:List ((Str×Int)×PV)}{s:String}{k:Nat}{v:PV}(h:sto[i]? =some (.tdict m))(hl:lookT m (Str.ofString s,(k:Int))=some v):subV sto (.ref i) (.tup [strV s,.int k])=some v:=by
 exact(op_at h).trans hl
section
variable {C:Cx} {d:Nat} {st st₁:St} {rho rho₁:List (Option PV)} {B B₁ L L₁ L':Sto} {n0:Nat} {e a b:PE} {y v:PV} {i:Nat} {w:List PV}
theorem m_appendN(hn1:B₁.length=n0)(hn:B.length=n0)(h:Ev C d e st (.ref (n0+i)) ⟨rho₁,B₁++L₁⟩)(h1:L₁[i]? =some (.list w))(ha:Ev C d a ⟨rho₁,B₁++L₁⟩ v ⟨rho,B++L⟩)(h2:L[i]? =some (.list w))(hl:w.length<lineN)(hs:L.set i (.list (w++[v]))=L'):
  Ev C d (.meth .append e [a]) st .none ⟨rho,B++L'⟩:=by
 have:=m_append h ((loc_at hn1).trans h1) ha ((loc_at hn).trans h2) hl
 rwa [loc_set hn,hs]at this
theorem m_insertN(hn1:B₁.length=n0)(hn:B.length=n0)(h:Ev C d e st (.ref (n0+i)) ⟨rho₁,B₁++L₁⟩)(h1:L₁[i]? =some (.list w))(ha:Ev C d a ⟨rho₁,B₁++L₁⟩ v ⟨rho,B++L⟩)(h2:L[i]? =some (.list w))(hl:w.length<lineN)(hs:L.set i (.list (v::w))=L'):
  Ev C d (.meth .insert e [.lit (.int 0),a]) st .none ⟨rho,B++L'⟩:=by
 have:=m_insert h ((loc_at hn1).trans h1) ev_lit ha ((loc_at hn).trans h2) hl
 rwa [loc_set hn,hs]at this
theorem a_subN{o o':SObj}{P:St→Prop}(hn:B.length=n0)(h:Ev C d e st (.ref (n0+i)) st₁)(hb:Ev C d b st₁ y ⟨rho,B++L⟩)(ho:L[i]? =some o)(hp:putV o y v=some o')(hs:L.set i o'=L')(q:P ⟨rho,B++L'⟩):wpA C d (.sub e b) v P st:=by
 refine a_sub h hb ((loc_at hn).trans ho) hp ?_
 rw[loc_set hn,hs]
 exact q
theorem a_attrN{k:Nat}{o o':SObj}{P:St→Prop}(hn:B.length=n0)(h:Ev C d e st (.ref (n0+i)) ⟨rho,B++L⟩)(ho:L[i]? =some o)(hp:putA o k v=some o')(hs:L.set i o'=L')(q:P ⟨rho,B++L'⟩):wpA C d (.attr e k) v P st:=by
 refine a_attr h ((loc_at hn).trans ho) hp ?_
 rw[loc_set hn,hs]
 exact q
end
end Mine.Internal
set_option maxRecDepth 4000
namespace Mine.Internal
open PySem PySem.W PyProof.Rows PySem.Calls
theorem toI_enc{bs ls:List Nat}{many lnds:Nat}{x:J}(h:JOk many lnds x):encI (toI bs ls x)=.tup [.int x.1,match x.2 with| .no=>.none|i=>.int (place bs ls i)]:=by
 obtain⟨n,i⟩:=x
 cases i with
 |no=>
  rcases h with h|h
  .subst h;rfl
  .subst h;rfl
 |num y=>
  rcases h.1 with h|h
  .subst h;rfl
  .subst h;rfl
 |blk y=>
  rcases h.1 with h|h|h
  .subst h;rfl
  .subst h;rfl
  .subst h;rfl
 |lnd y=>
  rcases h.1 with h|h
  .subst h;rfl
  .subst h;rfl
section
variable {K:Params→Frag} {w:World} {d:Nat} {B:Sto} {i j:Nat}
theorem takeL(hK:KOk K)(hi:i<B.length)(hj:j<B.length)(hn:i≠j){d':Nat}{rho:List (Option PV)}{b:Box}{L:Sto}{m:Nat}{e:PE}(h0:rho[0]? =some (some (.ref i)))(hb:BoxOk b)(hm:0<m)(he:Ev (cxK K w) d' e ⟨rho,boxS B i j b++L⟩ (.int m) ⟨rho,boxS B i j b++L⟩)(hd:1<d'):
  Ev (cxK K w) d' (.call 39 [.var 0,e]) ⟨rho,boxS B i j b++L⟩ (.int (take b m).1) ⟨rho,boxS B i j (take b m).2++L⟩:=by
 have h:=spec39 hK (w:=w) (d:=d') (B:=B++L) (i:=i) (j:=j) (m:=m) (b:=b) (by rw[List.length_append];exact Nat.le_trans hi (Nat.le_add_right _ _)) (by rw[List.length_append];exact o303 hj) hn hb hm hd
 rw[boxS_app hi hj,boxS_app hi hj]at h
 exact ev_call (es_cons (ev_var h0) (es_cons he es_nil)) h
theorem codeS_app(hi:i<B.length)(hj:j<B.length){b:Box}{L:Sto}{k:Nat}{l:List J}:codeS (B++L) i j (B.length+k) b l=boxS B i j b++L.set k (.list (l.map encJ)):=by
 unfold codeS
 rw[loc_set rfl,boxS_app hi hj]
theorem apt_app(hi:i<B.length)(hj:j<B.length)(hn:i≠j){L:Sto}{k:Nat}(hk:k<L.length):Apt (B++L) i j (B.length+k):=
 ⟨by rw[List.length_append];exact Nat.le_trans hi (Nat.le_add_right _ _),by rw[List.length_append];exact o303 hj,by rw[List.length_append];exact o304 hk,hn,by exact o305 hi,by exact o305 hj⟩
theorem rng_at{n k:Nat}{x:PV}(h:(rngI 0 (n:Nat))[k]? =some x):k<n∧x=.int k:=by
 have hl:=(List.getElem?_eq_some_iff.mp h).1
 unfold rngI at h hl
 rw[List.length_map,List.length_range]at hl
 have hl:k<n:=by exact hl
 rw[List.getElem?_map,List.getElem?_range (by exact hl)]at h
 simp at h
 exact⟨hl,h.symm⟩
theorem rng_len{n:Nat}:(rngI 0 (n:Nat)).length=n:=by unfold rngI;simp
noncomputable def U0(n0:Nat):SObj:=.inst (uRefs (strV "f") (.list []) (.ref (n0+1)) (.ref (n0+2)) (.ref (n0+3)))
theorem spec42(hK:KOk K)(hi:i<B.length)(hj:j<B.length)(hn:i≠j){b:Box}(hb:BoxOk b)(hd:4<d):Calls (cxK K w) d 42 [.ref i] (boxS B i j b) (encU (genU b).1) (boxS B i j (genU b).2):=
 Calls.of hd (by decide) fun d' h1 wf hbl Q q=>use42 hK (by exact up h1 rfl) (by
  rw[boxS_len]at wf ⊢
  have wfa:∀{b':Box},WfB B.length (boxS B i j b'):=fun{b'}=>by
   have:=boxS_wf (B:=boxS B i j b) (i:=i) (b:=b') (by rw[boxS_len];exact hj) (by rw[boxS_len];exact wf)
   rw[boxS_boxS hn,boxS_len]at this
   exact this
  have ba:=take_ok hb 6
  have bc:=take_ok ba 3
  have ta:=takeL hK (w:=w) (d':=d') (e:=.lit (.int 6)) (L:=[]) (m:=6) (rho:=[some (.ref i),none,none,none,none,none,none,none,none,none,none,none,none]) hi hj hn rfl hb (by decide) ev_lit (by exact up h1 rfl)
  have tc:=takeL hK (w:=w) (d':=d') (e:=.lit (.int 3)) (L:=[]) (m:=3) (rho:=[some (.ref i),none,none,none,none,none,none,none,none,none,none,none,none]) hi hj hn rfl ba (by decide) ev_lit (by exact up h1 rfl)
  rw[List.append_nil,List.append_nil]at ta tc
  refine ss_assign (ev_tup (es_cons (ev_bin (v:=.int (4+(take b 6).1:Nat)) ev_lit ta rfl) (es_cons (ev_bin (v:=.int (2+(take (take b 6).2 3).1:Nat)) ev_lit tc rfl) es_nil))) (a_tup rfl (as_cons (a_var (as_cons (a_var (as_nil ?_))))))
  have hm0:(take b 6).1<6:=take_lt (by decide)
  have hl0:(take (take b 6).2 3).1<3:=take_lt (by decide)
  generalize hmany:4+(take b 6).1=many
  generalize hlnds:2+(take (take b 6).2 3).1=lnds
  generalize hbc:(take (take b 6).2 3).2=b2 at bc
  have hgenU:genU b=(⟨(lands (blocks b2 many lnds many).code (blocks b2 many lnds many).box many lnds lnds).code.map (toI (blocks b2 many lnds many).starts (lands (blocks b2 many lnds many).code (blocks b2 many lnds many).box many lnds lnds).starts),
    (hgen (lands (blocks b2 many lnds many).code (blocks b2 many lnds many).box many lnds lnds).starts lnds (blocks b2 many lnds many).code.length (take (lands (blocks b2 many lnds many).code (blocks b2 many lnds many).box many lnds lnds).box 3).2 (take (lands (blocks b2 many lnds many).code (blocks b2 many lnds many).box many lnds lnds).box 3).1).hs,
    (List.range (lands (blocks b2 many lnds many).code (blocks b2 many lnds many).box many lnds lnds).code.length).map (5+ ·)⟩,
    (hgen (lands (blocks b2 many lnds many).code (blocks b2 many lnds many).box many lnds lnds).starts lnds (blocks b2 many lnds many).code.length (take (lands (blocks b2 many lnds many).code (blocks b2 many lnds many).box many lnds lnds).box 3).2 (take (lands (blocks b2 many lnds many).code (blocks b2 many lnds many).box many lnds lnds).box 3).1).box):=by
   unfold genU;dsimp only;rw[hmany,hlnds,hbc]
  rw[hgenU]at q
  have hm:0<many:=by exact o170 hm0 hmany
  have hl:0<lnds:=by exact o171 hl0 hlnds
  have hm9:many≤9:=by exact o172 hm0 hmany
  have hl4:lnds≤4:=by exact o173 hl0 hlnds
  have hun:Ev (cxK K w) d' (.unit [(.lit (.str "f")),(.list [])]) ⟨[some (.ref i),some (.int many),some (.int lnds),none,none,none,none,none,none,none,none,none,none],boxS B i j b2⟩ (.ref B.length)
    ⟨[some (.ref i),some (.int many),some (.int lnds),none,none,none,none,none,none,none,none,none,none],boxS B i j b2++[U0 B.length,.list [],.list [],.list []]⟩:=by
   have h0:=spec0 hK (w:=w) (d:=2) (boxS B i j b2) (strV "f") (.list []) below_str trivial (Nat.lt_succ_self _)
   have:=ev_unit (C:=cxK K w) (d:=d') (by exact up h1 rfl) (es_cons (st:=⟨[some (.ref i),some (.int many),some (.int lnds),none,none,none,none,none,none,none,none,none,none],boxS B i j b2⟩) (ev_lit (v:=strV "f")) (es_cons (ev_listF es_nil) es_nil)) h0
   rw[boxS_len]at this
   exact this
  have e4:Ev (cxK K w) d' (.list []) ⟨[some (.ref i),some (.int many),some (.int lnds),none,none,none,none,none,none,none,none,none,none],boxS B i j b2++[U0 B.length,.list [],.list [],.list []]⟩ (.ref (B.length+4))
    ⟨[some (.ref i),some (.int many),some (.int lnds),none,none,none,none,none,none,none,none,none,none],boxS B i j b2++[U0 B.length,.list [],.list [],.list [],.list []]⟩:=by
   have:=new_list (C:=cxK K w) (d:=d') (B:=boxS B i j b2) (L:=[U0 B.length,.list [],.list [],.list []]) (rho:=[some (.ref i),some (.int many),some (.int lnds),none,none,none,none,none,none,none,none,none,none]) es_nil
   rw[boxS_len]at this
   exact this
  have e5:Ev (cxK K w) d' .dict0 ⟨[some (.ref i),some (.int many),some (.int lnds),none,none,none,none,none,none,none,none,none,none],boxS B i j b2++[U0 B.length,.list [],.list [],.list [],.list []]⟩ (.ref (B.length+5))
    ⟨[some (.ref i),some (.int many),some (.int lnds),none,none,none,none,none,none,none,none,none,none],boxS B i j b2++[U0 B.length,.list [],.list [],.list [],.list [],.tdict []]⟩:=by
   have:=new_tdict (C:=cxK K w) (d:=d') (B:=boxS B i j b2) (L:=[U0 B.length,.list [],.list [],.list [],.list []]) (rho:=[some (.ref i),some (.int many),some (.int lnds),none,none,none,none,none,none,none,none,none,none])
   rw[boxS_len]at this
   exact this
  refine ss_assign (ev_tup (es_cons hun (es_cons e4 (es_cons e5 es_nil)))) (a_tup rfl (as_cons (a_var (as_cons (a_var (as_cons (a_var (as_nil ?_))))))))
  have bk:=blocks_ok bc hm hl
  refine ss_forF (l:=rngI 0 many) (fun k st=>∃x6,st=⟨[some (.ref i),some (.int many),some (.int lnds),some (.ref B.length),some (.ref (B.length+4)),some (.ref (B.length+5)),x6,none,none,none,none,none,none],
    boxS B i j (blocks b2 many lnds k).box++[U0 B.length,.list [],.list [],.list [],.list ((blocks b2 many lnds k).code.map encJ),.tdict (pM "block" (blocks b2 many lnds k).starts)]⟩)
   (i_range1 (ev_var rfl) (Int.natCast_nonneg _) (by show _≤((16777216:Nat):Int);exact o174 hm0 hmany)) ⟨none,rfl⟩ ?_ ?_
  .rintro k x st hx ⟨x6,rfl⟩
   obtain⟨hk,rfl⟩:=rng_at hx
   refine x0_3 (bk k) fun p1 p2 p3 p4=>?_
   refine a_var (ss_assign (ev_len (ev_var rfl) (len_ref ((loc_at boxS_len).trans rfl))) ?_)
   rw[List.length_map]
   refine a_subN (i:=5) boxS_len (ev_var rfl) (ev_tup (es_cons ev_lit (es_cons (ev_var rfl) es_nil))) rfl (by have:=put_blk (bs:=(blocks b2 many lnds k).starts) (v:=(blocks b2 many lnds k).code.length) (by exact o175 hm0 hmany hk p2);rw[p2]at this;exact this) rfl ?_
   have h41:=spec41 hK (w:=w) (d:=d') (apt_app (B:=B) hi hj hn (L:=[U0 B.length,.list [],.list [],.list [],.list [],.tdict (pM "block" ((blocks b2 many lnds k).starts++[(blocks b2 many lnds k).code.length]))]) (k:=4) (Nat.le_add_right _ _)) (b:=(blocks b2 many lnds k).box) (l:=(blocks b2 many lnds k).code) (at_:=k) p4 hm hl (by exact o176 hm0 hmany hk p1 p2) (by exact o306 h1)
   rw[codeS_app hi hj,codeS_app hi hj]at h41
   refine ss_expr (ev_call (es_cons (ev_var rfl) (es_cons (ev_var rfl) (es_cons (ev_var rfl) (es_cons (ev_var rfl) (es_cons (ev_var rfl) es_nil))))) h41) (ss_nil ⟨some (.int k),rfl⟩)
  .rintro st ⟨x6,rfl⟩
   rw[rng_len]
   refine x0_3 (bk many) fun p1 p2 p3 p4=>?_
   have hp0:0<(blocks b2 many lnds many).code.length:=by
    obtain⟨m',rfl⟩:∃m',many=m'+1:=⟨many-1,by exact(Nat.sub_add_cancel hm).symm⟩
    unfold blocks
    rw[List.length_append]
    have:0<(block (blocks b2 (m'+1) lnds m').box m' (m'+1) lnds).1.length:=by
     unfold block
     rw[if_pos (.inr rfl),List.length_append];exact Nat.succ_pos _
    exact Nat.le_trans this (Nat.le_add_left _ _)
   generalize blocks b2 many lnds many=P at p1 p2 p3 p4 q hp0
   refine ss_var (ev_len (ev_var rfl) (len_ref ((loc_at boxS_len).trans rfl))) ?_
   rw[List.length_map]
   have bl:=lands_ok p4 p3 hm hl
   refine ss_forF (l:=rngI 0 lnds) (fun k st=>∃x6,st=⟨[some (.ref i),some (.int many),some (.int lnds),some (.ref B.length),some (.ref (B.length+4)),some (.ref (B.length+5)),x6,some (.int P.code.length),none,none,none,none,none],
     boxS B i j (lands P.code P.box many lnds k).box++[U0 B.length,.list [],.list [],.list [],.list ((lands P.code P.box many lnds k).code.map encJ),.tdict (pM "block" P.starts++pM "landing" (lands P.code P.box many lnds k).starts)]⟩)
    (i_range1 (ev_var rfl) (Int.natCast_nonneg _) (by show _≤((16777216:Nat):Int);exact o177 hl0 hlnds)) ⟨x6,by
     show _=St.mk _ (boxS B i j P.box++[U0 B.length,.list [],.list [],.list [],.list (P.code.map encJ),.tdict (pM "block" P.starts++[])])
     rw[List.append_nil];rfl⟩ ?_ ?_
   .rintro k x st hx ⟨x6,rfl⟩
    obtain⟨hk,rfl⟩:=rng_at hx
    refine x0_3 (bl k) fun r1 r2 r3 r4=>?_
    refine a_var (ss_assign (ev_len (ev_var rfl) (len_ref ((loc_at boxS_len).trans rfl))) ?_)
    rw[List.length_map]
    refine a_subN (i:=5) boxS_len (ev_var rfl) (ev_tup (es_cons ev_lit (es_cons (ev_var rfl) es_nil))) rfl (by have:=put_lnd (bs:=P.starts) (ls:=(lands P.code P.box many lnds k).starts) (v:=(lands P.code P.box many lnds k).code.length) (by exact o178 hm0 hmany p2) (by exact o307 hl0 hlnds hk r2);rw[r2]at this;exact this) rfl ?_
    have h40:=spec40 hK (w:=w) (d:=d') (apt_app (B:=B) hi hj hn (L:=[U0 B.length,.list [],.list [],.list [],.list [],.tdict (pM "block" P.starts++pM "landing" ((lands P.code P.box many lnds k).starts++[(lands P.code P.box many lnds k).code.length]))]) (k:=4) (Nat.le_add_right _ _)) (b:=(lands P.code P.box many lnds k).box) (l:=(lands P.code P.box many lnds k).code) (many:=many) r4 hm hl (by exact o179 hm0 hl0 hmany hlnds p1 p2 hp0 hk r1 r2) (by exact o306 h1)
    rw[codeS_app hi hj,codeS_app hi hj]at h40
    refine ss_expr (ev_call (es_cons (ev_var rfl) (es_cons (ev_var rfl) (es_cons (ev_var rfl) (es_cons (ev_var rfl) es_nil)))) h40) (ss_nil ⟨some (.int k),rfl⟩)
   .rintro st ⟨x6,rfl⟩
    rw[rng_len]
    refine x0_3 (bl lnds) fun r1 r2 r3 r4=>?_
    generalize lands P.code P.box many lnds lnds=R at r1 r2 r3 r4 q
    refine ss_for (S:=.live (B.length+4) (R.code.map encJ)) (fun k st=>∃x8 x9,st=⟨[some (.ref i),some (.int many),some (.int lnds),some (.ref B.length),some (.ref (B.length+4)),some (.ref (B.length+5)),x6,some (.int P.code.length),x8,x9,none,none,none],
      boxS B i j R.box++[U0 B.length,.list (((R.code.take k).map (toI P.starts R.starts)).map encI),.list [],.list [],.list (R.code.map encJ),.tdict (pM "block" P.starts++pM "landing" R.starts)]⟩)
     (i_live (ev_var rfl) (lst_ref ((loc_at boxS_len).trans rfl))) ⟨none,none,rfl⟩ ?_ ?_
    .rintro k x st hx ⟨x8,x9,rfl⟩
     refine⟨(loc_at boxS_len).trans rfl,?_⟩
     have hx:(R.code.map encJ)[k]? =some x:=hx
     rw[List.getElem?_map]at hx
     refine x1_1 (Option.map_eq_some_iff.mp hx) fun y hy zL=>?_;subst zL
     have hkl:=(List.getElem?_eq_some_iff.mp hy).1
     have hjo:=r3 y (List.mem_of_getElem? hy)
     have htk:R.code.take (k+1)=R.code.take k++[y]:=by rw[List.take_succ,hy];rfl
     rw[htk]
     refine a_tup rfl (as_cons (a_var (as_cons (a_var (as_nil ?_)))))
     have hval:EvP (cxK K w) d' (.ife (.isinst "tuple" (.var 9)) (.sub (.var 5) (.var 9)) (.var 9)) ⟨[some (.ref i),some (.int many),some (.int lnds),some (.ref B.length),some (.ref (B.length+4)),some (.ref (B.length+5)),x6,some (.int P.code.length),some (.int y.1),some (infoV y.2),none,none,none],
       boxS B i j R.box++[U0 B.length,.list (((R.code.take k).map (toI P.starts R.starts)).map encI),.list [],.list [],.list (R.code.map encJ),.tdict (pM "block" P.starts++pM "landing" R.starts)]⟩ (match y.2 with| .no=>.none|z=>.int (place P.starts R.starts z)):=by
      obtain⟨n,z⟩:=y
      cases z with
      |no=>exact ev_ife_f (t_isinst (ev_isinst (ev_var rfl) rfl)) (ev_var rfl)
      |num z=>exact ev_ife_f (t_isinst (ev_isinst (ev_var rfl) rfl)) (ev_var rfl)
      |blk z=>exact ev_ife_t (t_isinst (ev_isinst (ev_var rfl) rfl)) (ev_sub (ev_var rfl) (ev_var rfl) (sub_t ((loc_at boxS_len).trans rfl) (lookT_blk (by have:=hjo.2;exact Nat.le_trans this (Nat.le_of_eq p2.symm)))))
      |lnd z=>exact ev_ife_t (t_isinst (ev_isinst (ev_var rfl) rfl)) (ev_sub (ev_var rfl) (ev_var rfl) (sub_t ((loc_at boxS_len).trans rfl) (lookT_lnd (by have:=hjo.2;exact Nat.le_trans this (Nat.le_of_eq r2.symm)))))
     refine ss_expr (m_appendN (i:=1) (n0:=B.length) (v:=encI (toI P.starts R.starts y)) boxS_len boxS_len (ev_attr (ev_var rfl) ((attr_ref ((loc_at (i:=0) boxS_len).trans rfl)).trans rfl)) rfl (by rw[toI_enc hjo];exact ev_tup (es_cons (ev_var rfl) (es_cons hval es_nil))) rfl (by rw[List.length_map,List.length_map,List.length_take];show _<16777216;exact o180 hm0 hl0 hmany hlnds p1 p2 hp0 r1 r2 hkl) rfl) (ss_nil ⟨some (.int y.1),some (infoV y.2),?_⟩)
     rw[List.map_append,List.map_append];rfl
    .rintro st ⟨x8,x9,rfl⟩
     refine⟨(loc_at boxS_len).trans rfl,?_⟩
     have htk:R.code.take (Src.items (.live (B.length+4) (R.code.map encJ))).length=R.code:=by show R.code.take (R.code.map encJ).length=_;simp
     rw[htk]
     have hlines:EvP (cxK K w) d' (.comp (.bin .add (.lit (.int (5))) (.var 0)) (.range1 (.bi .len (.var 4))) [] []) ⟨[some (.ref i),some (.int many),some (.int lnds),some (.ref B.length),some (.ref (B.length+4)),some (.ref (B.length+5)),x6,some (.int P.code.length),x8,x9,none,none,none],
       boxS B i j R.box++[U0 B.length,.list ((R.code.map (toI P.starts R.starts)).map encI),.list [],.list [],.list (R.code.map encJ),.tdict (pM "block" P.starts++pM "landing" R.starts)]⟩ (linesV ((List.range R.code.length).map (5+ ·))):=by
      have hc:=ev_comp (C:=cxK K w) (d:=d') (elt:=.bin .add (.lit (.int (5))) (.var 0)) (src:=.range1 (.bi .len (.var 4))) (ifs:=[]) (cs:=[]) (l:=rngI 0 R.code.length) (rho:=[some (.ref i),some (.int many),some (.int lnds),some (.ref B.length),some (.ref (B.length+4)),some (.ref (B.length+5)),x6,some (.int P.code.length),x8,x9,none,none,none])
       (sto:=boxS B i j R.box++[U0 B.length,.list ((R.code.map (toI P.starts R.starts)).map encI),.list [],.list [],.list (R.code.map encJ),.tdict (pM "block" P.starts++pM "landing" R.starts)])
       (i_range1 (by have:=ev_len (C:=cxK K w) (d:=d') (ev_var (x:=4) (rho:=[some (.ref i),some (.int many),some (.int lnds),some (.ref B.length),some (.ref (B.length+4)),some (.ref (B.length+5)),x6,some (.int P.code.length),x8,x9,none,none,none]) (sto:=boxS B i j R.box++[U0 B.length,.list ((R.code.map (toI P.starts R.starts)).map encI),.list [],.list [],.list (R.code.map encJ),.tdict (pM "block" P.starts++pM "landing" R.starts)]) rfl) (len_ref ((loc_at boxS_len).trans rfl));rw[List.length_map]at this;exact this) (Int.natCast_nonneg _) (by show _≤((16777216:Nat):Int);exact o181 hm0 hl0 hmany hlnds p1 p2 hp0 r1 r2))
       (by rw[rng_len];show _≤16777216;exact o182 hm0 hl0 hmany hlnds p1 p2 hp0 r1 r2) (fun _=>true) (fun x=>match x with| .int z=>.int (5+z)|_=>.none) (fun x hx=>all_nil) (fun x hx _=>by
        obtain⟨k,hk⟩:=List.getElem?_of_mem hx
        obtain⟨_,rfl⟩:=rng_at hk
        exact ev_bin ev_lit (ev_var rfl) rfl)
      have e:(((rngI 0 R.code.length).filter fun _=>true).map fun x=>match x with| .int z=>PV.int (5+z)|_=>.none)=((List.range R.code.length).map (5+ ·)).map natV:=by
       rw[List.filter_eq_self.mpr fun _ _=>rfl]
       unfold rngI
       rw[List.map_map,List.map_map,show((R.code.length:Int)-0).toNat=R.code.length by exact rfl]
       refine List.map_congr_left fun k _=>?_
       show PV.int (5+(0+(k:Int)))=.int ((5+k:Nat):Int)
       congr 1;exact o183
      rw[e]at hc
      exact hc
     refine ss_assign (ev_tup (es_cons (ev_listF (es_cons ev_lit (es_cons ev_lit (es_cons ev_lit es_nil)))) (es_cons ev_lit (es_cons hlines es_nil)))) (a_tup rfl (as_cons ?_))
     refine a_attrN (i:=0) (n0:=B.length) boxS_len (ev_var rfl) rfl (o':=.inst ((uRefs (strV "f") (.list []) (.ref (B.length+1)) (.ref (B.length+2)) (.ref (B.length+3))).set 3 (.list [strV "p",strV "q",strV "r"]))) rfl rfl (as_cons ?_)
     refine a_attrN (i:=0) (n0:=B.length) boxS_len (ev_var rfl) rfl (o':=.inst (((uRefs (strV "f") (.list []) (.ref (B.length+1)) (.ref (B.length+2)) (.ref (B.length+3))).set 3 (.list [strV "p",strV "q",strV "r"])).set 7 (.int 3))) rfl rfl (as_cons ?_)
     refine a_attrN (i:=0) (n0:=B.length) boxS_len (ev_var rfl) rfl (o':=.inst (uFields (.ref (B.length+1)) (.ref (B.length+2)) (linesV ((List.range R.code.length).map (5+ ·))))) rfl rfl (as_nil ?_)
     refine ss_assign (ev_tup (es_cons ev_lit (es_cons (ev_var rfl) es_nil))) (a_tup rfl (as_cons (a_var (as_cons (a_var (as_nil ?_))))))
     have ht3:(take R.box 3).1<3:=take_lt (by decide)
     have bt:=take_ok r4 3
     have hgn:=hgen_ok (ls:=R.starts) (lnds:=lnds) bt hp0
     refine ss_forF (l:=rngI 0 (take R.box 3).1) (fun k st=>∃x12,st=⟨[some (.ref i),some (.int many),some (.int lnds),some (.ref B.length),some (.ref (B.length+4)),some (.ref (B.length+5)),x6,some (.int P.code.length),x8,x9,some (.int (hgen R.starts lnds P.code.length (take R.box 3).2 k).s),some (.int (hgen R.starts lnds P.code.length (take R.box 3).2 k).e),x12],
       boxS B i j (hgen R.starts lnds P.code.length (take R.box 3).2 k).box++[.inst (uFields (.ref (B.length+1)) (.ref (B.length+2)) (linesV ((List.range R.code.length).map (5+ ·)))),.list ((R.code.map (toI P.starts R.starts)).map encI),.list ((hgen R.starts lnds P.code.length (take R.box 3).2 k).hs.map encH),.list [],.list (R.code.map encJ),.tdict (pM "block" P.starts++pM "landing" R.starts)]⟩)
      (i_range1 (takeL hK hi hj hn rfl r4 (m:=3) (by decide) ev_lit (by exact up h1 rfl)) (Int.natCast_nonneg _) (by show _≤((16777216:Nat):Int);exact o308 ht3)) ⟨none,rfl⟩ ?_ ?_
     .rintro k x st hx ⟨x12,rfl⟩
      obtain⟨hk,rfl⟩:=rng_at hx
      refine x0_3 (hgn k) fun g1 g2 g3 g4=>?_
      generalize hG:hgen R.starts lnds P.code.length (take R.box 3).2 k=G at g1 g2 g3 g4
      have k1:(take G.box (G.e-G.s)).1<G.e-G.s:=take_lt (by exact Nat.sub_pos_of_lt g1)
      have b1:=take_ok g4 (G.e-G.s)
      have k2:(take (take G.box (G.e-G.s)).2 (G.e-(G.s+(take G.box (G.e-G.s)).1))).1<G.e-(G.s+(take G.box (G.e-G.s)).1):=take_lt (by exact o165 g1 k1)
      have b2:=take_ok b1 (G.e-(G.s+(take G.box (G.e-G.s)).1))
      have k3:(take (take (take G.box (G.e-G.s)).2 (G.e-(G.s+(take G.box (G.e-G.s)).1))).2 lnds).1<lnds:=take_lt hl
      refine a_var ?_
      refine ss_var (ev_bin (v:=.int (G.s+(take G.box (G.e-G.s)).1:Nat)) (ev_var rfl) (takeL hK hi hj hn rfl g4 (m:=G.e-G.s) (by exact up k1 rfl) (ev_bin (ev_var rfl) (ev_var rfl) (by show some (PV.int ((G.e:Int)-(G.s:Int)))=_;congr 2;exact o309 g1 k2)) (by exact o310 h1)) rfl) ?_
      refine ss_var (ev_bin (v:=.int (G.s+(take G.box (G.e-G.s)).1+1+(take (take G.box (G.e-G.s)).2 (G.e-(G.s+(take G.box (G.e-G.s)).1))).1:Nat)) (ev_bin (ev_var rfl) ev_lit rfl) (takeL hK hi hj hn rfl b1 (m:=G.e-(G.s+(take G.box (G.e-G.s)).1)) (by exact up k2 rfl) (ev_bin (ev_var rfl) (ev_var rfl) (by show some (PV.int ((G.e:Int)-((G.s+(take G.box (G.e-G.s)).1:Nat):Int)))=_;congr 2;exact o311 k2)) (by exact o310 h1)) rfl) ?_
      have hGs:hgen R.starts lnds P.code.length (take R.box 3).2 (k+1)=⟨G.s+(take G.box (G.e-G.s)).1,G.s+(take G.box (G.e-G.s)).1+1+(take (take G.box (G.e-G.s)).2 (G.e-(G.s+(take G.box (G.e-G.s)).1))).1,
        ⟨G.s+(take G.box (G.e-G.s)).1,G.s+(take G.box (G.e-G.s)).1+1+(take (take G.box (G.e-G.s)).2 (G.e-(G.s+(take G.box (G.e-G.s)).1))).1,R.starts.getD (take (take (take G.box (G.e-G.s)).2 (G.e-(G.s+(take G.box (G.e-G.s)).1))).2 lnds).1 0⟩::G.hs,(take (take (take G.box (G.e-G.s)).2 (G.e-(G.s+(take G.box (G.e-G.s)).1))).2 lnds).2⟩:=by
       conv=>lhs;unfold hgen
       rw[hG]
      rw[hGs]
      refine ss_expr (m_insertN (i:=2) (n0:=B.length) (v:=encH ⟨G.s+(take G.box (G.e-G.s)).1,G.s+(take G.box (G.e-G.s)).1+1+(take (take G.box (G.e-G.s)).2 (G.e-(G.s+(take G.box (G.e-G.s)).1))).1,R.starts.getD (take (take (take G.box (G.e-G.s)).2 (G.e-(G.s+(take G.box (G.e-G.s)).1))).2 lnds).1 0⟩) boxS_len boxS_len
       (ev_attr (ev_var rfl) ((attr_ref ((loc_at (i:=0) boxS_len).trans rfl)).trans rfl)) rfl
       (ev_tup (es_cons (ev_var rfl) (es_cons (ev_var rfl) (es_cons (ev_sub (ev_var rfl) (ev_tup (es_cons ev_lit (es_cons (takeL hK hi hj hn rfl b2 hl (ev_var rfl) (by exact up h1 rfl)) es_nil))) (sub_t ((loc_at boxS_len).trans rfl) (lookT_lnd (by exact o312 r2 k3)))) (es_cons ev_lit (es_cons ev_lit es_nil)))))) rfl ?_ rfl) (ss_nil ⟨some (.int k),rfl⟩)
      rw[List.length_map];show _<16777216;exact o184 ht3 hk g3
     .rintro st ⟨x12,rfl⟩
      rw[rng_len]
      refine ss_ret (ev_var rfl) (ret_none boxS_len wfa (frz_inst (i:=0) boxS_len rfl (by simp) ?_) q)
      exact frzs_uFields (frz_list (i:=1) boxS_len rfl (by simp) (frzs_clean (belows_map (fun _=>below_encI) _))) (frz_list (i:=2) boxS_len rfl (by simp) (frzs_clean (belows_map (f:=encH) (fun _=>⟨trivial,trivial,trivial,trivial,trivial,trivial⟩) _))) (frz_clean below_lines))
end
end Mine.Internal
set_option maxRecDepth 4000
namespace Mine.Internal
open PySem PySem.W PyProof.Rows PySem.Calls
theorem strOk_app(x y:Str):PyData.strOk (x++y)=(PyData.strOk x&&PyData.strOk y):=by
 show(x.cps++y.cps).all _=_
 rw[Array.all_append];rfl
theorem strOk_from:∀(ts:List Str)(k:Nat)(acc:Str),PyData.strOk acc=true→(∀t∈ts,PyData.strOk t=true)→PyData.strOk (textFrom k acc ts)=true
 |[],k,acc,h,_=>h
 |t::r,k,acc,h,ht=>by
  refine strOk_from r (k+1) _ ?_ fun x hx=>ht x (.tail _ hx)
  rw[strOk_app,strOk_app,h,ht t (.head _)]
  split<;>decide+kernel
theorem strOk_bools(l:List Bool):PyData.strOk (boolD l).shown=true:=by
 unfold boolD
 simp only[PyData.shown]
 unfold listText
 rw[strOk_app,strOk_from _ _ _ (by decide+kernel) ?_]
 .decide+kernel
 .intro t ht
  induction l with
  |nil=>simp[PyData.shownAll]at ht
  |cons b l ih=>
   simp only[List.map_cons,PyData.shownAll,List.mem_cons]at ht
   rcases ht with rfl|ht
   .cases b<;>(simp only[PyData.shown];decide+kernel)
   .exact ih ht
noncomputable def evD:E→PyData
 | .ev i=>insD i
 | .forever=>strD "for ever"
 | .thrown=>strD "thrown"
 | .fin l=>.str (Str.ofString "end "++(boolD l).shown)
theorem toD_ev(e:E):toD (encE e)=some (evD e):=by
 cases e with
 |ev i=>exact toD_ins i
 |_=>rfl
theorem lay_ev(e:E):(evD e).canLay0=true∧(evD e).depth≤1:=by
 cases e with
 |ev i=>cases i<;>exact⟨rfl,Nat.succ_pos _⟩
 |forever=>exact⟨by simp only[evD,strD,PyData.canLay0];decide+kernel,Nat.zero_le _⟩
 |thrown=>exact⟨by simp only[evD,strD,PyData.canLay0];decide+kernel,Nat.zero_le _⟩
 |fin l=>exact⟨by
   simp only[evD,PyData.canLay0]
   rw[strOk_app,strOk_bools];decide+kernel,Nat.zero_le _⟩
theorem ne_events{sto:Sto}{l:List E}:cmpV sto .ne (.list (l.map encE)) (.list (l.map encE))=some false:=by
 have hl:PyData.canLay0 (.list (l.map evD))=true:=by
  simp only[PyData.canLay0]
  induction l with
  |nil=>simp[PyData.canLayAll0]
  |cons a l ih=>simp[PyData.canLayAll0,(lay_ev a).1,ih]
 have hd:=depth_flat (k:=1) (fun e=>(lay_ev e).2) l
 have hs:SeqAt.shaped (.list (l.map evD))=true:=by
  show(PyData.canLay0 (.list (l.map evD))&&decide (PyData.depth (.list (l.map evD))≤64))=true
  rw[Bool.and_eq_true]
  exact⟨hl,decide_eq_true (by simp only[PyData.depth];exact o126 hd)⟩
 have e:eqV sto (.list (l.map encE)) (.list (l.map encE))=some true:=by
  show deepEq sto _ _=_
  have ht:toD (.list (l.map encE))=some (.list (l.map evD)):=toD_list (toDs_map toD_ev l)
  unfold deepEq dataOf
  dsimp only
  rw[ht]
  show(if SeqAt.shaped (.list (l.map evD))&&SeqAt.shaped (.list (l.map evD))then some (PyData.eqv (.list (l.map evD)) (.list (l.map evD)))else none)=_
  rw[hs]
  show some _=_
  rw[SeqAt.eqv_refl _ hl]
 show(eqV sto _ _).map _=_
 rw[e];rfl
theorem notin_lines{sto:Sto}{l:List Nat}{k:Nat}(h:k∈l):cmpV sto .notIn (natV k) (linesV l)=some false:=by
 show(inV sto (.int k) (.list (l.map natV))).map _=_
 have:inV sto (.int k) (.list (l.map natV))=some true:=by
  show(intsOf (l.map natV)).map _=_
  rw[intsOf_nats]
  exact congrArg some (nats_has.trans (decide_eq_true h))
 rw[this];rfl
structure MadeOk(u m:U)(words:List Nat):Prop where
 good:Good m
 same:(events m words).1=(events u words).1
 less:(events m words).2≤(events u words).2
 lines:∀l∈m.lines,l∈u.lines
structure LawOk(u:U)(words:List Nat):Prop where
 good:Good u
 once:∀u,Good u→Good (cleanOnce u)
 th:MadeOk u (thread u) words
 cl:MadeOk u (clean u) words
 both:MadeOk u (clean (thread u)) words
 other:MadeOk u (thread (clean u)) words
 straight:straight (thread u)=true
 lean1:lean (clean u)=true
 lean2:lean (clean (thread u))=true
 again1:thread (thread u)=thread u
 again2:clean (clean (thread u))=clean (thread u)
noncomputable def seed(l:List Int)(s:Int):Int:=l.foldl (fun s x=>(s*37+(if x<0 then-x else x)).fmod 1000003) s
noncomputable def box0(script:List Int):Box:=⟨(script.take 40).map fun x=>if x<0 then-x else x,seed (script.take 40) 13⟩
noncomputable def boxK(b:Box):Nat→Box
 |0=>b
 |k+1=>(take (boxK b k) 12).2
noncomputable def words(b:Box):List Nat:=(List.range 11).map fun k=>(take (boxK b k) 12).1
noncomputable def B0:Sto:=[.list [],.list []]
section
variable {C:Cx} {d:Nat} {st:St} {rho:List (Option PV)} {sto:Sto}
theorem ev_compL{elt:PE}{src:PI}{cs:List Nat}{l:List PV}(hs:EvI C d src st (.frozen l) ⟨rho,sto⟩)(hl:l.length≤lineN)(f:PV→PV)
  (hf:∀x∈l,Ev C d elt ⟨some x::caps rho cs,sto⟩ (f x) ⟨some x::caps rho cs,sto⟩):
  Ev C d (.comp elt src [] cs) st (.ref sto.length) ⟨rho,sto++[.list (l.map f)]⟩:=fun Q q=>by
 refine hs _ ⟨fun k acc sto'=>sto'=sto∧acc=(l.take k).map f∧k≤l.length,⟨rfl,rfl,Nat.zero_le _⟩,?_,?_⟩
 .rintro k x acc sto' hx ⟨rfl,rfl,hk⟩
  have hx:l[k]? =some x:=hx
  have hm:x∈l:=List.mem_of_getElem? hx
  obtain⟨hlt,hge⟩:=List.getElem?_eq_some_iff.mp hx
  have ht:l.take (k+1)=l.take k++[x]:=by rw[List.take_succ,hx];rfl
  refine⟨trivial,?_⟩
  refine⟨rfl,fun _=>hf x hm _ ⟨rfl,?_,rfl,?_,hlt⟩,fun h=>by contradiction⟩
  .rw[List.length_map,List.length_take];exact o49 hl hlt
  .rw[ht];simp
 .rintro acc sto' ⟨rfl,rfl,_⟩
  refine⟨trivial,.inr ?_⟩
  have:l.take (Src.items (.frozen l)).length=l:=List.take_length
  rw[this]
  exact q
end
section
variable {K:Params→Frag} {w:World} {d:Nat}
theorem seed_ok{s:Int}(h:0≤s∧s<1000003)(x:Int):0≤(s*37+x).fmod 1000003∧(s*37+x).fmod 1000003<1000003:=⟨Int.fmod_nonneg_of_pos _ (by decide),Int.fmod_lt_of_pos _ (by decide)⟩
theorem seeds_ok:∀(l:List Int){s:Int},(0≤s∧s<1000003)→0≤seed l s∧seed l s<1000003
 |[],s,h=>h
 |x::l,s,h=>seeds_ok l (seed_ok h _)
theorem boxK_ok{b:Box}(h:BoxOk b):∀k,BoxOk (boxK b k)
 |0=>h
 |k+1=>take_ok (boxK_ok h k) 12
theorem law_run(hK:KOk K){script:List Int}(hsc:script.length≤63)(hL:LawOk (genU (box0 script)).1 (words (genU (box0 script)).2))(hd:9<d){Q:Out→St→Prop}(q:∀st,Q (.ret (.bool true)) st):
  wpSs (cxK K w) d b49 Q ⟨[some (.list (script.map .int)),none,none,none,none,none,none,none,none,none,none,none,none],[]⟩:=by
 have hsl:∀{x1 x2:Option PV}{S:Sto},EvI (cxK K w) d (.val (.upto (.var 0) (.lit (.int (40))))) ⟨[some (.list (script.map .int)),x1,x2,none,none,none,none,none,none,none,none,none,none],S⟩ (.frozen ((script.take 40).map .int)) ⟨[some (.list (script.map .int)),x1,x2,none,none,none,none,none,none,none,none,none,none],S⟩:=fun{x1 x2 S}=>by
  have:=i_list (ev_upto_l (C:=cxK K w) (d:=d) (st:=⟨[some (.list (script.map .int)),x1,x2,none,none,none,none,none,none,none,none,none,none],S⟩) (ev_var (x:=0) rfl) (fun l e=>by contradiction) (ev_lit (v:=.int 40)) (by constructor<;>decide) rfl)
  rw[show(40:Int).toNat=40 from rfl, ←List.map_take]at this
  exact this
 have h40:(script.take 40).length≤40:=by rw[List.length_take];exact o185 hsc
 have hbox:=ev_compL (C:=cxK K w) (d:=d) (elt:=.bi .abs (.bi .int (.var 0))) (cs:=[]) (hsl (x1:=none) (x2:=none) (S:=[])) (by rw[List.length_map];show _≤16777216;exact Nat.le_trans h40 (Nat.le_add_left _ _)) (fun x=>match x with| .int i=>.int (if i<0 then-i else i)|_=>.none) (fun x hx=>by
  refine x1_1 (List.mem_map.mp hx) fun i _ zL=>?_;subst zL
  exact ev_abs (ev_int (ev_var rfl)))
 have hbm:(((script.take 40).map PV.int).map fun x=>match x with| .int i=>PV.int (if i<0 then-i else i)|_=>.none)=(((script.take 40).map fun x=>if x<0 then-x else x).map PV.int):=by rw[List.map_map,List.map_map];rfl
 rw[hbm]at hbox
 refine ss_var (ev_listL (es_cons hbox (es_cons ev_lit es_nil))) ?_
 refine ss_forF (l:=(script.take 40).map .int) (fun k st=>∃x1,st=⟨[some (.list (script.map .int)),x1,some (.ref 1),none,none,none,none,none,none,none,none,none,none],boxS B0 1 0 ⟨(script.take 40).map fun x=>if x<0 then-x else x,seed ((script.take 40).take k) 13⟩⟩)
  hsl ⟨none,rfl⟩ ?_ ?_
 .rintro k x st hx ⟨x1,rfl⟩
  rw[List.getElem?_map]at hx
  refine x1_1 (Option.map_eq_some_iff.mp hx) fun y hy zL=>?_;subst zL
  have htk:(script.take 40).take (k+1)=(script.take 40).take k++[y]:=by rw[List.take_succ,hy];rfl
  have hs:=seeds_ok ((script.take 40).take k) (s:=13) (by decide)
  rw[htk]
  unfold seed at hs ⊢
  rw[List.foldl_append,List.foldl_cons,List.foldl_nil]
  generalize((script.take 40).take k).foldl (fun s x=>(s*37+(if x<0 then-x else x)).fmod 1000003) 13=s at hs
  refine a_var ?_
  have hmul:binV .mul (.int s) (.int 37)=some (.int (s*37)):=mul_v (by exact o313 hs) (by decide)
  refine ss_assign (ev_bin (v:=.int ((s*37+(if y<0 then-y else y)).fmod 1000003)) (ev_bin (v:=.int (s*37+(if y<0 then-y else y))) (ev_bin (ev_sub (ev_var rfl) ev_lit (sub_ref (k:=1) (boxS_i (by decide)) rfl)) ev_lit hmul) (ev_abs (ev_int (ev_var rfl))) rfl) ev_lit rfl)
   (a_sub (o':=.list [.ref 0,.int ((s*37+(if y<0 then-y else y)).fmod 1000003)]) (ev_var rfl) ev_lit (boxS_i (by decide)) rfl (ss_nil ⟨some (.int y),?_⟩))
  rw[boxS_seti];rfl
 .rintro st ⟨x1,rfl⟩
  have htk:(script.take 40).take ((script.take 40).map PV.int).length=script.take 40:=by rw[List.length_map,List.take_length]
  rw[htk]
  have hb:BoxOk (box0 script):=seeds_ok _ (by decide)
  change wpSs _ _ _ _ ⟨_,boxS B0 1 0 (box0 script)⟩
  refine ss_var (ev_call (es_cons (ev_var rfl) es_nil) (spec42 hK (by decide) (by decide) (by decide) hb (by exact up hd rfl))) ?_
  have hb':BoxOk (genU (box0 script)).2:=by
   have ba:=take_ok hb 6
   have bc:=take_ok ba 3
   have h1:=(blocks_ok bc (many:=4+(take (box0 script) 6).1) (lnds:=2+(take (take (box0 script) 6).2 3).1) (by exact o186) (by exact o314) (4+(take (box0 script) 6).1))
   have h2:=(lands_ok h1.2.2.2 h1.2.2.1 (by omega) (by exact o314) (2+(take (take (box0 script) 6).2 3).1))
   have hp0:0<(blocks (take (take (box0 script) 6).2 3).2 (4+(take (box0 script) 6).1) (2+(take (take (box0 script) 6).2 3).1) (4+(take (box0 script) 6).1)).code.length:=by
    obtain⟨m',hm'⟩:∃m',4+(take (box0 script) 6).1=m'+1:=⟨3+(take (box0 script) 6).1,by exact o187⟩
    rw[hm']
    unfold blocks
    rw[List.length_append]
    have:∀{bb:Box}{l:Nat},0<(block bb m' (m'+1) l).1.length:=fun{bb l}=>by
     unfold block
     rw[if_pos (.inr rfl),List.length_append];exact Nat.succ_pos _
    exact Nat.lt_of_lt_of_le this (Nat.le_add_left _ _)
   exact(hgen_ok (take_ok h2.2.2.2 3) hp0 _).2.2.2
  generalize genU (box0 script)=G at hL hb' ⊢
  obtain⟨u,b⟩:=G
  dsimp only at hL hb' ⊢
  have gu:=hL.good
  have hw:=ev_compS (C:=cxK K w) (d:=d) (elt:=.call 39 [(.var 1),(.lit (.int (12)))]) (src:=.range1 (.lit (.int (11)))) (cs:=[2]) (l:=rngI 0 (11:Nat))
   (rho:=[some (.list (script.map .int)),x1,some (.ref 1),some (encU u),none,none,none,none,none,none,none,none,none]) (sto:=boxS B0 1 0 b) (i_range1 (n:=((11:Nat):Int)) ev_lit (by decide) (by decide)) (by rw[rng_len];decide) (fun k=>natV (take (boxK b k) 12).1) (fun k=>boxS B0 1 0 (boxK b k)) rfl
   (fun k x _=>ev_call (es_cons (ev_var rfl) (es_cons ev_lit es_nil)) (spec39 hK (m:=12) (by decide) (by decide) (by decide) (boxK_ok hb' k) (by decide) (by exact up hd rfl)))
  rw[rng_len,show((List.range 11).map fun k=>natV (take (boxK b k) 12).1)=(words b).map natV by unfold words;rw[List.map_map];rfl]at hw
  refine ss_assign (ev_tup (es_cons (ev_call (es_cons (ev_var rfl) es_nil) (spec48 hK isU_enc gu (by exact up hd rfl))) (es_cons hw es_nil))) (a_tup rfl (as_cons (a_var (as_cons (a_var (as_nil ?_))))))
  have hwl:0<(words b).length:=by unfold words;rw[List.length_map,List.length_range];decide
  generalize words b=ws at hL hwl
  generalize boxS B0 1 0 (boxK b 11)=S
  have gt:=hL.th.good
  have gc:=hL.cl.good
  have gb:=hL.both.good
  have go:=hL.other.good
  refine ss_skip (t_not (z:=true) (t_call (ev_call (es_cons (ev_var rfl) es_nil) (spec38 hK isU_enc gu (by exact up hd rfl))))) ?_
  refine ss_assign (ev_tup (es_cons (ev_call (es_cons (ev_var rfl) es_nil) (spec14 hK isU_enc gu.few (by exact up hd rfl))) (es_cons (ev_call (es_cons (ev_var rfl) es_nil) (spec20 hK hL.once isU_enc gu (by exact o315 hd))) es_nil))) (a_tup rfl (as_cons (a_var (as_cons (a_var (as_nil ?_))))))
  refine ss_assign (ev_tup (es_cons (ev_call (es_cons (ev_var rfl) es_nil) (spec20 hK hL.once isU_enc gt (by exact up hd rfl))) (es_cons (ev_call (es_cons (ev_var rfl) es_nil) (spec14 hK isU_enc gc.few (by exact o316 hd))) es_nil))) (a_tup rfl (as_cons (a_var (as_cons (a_var (as_nil ?_))))))
  refine ss_skip (t_or (or_go (t_not (z:=true) (t_call (ev_call (es_cons (ev_var rfl) es_nil) (spec45 hK isU_enc gt.few gt.within hL.straight (by exact up hd rfl))))) (or_go (t_not (z:=true) (t_call (ev_call (es_cons (ev_var rfl) es_nil) (spec47 hK isU_enc gc.few gc.hfew hL.lean1 (by exact o317 hd))))) (all_last (t_not (z:=true) (t_call (ev_call (es_cons (ev_var rfl) es_nil) (spec47 hK isU_enc gb.few gb.hfew hL.lean2 (by exact o317 hd))))))))) ?_
  have ne_s:∀{s:Str}{S:Sto},cmpV S .ne (.str s) (.str s)=some false:=fun{s S}=>by
   show some (!(s==s))=_
   rw[beq_self_eq_true];rfl
  have s1:=spec14 hK (w:=w) (d:=d) (sto:=S) (p:=encU (thread u)) isU_enc gt.few (by exact up hd rfl)
  rw[hL.again1]at s1
  refine ss_skip (t_chain (ev_call (es_cons (ev_call (es_cons (ev_var rfl) es_nil) s1) es_nil) (spec48 hK isU_enc gt (by exact up hd rfl))) (c_last (ev_call (es_cons (ev_var rfl) es_nil) (spec48 hK isU_enc gt (by exact o317 hd))) ne_s)) ?_
  have s2:=spec20 hK (w:=w) (d:=d) (sto:=S) (p:=encU (clean (thread u))) hL.once isU_enc gb (by exact up hd rfl)
  rw[hL.again2]at s2
  refine ss_skip (t_chain (ev_call (es_cons (ev_call (es_cons (ev_var rfl) es_nil) s2) es_nil) (spec48 hK isU_enc gb (by exact up hd rfl))) (c_last (ev_call (es_cons (ev_var rfl) es_nil) (spec48 hK isU_enc gb (by exact o317 hd))) ne_s)) ?_
  refine ss_var (ev_call (es_cons (ev_var rfl) (es_cons (ev_var rfl) es_nil)) (spec43 hK isU_enc gu hwl (by exact up hd rfl))) ?_
  refine ss_forF (l:=[encU (thread u),encU (clean u),encU (clean (thread u)),encU (thread (clean u))]) (fun k st=>∃x11 x12,st=⟨[some (.list (script.map .int)),x1,some (.ref 1),some (encU u),some (shownU u),some (linesV ws),some (encU (thread u)),some (encU (clean u)),some (encU (clean (thread u))),some (encU (thread (clean u))),some (eventsV (events u ws)),x11,x12],S⟩)
   (i_tup (ev_tup (es_cons (ev_var rfl) (es_cons (ev_var rfl) (es_cons (ev_var rfl) (es_cons (ev_var rfl) es_nil)))))) ⟨none,none,rfl⟩ ?_ ?_
  .rintro k x st hx ⟨x11,x12,rfl⟩
   obtain⟨m,rfl,hm⟩:∃m,x=encU m∧MadeOk u m ws:=by
    have:=List.mem_of_getElem? hx
    simp only[List.mem_cons,List.not_mem_nil,or_false]at this
    rcases this with rfl|rfl|rfl|rfl
    .exact⟨_,rfl,hL.th⟩
    .exact⟨_,rfl,hL.cl⟩
    .exact⟨_,rfl,hL.both⟩
    .exact⟨_,rfl,hL.other⟩
   have gm:=hm.good
   refine a_var (ss_var (ev_call (es_cons (ev_var rfl) (es_cons (ev_var rfl) es_nil)) (spec43 hK isU_enc gm hwl (by exact up hd rfl))) ?_)
   have hsame:eventsV (events m ws)=.tup [.list ((events u ws).1.map encE),.int (events m ws).2]:=by unfold eventsV;rw[hm.same]
   rw[hsame]
   refine ss_skip (t_or (or_go (t_chain (ev_sub (ev_var rfl) ev_lit rfl) (c_last (ev_sub (ev_var rfl) ev_lit rfl) ne_events)) (or_go (t_chain (ev_sub (ev_var rfl) ev_lit rfl) (c_last (ev_sub (ev_var rfl) ev_lit rfl) (gt_f (by have:=hm.less;exact o84 this)))) (all_last (t_not (z:=true) (t_call (ev_call (es_cons (ev_var rfl) es_nil) (spec38 hK isU_enc gm (by exact o318 hd))))))))) ?_
   have hcomp:=ev_comp (C:=cxK K w) (d:=d) (elt:=.var 0) (src:=.val (.attr (.var 11) 6)) (ifs:=[(.chain (.var 0) [(.notIn,(.attr (.var 1) 6))])]) (cs:=[3]) (l:=m.lines.map natV)
    (rho:=[some (.list (script.map .int)),x1,some (.ref 1),some (encU u),some (shownU u),some (linesV ws),some (encU (thread u)),some (encU (clean u)),some (encU (clean (thread u))),some (encU (thread (clean u))),some (eventsV (events u ws)),some (encU m),some (.tup [.list ((events u ws).1.map encE),.int (events m ws).2])]) (sto:=S)
    (i_list (ev_attr (ev_var rfl) (isU_enc (u:=m) 6))) (by rw[List.length_map,gm.lens];have:=gm.few;show _≤16777216;exact Nat.le_trans this (Nat.le_add_left _ _)) (fun _=>false) id
    (fun x hx=>by
     refine x1_1 (List.mem_map.mp hx) fun l hl zL=>?_;subst zL
     exact all_last (t_chain (ev_var rfl) (c_last (ev_attr (ev_var rfl) (isU_enc (u:=u) 6)) (notin_lines (hm.lines l hl))))) (fun x hx h=>by contradiction)
   have hce:(((m.lines.map natV).filter fun _=>false).map id)=[]:=by rw[List.map_id,List.filter_eq_nil_iff];simp
   rw[hce]at hcomp
   refine ss_skip (t_or (or_go (t_chain hcomp (c_last (ev_listF es_nil) rfl)) (all_last (t_chain (ev_len (ev_attr (ev_var rfl) (isU_enc (u:=m) 6)) len_list) (c_last (len_unit rfl isU_enc) (ne_f (by rw[List.length_map,gm.lens]))))))) (ss_nil ⟨some (encU m),some (.tup [.list ((events u ws).1.map encE),.int (events m ws).2]),rfl⟩)
  .rintro st ⟨x11,x12,rfl⟩
   refine ss_ret (ev_chain (z:=true) (ev_call (es_cons (ev_var rfl) es_nil) (spec48 hK isU_enc gu (by exact up hd rfl))) (c_last (ev_var rfl) ?_)) (q _)
   show some ((unitD u).shown==(unitD u).shown)=_
   rw[beq_self_eq_true]
end
end Mine.Internal
namespace Mine.Internal
section
variable {α:Type} {f:α→Option α}
noncomputable def it(f:α→Option α):Nat→α→Option α
 |0,x=>some x
 |k+1,x=>(f x).bind (it f k)
theorem it_add:∀(a b:Nat)(x:α),it f (a+b) x=(it f a x).bind (it f b)
 |0,b,x=>by rw[Nat.zero_add];rfl
 |a+1,b,x=>by
  rw[Nat.add_right_comm]
  show(f x).bind _=((f x).bind _).bind _
  cases f x with
  |none=>rfl
  |some y=>exact it_add a b y
theorem it_then{a b:Nat}{x y z:α}(h:it f a x=some y)(g:it f b y=some z):it f (a+b) x=some z:=by
 rw[it_add,h];exact g
theorem it_from{a b:Nat}{x y:α}(h:it f a x=some y):it f (a+b) x=it f b y:=by
 rw[it_add,h];rfl
theorem it_end{a b:Nat}{x y:α}(h:it f a x=some y)(e:f y=none):it f (a+1+b) x=none:=by
 rw[Nat.add_assoc,it_from h,Nat.add_comm 1 b]
 show(f y).bind _=none
 rw[e];rfl
theorem it_per{c:Nat}{x:α}(h:it f c x=some x):∀q,it f (c*q) x=some x
 |0=>rfl
 |q+1=>by rw[Nat.mul_succ];exact it_then (it_per h q) h
theorem it_inv{P:α→Prop}(h:∀x y,P x→f x=some y→P y):∀{k:Nat}{x y:α},P x→it f k x=some y→P y
 |0,x,y,hx,e=>by obtain rfl:=Option.some.inj e;exact hx
 |k+1,x,y,hx,e=>by
  have e:(f x).bind (it f k)=some y:=e
  cases h1:f x with
  |none=>rw[h1]at e;exact nN e
  |some z=>rw[h1]at e;exact it_inv h (h x z hx h1) e
noncomputable def Per(f:α→Option α)(x:α):Prop:=∃c,it f (c+1) x=some x
noncomputable def Fix(f:α→Option α)(x:α):Prop:=f x=none∨Per f x
noncomputable def Conv(f:α→Option α)(x:α)(k:Nat)(v:α):Prop:=it f k x=some v∧f v=none
theorem per_on{x y:α}(h:Per f x)(e:f x=some y):Per f y:=by
 obtain⟨c,hc⟩:=h
 have hc:(f x).bind (it f c)=some x:=hc
 rw[e]at hc
 exact⟨c,it_then hc (show it f 1 x=some y from by show(f x).bind _=_;rw[e];rfl)⟩
theorem per_some{x:α}(h:Per f x):∃y,f x=some y:=by
 obtain⟨c,hc⟩:=h
 have hc:(f x).bind (it f c)=some x:=hc
 cases e:f x with
 |none=>rw[e]at hc;exact nN hc
 |some y=>exact⟨y,rfl⟩
theorem conv_per{x v:α}{k:Nat}(h:Per f x)(c:Conv f x k v):False:=by
 obtain⟨n,hn⟩:=h
 have h1:=it_per hn (k+1)
 have:(n+1)*(k+1)=k+1+n*(k+1):=by rw[Nat.add_mul,Nat.one_mul,Nat.add_comm]
 rw[this,it_end c.1 c.2]at h1
 exact nN h1
theorem conv_uniq{x v w:α}{k j:Nat}(a:Conv f x k v)(b:Conv f x j w):k=j∧v=w:=by
 have key:∀{k j:Nat}{v w:α},Conv f x k v→Conv f x j w→¬k<j:=fun{k j v w} a b h=>by
  have:=b.1
  rw[show j=k+1+(j-(k+1))by exact o188 h,it_end a.1 a.2]at this
  exact nN this
 have e:k=j:=by have:=key a b;have:=key b a;exact o189 (by assumption) this
 subst e
 exact⟨rfl,Option.some.inj (a.1.symm.trans b.1)⟩
theorem conv_after{x y v:α}{k j:Nat}(a:it f j x=some y)(b:Conv f x k v):Conv f y (k-j) v:=by
 refine⟨?_,b.2⟩
 rcases Nat.lt_or_ge k j with h|h
 .rw[show j=k+1+(j-(k+1))by exact o188 h,it_end b.1 b.2]at a
  exact nN a
 .rw[←it_from a,show j+(k-j)=k by exact o190 h];exact b.1
structure Ends(f:α→Option α)(N:Nat)(x:α)(k:Nat)(y:α):Prop where
 le:k≤N
 to:it f k x=some y
 inj:∀i j,i<j→j<k→it f i x≠it f j x
 stop:f y=none∨∃i,i<k∧it f i x=some y
theorem Ends.fix{N k:Nat}{x y:α}(E:Ends f N x k y):Fix f y:=by
 rcases E.stop with h|⟨i,hi,h⟩
 .exact .inl h
 .refine .inr ⟨k-i-1,?_⟩
  rw[←it_from h,show i+(k-i-1+1)=k by exact o191 hi];exact E.to
theorem Ends.same{N k:Nat}{x y:α}(E:Ends f N x k y)(h:Fix f x):y=x:=by
 rcases h with h|⟨c,hc⟩
 .cases k with
  |zero=>exact(Option.some.inj E.to).symm
  |succ k=>have h2:(f x).bind _=some y:=E.to;rw[h]at h2;exact nN h2
 .rcases E.stop with h|⟨i,hi,h⟩
  .exact(conv_per ⟨c,hc⟩ ⟨E.to,h⟩).elim
  .have h1:it f (c*i) y=some x:=by
    rw[←it_from h,show i+c*i=(c+1)*i by rw[Nat.add_mul,Nat.one_mul,Nat.add_comm]];exact it_per hc i
   have h2:it f (k-i) x=some x:=by
    have h3:=it_then E.to h1
    rw[show k+c*i=(c+1)*i+(k-i)by rw[Nat.add_mul,Nat.one_mul];exact o192 hi,it_from (it_per hc i)]at h3
    exact h3
   rcases Nat.eq_zero_or_pos i with rfl|hp
   .exact(Option.some.inj h).symm
   .exact(E.inj 0 (k-i) (by exact Nat.sub_pos_of_lt hi) (by exact o319 hi hp) h2.symm).elim
theorem Ends.conv{N k m:Nat}{x y v:α}(E:Ends f N x k y)(c:Conv f x m v):m≤N:=by
 rcases E.fix with h|h
 .rw[(conv_uniq c ⟨E.to,h⟩).1];exact E.le
 .exact(conv_per h (conv_after E.to c)).elim
section
variable [DecidableEq α]
noncomputable def walk(f:α→Option α):Nat→List α→α→α
 |0,_,x=>x
 |n+1,seen,x=>match f x with
  |none=>x
  |some y=>if x∈seen then x else walk f n (seen++[x]) y
variable {P:α→Prop} {enc:α→Nat} {N:Nat}
theorem walk_go(hP:∀x y,P x→f x=some y→P y∧enc x<N)(hi:∀x x',P x→P x'→f x≠none→f x'≠none→enc x=enc x'→x=x'){x:α}:
  ∀(n:Nat)(seen:List α)(k:Nat)(y:α),k+n=N+1→it f k x=some y→P y→seen.length=k→(∀i z,seen[i]? =some z→it f i x=some z∧P z∧f z≠none)→seen.Nodup→∃k',Ends f N x k' (walk f n seen y):=by
 intro n
 have le:∀{seen:List α},(∀i z,seen[i]? =some z→it f i x=some z∧P z∧f z≠none)→seen.Nodup→seen.length≤N:=fun{seen} h nd=>by
  have h1:∀z∈seen,P z∧f z≠none:=fun z hz=>by
   obtain⟨i,e⟩:=List.mem_iff_getElem?.mp hz
   exact(h i z e).2
  have h2:(seen.map enc).Nodup:=List.pairwise_map.mpr (nd.imp_of_mem fun{a b} ha hb hab e=>hab (hi a b (h1 a ha).1 (h1 b hb).1 (h1 a ha).2 (h1 b hb).2 e))
  have:=nodup_le h2 (n:=N) fun q hq=>by
   refine x1_1 (List.mem_map.mp hq) fun z hz zL=>?_;subst zL
   obtain⟨w,hw⟩:=Option.ne_none_iff_exists'.mp (h1 z hz).2
   exact(hP z w (h1 z hz).1 hw).2
  rwa [List.length_map]at this
 induction n with
 |zero=>intro seen k y e _ _ hl h nd;have:=le h nd;omega
 |succ n ih=>
  intro seen k y e hto hy hl h nd
  have inj:∀i j,i<j→j<k→it f i x≠it f j x:=fun i j hij hj e=>by
   have h1:=(h i seen[i] (List.getElem?_eq_getElem (by exact o193 (by assumption) hl hij hj))).1
   have h2:=(h j seen[j] (List.getElem?_eq_getElem (by exact Nat.le_trans hj (Nat.le_of_eq hl.symm)))).1
   rw[h1,h2]at e
   exact List.pairwise_iff_getElem.mp nd i j (by exact o193 (by assumption) hl hij hj) (by exact o320 (by assumption) hl hj) hij (Option.some.inj e)
  have hk:k≤N:=hl▸le h nd
  unfold walk
  split
  .next hf=>exact⟨k,hk,hto,inj,.inl hf⟩
  .next z hf=>
   split
   .next hm=>
    obtain⟨i,hi⟩:=List.mem_iff_getElem?.mp hm
    exact⟨k,hk,hto,inj,.inr ⟨i,by have:=(List.getElem?_eq_some_iff.mp hi).1;exact Nat.le_trans this (Nat.le_of_eq hl),(h i y hi).1⟩⟩
   .next hm=>
    refine ih (seen++[y]) (k+1) z (by exact o194 e) (it_then hto (show(f y).bind _=some z by rw[hf];rfl)) (hP y z hy hf).1 (by rw[List.length_append,hl];rfl) ?_ ?_
    .intro i w hw
     rw[List.getElem?_append]at hw
     split at hw
     .exact h i w hw
     .next hlt=>
      have:i=k:=by
       have:=(List.getElem?_eq_some_iff.mp hw).1
       simp only[List.length_singleton]at this
       exact o195 e hl hlt this
      subst this
      rw[hl,Nat.sub_self]at hw
      obtain rfl:=Option.some.inj hw
      exact⟨hto,hy,by rw[hf];exact fun h=>by exact nS h⟩
    .exact List.nodup_append.mpr ⟨nd,nd1,fun a ha b hb e=>hm (by rw[List.mem_singleton]at hb;rw[←hb, ←e];exact ha)⟩
theorem walk_ends(hP:∀x y,P x→f x=some y→P y∧enc x<N)(hi:∀x x',P x→P x'→f x≠none→f x'≠none→enc x=enc x'→x=x'){x:α}(hx:P x):∃k,Ends f N x k (walk f (N+1) [] x):=
 walk_go hP hi (N+1) [] 0 x (by exact Nat.add_comm _ _) rfl hx rfl (fun i z h=>by exact nN h) List.nodup_nil
end
end
end Mine.Internal
namespace Mine.Internal
noncomputable def Typed(ty:Nat→Nat)(c:List I):Prop:=∀pc i,c[pc]? =some i→tyOk ty c.length pc i
noncomputable def fj(c:List I)(p:Nat):Option Nat:=match c[p]? with
 |some (.jmp t)=>some t
 |_=>none
theorem fj_some{c:List I}{p t:Nat}:fj c p=some t↔c[p]? =some (.jmp t):=by
 unfold fj
 split
 .next s h=>rw[h];exact⟨fun e=>(by obtain rfl:=Option.some.inj e;rfl),fun e=>(by cases e;rfl)⟩
 .next h=>exact⟨fun e=>(by exact nN e),fun e=>(h _ e).elim⟩
noncomputable def fk(c:List I)(b:Bool)(x:Bool×Nat):Option (Bool×Nat):=if x.1 then(keptStep c b x.2).map fun r=>(r.1,endOf c r.2)else none
theorem end_walk(c:List I):∀n seen p,endGo c n seen p=walk (fj c) n seen p
 |0,_,_=>rfl
 |n+1,seen,p=>by
  unfold endGo walk
  cases h:fj c p with
  |none=>
   dsimp only
   split
   .next t h2=>rw[fj_some.mpr h2]at h;exact nS h
   .rfl
  |some t=>
   rw[fj_some.mp h]
   dsimp only
   rw[end_walk c n]
theorem th_walk(c:List I)(b:Bool):∀n seen k p,thGo c b n seen k p=walk (fk c b) n (seen.map (true, ·)) (k,p)
 |0,_,_,_=>rfl
 |n+1,seen,k,p=>by
  unfold thGo walk fk
  cases k with
  |false=>rfl
  |true=>
   have hm:((true,p)∈seen.map (true, ·))↔p∈seen:=by simp
   dsimp only
   rw[if_pos rfl]
   cases h:keptStep c b p with
   |none=>dsimp only[Option.map];split<;>rfl
   |some r=>
    dsimp only[Option.map]
    by_cases hp:p∈seen
    .rw[if_neg (fun h=>h.2 hp),if_pos (hm.mpr hp)]
    .rw[if_pos ⟨rfl,hp⟩,if_neg (fun h=>hp (hm.mp h)),th_walk c b n,List.map_append]
     rfl
theorem end_ends(c:List I)(p:Nat):∃k,Ends (fj c) c.length p k (endOf c p):=by
 unfold endOf
 rw[end_walk]
 refine walk_ends (P:=fun _=>True) (enc:=id) (fun x y _ h=>⟨trivial,?_⟩) (fun _ _ _ _ _ _ e=>e) trivial
 exact(List.getElem?_eq_some_iff.mp (fj_some.mp h)).1
theorem th_ends(c:List I)(b k:Bool)(t:Nat):∃n,Ends (fk c b) c.length (k,endOf c t) n (threaded c k b t):=by
 unfold threaded
 rw[th_walk]
 have hk:∀{x:Bool×Nat},fk c b x≠none→x.1=true:=fun{x} h=>by
  unfold fk at h
  cases h1:x.1 with
  |true=>rfl
  |false=>rw[h1]at h;exact(h rfl).elim
 refine walk_ends (P:=fun _=>True) (enc:=Prod.snd) (fun x y _ h=>⟨trivial,?_⟩) (fun x y _ _ hx hy e=>Prod.ext ((hk hx).trans (hk hy).symm) e) trivial
 have h1:=hk (x:=x) (by rw[h];exact fun e=>by exact nS e)
 unfold fk at h
 rw[if_pos h1]at h
 refine x1_1 (Option.map_eq_some_iff.mp h) fun r hr _=>?_
 exact kept_lt hr
theorem end_fix(c:List I)(p:Nat):Fix (fj c) (endOf c p):=by
 obtain⟨k,E⟩:=end_ends c p
 exact E.fix
theorem end_same{c:List I}{p:Nat}(h:Fix (fj c) p):endOf c p=p:=by
 obtain⟨k,E⟩:=end_ends c p
 exact E.same h
theorem th_fix(c:List I)(b k:Bool)(t:Nat):Fix (fk c b) (threaded c k b t):=by
 obtain⟨n,E⟩:=th_ends c b k t
 exact E.fix
theorem fk_some{c:List I}{b:Bool}{x y:Bool×Nat}(h:fk c b x=some y):x.1=true∧∃r,keptStep c b x.2=some r∧y=(r.1,endOf c r.2):=by
 unfold fk at h
 split at h
 .next h1=>
  refine x1_1 (Option.map_eq_some_iff.mp h) fun r hr e=>?_
  exact⟨h1,r,hr,e.symm⟩
 .exact nN h
theorem th_fixj(c:List I)(b k:Bool)(t:Nat):Fix (fj c) (threaded c k b t).2:=by
 obtain⟨n,E⟩:=th_ends c b k t
 refine it_inv (P:=fun x=>Fix (fj c) x.2) (fun x y _ e=>?_) (end_fix c t) E.to
 refine x0_1 (fk_some e) fun _ zR=>x1_1 zR fun r _ zL=>?_;subst zL
 exact end_fix c r.2
theorem th_same{c:List I}{b k:Bool}{t:Nat}(hj:Fix (fj c) t)(h:Fix (fk c b) (k,t)):threaded c k b t=(k,t):=by
 obtain⟨n,E⟩:=th_ends c b k t
 rw[end_same hj]at E
 exact E.same h
noncomputable def thC(c:List I):List I:=c.map (thI c)
theorem thC_at(c:List I)(p:Nat):(thC c)[p]? =(c[p]?).map (thI c):=List.getElem?_map
theorem thI_jmp{c:List I}{i:I}{t:Nat}(h:thI c i=.jmp t):∃s,i=.jmp s∧t=endOf c s:=by
 cases i<;>first|cases h;exact⟨_,rfl,rfl⟩|cases h
theorem fj_none{c:List I}{p:Nat}(h:fj c p=none):fj (thC c) p=none:=by
 cases e:fj (thC c) p with
 |none=>rfl
 |some t=>
  have:=fj_some.mp e
  rw[thC_at]at this
  refine x1_1 (Option.map_eq_some_iff.mp this) fun i h1 h2=>?_
  refine x1_1 (thI_jmp h2) fun s zE _=>?_;subst zE
  rw[fj_some.mpr h1]at h;exact nS h
theorem it_same{α:Type}{f g:α→Option α}(h:∀x,Per f x→g x=f x):∀{k:Nat}{x:α},Per f x→it g k x=it f k x
 |0,_,_=>rfl
 |k+1,x,hx=>by
  show(g x).bind _=(f x).bind _
  rw[h x hx]
  obtain⟨y,hy⟩:=per_some hx
  rw[hy]
  exact it_same h (per_on hx hy)
theorem per_same{α:Type}{f g:α→Option α}(h:∀x,Per f x→g x=f x){x:α}(hx:Per f x):Per g x:=by
 obtain⟨c,hc⟩:=hx
 exact⟨c,(it_same h ⟨c,hc⟩).trans hc⟩
theorem fj_per{c:List I}{p:Nat}(h:Per (fj c) p):fj (thC c) p=fj c p:=by
 obtain⟨t,ht⟩:=per_some h
 rw[ht]
 refine fj_some.mpr ?_
 rw[thC_at,fj_some.mp ht]
 show some (I.jmp (endOf c t))=_
 rw[end_same (.inr (per_on h ht))]
theorem fix_j{c:List I}{p:Nat}(h:Fix (fj c) p):Fix (fj (thC c)) p:=h.elim (fun h=>.inl (fj_none h)) fun h=>.inr (per_same (fun _=>fj_per) h)
theorem end_end(c:List I)(t:Nat):endOf (thC c) (endOf c t)=endOf c t:=end_same (fix_j (end_fix c t))
theorem kept_none{c:List I}{b:Bool}{p:Nat}(h:keptStep c b p=none):keptStep (thC c) b p=none:=by
 unfold keptStep at h ⊢
 rw[thC_at]
 cases e:c[p]? with
 |none=>rfl
 |some i=>
  rw[e]at h
  cases i<;>first
   |rfl
   |(exfalso;dsimp only at h;contradiction;done)
   |(exfalso;dsimp only at h;split at h<;>exact nS h)
theorem ring_at{c:List I}{b k:Bool}{p:Nat}(h:Per (fk c b) (k,p)):k=true∧∃t,c[p]? =some (.tst true b t)∧fk c b (k,p)=some (true,endOf c t)∧Per (fk c b) (true,endOf c t):=by
 obtain⟨y,hy⟩:=per_some h
 have h2:=per_on h hy
 obtain⟨z,hz⟩:=per_some h2
 refine x0_1 (fk_some hy) fun h1 zR=>x1_1 zR fun r hr zL=>?_;subst zL
 have h3:r.1=true:=(fk_some hz).1
 refine⟨h1,?_⟩
 unfold keptStep at hr
 dsimp only at hr
 split at hr
 .obtain rfl:=Option.some.inj hr;exact nF h3
 .split at hr
  .next e=>obtain rfl:=Option.some.inj hr;dsimp only at h3;subst e;subst h3;exact⟨_,by assumption,hy,h2⟩
  .obtain rfl:=Option.some.inj hr;exact nF h3
 .exact nN hr
theorem ring_th{c:List I}{b k:Bool}{p t:Nat}(h:Per (fk c b) (k,p))(hj:Fix (fj c) p)(ht:c[p]? =some (.tst true b t)):(thC c)[p]? =some (.tst true b (endOf c t)):=by
 refine x0_1 (ring_at h) fun _ zR=>x1_2 zR fun s hs _ h3=>?_
 rw[ht]at hs
 cases hs
 rw[thC_at,ht]
 show some (I.tst (threaded c true b t).1 b (threaded c true b t).2)=_
 have:threaded c true b t=(true,endOf c t):=by
  obtain⟨n,E⟩:=th_ends c b true t
  exact E.same (.inr h3)
 rw[this]
theorem fk_per{c:List I}{b:Bool}{x:Bool×Nat}(h:Per (fk c b) x):fk (thC c) b x=fk c b x:=by
 obtain⟨k,p⟩:=x
 refine x0_1 (ring_at h) fun zE zR=>?_;subst zE;refine x1_2 zR fun t ht h2 h3=>?_
 have hj:Fix (fj c) p:=.inl (by unfold fj;rw[ht])
 rw[h2]
 unfold fk keptStep
 dsimp only
 rw[ring_th h hj ht]
 dsimp only
 rw[if_pos rfl,if_pos rfl]
 show some (true,endOf (thC c) (endOf c t))=_
 rw[end_end]
theorem fix_k{c:List I}{b:Bool}{x:Bool×Nat}(h:Fix (fk c b) x):Fix (fk (thC c) b) x:=by
 refine h.elim (fun h=>.inl ?_) fun h=>.inr (per_same (fun _=>fk_per) h)
 unfold fk at h ⊢
 split at h
 .next h1=>
  rw[if_pos h1]
  rw[Option.map_eq_none_iff]at h ⊢
  exact kept_none h
 .next h1=>rw[if_neg h1]
theorem th_th(c:List I)(k b:Bool)(t:Nat):threaded (thC c) (threaded c k b t).1 b (threaded c k b t).2=threaded c k b t:=th_same (fix_j (th_fixj c b k t)) (fix_k (th_fix c b k t))
theorem thread_thread(u:U):thread (thread u)=thread u:=by
 show U.mk ((thC u.code).map (thI (thC u.code))) u.hs u.lines=U.mk (thC u.code) u.hs u.lines
 congr 1
 unfold thC
 rw[List.map_map]
 refine List.map_congr_left fun i _=>?_
 show thI (thC u.code) (thI u.code i)=_
 cases i with
 |jmp t=>exact congrArg I.jmp (end_end _ t)
 |tst k b t=>
  show I.tst _ b _=I.tst _ b _
  rw[th_th]
 |_=>rfl
end Mine.Internal
namespace Mine.Internal
theorem end_ty{ty:Nat→Nat}{c:List I}(hty:Typed ty c){p:Nat}(hp:p<c.length):endOf c p<c.length∧ty (endOf c p)=ty p:=by
 obtain⟨k,E⟩:=end_ends c p
 refine it_inv (P:=fun q=>q<c.length∧ty q=ty p) (fun x y hx e=>?_) ⟨hp,rfl⟩ E.to
 have:=hty x _ (fj_some.mp e)
 exact⟨this.1,this.2.trans hx.2⟩
noncomputable def tyB(k:Bool):Nat:=if k then 1 else 0
theorem kept_ty{ty:Nat→Nat}{c:List I}(hty:Typed ty c){b:Bool}{p:Nat}{r:Bool×Nat}(h:keptStep c b p=some r):r.2<c.length∧ty r.2=tyB r.1:=by
 unfold keptStep at h
 split at h
 .next e=>obtain rfl:=Option.some.inj h;exact⟨(hty _ _ e).2.1,(hty _ _ e).2.2⟩
 .next e=>
  have h4:=hty _ _ e
  split at h
  .obtain rfl:=Option.some.inj h;exact⟨h4.2.2.2.1,h4.2.2.2.2⟩
  .obtain rfl:=Option.some.inj h;exact⟨h4.2.1,h4.2.2.1⟩
 .contradiction
theorem th_ty{ty:Nat→Nat}{c:List I}(hty:Typed ty c){b k:Bool}{t:Nat}(ht:t<c.length)(hk:ty t=tyB k):(threaded c k b t).2<c.length∧ty (threaded c k b t).2=tyB (threaded c k b t).1:=by
 obtain⟨n,E⟩:=th_ends c b k t
 refine it_inv (P:=fun x=>x.2<c.length∧ty x.2=tyB x.1) (fun x y hx e=>?_) ?_ E.to
 .refine x0_1 (fk_some e) fun _ zR=>x1_1 zR fun r hr zL=>?_;subst zL
  obtain⟨h1,h2⟩:=kept_ty hty hr
  exact⟨(end_ty hty h1).1,(end_ty hty h1).2.trans h2⟩
 .exact⟨(end_ty hty ht).1,(end_ty hty ht).2.trans hk⟩
theorem thC_typed{ty:Nat→Nat}{c:List I}(hty:Typed ty c):Typed ty (thC c):=fun pc i h=>by
 rw[thC_at]at h
 refine x1_1 (Option.map_eq_some_iff.mp h) fun j hj zL=>?_;subst zL
 have h1:=hty pc j hj
 rw[show(thC c).length=c.length from List.length_map _]
 cases j with
 |jmp t=>exact⟨(end_ty hty h1.1).1,(end_ty hty h1.1).2.trans h1.2⟩
 |tst k b t=>exact⟨h1.1,h1.2.1,h1.2.2.1,th_ty hty h1.2.2.2.1 h1.2.2.2.2⟩
 |_=>exact h1
theorem thread_good{u:U}(g:Good u):Good (thread u):=by
 have hl:(thread u).code.length=u.code.length:=List.length_map _
 refine x1_3 g.ty fun ty h0 h1 h2 h3=>?_
 exact⟨hl▸g.ne,hl▸g.few,hl▸g.lens,g.small,⟨ty,h0,h1,thC_typed h2,h3⟩,hl▸g.hs,g.nest,g.hfew⟩
noncomputable abbrev S:=Nat×List Bool
noncomputable def sil(c:List I)(x:S):Option S:=match c[x.1]? with
 |some .pop=>some (x.1+1,x.2.dropLast)
 |some (.jmp t)=>some (t,x.2)
 |some (.tst k b t)=>some (if x.2.getLast?=some b then(t,if k then x.2 else x.2.dropLast)else(x.1+1,x.2.dropLast))
 |_=>none
noncomputable def TyS(ty:Nat→Nat)(c:List I)(x:S):Prop:=x.1<c.length∧x.2.length=ty x.1
theorem sil_ty{ty:Nat→Nat}{c:List I}(hty:Typed ty c){x y:S}(h:TyS ty c x)(e:sil c x=some y):TyS ty c y:=by
 obtain⟨pc,s⟩:=x
 unfold sil at e
 split at e
 .next hi=>
  obtain rfl:=Option.some.inj e
  have h1:=hty _ _ hi
  refine⟨h1.2.1,?_⟩
  have:=h.2
  rw[List.length_dropLast,this,h1.1,h1.2.2]
 .next hi=>obtain rfl:=Option.some.inj e;exact⟨(hty _ _ hi).1,h.2.trans (hty _ _ hi).2.symm⟩
 .next k b t hi=>
  have h1:=hty _ _ hi
  have hl:s.length=1:=h.2.trans h1.1
  obtain rfl:=Option.some.inj e
  split
  .refine⟨h1.2.2.2.1,h1.2.2.2.2.trans ?_ |>.symm⟩
   cases k
   .exact(List.length_dropLast.trans (by rw[hl];rfl)).symm
   .exact hl.symm
  .exact⟨h1.2.1,(List.length_dropLast.trans (by rw[hl])).trans h1.2.2.1.symm⟩
 .contradiction
theorem it_long{α β:Type}{f:α→Option α}{g:β→Option β}{r:α→β}(h:∀x y,f x=some y→∃j,it g (j+1) (r x)=some (r y)):∀{k:Nat}{x y:α},it f k x=some y→∃j,k≤j∧it g j (r x)=some (r y)
 |0,x,y,e=>by obtain rfl:=Option.some.inj e;exact⟨0,Nat.le_refl _,rfl⟩
 |k+1,x,y,e=>by
  have e:(f x).bind (it f k)=some y:=e
  cases h1:f x with
  |none=>rw[h1]at e;contradiction
  |some z=>
   rw[h1]at e
   obtain⟨j,hj⟩:=h x z h1
   refine x1_1 (it_long h (k:=k) e) fun m hm hm2=>?_
   exact⟨j+1+m,by exact o196 hm,it_then hj hm2⟩
theorem sil_end{c:List I}{p:Nat}{s:List Bool}:∃j,it (sil c) j (p,s)=some (endOf c p,s):=by
 obtain⟨k,E⟩:=end_ends c p
 obtain⟨j,_,h⟩:=it_long (f:=fj c) (g:=sil c) (r:=fun p=>(p,s)) (fun x y e=>⟨0,by
  show(sil c (x,s)).bind _=_
  unfold sil;dsimp only;rw[fj_some.mp e];rfl⟩) E.to
 exact⟨j,h⟩
noncomputable def stkB(b k:Bool):List Bool:=if k then[b]else[]
theorem sil_th{c:List I}{b k:Bool}{t:Nat}:∃j,it (sil c) j (t,stkB b k)=some ((threaded c k b t).2,stkB b (threaded c k b t).1):=by
 obtain⟨n,E⟩:=th_ends c b k t
 obtain⟨j,_,h⟩:=it_long (f:=fk c b) (g:=sil c) (r:=fun x=>(x.2,stkB b x.1)) (fun x y e=>by
  obtain⟨k,p⟩:=x
  refine x0_1 (fk_some e) fun h1 zR=>x1_1 zR fun r hr zL=>?_;subst zL
  subst h1
  obtain⟨j,hj⟩:=sil_end (c:=c) (p:=r.2) (s:=stkB b r.1)
  refine⟨j,?_⟩
  show(sil c (p,[b])).bind _=_
  have:sil c (p,[b])=some (r.2,stkB b r.1):=by
   unfold keptStep at hr
   unfold sil
   split at hr
   .next e=>rw[e];obtain rfl:=Option.some.inj hr;rfl
   .next k' b' t' e=>
    rw[e]
    dsimp only
    split at hr
    .next e2=>obtain rfl:=Option.some.inj hr;subst e2;rw[show[b'].getLast?=some b' from rfl,if_pos rfl];cases k'<;>rfl
    .next e2=>obtain rfl:=Option.some.inj hr;rw[show[b].getLast?=some b from rfl,if_neg (fun h=>e2 (Option.some.inj h).symm)];rfl
   .contradiction
  rw[this];exact hj) E.to
 obtain⟨i,hi⟩:=sil_end (c:=c) (p:=t) (s:=stkB b k)
 exact⟨i+j,it_then hi h⟩
theorem thC_none{c:List I}{x:S}(h:sil (thC c) x=none):sil c x=none:=by
 unfold sil at h ⊢
 rw[thC_at]at h
 cases e:c[x.1]? with
 |none=>rfl
 |some i=>
  rw[e]at h
  cases i<;>first|rfl|(exfalso;contradiction;done)
theorem thC_step{ty:Nat→Nat}{c:List I}(hty:Typed ty c){x y:S}(hx:TyS ty c x)(e:sil (thC c) x=some y):∃j,it (sil c) (j+1) x=some y:=by
 obtain⟨pc,s⟩:=x
 have go:∀{z:S}{j:Nat},sil c (pc,s)=some z→it (sil c) j z=some y→∃j,it (sil c) (j+1) (pc,s)=some y:=fun{z j} h1 h2=>⟨j,by
  show(sil c (pc,s)).bind _=_
  rw[h1];exact h2⟩
 cases hi:c[pc]? with
 |none=>unfold sil at e;rw[thC_at,hi]at e;contradiction
 |some i=>
  have h1:=hty pc i hi
  unfold sil at e
  rw[thC_at,hi]at e
  cases i with
  |pop=>exact go (z:=y) (j:=0) (by unfold sil;dsimp only;rw[hi];exact e) rfl
  |jmp t=>
   dsimp only[Option.map,thI]at e
   obtain rfl:=Option.some.inj e
   obtain⟨j,hj⟩:=sil_end (c:=c) (p:=t) (s:=s)
   exact go (by unfold sil;dsimp only;rw[hi]) hj
  |tst k b t=>
   dsimp only[Option.map,thI]at e
   obtain rfl:=Option.some.inj e
   by_cases hb:s.getLast?=some b
   .have hs:s=[b]:=by
     have hl:s.length=1:=hx.2.trans h1.1
     match s,hl,hb with
     |[a],_,hb=>obtain rfl:=Option.some.inj hb;rfl
    subst hs
    rw[show[b].getLast?=some b from rfl,if_pos rfl]at go ⊢
    obtain⟨j,hj⟩:=sil_th (c:=c) (b:=b) (k:=k) (t:=t)
    refine go (z:=(t,stkB b k)) (by unfold sil;dsimp only;rw[hi];dsimp only;rw[show[b].getLast?=some b from rfl,if_pos rfl];cases k<;>rfl) (hj.trans ?_)
    cases(threaded c k b t).1<;>rfl
   .rw[if_neg hb]at go ⊢
    exact go (j:=0) (by unfold sil;dsimp only;rw[hi];dsimp only;rw[if_neg hb]) rfl
  |_=>contradiction
theorem ends_ring{c:List I}:∀(n:Nat){met:List Nat}{p:Nat},met.Nodup→(∀q∈met,q<c.length)→n+met.length=c.length+1→Per (fj c) p→(endsGo c n met p).2=none
 |0,met,p,nd,hm,e,_=>by have:=nodup_le nd hm;omega
 |n+1,met,p,nd,hm,e,hp=>by
  obtain⟨t,ht⟩:=per_some hp
  unfold endsGo
  rw[fj_some.mp ht]
  dsimp only
  split
  .rfl
  .next h=>
   exact ends_ring n (nodup_snoc nd h) (lt_snoc hm (List.getElem?_eq_some_iff.mp (fj_some.mp ht)).1) (by rw[List.length_append];show n+(met.length+1)=_;exact o57 e) (per_on hp ht)
theorem ends_fix{c:List I}{p:Nat}(h:Fix (fj c) p):(ends c p).2=none∨(ends c p=([],some p)∧fj c p=none):=by
 rcases h with h|h
 .refine .inr ⟨?_,h⟩
  unfold ends endsGo
  split
  .next t e=>rw[fj_some.mpr e]at h;contradiction
  .rfl
 .exact .inl (ends_ring _ .nil (fun _ h=>by contradiction) rfl h)
theorem ring_is{c:List I}{b:Bool}:∀(n:Nat){met:List Nat}{p:Nat},Per (fk (thC c) b) (true,p)→ringGo (thC c) (tstOp true b) n met p=true
 |0,_,_,_=>rfl
 |n+1,met,p,h=>by
  unfold ringGo
  split
  .rfl
  .refine x0_1 (ring_at h) fun _ zR=>x1_2 zR fun t ht _ h2=>?_
   rw[ht]
   dsimp only
   rw[if_neg (fun h:(I.tst true b t).op≠tstOp true b=>h rfl)]
   show(match(ends (thC c) t).2 with|none=>true|some q=>ringGo (thC c) (tstOp true b) n (met++[p]) q)=true
   split
   .rfl
   .next q hq=>
    have hf:Fix (fj (thC c)) t:=by
     rw[thC_at]at ht
     refine x1_1 (Option.map_eq_some_iff.mp ht) fun i hi e=>?_
     cases i with
     |tst k b' t'=>
      obtain rfl:t=(threaded c k b' t').2:=Option.some.inj ((congrArg I.tgt e).symm)
      exact fix_j (th_fixj c b' k t')
     |_=>contradiction
    rcases ends_fix hf with h3|⟨h3,_⟩
    .rw[h3]at hq;contradiction
    .rw[h3]at hq
     obtain rfl:=Option.some.inj hq
     rw[end_same hf]at h2
     exact ring_is n h2
theorem straight_thread{u:U}(g:Good u):straight (thread u)=true:=by
 refine x1_3 g.ty fun ty h0 h1 h2 h3=>?_
 refine List.all_eq_true.mpr fun i hi=>?_
 show straightI (thC u.code) i=true
 obtain⟨pc,hpc⟩:=List.mem_iff_getElem?.mp hi
 have hpc:(thC u.code)[pc]? =some i:=hpc
 rw[thC_at]at hpc
 refine x1_1 (Option.map_eq_some_iff.mp hpc) fun j hj zL=>?_;subst zL
 have look:∀{i:I}{t:Nat},i.tgt=some t→Fix (fj (thC u.code)) t→(∀l,(ends (thC u.code) t).2=some l→l=t→(!(decide (60<i.op)&&[6,59,60,61,62].contains ((thC u.code).getD l .pop).op)||isRing (thC u.code) i.op l)=true)→straightI (thC u.code) i=true:=fun{i t} ht hf hl=>by
  unfold straightI
  rw[ht]
  dsimp only
  rcases ends_fix hf with h3|⟨h3,_⟩
  .rw[h3];simp
  .have:=hl t (by rw[h3]) rfl
   rw[h3];simpa using this
 cases j with
 |jmp t=>exact look rfl (fix_j (end_fix u.code t)) fun l _ _=>rfl
 |tst k b t=>
  refine look (i:=.tst (threaded u.code k b t).1 b (threaded u.code k b t).2) rfl (fix_j (th_fixj u.code b k t)) fun l _ hl=>?_
  subst hl
  have ht:=h2 _ _ hj
  have hlt:=(th_ty h2 (b:=b) ht.2.2.2.1 ht.2.2.2.2).1
  have hf:=fix_k (th_fix u.code b k t)
  generalize threaded u.code k b t=r at hf hlt
  obtain⟨k',p⟩:=r
  cases k' with
  |false=>cases b<;>rfl
  |true=>
   rcases hf with hf|hf
   .have hn:keptStep (thC u.code) b p=none:=by
     unfold fk at hf
     rw[if_pos rfl,Option.map_eq_none_iff]at hf
     exact hf
    have hlt':p<(thC u.code).length:=by rw[show(thC u.code).length=u.code.length from List.length_map _];exact hlt
    have:([6,59,60,61,62].contains ((thC u.code).getD p .pop).op)=false:=by
     unfold keptStep at hn
     rw[List.getD_eq_getElem?_getD]
     rw[List.getElem?_eq_getElem hlt']at hn ⊢
     dsimp only[Option.getD]
     generalize(thC u.code)[p]=i at hn
     cases i with
     |pop=>contradiction
     |tst k2 b2 t2=>dsimp only at hn;split at hn<;>contradiction
     |_=>rfl
    rw[this,Bool.and_false];rfl
   .have:isRing (thC u.code) (tstOp true b) p=true:=ring_is _ hf
    show(_||isRing (thC u.code) (tstOp true b) p)=true
    rw[this,Bool.or_true]
 |_=>rfl
end Mine.Internal
namespace Mine.Internal
theorem live_add(n:Nat):∀(ps f w:List Nat),∃a,ps.foldl (liveOne n) (f,w)=(f++a,w++a)∧(∀q∈a,q∈ps∧q<n)∧(f.Nodup→(f++a).Nodup)∧∀p∈ps,p<n→p∈f++a
 |[],f,w=>⟨[],by simp,fun _ h=>nM h,by simp,fun _ h=>nM h⟩
 |p::ps,f,w=>by
  rw[List.foldl_cons]
  unfold liveOne
  dsimp only
  by_cases h:p<n∧p∉f
  .rw[if_pos h]
   refine x1_3 (live_add n ps (f++[p]) (w++[p])) fun a h1 h2 h3 h4=>?_
   refine⟨p::a,by rw[show(ps.foldl (fun fw p=>if p<n∧p∉fw.1 then(fw.1++[p],fw.2++[p])else fw) (f++[p],w++[p]))=_ from h1];simp,?_,?_,?_⟩
   .rintro q (_|⟨_,hq⟩)
    .exact⟨.head _,h.1⟩
    .exact⟨.tail _ (h2 q hq).1,(h2 q hq).2⟩
   .intro nd
    have:=h3 (nodup_snoc nd h.2)
    rwa [List.append_assoc]at this
   .rintro q (_|⟨_,hq⟩) hl
    .simp
    .have:=h4 q hq hl
     rwa [List.append_assoc]at this
  .rw[if_neg h]
   refine x1_3 (live_add n ps f w) fun a h1 h2 h3 h4=>?_
   refine⟨a,h1,fun q hq=>⟨.tail _ (h2 q hq).1,(h2 q hq).2⟩,h3,?_⟩
   rintro q (_|⟨_,hq⟩) hl
   .refine List.mem_append_left _ (Decidable.byContradiction fun hn=>h ⟨hl,hn⟩)
   .exact h4 q hq hl
noncomputable def laterAt(u:U)(pc:Nat):List Nat:=later u pc (u.code.getD pc .pop)
theorem live_go(u:U):∀(n:Nat)(f w:List Nat),f.Nodup→(∀q∈f,q<u.code.length)→(∀q∈w,q∈f)→2*u.code.length+w.length+1≤n+2*f.length→(∀pc∈f,pc∈w∨∀q∈laterAt u pc,q<u.code.length→q∈f)→
  (∀q∈f,q∈liveGo u n f w)∧(∀q∈liveGo u n f w,q<u.code.length)∧∀pc∈liveGo u n f w,∀q∈laterAt u pc,q<u.code.length→q∈liveGo u n f w
 |0,f,w,nd,hf,_,hn,_=>by have:=nodup_le nd hf;omega
 |n+1,f,w,nd,hf,hw,hn,hc=>by
  unfold liveGo
  cases h:w.getLast? with
  |none=>
   have:w=[]:=List.getLast?_eq_none_iff.mp h
   subst this
   exact⟨fun _ h=>h,hf,fun pc hp=>(hc pc hp).resolve_left (by simp)⟩
  |some pc=>
   refine x1_3 (live_add u.code.length (laterAt u pc) f w.dropLast) fun a h1 h2 h3 h4=>?_
   have hw2:w=w.dropLast++[pc]:=by
    obtain⟨ys,hy⟩:=List.getLast?_eq_some_iff.mp h
    rw[hy];simp
   have hl:w.length=w.dropLast.length+1:=by rw[hw2];simp
   dsimp only
   rw[show(later u pc (u.code.getD pc .pop)).foldl (liveOne u.code.length) (f,w.dropLast)=(f++a,w.dropLast++a)from h1]
   have hr:=live_go u n (f++a) (w.dropLast++a) (h3 nd) (fun q hq=>(List.mem_append.mp hq).elim (hf q) fun h=>(h2 q h).2)
    (fun q hq=>(List.mem_append.mp hq).elim (fun h=>List.mem_append_left _ (hw q ((List.dropLast_sublist _).subset h))) fun h=>List.mem_append_right _ h)
    (by rw[List.length_append,List.length_append];exact o197 hn hl)
    (fun x hx=>(List.mem_append.mp hx).elim (fun h=>by
     rcases hc x h with h5|h5
     .rw[hw2]at h5
      rcases List.mem_append.mp h5 with h6|h6
      .exact .inl (List.mem_append_left _ h6)
      .rw[List.mem_singleton]at h6
       subst h6
       exact .inr h4
     .exact .inr fun q hq hl=>List.mem_append_left _ (h5 q hq hl)) fun h=>.inl (List.mem_append_right _ h))
   exact⟨fun q hq=>hr.1 q (List.mem_append_left _ hq),hr.2⟩
theorem live_ok{u:U}(hn:0<u.code.length):0∈live u∧(∀q∈live u,q<u.code.length)∧∀pc∈live u,∀q∈laterAt u pc,q<u.code.length→q∈live u:=by
 have h:=live_go u (2*u.code.length+2) [0] [0] (nd1) (by simpa using hn) (fun _ h=>h) (Nat.le_add_right _ _) (fun pc hp=>.inl hp)
 exact⟨h.1 0 (.head _),h.2⟩
theorem live_in{u:U}{P:Nat→Prop}(hc:∀pc,P pc→∀q∈laterAt u pc,q<u.code.length→P q):∀(n:Nat)(f w:List Nat),(∀q∈f,P q)→(∀q∈w,P q)→∀q∈liveGo u n f w,P q
 |0,f,w,hf,_=>hf
 |n+1,f,w,hf,hw=>by
  unfold liveGo
  cases h:w.getLast? with
  |none=>exact hf
  |some pc=>
   refine x1_2 (live_add u.code.length (laterAt u pc) f w.dropLast) fun a h1 h2 _=>?_
   dsimp only
   rw[show(later u pc (u.code.getD pc .pop)).foldl (liveOne u.code.length) (f,w.dropLast)=(f++a,w.dropLast++a)from h1]
   have ha:∀q∈a,P q:=fun q hq=>hc pc (hw pc (List.mem_of_getLast? h)) q (h2 q hq).1 (h2 q hq).2
   exact live_in hc n _ _ (fun q hq=>(List.mem_append.mp hq).elim (hf q) (ha q)) fun q hq=>(List.mem_append.mp hq).elim (fun h=>hw q ((List.dropLast_sublist _).subset h)) (ha q)
section
variable (u:U) (lv:List Nat)
theorem kept_succ(n:Nat):keptL u lv (n+1)=keptL u lv n++(if keepB u lv n then[n]else[]):=by
 unfold keptL
 rw[List.range_succ,List.filter_append,List.filter_cons (x:=n)]
 rfl
theorem rank_succ(n:Nat):rank u lv (n+1)=rank u lv n+(if keepB u lv n then 1 else 0):=by
 unfold rank
 rw[kept_succ,List.length_append]
 split<;>rfl
variable {u lv}
theorem rank_mono{a b:Nat}(h:a≤b):rank u lv a≤rank u lv b:=by
 induction h with
 |refl=>exact Nat.le_refl _
 |step _ ih=>rw[rank_succ];exact Nat.le_trans ih (Nat.le_add_right _ _)
theorem rank_const{a:Nat}:∀{b:Nat},a≤b→(∀q,a≤q→q<b→keepB u lv q=false)→rank u lv b=rank u lv a:=by
 intro b h
 induction h with
 |refl=>exact fun _=>rfl
 |step h ih=>
  intro hq
  rw[rank_succ,ih fun q h1 h2=>hq q h1 (by exact Nat.le_succ_of_le h2),hq _ h (by exact o321)]
  rfl
theorem kept_at{pc:Nat}(h:keepB u lv pc=true):∀{n:Nat},pc<n→(keptL u lv n)[rank u lv pc]? =some pc:=by
 intro n
 induction n with
 |zero=>intro h;exact absurd h (Nat.not_lt_zero _)
 |succ n ih=>
  intro hp
  rw[kept_succ]
  by_cases he:pc=n
  .subst he
   rw[if_pos h]
   unfold rank
   simp
  .have h1:=ih (by exact o198 hp he)
   rw[List.getElem?_append_left (List.getElem?_eq_some_iff.mp h1).1];exact h1
theorem kept_from{j pc:Nat}:∀{n:Nat},(keptL u lv n)[j]? =some pc→keepB u lv pc=true∧pc<n∧rank u lv pc=j:=by
 intro n h
 have hm:=List.mem_of_getElem? h
 obtain⟨h1,h2⟩:=List.mem_filter.mp hm
 have hp:=List.mem_range.mp h1
 refine⟨h2,hp,?_⟩
 have h3:=kept_at h2 hp
 have nd:(keptL u lv n).Nodup:=List.nodup_range.filter _
 obtain⟨a,ha⟩:=List.getElem?_eq_some_iff.mp h
 obtain⟨b,hb⟩:=List.getElem?_eq_some_iff.mp h3
 rcases Nat.lt_trichotomy (rank u lv pc) j with hl|hl|hl
 .exact(List.pairwise_iff_getElem.mp nd _ _ b a hl (hb.trans ha.symm)).elim
 .exact hl
 .exact(List.pairwise_iff_getElem.mp nd _ _ a b hl (ha.trans hb.symm)).elim
end
section
variable {u:U}
noncomputable def rk(u:U)(pc:Nat):Nat:=rank u (live u) pc
noncomputable def Kp(u:U)(pc:Nat):Prop:=keepB u (live u) pc=true
theorem kp_live{pc:Nat}(h:Kp u pc):pc∈live u:=by
 unfold Kp keepB at h
 rw[Bool.and_eq_true]at h
 exact of_decide_eq_true h.1
theorem rk_kp{pc:Nat}(h:Kp u pc):rk u (pc+1)=rk u pc+1:=by
 unfold rk
 rw[rank_succ,if_pos (show keepB u (live u) pc=true from h)]
theorem lt_live(g:Good u){pc:Nat}(h:pc∈live u):pc<u.code.length:=(live_ok g.ne).2.1 pc h
theorem code_getD{l:List I}{pc:Nat}{i:I}(h:l[pc]? =some i):l.getD pc .pop=i:=by
 rw[List.getD_eq_getElem?_getD,h];rfl
theorem later_tgt{pc t:Nat}{i:I}(h:u.code[pc]? =some i)(ht:i.tgt=some t):t∈laterAt u pc:=by
 unfold laterAt later
 rw[code_getD h,ht]
 simp
theorem later_next{pc:Nat}{i:I}(h:u.code[pc]? =some i)(hi:i.isLast=false):pc+1∈laterAt u pc:=by
 unfold laterAt later
 rw[code_getD h,hi]
 simp
theorem later_hand{pc:Nat}{h:H}(e:firstH u.hs pc=some h):h.t∈laterAt u pc:=by
 unfold laterAt later
 rw[e]
 simp
theorem live_to(g:Good u){pc q:Nat}(h:pc∈live u)(hq:q∈laterAt u pc)(hl:q<u.code.length):q∈live u:=(live_ok g.ne).2.2 pc h q hq hl
theorem not_kp{pc:Nat}(h:pc∈live u)(hk:¬Kp u pc):∃t,u.code.getD pc .pop=.jmp t∧pc<t∧rk u t=rk u pc:=by
 unfold Kp keepB at hk
 rw[decide_eq_true h,Bool.true_and]at hk
 have hk:idle (live u) pc (u.code.getD pc .pop)=true:=by
  cases e:idle (live u) pc (u.code.getD pc .pop)with
  |true=>rfl
  |false=>rw[e]at hk;exact(hk rfl).elim
 have hk0:keepB u (live u) pc=false:=by unfold keepB;rw[hk,Bool.and_comm];rfl
 unfold idle at hk
 split at hk
 .next t e=>
  rw[Bool.and_eq_true]at hk
  have h1:=of_decide_eq_true hk.1
  refine⟨t,e,h1,rank_const (by exact Nat.le_of_lt h1) fun q hq hqt=>?_⟩
  rcases Nat.eq_or_lt_of_le hq with rfl|hlt
  .exact hk0
  .have:=List.all_eq_true.mp hk.2 (q-(pc+1)) (List.mem_range.mpr (by exact o199 h1 hqt hlt))
   rw[show pc+1+(q-(pc+1))=q by exact o200 hlt]at this
   unfold keepB
   rw[decide_eq_false (of_decide_eq_true this)];rfl
 .contradiction
theorem code_some{pc:Nat}(h:pc<u.code.length):∃i,u.code[pc]? =some i∧u.code.getD pc .pop=i:=by
 refine⟨u.code[pc],List.getElem?_eq_getElem h,?_⟩
 exact code_getD (List.getElem?_eq_getElem h)
theorem land(g:Good u){ty:Nat→Nat}(hty:Typed ty u.code):∀(m pc:Nat),u.code.length-pc≤m→pc∈live u→∃q,Kp u q∧q<u.code.length∧rk u q=rk u pc∧ty q=ty pc
 |0,pc,hm,h=>by have:=lt_live g h;omega
 |m+1,pc,hm,h=>by
  by_cases hk:Kp u pc
  .exact⟨pc,hk,lt_live g h,rfl,rfl⟩
  .refine x1_2 (not_kp h hk) fun t e hlt hr=>?_
   refine x1_1 (code_some (lt_live g h)) fun i hi e2=>?_
   rw[e]at e2
   subst e2
   have h1:=hty pc _ hi
   refine x1_3 (land g hty m t (by exact o201 hm hlt) (live_to g h (later_tgt hi rfl) h1.1)) fun q q1 q2 q3 q4=>?_
   exact⟨q,q1,q2,q3.trans hr,q4.trans h1.2⟩
theorem once_len:(cleanOnce u).code.length=rk u u.code.length:=List.length_map _
theorem once_at{pc:Nat}{i:I}(hk:Kp u pc)(hi:u.code[pc]? =some i):(cleanOnce u).code[rk u pc]? =some (i.to (rk u)):=by
 show((keptL u (live u) u.code.length).map _)[rk u pc]? =_
 rw[List.getElem?_map,show(keptL u (live u) u.code.length)[rk u pc]? =some pc from kept_at hk (List.getElem?_eq_some_iff.mp hi).1]
 show some (I.to _ (u.code.getD pc .pop))=_
 rw[code_getD hi];rfl
theorem once_from{j:Nat}{i':I}(h:(cleanOnce u).code[j]? =some i'):∃pc i,Kp u pc∧u.code[pc]? =some i∧rk u pc=j∧i'=i.to (rk u):=by
 have h:((keptL u (live u) u.code.length).map fun pc=>(u.code.getD pc .pop).to (rank u (live u)))[j]? =some i':=h
 rw[List.getElem?_map]at h
 refine x1_1 (Option.map_eq_some_iff.mp h) fun pc h1 h2=>?_
 refine x0_2 (kept_from h1) fun k1 k2 k3=>?_
 refine x1_1 (code_some k2) fun i hi e=>?_
 exact⟨pc,i,k1,hi,k3,by rw[←h2,e];rfl⟩
theorem cov_rk{pc:Nat}(hk:Kp u pc)(h:H):cov (rk u pc) (h.to (rk u))=cov pc h:=by
 have h1:rk u h.s≤rk u pc↔h.s≤pc:=⟨fun a=>Decidable.byContradiction fun b=>by
  have:rk u (pc+1)≤rk u h.s:=rank_mono (by exact Nat.not_le.mp b)
  rw[rk_kp hk]at this;exact absurd this (Nat.not_lt.mpr a),fun a=>rank_mono a⟩
 have h2:rk u pc<rk u h.e↔pc<h.e:=⟨fun a=>Decidable.byContradiction fun b=>by
  have:rk u h.e≤rk u pc:=rank_mono (by exact Nat.not_lt.mp b)
  exact absurd this (Nat.not_le.mpr a),fun a=>by
  have:rk u (pc+1)≤rk u h.e:=rank_mono (by exact a)
  rw[rk_kp hk]at this;exact this⟩
 unfold cov
 show(decide (rk u h.s≤rk u pc)&&decide (rk u pc<rk u h.e))=_
 rw[decide_eq_decide.mpr h1,decide_eq_decide.mpr h2]
theorem find_filter{α:Type}{p q:α→Bool}:∀{l:List α},(∀h,l.find? q=some h→p h=true)→(l.filter p).find? q=l.find? q
 |[],_=>rfl
 |a::l,hp=>by
  rw[List.filter_cons]
  cases hq:q a with
  |true=>
   have:=hp a (by rw[List.find?_cons,hq])
   rw[if_pos this,List.find?_cons,List.find?_cons,hq]
  |false=>
   have ih:=find_filter (p:=p) (q:=q) (l:=l) fun h e=>hp h (by rw[List.find?_cons,hq];exact e)
   split
   .rw[List.find?_cons,List.find?_cons,hq];exact ih
   .rw[List.find?_cons,hq];exact ih
theorem once_hand(g:Good u){pc:Nat}(hk:Kp u pc):firstH (cleanOnce u).hs (rk u pc)=(firstH u.hs pc).map (H.to (rk u)):=by
 have hl:=kp_live hk
 show((((u.hs.filter fun h=>decide (h.t∈live u)).map (H.to (rk u))).filter fun h=>decide (h.s<h.e)).find? (cov (rk u pc)))=_
 rw[find_filter fun h e=>by
  have:=List.find?_some e
  unfold cov at this
  rw[Bool.and_eq_true]at this
  exact decide_eq_true (by have:=of_decide_eq_true this.1;have:=of_decide_eq_true (by assumption:_∧_).2;exact o202 (by assumption) this)]
 rw[List.find?_map,show cov (rk u pc) ∘ H.to (rk u)=cov pc from funext fun h=>cov_rk hk h,find_filter]
 .rfl
 .intro h e
  refine decide_eq_true (live_to g hl (later_hand e) (g.hs h ?_).2.2)
  exact List.mem_of_find?_eq_some e
theorem once_good(u:U)(g:Good u):Good (cleanOnce u):=by
 refine x1_3 g.ty fun ty h0 h1 h2 h3=>?_
 have hland:∀{pc},pc∈live u→rk u pc<(cleanOnce u).code.length∧∃q,Kp u q∧q<u.code.length∧rk u q=rk u pc∧ty q=ty pc:=fun{pc} h=>by
  refine x1_3 (land g h2 _ pc (Nat.le_refl _) h) fun q q1 q2 q3 q4=>?_
  refine⟨?_,q,q1,q2,q3,q4⟩
  rw[once_len, ←q3]
  have:rk u (q+1)≤rk u u.code.length:=rank_mono (by exact q2)
  rw[rk_kp q1]at this;exact this
 have hty:∀{pc},pc∈live u→ty ((keptL u (live u) u.code.length).getD (rk u pc) 0)=ty pc:=fun{pc} h=>by
  refine x0_1 (hland h) fun _ zR=>x1_3 zR fun q q1 q2 q3 q4=>?_
  rw[←q3,List.getD_eq_getElem?_getD,show(keptL u (live u) u.code.length)[rk u q]? =some q from kept_at q1 q2]
  exact q4
 have hz:rk u 0=0:=rfl
 have hle:(cleanOnce u).code.length≤u.code.length:=by
  rw[once_len]
  exact Nat.le_trans (List.length_filter_le _ _) (by rw[List.length_range];exact Nat.le_refl _)
 have hin:∀h'∈(cleanOnce u).hs,h'.s<h'.e∧∃h∈u.hs,h.t∈live u∧h'=h.to (rk u):=fun h' hh=>by
  obtain⟨a,b⟩:=List.mem_filter.mp hh
  refine x1_1 (List.mem_map.mp a) fun h c zL=>?_;subst zL
  obtain⟨c,e⟩:=List.mem_filter.mp c
  exact⟨of_decide_eq_true b,h,c,of_decide_eq_true e,rfl⟩
 refine⟨?_,Nat.le_trans hle g.few,?_,?_,⟨fun j=>ty ((keptL u (live u) u.code.length).getD j 0),?_,fun j=>h1 _,?_,?_⟩,?_,?_,?_⟩
 .have:=(hland (live_ok g.ne).1).1;exact this
 .rw[once_len];exact List.length_map _
 .intro l hl
  refine x1_1 (List.mem_map.mp hl) fun pc hp zL=>?_;subst zL
  have hp:=List.mem_range.mp (List.mem_filter.mp hp).1
  rw[List.getD_eq_getElem?_getD,List.getElem?_eq_getElem (by rw[g.lens];exact hp)]
  exact g.small _ (List.getElem_mem _)
 .show ty ((keptL u (live u) u.code.length).getD (rk u 0) 0)=0
  rw[hty (live_ok g.ne).1];exact h0
 .intro j i' hj
  refine x2_3 (once_from hj) fun pc i hk hi zE zL=>?_;subst zE;subst zL
  have hl:=kp_live hk
  have h4:=h2 pc i hi
  have tp:=hty hl
  have nx:i.isLast=false→pc+1<u.code.length→rk u pc+1<(cleanOnce u).code.length∧ty ((keptL u (live u) u.code.length).getD (rk u pc+1) 0)=ty (pc+1):=fun h5 h6=>by
   have:=live_to g hl (later_next hi h5) h6
   rw[←rk_kp hk]
   exact⟨(hland this).1,hty this⟩
  have tg:∀{t},i.tgt=some t→t<u.code.length→rk u t<(cleanOnce u).code.length∧ty ((keptL u (live u) u.code.length).getD (rk u t) 0)=ty t:=fun{t} h5 h6=>by
   have:=live_to g hl (later_tgt hi h5) h6
   exact⟨(hland this).1,hty this⟩
  cases i with
  |pop=>exact⟨tp.trans h4.1,(nx rfl h4.2.1).1,(nx rfl h4.2.1).2.trans h4.2.2⟩
  |ask x=>exact⟨h4.1,tp.trans h4.2.1,(nx rfl h4.2.2.1).1,(nx rfl h4.2.2.1).2.trans h4.2.2.2⟩
  |decl x=>exact⟨h4.1,tp.trans h4.2.1,(nx rfl h4.2.2.1).1,(nx rfl h4.2.2.1).2.trans h4.2.2.2⟩
  |ret=>exact tp.trans h4
  |jmp t=>exact⟨(tg rfl h4.1).1,(tg rfl h4.1).2.trans (h4.2.trans tp.symm)⟩
  |tst k b t=>exact⟨tp.trans h4.1,(nx rfl h4.2.1).1,(nx rfl h4.2.1).2.trans h4.2.2.1,(tg rfl h4.2.2.2.1).1,(tg rfl h4.2.2.2.1).2.trans h4.2.2.2.2⟩
 .intro h' hh
  refine x0_1 (hin h' hh) fun _ zR=>x1_2 zR fun h a b zL=>?_;subst zL
  exact(hty b).trans (h3 h a)
 .intro h' hh
  refine x0_1 (hin h' hh) fun c zR=>x1_2 zR fun h a b zL=>?_;subst zL
  exact⟨c,rank_mono (g.hs h a).2.1,(hland b).1⟩
 .refine List.Pairwise.filter _ (List.pairwise_map.mpr (List.Pairwise.imp ?_ (g.nest.filter _)))
  intro a b h
  exact⟨rank_mono h.1,rank_mono h.2⟩
 .exact Nat.le_trans (List.length_filter_le _ _) (by rw[List.length_map];exact Nat.le_trans (List.length_filter_le _ _) g.hfew)
end
end Mine.Internal
namespace Mine.Internal
section
variable {u:U}
theorem once_fix(g:Good u)(h:u.code.length≤(cleanOnce u).code.length):cleanOnce u=u∧∀pc,pc<u.code.length→Kp u pc:=by
 have hk:∀pc,pc<u.code.length→Kp u pc:=fun pc hp=>by
  have h1:(List.filter (keepB u (live u)) (List.range u.code.length)).length=(List.range u.code.length).length:=by
   refine Nat.le_antisymm (List.length_filter_le _ _) ?_
   rw[List.length_range]
   rw[once_len]at h
   exact h
  exact List.length_filter_eq_length_iff.mp h1 pc (List.mem_range.mpr hp)
 have hr:∀n,n≤u.code.length→keptL u (live u) n=List.range n:=fun n hn=>List.filter_eq_self.mpr fun a ha=>hk a (by have:=List.mem_range.mp ha;exact Nat.le_trans this hn)
 have hi:∀n,n≤u.code.length→rk u n=n:=fun n hn=>by
  unfold rk rank
  rw[hr n hn,List.length_range]
 refine x1_3 g.ty fun ty h0 h1 h2 h3=>?_
 refine⟨?_,hk⟩
 show U.mk _ _ _=U.mk u.code u.hs u.lines
 congr 1
 .refine List.ext_getElem? fun j=>?_
  rcases Nat.lt_or_ge j u.code.length with hj|hj
  .refine x1_1 (code_some hj) fun i e _=>?_
   have:=once_at (hk j hj) e
   rw[hi j (by exact Nat.le_of_lt hj)]at this
   rw[e]
   refine this.trans (congrArg some ?_)
   have h4:=h2 j i e
   cases i with
   |jmp t=>exact congrArg I.jmp (hi t (Nat.le_of_lt h4.1))
   |tst k b t=>exact congrArg (I.tst k b) (hi t (Nat.le_of_lt h4.2.2.2.1))
   |_=>rfl
  .rw[List.getElem?_eq_none hj]
   refine List.getElem?_eq_none ?_
   rw[List.length_map,hr _ (Nat.le_refl _),List.length_range];exact hj
 .have ht:(u.hs.filter fun h=>decide (h.t∈live u))=u.hs:=List.filter_eq_self.mpr fun h hh=>decide_eq_true (kp_live (hk _ (g.hs h hh).2.2))
  have hm:u.hs.map (H.to (rk u))=u.hs:=by
   conv=>rhs;rw[←List.map_id u.hs]
   refine List.map_congr_left fun h hh=>?_
   have:=g.hs h hh
   show H.mk _ _ _=h
   rw[hi h.s (by exact o78 this),hi h.e (by exact o260 this),hi h.t (by exact o261 this)]
  show(((u.hs.filter fun h=>decide (h.t∈live u)).map (H.to (rk u))).filter fun h=>decide (h.s<h.e))=u.hs
  rw[ht,hm]
  exact List.filter_eq_self.mpr fun h hh=>decide_eq_true (g.hs h hh).1
 .rw[hr _ (Nat.le_refl _)]
  refine List.ext_getElem? fun j=>?_
  rw[List.getElem?_map]
  rcases Nat.lt_or_ge j u.code.length with hj|hj
  .rw[List.getElem?_range hj]
   have hl:j<u.lines.length:=by rw[g.lens];exact hj
   show some (u.lines.getD j 0)=_
   rw[List.getD_eq_getElem?_getD,List.getElem?_eq_getElem hl];rfl
  .rw[List.getElem?_eq_none (by rw[List.length_range];exact hj),List.getElem?_eq_none (by rw[g.lens];exact hj)];rfl
theorem clean_go{P:U→Prop}(hP:∀w,Good w→P w→P (cleanOnce w)):∀(n:Nat)(w:U),Good w→P w→w.code.length≤n→Good (cleanGo n w)∧P (cleanGo n w)∧cleanOnce (cleanGo n w)=cleanGo n w
 |0,w,g,_,h=>by have:=g.ne;exact absurd this (Nat.not_lt.mpr h)
 |n+1,w,g,p,h=>by
  unfold cleanGo
  split
  .exact clean_go hP n _ (once_good w g) (hP w g p) (by exact o203 h (by assumption))
  .next h1=>
   have:=(once_fix g (by exact Nat.not_lt.mp h1)).1
   rw[this]
   exact⟨g,p,this⟩
theorem clean_fix(h:cleanOnce u=u):clean u=u:=by
 have:∀n,cleanGo n u=u:=fun n=>by
  cases n with
  |zero=>exact h
  |succ n=>unfold cleanGo;rw[h,if_neg (Nat.lt_irrefl _)]
 exact this _
theorem all_le:∀{n:Nat}{l:List Nat},(∀q,q<n→q∈l)→n≤l.length
 |0,_,_=>Nat.zero_le _
 |n+1,l,h=>by
  have hn:=h n (Nat.lt_succ_self n)
  have:=all_le (n:=n) (l:=l.erase n) fun q hq=>(List.mem_erase_of_ne (by exact Nat.ne_of_lt hq)).mpr (h q (by exact o322 hq))
  rw[List.length_erase_of_mem hn]at this
  have:=List.length_pos_of_mem hn
  exact o204 (by assumption) this
theorem lean_go(g:Good u)(hk:∀pc,pc<u.code.length→Kp u pc):∀(n:Nat)(met w:List Nat),met.Nodup→(∀q∈met,q<u.code.length)→(0∈met∨0∈w)→(∀m∈met,∀q∈laterAt u m,q<u.code.length→q∈met∨q∈w)→leanGo u n met w=true
 |0,_,_,_,_,_,_=>rfl
 |n+1,met,w,nd,hm,h0,hc=>by
  unfold leanGo
  cases h:w.getLast? with
  |none=>
   have:w=[]:=List.getLast?_eq_none_iff.mp h
   subst this
   have h0:0∈met:=h0.resolve_right (by simp)
   refine decide_eq_true (Nat.le_antisymm (nodup_le nd hm) (all_le fun q hq=>?_))
   have hin:∀q∈[0],q∈met:=fun q hq=>by rw[List.mem_singleton]at hq;exact hq▸h0
   exact live_in (P:=(· ∈met)) (fun pc hp q hq hl=>(hc pc hp q hq hl).resolve_right (by simp)) _ _ _ hin hin q (kp_live (hk q hq))
  |some at_=>
   have hw:∀{q},q∈w→q∈w.dropLast∨q=at_:=fun{q} hq=>by
    obtain⟨ys,hy⟩:=List.getLast?_eq_some_iff.mp h
    rw[hy]at hq ⊢
    rw[List.dropLast_concat]
    exact(List.mem_append.mp hq).imp id List.mem_singleton.mp
   dsimp only
   split
   .next hs=>
    have go:∀{q},q<u.code.length→q∈met∨q∈w→q∈met∨q∈w.dropLast:=fun{q} hl hq=>by
     rcases hq with hq|hq
     .exact .inl hq
     .rcases hw hq with h1|rfl
      .exact .inr h1
      .exact hs.elim .inl fun h=>absurd hl (Nat.not_lt.mpr h)
    exact lean_go g hk n met _ nd hm (go g.ne h0) fun m hm q hq hl=>go hl (hc m hm q hq hl)
   .next hs=>
    have hs1:at_∉met:=fun h=>hs (.inl h)
    have hs2:at_<u.code.length:=Nat.lt_of_not_le fun h=>hs (.inr h)
    rw[if_neg]
    .have go:∀{q},q∈met∨q∈w→q∈met++[at_]∨q∈w.dropLast++(u.code.getD at_ .pop).tgt.toList++(if(u.code.getD at_ .pop).isLast then[]else[at_+1])++((firstH u.hs at_).map H.t).toList:=fun{q} hq=>by
      rcases hq with hq|hq
      .exact .inl (List.mem_append_left _ hq)
      .rcases hw hq with h1|rfl
       .exact .inr (List.mem_append_left _ (List.mem_append_left _ (List.mem_append_left _ h1)))
       .exact .inl (List.mem_append_right _ (.head _))
     refine lean_go g hk n _ _ (nodup_snoc nd hs1) (lt_snoc hm hs2) (go h0) fun m hm q hq hl=>?_
     rcases List.mem_append.mp hm with hm|hm
     .exact go (hc m hm q hq hl)
     .rw[List.mem_singleton]at hm
      subst hm
      refine .inr ?_
      rcases List.mem_append.mp hq with h1|h1
      .rcases List.mem_append.mp h1 with h2|h2
       .exact List.mem_append_left _ (List.mem_append_right _ h2)
       .exact List.mem_append_left _ (List.mem_append_left _ (List.mem_append_right _ h2))
      .exact List.mem_append_right _ h1
    .intro e
     have:=hk _ hs2
     unfold Kp keepB at this
     rw[e,Bool.and_eq_true]at this
     have h2:idle (live u) at_ (.jmp (at_+1))=true:=by
      show(decide (at_<at_+1)&&(List.range (at_+1-(at_+1))).all _)=true
      rw[Nat.sub_self,decide_eq_true (Nat.lt_succ_self at_)];rfl
     rw[h2]at this
     cases this.2
theorem lean_fix(g:Good u)(h:cleanOnce u=u):lean u=true:=by
 have hk:=(once_fix g (by rw[h];exact Nat.le_refl _)).2
 exact lean_go g hk _ _ _ .nil (fun _ h=>by contradiction) (.inr (.head _)) fun _ h=>by contradiction
noncomputable def phi(u:U)(x:S):S:=(rk u x.1,x.2)
theorem once_step(g:Good u){ty:Nat→Nat}(hty:Typed ty u.code){x y:S}(hl:x.1∈live u)(e:sil u.code x=some y):
  y.1∈live u∧(sil (cleanOnce u).code (phi u x)=some (phi u y)∨(phi u x=phi u y∧x.1<y.1)):=by
 obtain⟨pc,s⟩:=x
 refine x1_1 (code_some (lt_live g hl)) fun i hi e2=>?_
 have ht:=hty pc i hi
 have nx:i.isLast=false→pc+1<u.code.length→pc+1∈live u:=fun h5 h6=>live_to g hl (later_next hi h5) h6
 have tg:∀{t},i.tgt=some t→t<u.code.length→t∈live u:=fun{t} h5 h6=>live_to g hl (later_tgt hi h5) h6
 have kp:(∀t,i≠.jmp t)→Kp u pc:=fun h=>Classical.byContradiction fun hk=>by
  refine x1_1 (not_kp hl hk) fun t h1 _=>?_
  rw[e2]at h1
  exact h t h1
 unfold sil at e
 rw[hi]at e
 have st:Kp u pc→sil (cleanOnce u).code (phi u (pc,s))=match i.to (rk u)with
   | .pop=>some (rk u (pc+1),s.dropLast)
   | .jmp t=>some (t,s)
   | .tst k b t=>some (if s.getLast?=some b then(t,if k then s else s.dropLast)else(rk u (pc+1),s.dropLast))
   |_=>none:=fun hk=>by
  unfold sil phi
  rw[once_at hk hi,rk_kp hk]
  cases i<;>rfl
 cases i with
 |pop=>
  obtain rfl:=Option.some.inj e
  exact⟨nx rfl ht.2.1,.inl (st (kp fun t h=>by contradiction))⟩
 |jmp t=>
  obtain rfl:=Option.some.inj e
  refine⟨tg rfl ht.1,?_⟩
  by_cases hk:Kp u pc
  .exact .inl (st hk)
  .refine x1_2 (not_kp hl hk) fun t' h1 h2 h3=>?_
   rw[e2]at h1
   cases h1
   exact .inr ⟨congrArg (·,s) h3.symm,h2⟩
 |tst k b t=>
  have hs:=st (kp fun t h=>by contradiction)
  obtain rfl:=Option.some.inj e
  rw[hs]
  dsimp only[I.to]
  split
  .exact⟨tg rfl ht.2.2.2.1,.inl rfl⟩
  .exact⟨nx rfl ht.2.1,.inl rfl⟩
 |_=>contradiction
theorem once_none(g:Good u){x:S}(hl:x.1∈live u)(e:sil u.code x=none):Kp u x.1∧sil (cleanOnce u).code (phi u x)=none∧∃i,u.code[x.1]? =some i∧(cleanOnce u).code[rk u x.1]? =some i:=by
 obtain⟨pc,s⟩:=x
 refine x1_1 (code_some (lt_live g hl)) fun i hi e2=>?_
 unfold sil at e
 rw[hi]at e
 have kp:(∀t,i≠.jmp t)→Kp u pc:=fun h=>Classical.byContradiction fun hk=>by
  refine x1_1 (not_kp hl hk) fun t h1 _=>?_
  rw[e2]at h1
  exact h t h1
 have hk:Kp u pc:=kp fun t h=>by subst h;contradiction
 have ho:=once_at hk hi
 refine⟨hk,?_,i,hi,?_⟩
 .unfold sil phi
  rw[ho]
  cases i<;>first|rfl|contradiction
 .rw[ho]
  cases i<;>first|rfl|contradiction
theorem once_steps(g:Good u){ty:Nat→Nat}(hty:Typed ty u.code):∀{k:Nat}{x y:S},x.1∈live u→it (sil u.code) k x=some y→y.1∈live u∧∃j,j≤k∧it (sil (cleanOnce u).code) j (phi u x)=some (phi u y)∧(j=0→x.1+k≤y.1)
 |0,x,y,hl,e=>by obtain rfl:=Option.some.inj e;exact⟨hl,0,Nat.le_refl _,rfl,fun _=>Nat.le_refl _⟩
 |k+1,x,y,hl,e=>by
  have e:(sil u.code x).bind (it (sil u.code) k)=some y:=e
  cases h1:sil u.code x with
  |none=>rw[h1]at e;contradiction
  |some z=>
   rw[h1]at e
   obtain⟨hz,h2⟩:=once_step g hty hl h1
   refine x0_1 (once_steps g hty (k:=k) hz e) fun hy zR=>x1_2 zR fun j hj h3 h4=>?_
   refine⟨hy,?_⟩
   rcases h2 with h2|⟨h2,h5⟩
   .exact⟨j+1,by exact Nat.succ_le_succ hj,by show(sil _ _).bind _=_;rw[h2];exact h3,fun h=>by exact o323 h⟩
   .exact⟨j,by exact Nat.le_succ_of_le hj,by rw[h2];exact h3,fun h=>by have:=h4 h;exact o324 h5 this⟩
end
end Mine.Internal
namespace Mine.Internal
noncomputable def Le(a b:List E×Nat):Prop:=b.1=a.1∧b.2≤a.2
noncomputable def Vis(u m:U)(R:S→S→Prop)(s:List Bool)(p q:Nat):Prop:=
 (u.code[p]? =some .ret∧m.code[q]? =some .ret)∨
 (∃x,u.code[p]? =some (.ask x)∧m.code[q]? =some (.ask x)∧∀b,R (p+1,s++[b]) (q+1,s++[b]))∨
 (∃x,u.code[p]? =some (.decl x)∧m.code[q]? =some (.decl x)∧R (p+1,s) (q+1,s)∧
  ((firstH u.hs p=none∧firstH m.hs q=none)∨∃h g,firstH u.hs p=some h∧firstH m.hs q=some g∧R (h.t,[true]) (g.t,[true])))
noncomputable def Alike(u m:U)(R:S→S→Prop):Prop:=∀x y,R x y→
 ((∀k,∃z,it (sil u.code) k x=some z)∧∀k,∃z,it (sil m.code) k y=some z)∨
 ∃k p j q s,it (sil u.code) k x=some (p,s)∧it (sil m.code) j y=some (q,s)∧j≤k∧k≤2*u.code.length∧j≤2*m.code.length∧Vis u m R s p q
section
variable {u:U} {ws:List Nat} {found:List E} {steps asked idl p:Nat} {s:List Bool}
theorem ev_one{n:Nat}{x y:S}(h15:found.length<15)(hi:idl+1≤2*u.code.length+4)(h:sil u.code x=some y):
  evGo u ws (n+1) found x.2 x.1 steps asked idl=evGo u ws n found y.2 y.1 (steps+1) asked (idl+1):=by
 unfold sil at h
 conv=>lhs;unfold evGo
 rw[if_neg (Nat.not_le.mpr h15),if_neg (Nat.not_lt.mpr hi)]
 split at h
 .next e=>rw[e];obtain rfl:=Option.some.inj h;rfl
 .next e=>rw[e];obtain rfl:=Option.some.inj h;rfl
 .next e=>
  rw[e];obtain rfl:=Option.some.inj h
  dsimp only
  split<;>rfl
 .exact nN h
theorem ev_run{n:Nat}(h15:found.length<15):∀{k steps idl:Nat}{x y:S},idl+k≤2*u.code.length+4→it (sil u.code) k x=some y→
  evGo u ws (n+k) found x.2 x.1 steps asked idl=evGo u ws n found y.2 y.1 (steps+k) asked (idl+k)
 |0,_,_,x,y,_,h=>by obtain rfl:=Option.some.inj h;rfl
 |k+1,steps,idl,x,y,hi,h=>by
  have h:(sil u.code x).bind (it (sil u.code) k)=some y:=h
  cases h1:sil u.code x with
  |none=>rw[h1]at h;exact nN h
  |some z=>
   rw[h1]at h
   rw[show n+(k+1)=n+k+1 from rfl,ev_one h15 (by exact o205 hi) h1,ev_run h15 (k:=k) (by exact o325 hi) h]
   congr 1<;>exact Nat.add_right_comm _ _ _
theorem ev_ret{n:Nat}(h15:found.length<15)(hi:idl+1≤2*u.code.length+4)(h:u.code[p]? =some .ret):
  evGo u ws (n+1) found s p steps asked idl=(found++[.fin s],steps+1):=by
 unfold evGo
 rw[if_neg (Nat.not_le.mpr h15),if_neg (Nat.not_lt.mpr hi),h]
theorem ev_ask{n x:Nat}(h15:found.length<15)(hi:idl+1≤2*u.code.length+4)(h:u.code[p]? =some (.ask x)):
  evGo u ws (n+1) found s p steps asked idl=evGo u ws n (found++[.ev (.ask x)]) (s++[decide (ws.getD (asked%ws.length) 0%2=0)]) (p+1) (steps+1) (asked+1) 0:=by
 conv=>lhs;unfold evGo
 rw[if_neg (Nat.not_le.mpr h15),if_neg (Nat.not_lt.mpr hi),h]
theorem ev_decl{n x:Nat}(h15:found.length<15)(hi:idl+1≤2*u.code.length+4)(h:u.code[p]? =some (.decl x)):
  evGo u ws (n+1) found s p steps asked idl=if ws.getD (asked%ws.length) 0%3=0 then(match firstH u.hs p with
    |none=>(found++[.ev (.decl x),.thrown],steps+1)
    |some h=>evGo u ws n (found++[.ev (.decl x)]) [true] h.t (steps+1) (asked+1) 0)
   else evGo u ws n (found++[.ev (.decl x)]) s (p+1) (steps+1) (asked+1) 0:=by
 conv=>lhs;unfold evGo
 rw[if_neg (Nat.not_le.mpr h15),if_neg (Nat.not_lt.mpr hi),h]
 try rfl
theorem ev_enough{n:Nat}(h15:15≤found.length):evGo u ws (n+1) found s p steps asked idl=(found,steps):=by
 unfold evGo
 rw[if_pos h15]
theorem ev_ever{n:Nat}(h15:found.length<15)(hi:2*u.code.length+4<idl+1):evGo u ws (n+1) found s p steps asked idl=(found++[.forever],0):=by
 unfold evGo
 rw[if_neg (Nat.not_le.mpr h15),if_pos hi]
end
theorem ev_same{u m:U}{ws:List Nat}{R:S→S→Prop}(hR:Alike u m R):∀(e n n':Nat)(found:List E)(x y:S)(steps steps' asked:Nat),R x y→15≤found.length+e→
  e*(2*u.code.length+6)+1≤n→e*(2*m.code.length+6)+1≤n'→steps'≤steps→Le (evGo u ws n found x.2 x.1 steps asked 0) (evGo m ws n' found y.2 y.1 steps' asked 0):=by
 intro e
 induction e with
 |zero=>
  intro n n' found x y steps steps' asked _ h15 hn hn' hs
  obtain⟨a,rfl⟩:∃a,n=a+1:=⟨n-1,by exact(Nat.sub_add_cancel (up hn rfl)).symm⟩
  obtain⟨b,rfl⟩:∃b,n'=b+1:=⟨n'-1,by exact(Nat.sub_add_cancel (up hn' rfl)).symm⟩
  rw[ev_enough (by exact h15),ev_enough (by exact o326 h15)]
  exact⟨rfl,hs⟩
 |succ e ih=>
  intro n n' found x y steps steps' asked hxy h15 hn hn' hs
  rw[Nat.succ_mul]at hn hn'
  by_cases h:15≤found.length
  .obtain⟨a,rfl⟩:∃a,n=a+1:=⟨n-1,by exact(Nat.sub_add_cancel (up hn rfl)).symm⟩
   obtain⟨b,rfl⟩:∃b,n'=b+1:=⟨n'-1,by exact(Nat.sub_add_cancel (up hn' rfl)).symm⟩
   rw[ev_enough (by exact h),ev_enough (by exact o327 h)]
   exact⟨rfl,hs⟩
  .have h:found.length<15:=by exact Nat.not_le.mp h
   rcases hR x y hxy with⟨h1,h2⟩|⟨k,p,j,q,s,h1,h2,hjk,hk,hj,hv⟩
   .obtain⟨z,hz⟩:=h1 (2*u.code.length+4)
    obtain⟨w,hw⟩:=h2 (2*m.code.length+4)
    obtain⟨a,rfl⟩:∃a,n=a+1+(2*u.code.length+4):=⟨n-(2*u.code.length+5),by exact o206 hn⟩
    obtain⟨b,rfl⟩:∃b,n'=b+1+(2*m.code.length+4):=⟨n'-(2*m.code.length+5),by exact o206 hn'⟩
    rw[ev_run h (by exact o207) hz,ev_run h (by exact o328) hw,ev_ever h (by exact o329),ev_ever h (by exact o329)]
    exact⟨rfl,Nat.le_refl _⟩
   .obtain⟨a,rfl⟩:∃a,n=a+1+k:=⟨n-(k+1),by exact o208 hn hk⟩
    obtain⟨b,rfl⟩:∃b,n'=b+1+j:=⟨n'-(j+1),by exact o208 hn' hj⟩
    rw[ev_run h (by exact o209 hk) h1,ev_run h (by exact o330 hj) h2]
    have l1:∀z:E,15≤(found++[z]).length+e:=fun z=>by rw[List.length_append];show _≤_+1+_;exact o210 h15
    rcases hv with⟨v1,v2⟩|⟨x,v1,v2,v3⟩|⟨x,v1,v2,v3,v4⟩
    .rw[ev_ret h (by exact o211 hk) v1,ev_ret h (by exact o331 hj) v2]
     exact⟨rfl,by dsimp only;exact o212 hs hjk⟩
    .rw[ev_ask h (by exact o211 hk) v1,ev_ask h (by exact o331 hj) v2]
     exact ih _ _ _ _ _ _ _ _ (v3 _) (l1 _) (by exact o213 hk hn) (by exact o332 hj hn') (by exact o333 hs hjk)
    .rw[ev_decl h (by exact o211 hk) v1,ev_decl h (by exact o331 hj) v2]
     split
     .rcases v4 with⟨v5,v6⟩|⟨g,g',v5,v6,v7⟩
      .rw[v5,v6]
       exact⟨rfl,by dsimp only;exact o212 hs hjk⟩
      .rw[v5,v6]
       exact ih _ _ _ _ _ _ _ _ v7 (l1 _) (by exact o213 hk hn) (by exact o332 hj hn') (by exact o333 hs hjk)
     .exact ih _ _ _ _ _ _ _ _ v3 (l1 _) (by exact o213 hk hn) (by exact o332 hj hn') (by exact o333 hs hjk)
theorem events_same{u m:U}{ws:List Nat}{R:S→S→Prop}(hR:Alike u m R)(h0:R (0,[]) (0,[])):Le (events u ws) (events m ws):=
 ev_same hR 15 _ _ [] (0,[]) (0,[]) 0 0 0 h0 (Nat.le_refl _) (by exact o214) (by exact o334) (Nat.le_refl _)
noncomputable def encS(x:S):Nat:=2*x.1+(if x.2=[true]then 1 else 0)
theorem encS_inj{ty:Nat→Nat}{c:List I}(h1:∀pc,ty pc≤1){p q:S}(hp:TyS ty c p)(hq:TyS ty c q)(e:encS p=encS q):p=q:=by
 unfold encS at e
 have e1:p.1=q.1:=by split at e<;>split at e<;>omega
 have h2:p.2.length=q.2.length:=hp.2.trans ((congrArg ty e1).trans hq.2.symm)
 have h3:p.2.length≤1:=hp.2▸h1 p.1
 rw[e1]at e
 have e:=Nat.add_left_cancel e
 refine Prod.ext e1 ?_
 match p.2,q.2,h2,h3,e with
 |[],[],_,_,_=>rfl
 |[a],[b],_,_,e=>cases a<;>cases b<;>first|rfl|exact nomatch e
theorem sil_ends{ty:Nat→Nat}{c:List I}(h1:∀pc,ty pc≤1)(hty:Typed ty c){x:S}(hx:TyS ty c x):∃k y,Ends (sil c) (2*c.length) x k y:=by
 obtain⟨k,E⟩:=walk_ends (f:=sil c) (P:=TyS ty c) (enc:=encS) (N:=2*c.length) (fun x y hx e=>⟨sil_ty hty hx e,by
  have:=hx.1
  unfold encS
  split<;>omega⟩) (fun x y hx hy _ _ e=>encS_inj h1 hx hy e) hx
 exact⟨k,_,E⟩
theorem per_ever{α:Type}{f:α→Option α}{x y:α}{k:Nat}(h:it f k x=some y)(hp:Per f y)(m:Nat):∃z,it f m x=some z:=by
 obtain⟨c,hc⟩:=hp
 have h1:=it_then h (it_per hc m)
 have h2:m≤k+(c+1)*m:=by
  have:(c+1)*m=c*m+m:=by rw[Nat.add_mul,Nat.one_mul]
  exact o215 this
 rw[show k+(c+1)*m=m+(k+(c+1)*m-m)by exact o216 h2,it_add]at h1
 cases e:it f m x with
 |none=>rw[e]at h1;exact nN h1
 |some z=>exact⟨z,rfl⟩
theorem sil_vis{c:List I}{x:S}(h:sil c x=none)(hl:x.1<c.length):c[x.1]? =some .ret∨(∃n,c[x.1]? =some (.ask n))∨∃n,c[x.1]? =some (.decl n):=by
 obtain⟨i,hi⟩:∃i,c[x.1]? =some i:=⟨_,List.getElem?_eq_getElem hl⟩
 unfold sil at h
 rw[hi]at h ⊢
 cases i with
 |ret=>exact .inl rfl
 |ask n=>exact .inr (.inl ⟨n,rfl⟩)
 |decl n=>exact .inr (.inr ⟨n,rfl⟩)
 |_=>exact nS h
theorem ask_ty{ty:Nat→Nat}{c:List I}(hty:Typed ty c){x:S}{n:Nat}(hx:TyS ty c x)(e:c[x.1]? =some (.ask n))(b:Bool):TyS ty c (x.1+1,x.2++[b]):=by
 have ht:=hty _ _ e
 exact⟨ht.2.2.1,by rw[List.length_append,hx.2,ht.2.1,ht.2.2.2];rfl⟩
theorem decl_ty{ty:Nat→Nat}{c:List I}(hty:Typed ty c){x:S}{n:Nat}(hx:TyS ty c x)(e:c[x.1]? =some (.decl n)):TyS ty c (x.1+1,x.2):=by
 have ht:=hty _ _ e
 exact⟨ht.2.2.1,by rw[hx.2,ht.2.1,ht.2.2.2]⟩
theorem thC_steps{ty:Nat→Nat}{c:List I}(hty:Typed ty c):∀{k:Nat}{x y:S},TyS ty c x→it (sil (thC c)) k x=some y→TyS ty c y∧∃j,k≤j∧it (sil c) j x=some y
 |0,x,y,hx,e=>by obtain rfl:=Option.some.inj e;exact⟨hx,0,Nat.le_refl _,rfl⟩
 |k+1,x,y,hx,e=>by
  have e:(sil (thC c) x).bind (it (sil (thC c)) k)=some y:=e
  cases h1:sil (thC c) x with
  |none=>rw[h1]at e;exact nN e
  |some z=>
   rw[h1]at e
   obtain⟨j,hj⟩:=thC_step hty hx h1
   refine x0_1 (thC_steps hty (k:=k) (it_inv (fun _ _=>sil_ty hty) hx hj) e) fun hy zR=>x1_1 zR fun m hm hm2=>?_
   exact⟨hy,j+1+m,by exact o196 hm,it_then hj hm2⟩
theorem thread_alike{u:U}(g:Good u):∃R,Alike u (thread u) R∧R (0,[]) (0,[]):=by
 refine x1_3 g.ty fun ty h0 h1 h2 h3=>?_
 refine⟨fun x y=>y=x∧TyS ty u.code x,?_,rfl,g.ne,h0.symm⟩
 rintro x y ⟨rfl,hx⟩
 have hl:(thC u.code).length=u.code.length:=List.length_map _
 refine x2_0 (sil_ends h1 (thC_typed h2) (x:=y) ⟨hl▸hx.1,hx.2⟩) fun k z E=>?_
 refine x0_1 (thC_steps h2 hx E.to) fun hz zR=>x1_1 zR fun j hj hj2=>?_
 rcases E.fix with h|⟨c,hc⟩
 .refine .inr ?_
  have hn:=thC_none h
  refine x2_0 (sil_ends h1 h2 hx) fun k' z' E'=>?_
  refine⟨j,z.1,k,z.1,z.2,hj2,E.to,hj,E'.conv ⟨hj2,hn⟩,E.le,?_⟩
  have hc:∀{i},u.code[z.1]? =some i→(thread u).code[z.1]? =some (thI u.code i):=fun{i} e=>by
   show(thC u.code)[z.1]? =_
   rw[thC_at,e];rfl
  rcases sil_vis hn hz.1 with e|⟨n,e⟩|⟨n,e⟩
  .exact .inl ⟨e,hc e⟩
  .exact .inr (.inl ⟨n,e,hc e,fun b=>⟨rfl,ask_ty h2 hz e b⟩⟩)
  .refine .inr (.inr ⟨n,e,hc e,⟨rfl,decl_ty h2 hz e⟩,?_⟩)
   cases hf:firstH u.hs z.1 with
   |none=>exact .inl ⟨rfl,hf⟩
   |some h=>
    have hm:h∈u.hs:=List.mem_of_find?_eq_some hf
    exact .inr ⟨h,h,rfl,hf,rfl,(g.hs h hm).2.2,(h3 h hm).symm⟩
 .refine .inl ⟨per_ever hj2 ?_,per_ever E.to ⟨c,hc⟩⟩
  refine x0_1 (thC_steps h2 hz hc) fun _ zR=>x1_1 zR fun m hm hm2=>?_
  exact⟨m-1,by rw[show m-1+1=m by exact o217 hm];exact hm2⟩
theorem once_alike{u:U}(g:Good u):∃R,Alike u (cleanOnce u) R∧R (0,[]) (0,[]):=by
 refine x1_3 g.ty fun ty h0 h1 h2 h3=>?_
 have g':=once_good u g
 refine x1_3 g'.ty fun ty' h0' h1' h2' h3'=>?_
 have z0:=(live_ok g.ne).1
 refine⟨fun x y=>y=phi u x∧TyS ty u.code x∧x.1∈live u∧TyS ty' (cleanOnce u).code y,?_,rfl,⟨g.ne,h0.symm⟩,z0,⟨g'.ne,h0'.symm⟩⟩
 rintro x y ⟨rfl,hx,hl,hy⟩
 refine x2_0 (sil_ends h1 h2 hx) fun k z E=>?_
 have hz:TyS ty u.code z:=it_inv (fun _ _=>sil_ty h2) hx E.to
 refine x0_1 (once_steps g h2 hl E.to) fun zl zR=>x1_2 zR fun j hj hj2 _=>?_
 have hz':TyS ty' (cleanOnce u).code (phi u z):=it_inv (fun _ _=>sil_ty h2') hy hj2
 rcases E.fix with hn|⟨c,hc⟩
 .refine .inr ?_
  refine x0_2 (once_none g zl hn) fun hk hn2 zR=>x1_1 zR fun i hi hi2=>?_
  refine x2_0 (sil_ends h1' h2' hy) fun k' z' E'=>?_
  refine⟨k,z.1,j,rk u z.1,z.2,E.to,hj2,hj,E.le,E'.conv ⟨hj2,hn2⟩,?_⟩
  have nx:∀{i},u.code[z.1]? =some i→i.isLast=false→z.1+1<u.code.length→z.1+1∈live u:=fun{i} h4 h5 h6=>live_to g zl (later_next h4 h5) h6
  have hc:∀{i},u.code[z.1]? =some i→(cleanOnce u).code[rk u z.1]? =some i:=fun{i} e=>by rw[hi2, ←hi];exact e
  rcases sil_vis hn hz.1 with e|⟨n,e⟩|⟨n,e⟩
  .exact .inl ⟨e,hc e⟩
  .refine .inr (.inl ⟨n,e,hc e,fun b=>⟨?_,ask_ty h2 hz e b,nx e rfl (h2 _ _ e).2.2.1,ask_ty h2' hz' (hc e) b⟩⟩)
   unfold phi;rw[←rk_kp hk]
  .refine .inr (.inr ⟨n,e,hc e,⟨?_,decl_ty h2 hz e,nx e rfl (h2 _ _ e).2.2.1,decl_ty h2' hz' (hc e)⟩,?_⟩)
   .unfold phi;rw[←rk_kp hk]
   .have hf2:=once_hand g hk
    cases hf:firstH u.hs z.1 with
    |none=>rw[hf]at hf2;exact .inl ⟨rfl,hf2⟩
    |some h=>
     rw[hf]at hf2
     have hm:h∈u.hs:=List.mem_of_find?_eq_some hf
     have hm':=List.mem_of_find?_eq_some hf2
     exact .inr ⟨h,_,rfl,hf2,rfl,⟨(g.hs h hm).2.2,(h3 h hm).symm⟩,live_to g zl (later_hand hf) (g.hs h hm).2.2,(g'.hs _ hm').2.2,(h3' _ hm').symm⟩
 .refine .inl ⟨per_ever E.to ⟨c,hc⟩,per_ever hj2 ?_⟩
  refine x0_1 (once_steps g h2 zl hc) fun _ zR=>x1_2 zR fun m _ hm hm2=>?_
  have:m≠0:=fun h=>by have:=hm2 h;exact o218 this
  exact⟨m-1,by rw[show m-1+1=m by exact o219 this];exact hm⟩
section
variable {u:U} {ws:List Nat}
theorem MadeOk.trans{u v w:U}(a:MadeOk u v ws)(b:MadeOk v w ws):MadeOk u w ws:=
 ⟨b.good,b.same.trans a.same,Nat.le_trans b.less a.less,fun l h=>a.lines l (b.lines l h)⟩
theorem thread_made(g:Good u):MadeOk u (thread u) ws:=by
 refine x1_1 (thread_alike g) fun R h1 h2=>?_
 obtain⟨a,b⟩:=events_same (ws:=ws) h1 h2
 exact⟨thread_good g,a,b,fun l h=>h⟩
theorem once_made(g:Good u):MadeOk u (cleanOnce u) ws:=by
 refine x1_1 (once_alike g) fun R h1 h2=>?_
 obtain⟨a,b⟩:=events_same (ws:=ws) h1 h2
 refine⟨once_good u g,a,b,fun l h=>?_⟩
 refine x1_1 (List.mem_map.mp h) fun pc hp zL=>?_;subst zL
 have hp:=List.mem_range.mp (List.mem_filter.mp hp).1
 rw[List.getD_eq_getElem?_getD,List.getElem?_eq_getElem (by rw[g.lens];exact hp)]
 exact List.getElem_mem _
theorem clean_made(g:Good u):MadeOk u (clean u) ws∧cleanOnce (clean u)=clean u:=by
 have:=clean_go (P:=fun w=>MadeOk u w ws) (fun w gw p=>p.trans (once_made gw)) u.code.length u g ⟨g,rfl,Nat.le_refl _,fun _ h=>h⟩ (Nat.le_refl _)
 exact this.2
theorem law_ok(g:Good u):LawOk u ws:=by
 have t:=thread_made (ws:=ws) g
 have c:=clean_made (ws:=ws) g
 have b:=clean_made (ws:=ws) t.good
 exact⟨g,once_good,t,c.1,t.trans b.1,c.1.trans (thread_made c.1.good),straight_thread g,lean_fix c.1.good c.2,lean_fix b.1.good b.2,thread_thread u,clean_fix b.2⟩
end
end Mine.Internal
namespace Mine.Internal
noncomputable def req(op:Nat):Nat:=if op=11∨op=21∨op=58 then 0 else 1
noncomputable def nxt(op:Nat):Nat:=if op=11 then 1 else 0
noncomputable def head0(D:List J):Prop:=∃y r,D=y::r∧req y.1=0
noncomputable def goesOn(x:J)(r:List J):Prop:=x.1=58∨x.1=65∨∃y r',r=y::r'∧req y.1=nxt x.1
noncomputable def Ch:List J→Prop
 |[]=>True
 |x::r=>goesOn x r∧Ch r
theorem ch_at:∀{W:List J},Ch W→∀{pc:Nat}{x:J},W[pc]? =some x→x.1=58∨x.1=65∨∃y,W[pc+1]? =some y∧req y.1=nxt x.1
 |[],_,pc,x,h=>by exact nN h
 |a::r,⟨h1,_⟩,0,x,h=>by
  obtain rfl:=Option.some.inj h
  rcases h1 with h1|h1|⟨y,r',rfl,h1⟩
  .exact .inl h1
  .exact .inr (.inl h1)
  .exact .inr (.inr ⟨y,rfl,h1⟩)
 |a::r,⟨_,h2⟩,pc+1,x,h=>ch_at h2 h
theorem head_at{W:List J}{p:Nat}(h:head0 (W.drop p)):∃y,W[p]? =some y∧req y.1=0:=by
 refine x2_1 h fun y r e hr=>?_
 refine⟨y,?_,hr⟩
 have:(W.drop p)[0]? =some y:=by rw[e];rfl
 rwa [List.getElem?_drop]at this
theorem go_on{x y:J}{r:List J}(h:req y.1=nxt x.1):goesOn x (y::r):=.inr (.inr ⟨y,r,rfl,h⟩)
theorem blockA_ch(f:Nat×Box)(at_ many lnds:Nat){D:List J}(hc:Ch D)(h0:head0 D):Ch ((blockA f at_ many lnds).1++D)∧head0 ((blockA f at_ many lnds).1++D):=by
 refine x2_1 h0 fun y r zE hy=>?_;subst zE
 have l:∀{x:J}{r:List J},nxt x.1=0→req y.1=nxt x.1:=fun h=>hy.trans h.symm
 unfold blockA
 split
 .exact⟨⟨go_on hy,hc⟩,_,_,rfl,rfl⟩
 .split
  .refine⟨⟨go_on ?_,go_on ?_,go_on hy,hc⟩,_,_,rfl,rfl⟩
   .show req (59+f.1%2)=1
    unfold req;rw[if_neg];exact o220
   .show 0=nxt (59+f.1%2)
    unfold nxt;rw[if_neg];exact o221
  .split
   .refine⟨⟨go_on ?_,go_on ?_,hc⟩,_,_,rfl,rfl⟩
    .show req (61+f.1%2)=1
     unfold req;rw[if_neg];exact o222
    .show _=nxt (61+f.1%2)
     unfold nxt;rw[if_neg (by exact o223)];exact hy
   .split
    .exact⟨⟨go_on rfl,.inr (.inl rfl),hc⟩,_,_,rfl,rfl⟩
    .exact⟨hc,_,_,rfl,hy⟩
theorem jmp_ch{n:Nat}{D:List J}(hc:Ch D):Ch ((58,Info.blk n)::D)∧head0 ((58,Info.blk n)::D):=⟨⟨.inl rfl,hc⟩,_,_,rfl,rfl⟩
theorem block_ch{b:Box}{at_ many lnds:Nat}{D:List J}(hc:Ch D)(h0:at_+1≠many→head0 D):Ch ((block b at_ many lnds).1++D)∧head0 ((block b at_ many lnds).1++D):=by
 unfold block
 dsimp only
 split
 .rw[List.append_assoc]
  obtain⟨h1,h2⟩:=jmp_ch (n:=(take (blockA (take b 8) at_ many lnds).2 many).1) hc
  exact blockA_ch _ _ _ _ h1 h2
 .next h=>exact blockA_ch _ _ _ _ hc (h0 fun e=>h (.inr e))
theorem blocks_ch{b:Box}{many lnds:Nat}:∀(k:Nat){D:List J},Ch D→(k≠many→head0 D)→k≤many→0<k→
  Ch ((blocks b many lnds k).code++D)∧0∈(blocks b many lnds k).starts∧∀p∈(blocks b many lnds k).starts,head0 (((blocks b many lnds k).code++D).drop p)
 |0,_,_,_,_,h=>absurd h (Nat.lt_irrefl 0)
 |k+1,D,hc,h0,hk,_=>by
  unfold blocks
  dsimp only
  obtain⟨h1,h2⟩:=block_ch (b:=(blocks b many lnds k).box) (lnds:=lnds) hc h0
  rw[List.append_assoc]
  have fin:∀p,p=(blocks b many lnds k).code.length→head0 (((blocks b many lnds k).code++((block (blocks b many lnds k).box k many lnds).1++D)).drop p):=fun p hp=>by
   subst hp
   rw[List.drop_left];exact h2
  cases k with
  |zero=>exact⟨h1,.head _,fun p hp=>fin p (List.mem_singleton.mp hp)⟩
  |succ k=>
   refine x0_2 (blocks_ch (b:=b) (many:=many) (lnds:=lnds) (k+1) h1 (fun _=>h2) (by exact Nat.le_of_lt hk) (Nat.succ_pos k)) fun i1 i0 i2=>?_
   refine⟨i1,List.mem_append_left _ i0,fun p hp=>?_⟩
   rcases List.mem_append.mp hp with hp|hp
   .exact i2 p hp
   .exact fin p (List.mem_singleton.mp hp)
theorem landing_ch(b:Box)(many lnds:Nat):∃x y,(landing b many lnds).1=[x,y]∧req x.1=1∧∀{D},Ch D→Ch (x::y::D):=by
 have hf:(take b 5).1<5:=take_lt (by decide)
 unfold landing
 dsimp only
 split
 .exact⟨_,_,rfl,rfl,fun hc=>⟨go_on rfl,.inl rfl,hc⟩⟩
 .next h=>
  have h1:req (58+(take b 5).1)=1:=by unfold req;rw[if_neg];exact o224 hf h
  have h2:nxt (58+(take b 5).1)=0:=by unfold nxt;rw[if_neg];exact o225 hf
  split
  .exact⟨_,_,rfl,h1,fun hc=>⟨go_on h2.symm,.inl rfl,hc⟩⟩
  .exact⟨_,_,rfl,h1,fun hc=>⟨go_on h2.symm,.inl rfl,hc⟩⟩
theorem lands_ch{c:List J}{b:Box}{many lnds:Nat}:∀k,∃L,(lands c b many lnds k).code=c++L∧(∀{D},Ch D→Ch (L++D))∧∀p∈(lands c b many lnds k).starts,c.length≤p∧∃y,(c++L)[p]? =some y∧req y.1=1
 |0=>⟨[],(List.append_nil c).symm,id,fun p hp=>by exact nM hp⟩
 |k+1=>by
  refine x1_2 (lands_ch (c:=c) (b:=b) (many:=many) (lnds:=lnds) k) fun L h1 h2 h3=>?_
  refine x2_2 (landing_ch (lands c b many lnds k).box many lnds) fun x y e hx hxy=>?_
  refine⟨L++[x,y],?_,fun{D} hc=>?_,fun p hp=>?_⟩
  .unfold lands
   dsimp only
   rw[h1,e,List.append_assoc]
  .rw[List.append_assoc];exact h2 (hxy hc)
  .unfold lands at hp
   dsimp only at hp
   rcases List.mem_append.mp hp with hp|hp
   .refine x0_1 (h3 p hp) fun a zR=>x1_1 zR fun z hz hz2=>?_
    refine⟨a,z,?_,hz2⟩
    rw[←List.append_assoc,List.getElem?_append_left (List.getElem?_eq_some_iff.mp hz).1];exact hz
   .rw[List.mem_singleton,h1]at hp
    subst hp
    refine⟨by rw[List.length_append];exact Nat.le_add_right _ _,x,?_,hx⟩
    rw[←List.append_assoc,List.getElem?_append_right (Nat.le_refl _),Nat.sub_self];rfl
theorem hgen_in{ls:List Nat}{lnds last:Nat}{b:Box}(hb:BoxOk b)(hlast:0<last)(hl:0<lnds)(hls:ls.length=lnds):∀k,
  (∀h∈(hgen ls lnds last b k).hs,h.s<h.e∧h.e≤last∧h.t∈ls∧h.s≤(hgen ls lnds last b k).s∧(hgen ls lnds last b k).e≤h.e)∧(hgen ls lnds last b k).hs.Pairwise fun a b=>b.s≤a.s∧a.e≤b.e
 |0=>⟨fun h hh=>(by exact nM hh),.nil⟩
 |k+1=>by
  obtain⟨i1,i2⟩:=hgen_in hb hlast hl hls k
  refine x0_3 (hgen_ok (ls:=ls) (lnds:=lnds) hb hlast k) fun j1 j2 _ _=>?_
  unfold hgen
  dsimp only
  generalize hgen ls lnds last b k=p at i1 i2 j1 j2
  have h1:(take p.box (p.e-p.s)).1<p.e-p.s:=take_lt (by exact Nat.sub_pos_of_lt j1)
  have h2:(take (take p.box (p.e-p.s)).2 (p.e-(p.s+(take p.box (p.e-p.s)).1))).1<p.e-(p.s+(take p.box (p.e-p.s)).1):=take_lt (by exact o165 j1 h1)
  generalize take p.box (p.e-p.s)=x at h1 h2
  generalize take x.2 (p.e-(p.s+x.1))=y at h2
  have h3:(take y.2 lnds).1<lnds:=take_lt hl
  generalize take y.2 lnds=z at h3
  refine⟨fun h hh=>?_,List.pairwise_cons.mpr ⟨fun h hh=>?_,i2⟩⟩
  .rcases List.mem_cons.mp hh with rfl|hh
   .refine⟨by dsimp only;exact Nat.le_add_right _ _,by dsimp only;exact o302 j2 h2,?_,Nat.le_refl _,Nat.le_refl _⟩
    dsimp only
    rw[List.getD_eq_getElem?_getD,List.getElem?_eq_getElem (by exact Nat.le_trans h3 (Nat.le_of_eq hls.symm))]
    exact List.getElem_mem _
   .refine x0_4 (i1 h hh) fun a b c d e=>?_
    exact⟨a,b,c,by exact Nat.le_trans d (Nat.le_add_right _ _),by exact o341 h2 e⟩
  .refine x0_4 (i1 h hh) fun a b c d e=>?_
   exact⟨by dsimp only;exact Nat.le_trans d (Nat.le_add_right _ _),by dsimp only;exact o341 h2 e⟩
theorem toI_typed{W:List J}{bs ls:List Nat}{many lnds:Nat}(hch:Ch W)(hj:∀x∈W,JOk many lnds x)(hb:bs.length=many)(hl:ls.length=lnds)
  (hbs:∀p∈bs,∃y,W[p]? =some y∧req y.1=0) (hls:∀p∈ls,∃y,W[p]? =some y∧req y.1=1):Typed (fun pc=>req ((W[pc]?.map Prod.fst).getD 11)) (W.map (toI bs ls)):=by
 intro pc i h
 rw[List.getElem?_map]at h
 refine x1_1 (Option.map_eq_some_iff.mp h) fun x hx zL=>?_;subst zL
 rw[List.length_map]
 have mem:∀{l:List Nat}{n:Nat},n<l.length→l.getD n 0∈l:=fun{l n} h=>by
  rw[List.getD_eq_getElem?_getD,List.getElem?_eq_getElem h];exact List.getElem_mem _
 have tp:∀{q:Nat}{y:J}{r:Nat},W[q]? =some y∧req y.1=r→q<W.length∧req ((W[q]?.map Prod.fst).getD 11)=r:=fun{q y r} h=>⟨(List.getElem?_eq_some_iff.mp h.1).1,by rw[h.1];exact h.2⟩
 have t0:=(tp ⟨hx,rfl⟩).2
 have nx:=ch_at hch hx
 have go:x.1≠58→x.1≠65→pc+1<W.length∧req ((W[pc+1]?.map Prod.fst).getD 11)=nxt x.1:=fun h1 h2=>by
  rcases nx with h|h|⟨y,h⟩
  .exact(h1 h).elim
  .exact(h2 h).elim
  .exact tp h
 have jk:=hj x (List.mem_of_getElem? hx)
 obtain⟨op,info⟩:=x
 dsimp only at t0 go
 cases info with
 |no=>
  rcases jk with e|e<;>(subst e)
  .have:=go (by decide) (by decide)
   exact⟨t0,this.1,this.2⟩
  .exact t0
 |num n=>
  obtain⟨e,h3⟩:=jk
  rcases e with e|e<;>(subst e)
  .have:=go (by decide) (by decide)
   exact⟨h3,t0,this.1,this.2⟩
  .have:=go (by decide) (by decide)
   exact⟨h3,t0,this.1,this.2⟩
 |blk n=>
  obtain⟨e,h3⟩:=jk
  obtain⟨y,hy⟩:=hbs _ (mem (n:=n) (by exact Nat.le_trans h3 (Nat.le_of_eq hb.symm)))
  have ty:=tp hy
  rcases e with e|e|e<;>(subst e)
  .exact⟨ty.1,ty.2.trans t0.symm⟩
  .have:=go (by decide) (by decide)
   exact⟨t0,this.1,this.2,ty.1,ty.2⟩
  .have:=go (by decide) (by decide)
   exact⟨t0,this.1,this.2,ty.1,ty.2⟩
 |lnd n=>
  obtain⟨e,h3⟩:=jk
  obtain⟨y,hy⟩:=hls _ (mem (n:=n) (by exact Nat.le_trans h3 (Nat.le_of_eq hl.symm)))
  have ty:=tp hy
  rcases e with e|e<;>(subst e)
  .have:=go (by decide) (by decide)
   exact⟨t0,this.1,this.2,ty.1,ty.2⟩
  .have:=go (by decide) (by decide)
   exact⟨t0,this.1,this.2,ty.1,ty.2⟩
theorem gen_good{b:Box}(hb:BoxOk b):Good (genU b).1:=by
 unfold genU
 dsimp only
 have ha:=take_lt (b:=b) (m:=6) (by decide)
 have hc:=take_lt (b:=(take b 6).2) (m:=3) (by decide)
 have hb1:=take_ok (take_ok hb 6) 3
 generalize(take b 6).1=a at ha
 generalize(take (take b 6).2 3).1=c at hc
 generalize(take (take b 6).2 3).2=b1 at hb1
 refine x0_3 (blocks_ok (many:=4+a) (lnds:=2+c) hb1 (by exact o226 ha) (by exact o342 hc) (4+a)) fun p1 p2 p3 p4=>?_
 refine x0_3 (lands_ok (many:=4+a) (lnds:=2+c) p4 p3 (by exact o227 ha p2) (by exact o342 hc) (2+c)) fun r1 r2 r3 r4=>?_
 refine x1_2 (lands_ch (c:=(blocks b1 (4+a) (2+c) (4+a)).code) (b:=(blocks b1 (4+a) (2+c) (4+a)).box) (many:=4+a) (lnds:=2+c) (2+c)) fun L e1 e2 e3=>?_
 have hL:Ch L:=by have:=e2 (D:=[]) trivial;rwa [List.append_nil]at this
 refine x0_2 (blocks_ch (b:=b1) (many:=4+a) (lnds:=2+c) (4+a) hL (fun h=>(h rfl).elim) (Nat.le_refl _) (by exact o227 ha p2)) fun q1 q0 q2=>?_
 have hp0:0<(blocks b1 (4+a) (2+c) (4+a)).code.length:=by
  refine x0_2 (blocks_ch (b:=b1) (many:=4+a) (lnds:=2+c) (4+a) (D:=[]) trivial (fun h=>(h rfl).elim) (Nat.le_refl _) (by exact o227 ha p2)) fun _ z0 z1=>?_
  refine x2_1 (z1 0 z0) fun y _ e _=>?_
  rw[List.append_nil]at e
  exact List.length_pos_iff.mpr fun h=>by rw[h]at e;exact nC e
 generalize blocks b1 (4+a) (2+c) (4+a)=p at p1 p2 p3 p4 r1 r2 r3 r4 e1 e2 e3 q0 q1 q2 hp0
 generalize lands p.code p.box (4+a) (2+c) (2+c)=r at r1 r2 r3 r4 e1 e2 e3
 rw[←e1]at q1 q2 e3
 have ht:=take_lt (b:=r.box) (m:=3) (by decide)
 have hb2:=take_ok r4 3
 generalize(take r.box 3).1=t at ht
 generalize(take r.box 3).2=b2 at hb2
 have hbs:∀s∈p.starts,∃y,r.code[s]? =some y∧req y.1=0:=fun s hs=>head_at (q2 s hs)
 have hls:∀s∈r.starts,∃y,r.code[s]? =some y∧req y.1=1:=fun s hs=>(e3 s hs).2
 obtain⟨h1,h2⟩:=hgen_in (ls:=r.starts) (lnds:=2+c) (last:=p.code.length) hb2 hp0 (by exact o228 hc r2) r2 t
 have h3:=hgen_ok (ls:=r.starts) (lnds:=2+c) hb2 hp0 t
 generalize hgen r.starts (2+c) p.code.length b2 t=g at h1 h2 h3
 have hlen:(r.code.map (toI p.starts r.starts)).length=r.code.length:=List.length_map _
 have hin:∀h∈g.hs,h.t<r.code.length∧req ((r.code[h.t]?.map Prod.fst).getD 11)=1:=fun h hh=>by
  refine x1_1 (hls _ (h1 h hh).2.2.1) fun y hy hy2=>?_
  exact⟨(List.getElem?_eq_some_iff.mp hy).1,by rw[hy];exact hy2⟩
 refine⟨?_,?_,?_,?_,⟨_,?_,fun pc=>?_,toI_typed q1 r3 p2 r2 hbs hls,fun h hh=>(hin h hh).2⟩,fun h hh=>?_,h2,?_⟩
 .dsimp only;rw[hlen];exact o229 ha hc p1 p2 hp0 r1 r2 hlen
 .dsimp only;rw[hlen];exact o230 ha hc p1 p2 hp0 r1 r2 hlen
 .dsimp only;rw[List.length_map,List.length_map,List.length_range]
 .intro l hl
  refine x1_1 (List.mem_map.mp hl) fun k hk zL=>?_;subst zL
  have:=List.mem_range.mp hk
  exact o231 ha hc p1 p2 hp0 r1 r2 hlen this
 .refine x1_1 (hbs 0 q0) fun y hy hy2=>?_
  rw[hy];exact hy2
 .unfold req;split<;>omega
 .dsimp only
  rw[hlen]
  exact⟨(h1 h hh).1,Nat.le_trans (h1 h hh).2.1 (e3 _ (h1 h hh).2.2.1).1,(hin h hh).1⟩
 .dsimp only;rw[h3.2.2.1];exact Nat.le_of_succ_le_succ ht
end Mine.Internal
namespace Mine.Internal
open PySem PySem.W PyProof.Rows PySem.Calls
theorem top_ok{C:Cx}{glob:List (Str×GV)}{f n d:Nat}{params:List Str}{names:List (Str×NameKind)}{body:List Stmt}{args:List PV}{vals:List Value}{A:Around}{s:Shared}{mg mb:Str→Option Value}
  (cx:CxOk C glob) (ok:FnOk C f params names body) (hargs:args.length=params.length) (h1:1≤d) (rm:Room A (d+1)) (kin:C.K.In s.heap) (lim:s.heap.NoLimit)
  (hg:s.heap.Ns mainGlobals mg) (hb:s.heap.Ns builtinsNs mb) (hbb:∀x:Str,x≠ "__name__"→mb x=bootBuiltins x) (hv:VRels C (fun _=>False) s.heap [] args vals)
  (h:wpSs C d (body.map (cS n ⟨names,slotsOf names,glob,C.fields,true⟩)) (fun o _=>o=.ret (.bool true)) ⟨rho0 args (slotsOf names),[]⟩):
  codeAny (model C.prog C.w) A (.call (.ref (C.fa f)) ⟨vals,[]⟩) (fun r s'=>r=.ok (.ret (.bool true))∧Same s s'∧∀b o,s.heap.get? b=some o→s'.heap.get? b=some o) s:=by
 refine x2_11 ok.fn fun o fd e1 e2 e3 e4 e5 e6 e7 e8 e9 e10 e11 e12=>?_
 have L:=hv.length
 have rm':Room (A.deeper (callEnvC fd s.heap.objs.size (C.fa f))) d:=⟨rm.handled,rm.guards,by have:=rm.depth;show A.depth+1+4*d≤900;exact o46 this,by have:=rm.units;show A.units+3+20*d≤9000;exact o249 this⟩
 have hpn:params.Nodup:=by
  rw[ok.pars]
  exact ok.nodup.sublist (List.take_sublist _ _)
 refine codeAny_call_cells (by have:=rm.depth;exact o47 h1 this) (kin _ _ e1) e2 lim (codeRec_of kin e3) e4 (e9 vals (by exact o250 hargs L)) e6 (fun x hx=>?_) (fun s₁ X=>?_) e10 e11 e12
 .have hm:x.1∈params:=(List.of_mem_zip hx).1
  rw[e5]
  rcases ok.kinds _ hm with k|k
  .exact .inl k
  .exact .inr ⟨k,cells_all (.inl k)⟩
 .have hlow:∀{b:Nat}{o:Obj},s.heap.get? b=some o→b<s.heap.objs.size:=fun e=>Heap.lt_size e
  have hno:∀{b:Nat},s.heap.objs.size≤b→s.heap.get? b=none:=fun{b} h=>by
   cases e:s.heap.get? b with
   |none=>rfl
   |some o=>have:=hlow e;exact absurd this (Nat.not_lt.mpr h)
  let own:Nat→Prop:=fun a=>a=s.heap.objs.size∨∃n,(cellsFrom (s.heap.objs.size+1) fd.scope.names []).lookup n=some a
  have hnew:∀a:Nat,own a→s.heap.objs.size≤a∧∃o,s₁.heap.get? a=some o:=fun a q=>by
   rcases q with rfl|⟨n,q⟩
   .refine x3_1 X.toInCall.ns fun o es ep ho _=>?_
    exact⟨Nat.le_refl _,o,ho⟩
   .refine x1_1 (X.cell n a q) fun o ho _=>?_
    exact⟨Nat.le_of_lt (X.above n a (mem_of_lookup q)),o,ho⟩
  have Fok:Frm.Ok C ⟨callEnvC fd s.heap.objs.size (C.fa f),slotsOf names,s.heap,own,[],[],true⟩:={
   kin:=kin
   lim:=lim
   kind:=e12
   glob:=e7
   bltn:=e8
   locfx:=.inl rfl
   locbase:=hno (Nat.le_refl _)
   cellfx:=fun n c q=>.inr ⟨n,q⟩
   cellloc:=fun n c q=>Nat.ne_of_gt (X.above n c (mem_of_lookup q))
   cell1:=fun n n' c q q'=>name_of_addr X.apart (mem_of_lookup q) (mem_of_lookup q')
   cellbase:=fun _ n c _ q=>hno (hnew c (.inr ⟨n,q⟩)).1
   cellall:=fun n q=>by
    have q':names.lookup n=some .cell∨names.lookup n=some .free:=by rw[←e5];exact q
    rcases q' with q|q
    .show((cellsFrom (s.heap.objs.size+1) fd.scope.names []).lookup n).isSome=true
     rw[e5]
     exact cells_all (.inl q)
    .exact absurd rfl (ok.nofree _ (mem_lookup q))
   protfx:=fun p hp=>nomatch hp
   prot1:=.nil
   fxtop:=fun a q=>by
    cases e:C.K.lookup a with
    |none=>rfl
    |some o=>have:=hlow (kin _ _ e);have:=(hnew a q).1;omega
   slots1:=ok.nodup
   locne:=fun e=>by
    refine x3_1 hg fun o _ _ ho _=>?_
    have h1:=hlow ho
    have e:s.heap.objs.size=fd.globals:=e
    rw[e7]at e
    exact absurd h1 (by rw[←e];exact Nat.lt_irrefl _)
   tops:=⟨mg,mb,hg,hb,hbb⟩}
  have Si:Sim C ⟨callEnvC fd s.heap.objs.size (C.fa f),slotsOf names,s.heap,own,[],[],true⟩ [] [] ⟨rho0 args (slotsOf names),[]⟩ s₁.heap:={
   ok:=Fok
   keep:=X.toInCall.keep
   pre:=⟨[],rfl⟩
   ns:=⟨_,X.toInCall.ns⟩
   cells:=fun n c q=>⟨_,X.cell n c q⟩
   prot:=fun p hp=>nomatch hp
   vals:=fun p hp=>nomatch hp
   vars:=fun i n pv q1 q2=>by
    unfold rho0 at q2
    have hi:i<args.length:=by
     cases Nat.lt_or_ge i args.length with
     |inl h=>exact h
     |inr h=>
      rw[List.getElem?_append_right (by simpa using h),List.getElem?_replicate]at q2
      split at q2<;>simp at q2
    rw[List.getElem?_append_left (by simpa using hi),List.getElem?_map]at q2
    refine x1_1 (Option.map_eq_some_iff.mp q2) fun p hp e=>?_
    obtain rfl:=Option.some.inj e
    refine x1_1 (hv.get hp) fun v hvv hvr=>?_
    have hpar:params[i]? =some n:=by
     rw[ok.pars,List.getElem?_take,if_pos (by exact o48 hargs L hi)]
     exact q1
    refine⟨v,?_,hvr.move ⟨fun b o e _=>X.toInCall.keep b o e,fun b hb q=>?_⟩ fun _ _ e=>e⟩
    .have ek:(callEnvC fd s.heap.objs.size (C.fa f)).kindOf n=names.lookup n:=by rw[←e5];rfl
     rcases ok.kinds n (List.mem_of_getElem? hpar)with k|k
     .exact .inl ⟨ek.trans k,_,X.toInCall.ns,bindL_at hpn hpar hvv (ek.trans k)⟩
     .obtain⟨c,hc⟩:=Option.isSome_iff_exists.mp (cells_all (k:=s.heap.objs.size+1) (acc:=[]) (.inl k))
      rw[←e5]at hc
      refine .inr ⟨.inl (ek.trans k),c,hc,?_⟩
      have:=X.cell n c hc
      rwa [bindC_at hpn hpar hvv (by rw[ek,k];simp)]at this
    .obtain⟨o,ho⟩:=hb
     rcases q with q|⟨p,hp,_⟩
     .have:=hlow ho;have:=(hnew b q).1;exact o232 (by assumption) this
     .contradiction
   len:=rfl
   objs:=fun i o p q _=>by exact nN q
   muoff:=fun p hp=>nomatch hp
   mu1:=fun i j p q h _=>by exact nN h
   has:=fun a q=>by
    rcases q with q|⟨p,hp,_⟩
    .exact(hnew a q).2
    .cases hp}
  have hc:EnvC C ⟨callEnvC fd s.heap.objs.size (C.fa f),slotsOf names,s.heap,own,[],[],true⟩ ⟨names,slotsOf names,glob,C.fields,true⟩:=
   ⟨e5,rfl,rfl,fun _=>rfl,cx⟩
  refine x2_0 X.toInCall.same fun h₁ tk₁ hs₁=>?_
  have e0:Same s s₁:=by rw[hs₁];exact⟨rfl,rfl,rfl⟩
  refine wpAny_mono (body_snd n body _ hc _ d s₁ [] [] _ _ rm' h1 Si h) (fun fl s₂ hf=>?_) fun _ _ h=>h.elim
  cases fl with
  |next=>refine x2_2 hf fun mu₂ st₂ e₂ S₂ q₂=>?_;contradiction
  |brk=>refine x2_2 hf fun mu₂ st₂ e₂ S₂ q₂=>?_;contradiction
  |cont=>refine x2_2 hf fun mu₂ st₂ e₂ S₂ q₂=>?_;contradiction
  |ret v=>
   refine x3_2 hf fun mu₂ pv st₂ e₂ S₂ q₂=>?_
   cases q₂
   have hv:VRel C _ s₂.heap mu₂ (.bool true) v:=S₂.hd
   subst hv
   exact⟨rfl,e0.trans e₂,S₂.keep⟩
theorem vr_of_well{C:Cx}{P:Params}{h:Heap}{v:Value}{l:List Int}(w:Well P h v (ofPy (.list (l.map .int))))(hl:l.length≤lineN):VRel C (fun _=>False) h [] (.list (l.map .int)) v:=by
 have hin:∀{l:List Int}{vs:List Value},WellAll P h vs (ofPys (l.map .int))→vs.length=l.length∧VRels C (fun _=>False) h [] (l.map .int) vs:=fun{l}=>by
  induction l with
  |nil=>intro vs w;cases w;exact⟨rfl,by rfl⟩
  |cons i l ih=>
   intro vs w
   rw[List.map_cons]at w
   cases w with
   |cons a b=>
    obtain⟨h1,h2⟩:=ih b
    cases a
    refine⟨congrArg (· +1) h1,?_⟩
    rw[List.map_cons]
    exact⟨_,_,rfl,by exact⟨_,rfl⟩,h2⟩
 cases w with
 |list hg ha=>
  obtain⟨h1,h2⟩:=hin ha
  exact⟨_,_,_,rfl,id,hg,h1▸hl,h2⟩
theorem law_top{K:Params→Frag}(hK:KOk K){w:World}{s:Shared}{mg mb:Str→Option Value}{l:List Int}{v:Value}(kin:(K w.params).In s.heap)(lim:s.heap.NoLimit)
  (hg:s.heap.Ns mainGlobals mg) (hb:s.heap.Ns builtinsNs mb) (hbb:∀x:Str,x≠ "__name__"→mb x=bootBuiltins x) (hw:Well w.params s.heap v (ofPy (.list (l.map .int)))) (hl:l.length≤63):
  codeAny (model PySem.Challenge.pw_nt0377_01 w) callerA (.call (.ref 476) ⟨[v],[]⟩) (fun r s'=>r=.ok (.ret (.bool true))∧Same s s'∧∀b o,s.heap.get? b=some o→s'.heap.get? b=some o) s:=by
 have hchk:fnChk (cxK K w).K ((cxK K w).fa 49) (pars 49)=true:=List.all_eq_true.mp (hK.chk w.params) 49 (List.mem_range.mpr (by decide))
 refine x2_2 (fnOk_of rfl hchk (bind_of hK (by decide))) fun fd body e1 e2 ok=>?_
 have e1':fdAt (K w.params) 476=some fd:=e1
 have hc:comp (K w.params) (fa 49)=(b49,n49):=com_of hK (by decide) rfl
 replace hc:=(op_at e1).symm.trans hc
 rw[e2]at hc
 obtain⟨c1,c2⟩:=Prod.mk.inj hc
 refine top_ok (C:=cxK K w) (f:=49) (n:=40) (d:=10) (args:=[.list (l.map .int)]) (cxOk hK w) ok rfl (by decide) ⟨rfl,rfl,by decide,by decide⟩ kin lim hg hb hbb ?_ ?_
 .skip
  exact⟨v,[],rfl,vr_of_well hw (by show _≤16777216;exact Nat.le_trans hl (Nat.le_add_left _ _)),by rfl⟩
 .show wpSs (cxK K w) 10 (body.map (cS 40 ⟨fd.scope.names,slotsOf fd.scope.names,globV,fieldsU,true⟩)) (fun o _=>o=.ret (.bool true)) ⟨rho0 [.list (l.map .int)] (slotsOf fd.scope.names),[]⟩
  have c1':body.map (cS 40 ⟨fd.scope.names,slotsOf fd.scope.names,globV,fieldsU,true⟩)=b49:=c1
  have c2':(slotsOf fd.scope.names).length=n49:=c2
  rw[c1']
  unfold rho0
  rw[c2']
  exact law_run hK hl (law_ok (gen_good (seeds_ok _ (by decide)))) (by decide) fun st=>rfl
theorem law_end{K:Params→Frag}(hK:KOk K)(hlaw:∀P,nsIn (K P) mainGlobals (Str.ofString "law")=some (some (.ref 476))){w:World}{s:Shared}{mg mb:Str→Option Value}{l:List Int}{v:Value}{fa:Addr}(kin:(K w.params).In s.heap)(lim:s.heap.NoLimit)
  (hg:s.heap.Ns mainGlobals mg) (hb:s.heap.Ns builtinsNs mb) (hbb:∀x:Str,x≠ "__name__"→mb x=bootBuiltins x) (hfa:mg (Str.ofString "law")=some (.ref fa)) (hw:Well w.params s.heap v (ofPy (.list (l.map .int)))) (hl:¬(63:Int)<l.length)
  {R:Result→Shared→Prop} (q:∀s',Same s s'→(∀b o,s.heap.get? b=some o→s'.heap.get? b=some o)→R (.ok (.ret (.bool true))) s'):
  codeAny (model PySem.Challenge.pw_nt0377_01 w) callerA (.call (.ref fa) ⟨[v],[]⟩) R s:=by
 have h1:=mg_of kin hg (hlaw w.params)
 rw[hfa]at h1
 cases h1
 exact codeAny_mono (law_top hK kin lim hg hb hbb hw (by exact o233 hl)) fun r s' ⟨e,h1,h2⟩=>by rw[e];exact q s' h1 h2
end Mine.Internal
end
open PySem PySem.W PyProof.Rows PySem.Calls
set_option Elab.async true
set_option maxRecDepth 100000
set_option maxHeartbeats 0
namespace Mine.Internal
theorem head.tw14417383327440295455:True:=⟨⟩
theorem head.tw3146642883932764321:True:=⟨⟩
theorem head.tw1735712362863950725:True:=⟨⟩
theorem head.tw6360992666864919060:True:=⟨⟩
theorem head.tw14947980960965689406:True:=⟨⟩
theorem head.tw2894152552507235424:True:=⟨⟩
theorem head.tw4743209388086510351:True:=⟨⟩
theorem head.tw18027623137396611546:True:=⟨⟩
theorem head.tw14957587946747428659:True:=⟨⟩
theorem head.tw1765596292035907629:True:=⟨⟩
theorem head.tw2694128037389889325:True:=⟨⟩
theorem head.tw1656181690755500009:True:=⟨⟩
theorem head.tw11175660098989979826:True:=⟨⟩
theorem head.tw581329805104468181:True:=⟨⟩
theorem head.tw15912091044079083978:True:=⟨⟩
theorem head.tw17841386997120191728:True:=⟨⟩
theorem head.tw13092991177759998952:True:=⟨⟩
theorem head.tw1258453716306658304:True:=⟨⟩
theorem head.tw5180793443103303352:True:=⟨⟩
theorem head.tw4380319847576138298:True:=⟨⟩
theorem head.tw9562597414353034826:True:=⟨⟩
theorem head.tw1844467570389974658:True:=⟨⟩
theorem head.tw3729568987708025634:True:=⟨⟩
theorem head.tw9790775765945250498:True:=⟨⟩
theorem head.tw14172424672946166034:True:=⟨⟩
theorem head.tw14375063571132334751:True:=⟨⟩
theorem head.tw17407171449609617371:True:=⟨⟩
theorem head.tw7522540995713088274:True:=⟨⟩
theorem head.tw3947381682708912176:True:=⟨⟩
theorem head.tw10793811875839641842:True:=⟨⟩
theorem head.tw10703926824214995897:True:=⟨⟩
theorem head.tw14001831067185940759:True:=⟨⟩
theorem head.tw8035035416736859024:True:=⟨⟩
theorem head.tw4050939481493077499:True:=⟨⟩
theorem head.tw2120349209514560818:True:=⟨⟩
theorem head.tw12992531038351979029:True:=⟨⟩
theorem head.tw7669542570389801355:True:=⟨⟩
theorem head.tw11679397435755134892:True:=⟨⟩
theorem head.tw5531843404549935594:True:=⟨⟩
theorem head.tw8333159287748754907:True:=⟨⟩
theorem head.tw17994589576782617821:True:=⟨⟩
theorem head.tw16554526779789546084:True:=⟨⟩
theorem head.tw2369519236851512631:True:=⟨⟩
theorem head.tw2110877475482146926:True:=⟨⟩
theorem head.tw13851134797264264420:True:=⟨⟩
theorem head.tw9178964171498209538:True:=⟨⟩
theorem head.tw13990309641415329262:True:=⟨⟩
theorem head.tw8596494262836470385:True:=⟨⟩
theorem head.tw1803827914629316465:True:=⟨⟩
theorem head.tw14901954603512784952:True:=⟨⟩
theorem head.tw6411576796020146635:True:=⟨⟩
theorem head.tw13221240968849860500:True:=⟨⟩
theorem head.tw12294735412754326252:True:=⟨⟩
theorem head.tw10196950947417357230:True:=⟨⟩
theorem head.tw17455982768175728529:True:=⟨⟩
theorem head.tw3710881643830131615:True:=⟨⟩
theorem head.tw18068696563673321394:True:=⟨⟩
theorem head.tw3539023208464144308:True:=⟨⟩
theorem head.tw16068889945890959238:True:=⟨⟩
theorem head.tw18308072863541763719:True:=⟨⟩
theorem head.tw573855439382118019:True:=⟨⟩
theorem head.tw5851541054824582583:True:=⟨⟩
theorem head.tw12490366024630467340:True:=⟨⟩
theorem head.tw8321119226527775237:True:=⟨⟩
theorem head.tw15311939220964185106:True:=⟨⟩
theorem head.tw12727737623925452831:True:=⟨⟩
theorem head.tw16293861684877478311:True:=⟨⟩
theorem head.tw15182858166330841093:True:=⟨⟩
theorem head.tw4804523201834689056:True:=⟨⟩
theorem head.tw13231323889132105171:True:=⟨⟩
theorem head.tw4903428944905943755:True:=⟨⟩
theorem head.tw5685686986798369517:True:=⟨⟩
theorem head.tw12797216168665619228:True:=⟨⟩
theorem head.tw14902837588030647693:True:=⟨⟩
theorem head.tw6038455539057350438:True:=⟨⟩
theorem head.tw2088969971902092759:True:=⟨⟩
theorem head.tw3003217347886287976:True:=⟨⟩
theorem head.tw14804807535031770434:True:=⟨⟩
theorem head.tw5931780003708075229:True:=⟨⟩
theorem head.tw7452148100223020078:True:=⟨⟩
theorem head.tw13251416305544386811:True:=⟨⟩
theorem head.tw7527910484675740831:True:=⟨⟩
theorem head.tw17870151092536345100:True:=⟨⟩
theorem head.tw1453673589703148230:True:=⟨⟩
theorem head.tw1865247970343085854:True:=⟨⟩
theorem head.tw5367720379555559809:True:=⟨⟩
theorem head.tw1567943673962162336:True:=⟨⟩
theorem head.tw8577662047764803274:True:=⟨⟩
theorem head.tw15266530685898783443:True:=⟨⟩
theorem head.tw9343841776052470216:True:=⟨⟩
theorem head.tw12274448940558017663:True:=⟨⟩
theorem head.tw12833563696867029993:True:=⟨⟩
theorem head.tw7828029103933373108:True:=⟨⟩
theorem head.tw11414849079480288724:True:=⟨⟩
theorem head.tw10936523832443784857:True:=⟨⟩
theorem head.tw131415200265715171:True:=⟨⟩
theorem head.tw2007915535196607075:True:=⟨⟩
theorem head.tw9149885144370575409:True:=⟨⟩
theorem head.tw15489742176703056555:True:=⟨⟩
theorem head.tw11809372751355778188:True:=⟨⟩
theorem head.tw10806634533459545381:True:=⟨⟩
theorem head.tw1944605091054254097:True:=⟨⟩
theorem head.tw10827897679061541192:True:=⟨⟩
theorem head.tw2323926309532271586:True:=⟨⟩
theorem head.tw8839027191431993605:True:=⟨⟩
theorem head.tw5212892116570103733:True:=⟨⟩
theorem head.tw8333125123008790743:True:=⟨⟩
theorem head.tw17840676843927578194:True:=⟨⟩
theorem head.tw4958055551472059035:True:=⟨⟩
theorem head.tw5219666640404862078:True:=⟨⟩
theorem head.tw90598915626312365:True:=⟨⟩
theorem head.tw1081918594029998349:True:=⟨⟩
theorem head.tw10417819788513700445:True:=⟨⟩
theorem head.tw1247117338844145269:True:=⟨⟩
theorem head.tw8939615490272855926:True:=⟨⟩
theorem head.tw10313022789138511893:True:=⟨⟩
theorem head.tw2760578795835352852:True:=⟨⟩
theorem head.tw12533188119829535936:True:=⟨⟩
theorem head.tw10467852365440921670:True:=⟨⟩
theorem head.tw9270267985669984014:True:=⟨⟩
theorem head.tw11232978470920408358:True:=⟨⟩
theorem head.tw3563018587571817148:True:=⟨⟩
theorem head.tw18039750520779619118:True:=⟨⟩
theorem head.tw14615677475450882168:True:=⟨⟩
theorem head.tw7798382485669159157:True:=⟨⟩
theorem head.tw13149666652136121732:True:=⟨⟩
theorem head.tw17576387167790452266:True:=⟨⟩
theorem head.tw2080864317826152883:True:=⟨⟩
theorem head.tw1026916259146773914:True:=⟨⟩
theorem head.tw11333961214768286601:True:=⟨⟩
theorem head.tw15419450125499025513:True:=⟨⟩
theorem head.tw14809388494844252968:True:=⟨⟩
theorem head.tw1125208917562807246:True:=⟨⟩
theorem head.tw10532295789626618253:True:=⟨⟩
theorem head.tw10838796655287552194:True:=⟨⟩
theorem head.tw11542963386671024406:True:=⟨⟩
theorem head.tw2043889385310230855:True:=⟨⟩
theorem head.tw17333868739752232385:True:=⟨⟩
theorem head.tw996981640771525611:True:=⟨⟩
theorem head.tw3170996000379527775:True:=⟨⟩
theorem head.tw298335191302580495:True:=⟨⟩
theorem head.tw2869377799857603687:True:=⟨⟩
theorem head.tw8397667373497710178:True:=⟨⟩
theorem head.tw10403513753302479130:True:=⟨⟩
theorem head.tw3600112065676380631:True:=⟨⟩
theorem head.tw150979079722049991:True:=⟨⟩
theorem head.tw13763259863565942290:True:=⟨⟩
theorem head.tw17856491329550843911:True:=⟨⟩
theorem head.tw15572949344126905646:True:=⟨⟩
theorem head.tw7795901939020475714:True:=⟨⟩
theorem head.tw246766493212783410:True:=⟨⟩
theorem head.tw12142385515706650059:True:=⟨⟩
theorem head.tw16170722059020510766:True:=⟨⟩
theorem head.tw17393854343980579928:True:=⟨⟩
theorem head.tw8383906017190836089:True:=⟨⟩
theorem head.tw5831084495787454658:True:=⟨⟩
theorem head.tw5294638443716959948:True:=⟨⟩
theorem head.tw1373012823760850595:True:=⟨⟩
theorem head.tw13401292336569751603:True:=⟨⟩
theorem head.tw3919622968385735570:True:=⟨⟩
theorem head.tw3796036621921146727:True:=⟨⟩
theorem head.tw15974479345488772459:True:=⟨⟩
theorem head.tw13007202087462836646:True:=⟨⟩
theorem head.tw7658535187610471328:True:=⟨⟩
theorem head.tw18129246944988500376:True:=⟨⟩
theorem head.tw4060700195381250067:True:=⟨⟩
theorem head.tw5585298417887737123:True:=⟨⟩
theorem head.tw7004043142383214097:True:=⟨⟩
theorem head.tw17143094881623060519:True:=⟨⟩
theorem head.tw16777521522860482247:True:=⟨⟩
theorem head.tw13451211059535878384:True:=⟨⟩
theorem head.tw9100900885589002042:True:=⟨⟩
theorem head.tw2736538178757748039:True:=⟨⟩
theorem head.tw11860589723203421292:True:=⟨⟩
theorem head.tw13105012303010250491:True:=⟨⟩
theorem head.tw12621192663148488146:True:=⟨⟩
theorem head.tw512018409098999112:True:=⟨⟩
theorem head.tw12349259055231604262:True:=⟨⟩
theorem head.tw994578777664213213:True:=⟨⟩
theorem head.tw3135906202827797507:True:=⟨⟩
theorem head.tw14477604489051941744:True:=⟨⟩
theorem head.tw1987557369150731712:True:=⟨⟩
theorem head.tw8488015001772446612:True:=⟨⟩
theorem head.tw5161104113109860643:True:=⟨⟩
theorem head.tw10611000914816789194:True:=⟨⟩
theorem head.tw8025419442395314943:True:=⟨⟩
theorem head.tw5537773006019800010:True:=⟨⟩
theorem head.tw18286292588466107083:True:=⟨⟩
theorem head.tw5014626033260886234:True:=⟨⟩
theorem head.tw9026177583158334158:True:=⟨⟩
theorem head.tw10852966169642419620:True:=⟨⟩
theorem head.tw15051481414486861793:True:=⟨⟩
theorem head.tw18071378121363579176:True:=⟨⟩
theorem head.tw9750375429457580736:True:=⟨⟩
theorem head.tw14633424208812532277:True:=⟨⟩
theorem head.tw11747496754994150823:True:=⟨⟩
theorem head.tw8457352393125183420:True:=⟨⟩
theorem head.tw10443298067184218467:True:=⟨⟩
theorem head.tw4872695887633465018:True:=⟨⟩
theorem head.tw6558063594523118537:True:=⟨⟩
theorem head.tw2043087103621964997:True:=⟨⟩
theorem head.tw5704201658500131572:True:=⟨⟩
theorem head.tw7842224052649319562:True:=⟨⟩
theorem head.tw13289269885103834513:True:=⟨⟩
theorem head.tw6962018899104020525:True:=⟨⟩
theorem head.tw985719481007450075:True:=⟨⟩
theorem head.tw17155148735901461053:True:=⟨⟩
theorem head.tw379154397386507432:True:=⟨⟩
theorem head.tw10742104010770387711:True:=⟨⟩
theorem head.tw3515292167392647833:True:=⟨⟩
theorem head.tw10391303797420620063:True:=⟨⟩
theorem head.tw7376887436866901289:True:=⟨⟩
theorem head.tw9372715231738170429:True:=⟨⟩
theorem head.tw5024588561011540511:True:=⟨⟩
theorem head.tw1651360569294593921:True:=⟨⟩
theorem head.tw11148025639844457423:True:=⟨⟩
theorem head.tw2651130753884101873:True:=⟨⟩
theorem head.tw13537632495512367073:True:=⟨⟩
theorem head.tw5456479906107452781:True:=⟨⟩
theorem head.tw17263427690546889705:True:=⟨⟩
theorem head.tw5121121683633849671:True:=⟨⟩
theorem head.tw1335529745519465352:True:=⟨⟩
theorem head.tw758980129013455211:True:=⟨⟩
theorem head.tw11287203536343631484:True:=⟨⟩
theorem head.tw5495607003866541921:True:=⟨⟩
theorem head.tw16358555599909018182:True:=⟨⟩
theorem head.tw68791429988877841:True:=⟨⟩
theorem head.tw6835922771926613386:True:=⟨⟩
theorem head.tw4126569708725379857:True:=⟨⟩
theorem head.tw6630738010656775419:True:=⟨⟩
theorem head.tw9453794737377552096:True:=⟨⟩
theorem head.tw7692529387714484404:True:=⟨⟩
theorem head.tw368270107659410887:True:=⟨⟩
theorem head.tw18290675023729231418:True:=⟨⟩
theorem head.tw6295136114372876325:True:=⟨⟩
theorem head.tw9514788811957211624:True:=⟨⟩
theorem head.tw7685603406797835371:True:=⟨⟩
theorem head.tw5671573469923044665:True:=⟨⟩
theorem head.tw14506496976691018925:True:=⟨⟩
theorem head.tw16299635379590263345:True:=⟨⟩
theorem head.tw9629543149614385321:True:=⟨⟩
theorem head.tw5509060068099777413:True:=⟨⟩
theorem head.tw10910662148547809146:True:=⟨⟩
theorem head.tw12549680120154166933:True:=⟨⟩
theorem head.tw17398074001465023753:True:=⟨⟩
theorem head.tw14549435271706706224:True:=⟨⟩
theorem head.tw8406964992398057563:True:=⟨⟩
theorem head.tw10178686243629489081:True:=⟨⟩
theorem head.tw16880951475479886921:True:=⟨⟩
theorem head.tw7288914432739094182:True:=⟨⟩
theorem head.tw5575261005901118753:True:=⟨⟩
theorem head.tw727871655853585494:True:=⟨⟩
theorem head.tw2755820643727113742:True:=⟨⟩
theorem head.tw11448992842992388125:True:=⟨⟩
theorem head.tw8470793768573589947:True:=⟨⟩
theorem head.tw12708123234126680708:True:=⟨⟩
theorem head.tw3719757830788971985:True:=⟨⟩
theorem head.tw8273974295544231241:True:=⟨⟩
theorem head.tw7980799833586399067:True:=⟨⟩
theorem head.tw3507624263613819917:True:=⟨⟩
theorem head.tw5188547130963436909:True:=⟨⟩
theorem head.tw672570726121695013:True:=⟨⟩
theorem head.tw68223138966139510:True:=⟨⟩
theorem head.tw12243849663909302237:True:=⟨⟩
theorem head.tw16979452091659690644:True:=⟨⟩
theorem head.tw4773304924162895731:True:=⟨⟩
theorem head.tw2714067042623201800:True:=⟨⟩
theorem head.tw9256776686342206158:True:=⟨⟩
theorem head.tw997365496626702635:True:=⟨⟩
theorem head.tw8350303324170192991:True:=⟨⟩
theorem head.tw16002366332284682119:True:=⟨⟩
theorem head.tw5012512282137399879:True:=⟨⟩
theorem head.tw8164521253129739317:True:=⟨⟩
theorem head.tw15830968035239220771:True:=⟨⟩
theorem head.tw4463040190649093840:True:=⟨⟩
theorem head.tw10338859181450622609:True:=⟨⟩
theorem head.tw17613311456908602385:True:=⟨⟩
theorem head.tw10657940773215961958:True:=⟨⟩
theorem head.tw15997579793656432842:True:=⟨⟩
theorem head.tw11646673952399439709:True:=⟨⟩
theorem head.tw5916877048245317213:True:=⟨⟩
theorem head.tw5212489079905177048:True:=⟨⟩
theorem head.tw7871400988371781522:True:=⟨⟩
theorem head.tw13038121054318420537:True:=⟨⟩
theorem head.tw1881055677477116581:True:=⟨⟩
theorem head.tw265169152525730486:True:=⟨⟩
theorem head.tw17682342131244598394:True:=⟨⟩
theorem head.tw6056312283027283868:True:=⟨⟩
theorem head.tw6200549489047768835:True:=⟨⟩
theorem head.tw12102787196800394369:True:=⟨⟩
theorem head.tw3154329806151034382:True:=⟨⟩
theorem head.tw1871131430832029716:True:=⟨⟩
theorem head.tw16623005101582439649:True:=⟨⟩
theorem head.tw17602015841314507703:True:=⟨⟩
theorem head.tw10155103240277196701:True:=⟨⟩
theorem head.tw1442861384686113144:True:=⟨⟩
theorem head.tw4477118761818678279:True:=⟨⟩
theorem head.tw5305130906047112220:True:=⟨⟩
theorem head.tw8794538426755590552:True:=⟨⟩
theorem head.tw9021974018963436649:True:=⟨⟩
theorem head.tw18385344648293578121:True:=⟨⟩
theorem head.tw1901947026874951026:True:=⟨⟩
theorem head.tw14776828949437865282:True:=⟨⟩
theorem head.tw15318860832186169591:True:=⟨⟩
theorem head.tw8427403130609186562:True:=⟨⟩
theorem head.tw14255320843353542408:True:=⟨⟩
theorem head.tw12268107022977922378:True:=⟨⟩
theorem head.tw756069217127356742:True:=⟨⟩
theorem head.tw9094184492450977180:True:=⟨⟩
theorem head.tw6204776756014468711:True:=⟨⟩
theorem head.tw17100331334522449688:True:=⟨⟩
theorem head.tw9788767914283571400:True:=⟨⟩
theorem head.tw7174902123892306615:True:=⟨⟩
theorem head.tw2624494413115057283:True:=⟨⟩
theorem head.tw8380034559641552496:True:=⟨⟩
theorem head.tw4664621624991227399:True:=⟨⟩
theorem head.tw8341041181660773101:True:=⟨⟩
theorem head.tw10847146045693573062:True:=⟨⟩
theorem head.tw1485951079949661044:True:=⟨⟩
theorem head.tw17837107745855597534:True:=⟨⟩
theorem head.tw15138065235074995841:True:=⟨⟩
theorem head.tw10326433227229921549:True:=⟨⟩
theorem head.tw17421213231281661734:True:=⟨⟩
theorem head.tw16891317342568782531:True:=⟨⟩
theorem head.tw6536087584392566282:True:=⟨⟩
theorem head.tw2684990472390245953:True:=⟨⟩
theorem head.tw17981709744806268:True:=⟨⟩
theorem head.tw1662621770911083758:True:=⟨⟩
theorem head.tw2078090517514532923:True:=⟨⟩
theorem head.tw9217025424471583602:True:=⟨⟩
theorem head.tw3803949532724674133:True:=⟨⟩
theorem head.tw5987770974067822719:True:=⟨⟩
theorem head.tw10218059707884530613:True:=⟨⟩
theorem head.tw3052639238020543699:True:=⟨⟩
theorem head.tw10543712386442291379:True:=⟨⟩
theorem head.tw5387168689241914674:True:=⟨⟩
theorem head.tw17013429710562117009:True:=⟨⟩
theorem head.tw5152520497178031707:True:=⟨⟩
theorem head.tw4544289106498852243:True:=⟨⟩
theorem head.tw10125929355548975508:True:=⟨⟩
theorem head.tw7594393393143898134:True:=⟨⟩
theorem head.tw1998152975310809562:True:=⟨⟩
theorem head.tw12806253548222901857:True:=⟨⟩
theorem head.tw17484823706847619055:True:=⟨⟩
theorem head.tw1568912342305137357:True:=⟨⟩
theorem head.tw18218894547561957484:True:=⟨⟩
theorem head.tw7162067806188452654:True:=⟨⟩
theorem head.tw12071836986092510387:True:=⟨⟩
theorem head.tw232473315762453100:True:=⟨⟩
theorem head.tw12720314656653625578:True:=⟨⟩
theorem head.tw15472401753886037627:True:=⟨⟩
theorem head.tw9456725078930572920:True:=⟨⟩
theorem head.tw14564241988698318373:True:=⟨⟩
theorem head.tw8679461368082878469:True:=⟨⟩
theorem head.tw15925507543600243961:True:=⟨⟩
theorem head.tw13118447853492015993:True:=⟨⟩
theorem head.tw15202921462499427706:True:=⟨⟩
theorem head.tw2169281033359032037:True:=⟨⟩
theorem head.tw4517080872264363356:True:=⟨⟩
theorem head.tw11743441244443810487:True:=⟨⟩
theorem head.tw6345962803626072704:True:=⟨⟩
theorem head.tw15949383635835789312:True:=⟨⟩
theorem head.tw8376988493439413397:True:=⟨⟩
theorem head.tw9634045303191909956:True:=⟨⟩
theorem head.tw3941156040307774213:True:=⟨⟩
theorem head.tw17132605601930520564:True:=⟨⟩
theorem head.tw1466144664807686202:True:=⟨⟩
theorem head.tw3077082300529035021:True:=⟨⟩
theorem head.tw4766937966870788380:True:=⟨⟩
theorem head.tw10343487397458017819:True:=⟨⟩
theorem head.tw12566224135570047525:True:=⟨⟩
theorem head.tw7258877458190152819:True:=⟨⟩
theorem head.tw15520181941019334340:True:=⟨⟩
theorem head.tw8173076531526851503:True:=⟨⟩
theorem head.tw14930278808943442820:True:=⟨⟩
theorem head.tw7199030120425877829:True:=⟨⟩
theorem head.tw11811601694450153820:True:=⟨⟩
theorem head.tw533293232872092415:True:=⟨⟩
theorem head.tw9656145585253418624:True:=⟨⟩
theorem head.tw8230188563286494058:True:=⟨⟩
theorem head.tw16840755293988039984:True:=⟨⟩
theorem head.tw16405482449567939292:True:=⟨⟩
theorem head.tw11729432960898958820:True:=⟨⟩
theorem head.tw3241465772588796232:True:=⟨⟩
theorem head.tw3874736734303387970:True:=⟨⟩
theorem head.tw6288538588269318274:True:=⟨⟩
theorem head.tw1753003951421427075:True:=⟨⟩
theorem head.tw10982946209367121509:True:=⟨⟩
theorem head.tw3087972217934253931:True:=⟨⟩
theorem head.tw8708866331712903190:True:=⟨⟩
theorem head.tw17589853756644411302:True:=⟨⟩
theorem head.tw10778376083544448290:True:=⟨⟩
theorem head.tw9633808310430400454:True:=⟨⟩
theorem head.tw17630976985212021252:True:=⟨⟩
theorem head.tw4500565936341979993:True:=⟨⟩
theorem head.tw15650233195626454259:True:=⟨⟩
theorem head.tw6459330472900232938:True:=⟨⟩
theorem head.tw4811286922782717070:True:=⟨⟩
theorem head.tw3869182881569682240:True:=⟨⟩
theorem head.tw16256651097423524758:True:=⟨⟩
theorem head.tw17292970962960149322:True:=⟨⟩
theorem head.tw2441318031446764311:True:=⟨⟩
theorem head.tw6748114179996522941:True:=⟨⟩
theorem head.tw16729595403625350564:True:=⟨⟩
theorem head.tw15368349496343960223:True:=⟨⟩
theorem head.tw10677006617423633188:True:=⟨⟩
theorem head.tw12169433661247332737:True:=⟨⟩
theorem head.tw9486179325711558089:True:=⟨⟩
theorem head.tw7876380749562137144:True:=⟨⟩
theorem head.tw12639482037638911433:True:=⟨⟩
theorem head.tw18245091190975670729:True:=⟨⟩
theorem head.tw7871040755861822600:True:=⟨⟩
theorem head.tw318376289085110281:True:=⟨⟩
theorem head.tw17431456679323178533:True:=⟨⟩
theorem head.tw10333269780963272991:True:=⟨⟩
theorem head.tw6176450103178853079:True:=⟨⟩
theorem head.tw16638095363847938142:True:=⟨⟩
theorem head.tw3398423038984232883:True:=⟨⟩
theorem head.tw15063069900258622093:True:=⟨⟩
theorem head.tw13388910588309091474:True:=⟨⟩
theorem head.tw7285385138943665165:True:=⟨⟩
theorem head.tw16138420628824636225:True:=⟨⟩
theorem head.tw14594217352909989919:True:=⟨⟩
theorem head.tw11338433358809400169:True:=⟨⟩
theorem head.tw4925291594519982632:True:=⟨⟩
theorem head.tw278581248325843523:True:=⟨⟩
theorem head.tw11164902317844157328:True:=⟨⟩
theorem head.tw5389298798316334207:True:=⟨⟩
theorem head.tw10289556748277466078:True:=⟨⟩
theorem head.tw2851065943783126841:True:=⟨⟩
theorem head.tw13446957514743792861:True:=⟨⟩
theorem head.tw8294512905778329867:True:=⟨⟩
theorem head.tw4904261729475024422:True:=⟨⟩
theorem head.tw15792559764004085117:True:=⟨⟩
theorem head.tw11654851693395710637:True:=⟨⟩
theorem head.tw7918417721700312308:True:=⟨⟩
theorem head.tw16460313092685165067:True:=⟨⟩
theorem head.tw12757151084355026914:True:=⟨⟩
theorem head.tw10478926861397541016:True:=⟨⟩
theorem head.tw14704451711062366978:True:=⟨⟩
theorem head.tw18034343607588918422:True:=⟨⟩
theorem head.tw9188221901137457004:True:=⟨⟩
theorem head.tw6750202040354555455:True:=⟨⟩
theorem head.tw13311012694725994139:True:=⟨⟩
theorem head.tw9060807947222167450:True:=⟨⟩
theorem head.tw4657073311724733658:True:=⟨⟩
theorem head.tw10004968210546728623:True:=⟨⟩
theorem head.tw15279990767845995955:True:=⟨⟩
end Mine.Internal
namespace Mine.Internal
theorem head:PySem.Challenge.rw_nt0377_01.Holds:=by
 (w_on;o_law;k_head;(case hw=>w_witness2);w_strict (
  intro w s₀ s₁ mg mb G Y fa o pm cd doc dV kV ho hd hcd hD hmg hg args vals as hpre hlay hrd hwl hlo
  have KX:=kIn_of Y
  refine Ground.open G ?_
  intro T B D TE TW
  wrow_args hpre hlay hrd hwl hlo
  refine enter_call (law_end ⟨fun P=>by kernel_rfl,fun P=>by kernel_rfl,fun P=>by kernel_rfl,fun P=>by kernel_rfl,fun P=>by kernel_rfl,fun P=>by kernel_rfl,fun P=>by kernel_rfl,fun P=>by kernel_rfl,fun P=>by kernel_rfl,fun P=>by kernel_rfl,fun P=>by kernel_rfl,fun P v0 v1 v2 v3 v4=>by kernel_rfl,fun P=>by kernel_rfl⟩ (fun P=>by kernel_rfl) KX T.nolimit T.g T.b T.builtins hmg (by assumption) (by assumption) fun s' hs hk=>?_)
  refine⟨.inl ⟨.bool true,.bool true,[],rfl,raisesW_false (by wrow_none_raised),.bool true,?_,unshared_nil⟩,.of_keep hk,hs.os,.of_eq (hs.gens.trans hg)⟩
  exact postW_of (by wrow_shape) (by wtm_val) (by str_meet;first|done|w_fin)))
end Mine.Internal
theorem PySem.Challenge.cw_nt0377_01_holds : PySem.Challenge.rw_nt0377_01.Holds :=
 Mine.Internal.head
