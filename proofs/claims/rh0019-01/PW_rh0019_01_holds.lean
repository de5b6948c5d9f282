import PyProof.Rows.All
import Wide.All
import OpenK.AllK
import Wide.FinOn
import Lean
import PySem.Challenge.RW_rh0019_01
set_option Elab.async false
set_option linter.all false
set_option maxHeartbeats 1000000
set_option maxRecDepth 100000
section
namespace Mine
section
@[elab_as_elim] theorem ae.{u} {α:Sort u} {P:α->Prop} {a b:α} (h:a=b) (k:P b):P a:=h▸k
@[elab_as_elim] theorem cA.{u} {α:Sort u} {P:α->Prop} {a b:α} (h:b=a) (k:P b):P a:=h▸k
theorem Zp.{u} {α:Type u} {a:α} {P:Prop} (h:none=some a):P:=nomatch h
theorem sN.{u} {α:Type u} {a:α} {P:Prop} (h:some a=none):P:=nomatch h
theorem Ui{P:Prop}(h:false=true):P:=nomatch h
theorem tf_{P:Prop}(h:true=false):P:=nomatch h
theorem Uj.{u} {α:Type u} {a c:α} {P:Prop} (h:some a=some c) (k:a=c->P):P:=k (Option.some.inj h)
theorem pp_.{u,v} {α:Type u} {β:Type v} {a c:α} {b d:β} {P:Prop} (h:(a,b)=(c,d)) (k:a=c->b=d->P):P:=k (Prod.mk.inj h).1 (Prod.mk.inj h).2
theorem Bs{P0 P1:Prop}{G:Prop}(e:P0/\P1)(f:P0->P1->G):G:=by obtain ⟨h0,h1⟩:=e;exact f h0 h1
theorem Uk{P0 P1 P2:Prop}{G:Prop}(e:P0/\P1/\P2)(f:P0->P1->P2->G):G:=by obtain ⟨h0,h1,h2⟩:=e;exact f h0 h1 h2
theorem abQ{P0 P1 P2 P3 P4:Prop}{G:Prop}(e:P0/\P1/\P2/\P3/\P4)(f:P0->P1->P2->P3->P4->G):G:=by obtain ⟨h0,h1,h2,h3,h4⟩:=e;exact f h0 h1 h2 h3 h4
theorem dM.{u0} {A0:Sort u0} {P0:A0->Prop} {G:Prop} (e:∃x0,P0 x0) (f:∀x0,P0 x0->G):G:=by obtain ⟨x0,h0⟩:=e;exact f x0 h0
theorem bp.{u0} {A0:Sort u0} {P0 P1:A0->Prop} {G:Prop} (e:∃x0,P0 x0/\P1 x0) (f:∀x0,P0 x0->P1 x0->G):G:=by obtain ⟨x0,h0,h1⟩:=e;exact f x0 h0 h1
theorem fO.{u0} {A0:Sort u0} {P0 P1 P2:A0->Prop} {G:Prop} (e:∃x0,P0 x0/\P1 x0/\P2 x0) (f:∀x0,P0 x0->P1 x0->P2 x0->G):G:=by obtain ⟨x0,h0,h1,h2⟩:=e;exact f x0 h0 h1 h2
theorem NG.{u0} {A0:Sort u0} {P0 P1 P2 P3:A0->Prop} {G:Prop} (e:∃x0,P0 x0/\P1 x0/\P2 x0/\P3 x0) (f:∀x0,P0 x0->P1 x0->P2 x0->P3 x0->G):G:=by obtain ⟨x0,h0,h1,h2,h3⟩:=e;exact f x0 h0 h1 h2 h3
theorem Ul.{u0,u1} {A0:Sort u0} {A1:Sort u1} {P0:A0->A1->Prop} {G:Prop} (e:∃x0 x1,P0 x0 x1) (f:∀x0 x1,P0 x0 x1->G):G:=by obtain ⟨x0,x1,h0⟩:=e;exact f x0 x1 h0
theorem xm.{u0,u1} {A0:Sort u0} {A1:Sort u1} {P0 P1:A0->A1->Prop} {G:Prop} (e:∃x0 x1,P0 x0 x1/\P1 x0 x1) (f:∀x0 x1,P0 x0 x1->P1 x0 x1->G):G:=by obtain ⟨x0,x1,h0,h1⟩:=e;exact f x0 x1 h0 h1
theorem xn.{u0,u1} {A0:Sort u0} {A1:Sort u1} {P0 P1 P2:A0->A1->Prop} {G:Prop} (e:∃x0 x1,P0 x0 x1/\P1 x0 x1/\P2 x0 x1) (f:∀x0 x1,P0 x0 x1->P1 x0 x1->P2 x0 x1->G):G:=by obtain ⟨x0,x1,h0,h1,h2⟩:=e;exact f x0 x1 h0 h1 h2
theorem nD.{u0,u1} {A0:Sort u0} {A1:Sort u1} {P0 P1 P2 P3:A0->A1->Prop} {G:Prop} (e:∃x0 x1,P0 x0 x1/\P1 x0 x1/\P2 x0 x1/\P3 x0 x1) (f:∀x0 x1,P0 x0 x1->P1 x0 x1->P2 x0 x1->P3 x0 x1->G):G:=by obtain ⟨x0,x1,h0,h1,h2,h3⟩:=e;exact f x0 x1 h0 h1 h2 h3
theorem uc.{u0,u1} {A0:Sort u0} {A1:Sort u1} {P0 P1 P2 P3 P4:A0->A1->Prop} {G:Prop} (e:∃x0 x1,P0 x0 x1/\P1 x0 x1/\P2 x0 x1/\P3 x0 x1/\P4 x0 x1) (f:∀x0 x1,P0 x0 x1->P1 x0 x1->P2 x0 x1->P3 x0 x1->P4 x0 x1->G):G:=by obtain ⟨x0,x1,h0,h1,h2,h3,h4⟩:=e;exact f x0 x1 h0 h1 h2 h3 h4
theorem abR.{u0,u1} {A0:Sort u0} {A1:Sort u1} {P0 P1 P2 P3 P4 P5:A0->A1->Prop} {G:Prop} (e:∃x0 x1,P0 x0 x1/\P1 x0 x1/\P2 x0 x1/\P3 x0 x1/\P4 x0 x1/\P5 x0 x1) (f:∀x0 x1,P0 x0 x1->P1 x0 x1->P2 x0 x1->P3 x0 x1->P4 x0 x1->P5 x0 x1->G):G:=by obtain ⟨x0,x1,h0,h1,h2,h3,h4,h5⟩:=e;exact f x0 x1 h0 h1 h2 h3 h4 h5
theorem Um.{u0,u1,u2} {A0:Sort u0} {A1:Sort u1} {A2:Sort u2} {P0:A0->A1->A2->Prop} {G:Prop} (e:∃x0 x1 x2,P0 x0 x1 x2) (f:∀x0 x1 x2,P0 x0 x1 x2->G):G:=by obtain ⟨x0,x1,x2,h0⟩:=e;exact f x0 x1 x2 h0
theorem Bt.{u0,u1,u2} {A0:Sort u0} {A1:Sort u1} {A2:Sort u2} {P0 P1:A0->A1->A2->Prop} {G:Prop} (e:∃x0 x1 x2,P0 x0 x1 x2/\P1 x0 x1 x2) (f:∀x0 x1 x2,P0 x0 x1 x2->P1 x0 x1 x2->G):G:=by obtain ⟨x0,x1,x2,h0,h1⟩:=e;exact f x0 x1 x2 h0 h1
theorem qn.{u0,u1,u2} {A0:Sort u0} {A1:Sort u1} {A2:Sort u2} {P0 P1 P2:A0->A1->A2->Prop} {G:Prop} (e:∃x0 x1 x2,P0 x0 x1 x2/\P1 x0 x1 x2/\P2 x0 x1 x2) (f:∀x0 x1 x2,P0 x0 x1 x2->P1 x0 x1 x2->P2 x0 x1 x2->G):G:=by obtain ⟨x0,x1,x2,h0,h1,h2⟩:=e;exact f x0 x1 x2 h0 h1 h2
theorem ue.{u0,u1,u2} {A0:Sort u0} {A1:Sort u1} {A2:Sort u2} {P0 P1 P2 P3:A0->A1->A2->Prop} {G:Prop} (e:∃x0 x1 x2,P0 x0 x1 x2/\P1 x0 x1 x2/\P2 x0 x1 x2/\P3 x0 x1 x2) (f:∀x0 x1 x2,P0 x0 x1 x2->P1 x0 x1 x2->P2 x0 x1 x2->P3 x0 x1 x2->G):G:=by obtain ⟨x0,x1,x2,h0,h1,h2,h3⟩:=e;exact f x0 x1 x2 h0 h1 h2 h3
theorem NH.{u0,u1,u2} {A0:Sort u0} {A1:Sort u1} {A2:Sort u2} {P0 P1 P2 P3 P4:A0->A1->A2->Prop} {G:Prop} (e:∃x0 x1 x2,P0 x0 x1 x2/\P1 x0 x1 x2/\P2 x0 x1 x2/\P3 x0 x1 x2/\P4 x0 x1 x2) (f:∀x0 x1 x2,P0 x0 x1 x2->P1 x0 x1 x2->P2 x0 x1 x2->P3 x0 x1 x2->P4 x0 x1 x2->G):G:=by obtain ⟨x0,x1,x2,h0,h1,h2,h3,h4⟩:=e;exact f x0 x1 x2 h0 h1 h2 h3 h4
theorem Bu.{u0,u1,u2} {A0:Sort u0} {A1:Sort u1} {A2:Sort u2} {P0 P1 P2 P3 P4 P5:A0->A1->A2->Prop} {G:Prop} (e:∃x0 x1 x2,P0 x0 x1 x2/\P1 x0 x1 x2/\P2 x0 x1 x2/\P3 x0 x1 x2/\P4 x0 x1 x2/\P5 x0 x1 x2) (f:∀x0 x1 x2,P0 x0 x1 x2->P1 x0 x1 x2->P2 x0 x1 x2->P3 x0 x1 x2->P4 x0 x1 x2->P5 x0 x1 x2->G):G:=by obtain ⟨x0,x1,x2,h0,h1,h2,h3,h4,h5⟩:=e;exact f x0 x1 x2 h0 h1 h2 h3 h4 h5
theorem Un.{u0,u1,u2,u3} {A0:Sort u0} {A1:Sort u1} {A2:Sort u2} {A3:Sort u3} {P0 P1:A0->A1->A2->A3->Prop} {G:Prop} (e:∃x0 x1 x2 x3,P0 x0 x1 x2 x3/\P1 x0 x1 x2 x3) (f:∀x0 x1 x2 x3,P0 x0 x1 x2 x3->P1 x0 x1 x2 x3->G):G:=by obtain ⟨x0,x1,x2,x3,h0,h1⟩:=e;exact f x0 x1 x2 x3 h0 h1
theorem abS.{u0,u1,u2,u3} {A0:Sort u0} {A1:Sort u1} {A2:Sort u2} {A3:Sort u3} {P0 P1 P2:A0->A1->A2->A3->Prop} {G:Prop} (e:∃x0 x1 x2 x3,P0 x0 x1 x2 x3/\P1 x0 x1 x2 x3/\P2 x0 x1 x2 x3) (f:∀x0 x1 x2 x3,P0 x0 x1 x2 x3->P1 x0 x1 x2 x3->P2 x0 x1 x2 x3->G):G:=by obtain ⟨x0,x1,x2,x3,h0,h1,h2⟩:=e;exact f x0 x1 x2 x3 h0 h1 h2
theorem Uo.{u0,u1,u2,u3} {A0:Sort u0} {A1:Sort u1} {A2:Sort u2} {A3:Sort u3} {P0 P1 P2 P3:A0->A1->A2->A3->Prop} {G:Prop} (e:∃x0 x1 x2 x3,P0 x0 x1 x2 x3/\P1 x0 x1 x2 x3/\P2 x0 x1 x2 x3/\P3 x0 x1 x2 x3) (f:∀x0 x1 x2 x3,P0 x0 x1 x2 x3->P1 x0 x1 x2 x3->P2 x0 x1 x2 x3->P3 x0 x1 x2 x3->G):G:=by obtain ⟨x0,x1,x2,x3,h0,h1,h2,h3⟩:=e;exact f x0 x1 x2 x3 h0 h1 h2 h3
theorem abT.{u0,u1,u2,u3} {A0:Sort u0} {A1:Sort u1} {A2:Sort u2} {A3:Sort u3} {P0 P1 P2 P3 P4:A0->A1->A2->A3->Prop} {G:Prop} (e:∃x0 x1 x2 x3,P0 x0 x1 x2 x3/\P1 x0 x1 x2 x3/\P2 x0 x1 x2 x3/\P3 x0 x1 x2 x3/\P4 x0 x1 x2 x3) (f:∀x0 x1 x2 x3,P0 x0 x1 x2 x3->P1 x0 x1 x2 x3->P2 x0 x1 x2 x3->P3 x0 x1 x2 x3->P4 x0 x1 x2 x3->G):G:=by obtain ⟨x0,x1,x2,x3,h0,h1,h2,h3,h4⟩:=e;exact f x0 x1 x2 x3 h0 h1 h2 h3 h4
section
variable{a b c d a1 b1 a2 b2 a3 b3 n m k l r:Nat}
theorem nc(h:a<=n)(e:Nat.ble n m=true):a<=m:=Nat.le_trans h (Nat.le_of_ble_eq_true e)
theorem eG(h:a<=n)(e:Nat.ble (n+1) m=true):a<m:=nc (Nat.succ_le_succ h) e
theorem QX(h:a<=n)(h':b<=m)(e:Nat.ble (n+m) k=true):a+b<=k:=nc (Nat.add_le_add h h') e
theorem nsl(h:a<=n)(h':b<=m)(e:Nat.ble (n+m+1) k=true):a+b<k:=eG (Nat.add_le_add h h') e
theorem npp(h:a<=n)(e:Nat.ble (n+c) k=true):a+c<=k:=nc (Nat.add_le_add_right h c) e
theorem npl(h:a<=n)(e:Nat.ble (n+c+1) k=true):a+c<k:=eG (Nat.add_le_add_right h c) e
theorem Bv(h:a+c<=b):a<=b:=Nat.le_trans (Nat.le_add_right a c) h
theorem ji(h:c+a<=b):a<=b:=Nat.le_trans (Nat.le_add_left a c) h
theorem ml(h:a+c<b):a<b:=Nat.lt_of_le_of_lt (Nat.le_add_right a c) h
theorem bI(h:a=b):a<=b:=h▸Nat.le_refl a
theorem bP(h:a=b):b<=a:=h▸Nat.le_refl a
theorem bG(h:a<=b)(e:l+b<=r+a):l<=r:=Nat.le_of_add_le_add_right (Nat.le_trans (Nat.add_le_add_left h l) e)
theorem cI(h:a<=b)(h1:a1<=b1)(e:l+(b+b1)<=r+(a+a1)):l<=r:=bG (Nat.add_le_add h h1) e
theorem e_(h:a<=b)(h1:a1<=b1)(h2:a2<=b2)(e:l+(b+(b1+b2))<=r+(a+(a1+a2))):l<=r:=cI h (Nat.add_le_add h1 h2) e
theorem Bw(h:a<=b)(h1:a1<=b1)(h2:a2<=b2)(h3:a3<=b3)(e:l+(b+(b1+(b2+b3)))<=r+(a+(a1+(a2+a3)))):l<=r:=e_ h h1 (Nat.add_le_add h2 h3) e
end
end
section
theorem Ka{x y:Nat}(h:x≠y):min x y≠max x y:=λ e=>h (Nat.le_antisymm (Nat.le_trans (Nat.le_max_left x y) (Nat.le_trans (bP e) (Nat.min_le_right x y))) (Nat.le_trans (Nat.le_max_right x y) (Nat.le_trans (bP e) (Nat.min_le_left x y))))
theorem mlx{x y:Nat}(h:x≠y):min x y<max x y:=Nat.lt_of_le_of_ne (Nat.le_trans (Nat.min_le_left x y) (Nat.le_max_left x y)) (Ka h)
theorem Zq{x y n:Nat}(h:x<n):min x y<n:=Nat.lt_of_le_of_lt (Nat.min_le_left x y) h
theorem Zr{x y n:Nat}(h:x<n)(h':y<n):max x y<n:=Nat.max_lt.2 ⟨h,h'⟩
theorem Bx{k n:Nat}(h:k<n):n=n -1+1:=(Nat.succ_pred_eq_of_pos (Nat.zero_lt_of_lt h)).symm
theorem nev(r:Nat):r+1+1 -(r+1+1) %2=r -r %2+2:=(congrArg (r+2 -·) (Nat.add_mod_right r 2)).trans (Nat.sub_add_comm (Nat.mod_le r 2))
theorem Up(r:Nat):(r+1+1)/2=r/2+1:=Nat.add_div_right r (Nat.succ_pos 1)
theorem Zs{i r:Nat}(h:i+1<=r/2):2*i+1<r:=Nat.lt_of_lt_of_le (Nat.lt_succ_self (2*i+1)) (Nat.le_trans (Nat.mul_le_mul_left 2 h) (Nat.mul_div_le r 2))
theorem nmi(m n:Nat):min (m:Int) n=(min m n:Nat):=by
 rcases Nat.le_total m n with h|h
 ·rw [Nat.min_eq_left h,Int.min_eq_left (Int.ofNat_le.2 h)]
 ·exact ae (Nat.min_eq_right h)<|ae (Int.min_eq_right (Int.ofNat_le.2 h)) rfl
theorem nxx(m n:Nat):max (m:Int) n=(max m n:Nat):=by
 rcases Nat.le_total m n with h|h
 ·rw [Nat.max_eq_right h,Int.max_eq_right (Int.ofNat_le.2 h)]
 ·exact ae (Nat.max_eq_left h)<|ae (Int.max_eq_left (Int.ofNat_le.2 h)) rfl
theorem nmx(m n:Nat):(max 0 (min (m:Int) n)).toNat=min m n:=by rw [nmi,Int.max_eq_right (Int.natCast_nonneg _)];rfl
theorem nsb{a b c d:Nat}(h:a<=b):c+(b -a)=d->c+b=d+a:=λ e=>by rw [<-e,Nat.add_assoc,Nat.sub_add_cancel h]
theorem nsx{x n d:Nat}(h:x<n):x+(n -x -1+d)+1=n+d:=by rw [Nat.sub_sub,Nat.add_right_comm,<-Nat.add_assoc,Nat.add_sub_cancel' h]
theorem Zt(a n:Nat):(PySem.Builtin.Range.rangeSize a (a+n:Nat) 1).toNat=n:=by
 unfold PySem.Builtin.Range.rangeSize;rw [if_pos (by decide),Int.ediv_one];cases n with
 |zero=>refine ae (if_neg (Int.lt_irrefl _)) ?_;rfl
 |succ m=>rw [if_pos (Int.ofNat_lt.2 (Nat.lt_add_of_pos_right (Nat.succ_pos m))),Int.sub_add_cancel,Int.natCast_add,Int.add_comm,Int.add_sub_cancel];rfl
theorem rz2{n:Nat}(h:2<=n):(PySem.Builtin.Range.rangeSize 0 ((n:Int) -1) 2).toNat=n/2:=by obtain ⟨m,rfl⟩:=Nat.exists_eq_add_of_le' h;rw [show((m+2:Nat):Int) -1=((m+1:Nat):Int) from Int.add_sub_cancel ((m+1:Nat):Int) 1,Up];unfold PySem.Builtin.Range.rangeSize;rw [if_pos (by decide),if_pos (show(0:Int)<((m+1:Nat):Int) from Int.ofNat_lt.2 (Nat.succ_pos m)),Int.sub_zero,show((m+1:Nat):Int) -1=(m:Int) from Int.add_sub_cancel (m:Int) 1];rfl
theorem Zu{a b:Nat}(h:a<=b)(hb:b<=100000):0<(1:Int)/\(1:Int)<=1000/\-1000000<=(a:Int)/\(a:Int)<=1000000/\-1000000<=(b:Int)/\(b:Int)<=1000000:=
 ⟨by decide,by decide,Int.le_trans (by decide) (Int.natCast_nonneg a),Int.ofNat_le.2 (nc (Nat.le_trans h hb) rfl),Int.le_trans (by decide) (Int.natCast_nonneg b),Int.ofNat_le.2 (nc hb rfl)⟩
theorem nrv{n k:Nat}(h:k<n):((n:Int) -1+-1*(k:Int)).toNat=n -1 -k:=by obtain ⟨m,rfl⟩:=Nat.exists_eq_add_of_lt h;rw [Int.neg_mul,Int.one_mul,show((k+m+1:Nat):Int) -1=(k:Int)+m from Int.add_sub_cancel ((k:Int)+m) 1,Int.add_comm (k:Int),Int.add_neg_cancel_right,Nat.add_sub_cancel,Nat.add_sub_cancel_left];rfl
theorem nsy{a n:Nat}(h:a<n):n=a+(n -a -1)+1:=by rw [Nat.sub_sub,Nat.add_right_comm,Nat.add_sub_cancel' h]
theorem Zv{i m D:Nat}(h:i<m)(h':m<=8):2*i+8+(D+112 -2*i)=D+120:=by rw [Nat.add_right_comm,Nat.add_sub_cancel' (Nat.le_trans (Nat.mul_le_mul_left 2 (Nat.le_trans (Nat.le_of_lt h) h')) (Nat.le_trans (by decide) (Nat.le_add_left 112 D)))]
end
end Mine
end
section
open PySem PySem.W PyProof.Rows PySem.Calls
namespace Mine
section
inductive AV where
 |none
 |bool(b:Bool)
 |int(i:Int)
 |str(x:String)
 |tup(vs:List AV)
 |ref(l:Nat)
 |base(a:Addr)
inductive AK where
 |i(n:Int)
 |s(x:String)
 deriving DecidableEq
inductive dN where
 |dO|bank|fY|levels
inductive AO where
 |list(xs:List AV)
 |dI(kvs:List (Int×AV))
 |dS(kvs:List (String×AV))
 |dT(kvs:List (List AK×AV))
 |inst(c:dN)
 |zip
 |zin
 |fD
 |bY(xs:List AV)(i:Nat)
 |dead
 |set(ns:List Int)
abbrev U:=List AO
abbrev Loc:=String->Option AV
def TT(h:Heap)(lam:List Addr)(a:Addr)(items:Array Value)(n:Nat):Prop:=a∉lam/\IsT h a items n
mutual
inductive VR(h:Heap)(lam:List Addr):AV->Value->Prop
 |none:VR h lam .none .none
 |bool (b:Bool):VR h lam (.bool b) (.bool b)
 |int (i:Int) (t:Tok):VR h lam (.int i) (.int i t)
 |str (x:String) {X:Str} (t:Tok) (e:X=Str.ofString x):VR h lam (.str x) (.str X t)
 |tup {vs:List AV} {a:Addr} {items:Array Value} {n:Nat}:TT h lam a items n->bq h lam vs items.toList->vs.length<=10000->VR h lam (.tup vs) (.ref a)
 |ref {l:Nat} {a:Addr}:lam[l]?=some a->VR h lam (.ref l) (.ref a)
 |base (a:Addr):VR h lam (.base a) (.ref a)
inductive bq(h:Heap)(lam:List Addr):List AV->List Value->Prop
 |nil:bq h lam [] []
 |cons {av:AV} {v:Value} {cB:List AV} {vs:List Value}:VR h lam av v->bq h lam cB vs->bq h lam (av::cB) (v::vs)
end
def k8(lam bK:List Addr):Prop:=∀(l:Nat)(a:Addr),lam[l]?=some a->bK[l]?=some a
theorem k8.refl(lam:List Addr):k8 lam lam:=λ aa aa h=>h
theorem k8.trans{a b c:List Addr}(x:k8 a b)(y:k8 b c):k8 a c:=λ l v h=>y l v (x l v h)
theorem k8.snoc(lam:List Addr)(a:Addr):k8 lam (lam++[a]):=λ l v h=>by have:=(List.getElem?_eq_some_iff.mp h).1;refine ae (List.getElem?_append_left this) ?_;exact h
structure Kx(h:Heap)(lam:List Addr)(h':Heap)(bK:List Addr):Prop where
 ext:k8 lam bK
 tup:∀a o items n,a∉lam->o.cls=.type "tuple"->o.data=.seq items n->h.get? a=some o->h'.get? a=some o
 fresh:∀a∈bK,a∈lam\/h.get? a=none
theorem Kx.tt{h h':Heap}{lam bK:List Addr}(k:Kx h lam h' bK){a:Addr}{items:Array Value}{n:Nat}(x:TT h lam a items n):TT h' bK a items n:=
 ⟨λ hm=>(k.fresh a hm).elim x.1 λ e=>(by have:=x.2;unfold IsT at this;rw [e]at this;exact Zp this),k.tup _ _ _ _ x.1 rfl rfl x.2⟩
theorem Kx.out{h h':Heap}{lam bK:List Addr}(k:Kx h lam h' bK){a:Addr}{o:Obj}(hn:a∉lam)(ho:h.get? a=some o):a∉bK:=λ hm=>(k.fresh a hm).elim hn λ e=>by rw [ho]at e;exact sN e
theorem bq.ind{h:Heap}{lam:List Addr}(P:List AV->List Value->Prop)(n:P [] [])(c:∀{a v as vs},VR h lam a v->bq h lam as vs->P as vs->P (a::as) (v::vs)){as vs}(x:bq h lam as vs):P as vs:=
 @bq.rec h lam (λ aa aa aa=>True) (λ as vs aa=>P as vs) trivial (λ aa=>trivial) (λ aa aa=>trivial) (λ aa aa aa aa=>trivial) (λ aa aa aa aa=>trivial) (λ aa=>trivial) (λ aa=>trivial) n (λ a b aa r=>c a b r) _ _ x
theorem VR.mono{h h':Heap}{lam bK:List Addr}(k:Kx h lam h' bK){av v}(x:VR h lam av v):VR h' bK av v:=
 @VR.rec h lam (λ av v aa=>VR h' bK av v) (λ as vs aa=>bq h' bK as vs) .none .bool .int (λ x aa t e=>.str x t e) (λ ht aa hz hv=>.tup (k.tt ht) hv hz) (λ hl=>.ref (k.ext _ _ hl)) .base .nil (λ aa aa a b=>.cons a b) _ _ x
theorem bq.mono{h h':Heap}{lam bK:List Addr}(k:Kx h lam h' bK){cB vs}(x:bq h lam cB vs):bq h' bK cB vs:=x.ind (bq h' bK) .nil λ a aa r=>.cons (a.mono k) r
theorem bq.length{h:Heap}{lam:List Addr}{cB vs}(x:bq h lam cB vs):cB.length=vs.length:=x.ind (λ a b=>a.length=b.length) rfl λ aa aa e=>congrArg Nat.succ e
theorem bq.get{h:Heap}{lam:List Addr}{cB vs}(x:bq h lam cB vs):∀(i:Nat){av},cB[i]?=some av->∃v,vs[i]?=some v/\VR h lam av v:=by
 refine x.ind (λ cB vs=>∀(i:Nat){av},cB[i]?=some av->∃v,vs[i]?=some v/\VR h lam av v) (λ aa aa e=>nomatch e) λ h1 aa ih i=>?_;cases i with
 |zero=>exact λ e=>⟨_,rfl,Option.some.inj e▸h1⟩
 |succ i=>exact λ e=>ih i e
theorem bq.append{h:Heap}{lam:List Addr}{a b c d}(x:bq h lam a b)(y:bq h lam c d):bq h lam (a++c) (b++d):=x.ind (λ a b=>bq h lam (a++c) (b++d)) y λ h1 aa r=>.cons h1 r
theorem bq.drop{h:Heap}{lam:List Addr}{a b}(x:bq h lam a b):∀(n:Nat),bq h lam (a.drop n) (b.drop n):=by
 refine x.ind (λ a b=>∀n:Nat,bq h lam (a.drop n) (b.drop n)) (λ n=>?_) λ h1 h2 ih n=>?_
 ·cases (n)<;>exact .nil
 ·cases n with
  |zero=>exact .cons h1 h2
  |succ n=>exact ih n
theorem bq.take{h:Heap}{lam:List Addr}{a b}(x:bq h lam a b):∀(n:Nat),bq h lam (a.take n) (b.take n):=by
 refine x.ind (λ a b=>∀n:Nat,bq h lam (a.take n) (b.take n)) (λ n=>?_) λ h1 aa ih n=>?_
 ·cases (n)<;>exact .nil
 ·cases n with
  |zero=>exact .nil
  |succ n=>exact .cons h1 (ih n)
theorem bq.rev{h:Heap}{lam:List Addr}{a b}(x:bq h lam a b):bq h lam a.reverse b.reverse:=
 x.ind (λ a b=>bq h lam a.reverse b.reverse) .nil λ h1 aa r=>by refine ae List.reverse_cons<|ae List.reverse_cons ?_;exact r.append (.cons h1 .nil)
inductive KR{K K':Type}(f:K->K')(h:Heap)(lam:List Addr):List (K×AV)->List (K'×Value)->Prop
 |nil:KR f h lam [] []
 |cons {k:K} {av:AV} {v:Value} {r r'}:VR h lam av v->KR f h lam r r'->KR f h lam ((k,av)::r) ((f k,v)::r')
theorem KR.mono{K K':Type}{f:K->K'}{h h':Heap}{lam bK:List Addr}(k:Kx h lam h' bK){r r'}(x:KR f h lam r r'):KR f h' bK r r':=by
 induction x with
 |nil=>exact .nil
 |cons a _ ih=>exact .cons (a.mono k) ih
end
section
theorem cq{x y:String}(h:Str.ofString x=Str.ofString y):x=y:=by
 rw [Str.ofString_eq_toList,Str.ofString_eq_toList]at h;injection h with h
 have h1:x.toList.map Char.toNat=y.toList.map Char.toNat:=by simpa using congrArg Array.toList h
 have inj:∀a b:List Char,a.map Char.toNat=b.map Char.toNat->a=b:=by
  intro a;induction a with
  |nil=>intro b hb;cases b with|nil=>rfl|cons _ _=>simp at hb
  |cons c r ih=>
   intro b hb;cases b with
   |nil=>simp at hb
   |cons d q=>simp only [List.map_cons,List.cons.injEq]at hb;exact ae (ih q hb.2)<|ae (Char.toNat_inj.mp hb.1) rfl
 exact String.toList_inj.mp (inj _ _ h1)
theorem mV{x y:String}:Str.ofString x=Str.ofString y↔x=y:=⟨cq,λ e=>e▸rfl⟩
noncomputable def Ha:AK->Value->Bool
 |.i n,v=>Value.isInt n v
 |.s x,v=>Value.isStrOf (Str.ofString x) v
theorem gq{k:AK}{v:Value}(h:Ha k v=true):(∃n t,k=.i n/\v=.int n t)\/∃x t,k=.s x/\v=.str (Str.ofString x) t:=by
 cases k with
 |i n=>obtain ⟨t,rfl⟩:=Value.isInt_shape h;exact .inl ⟨n,t,rfl,rfl⟩
 |s x=>obtain ⟨t,rfl⟩:=Value.isStrOf_shape h;exact .inr ⟨x,t,rfl,rfl⟩
section
variable{prog:Program} {w:World} {A:Around} {E:Value->Shared->Prop} {s:Shared}
theorem nN{a:Int}{t:Tok}{b:Str}{u:Tok}{Q:Bool->Shared->Prop}(h:Q false s):wpAny (model prog w) A (eqBool (.int a t) (.str b u)) Q E s:=by
 unfold eqBool
 try with_reducible refine wpAny_holding ?_
 refine (?_:wpAny _ _ (if(Value.int a t==Value.str b u)=true then _ else _) Q E s);refine ae (if_neg (by simp)) ?_;exact wpAny_bind (EqMixed.eq_int_str (wpAny_truthy_bool h))
theorem nO{a:Str}{t:Tok}{b:Int}{u:Tok}{Q:Bool->Shared->Prop}(h:Q false s):wpAny (model prog w) A (eqBool (.str a t) (.int b u)) Q E s:=by
 unfold eqBool
 try with_reducible refine wpAny_holding ?_
 refine (?_:wpAny _ _ (if(Value.str a t==Value.int b u)=true then _ else _) Q E s);refine ae (if_neg (by simp)) ?_;exact wpAny_bind (EqMixed.eq_str_int (wpAny_truthy_bool h))
end
noncomputable def nP(prog:Program)(w:World):KeyKind prog w AK where
 is:=Ha
 hash:=λ k=>match k with|.i n=>hashInt n|.s x=>hashStr w (Str.ofString x)
 inj:=λ v a b ha hb=>by
  rcases gq ha with⟨n,t,rfl,rfl⟩|⟨x,t,rfl,rfl⟩<;>rcases gq hb with⟨n',t',rfl,e⟩|⟨x',t',rfl,e⟩
  ·injection e with e;rw [e]
  ·exact nomatch e
  ·exact nomatch e
  ·injection e with e;exact ae (cq e) rfl
 byValue:=λ k v h=>by rcases gq h with⟨n,t,rfl,rfl⟩|⟨x,t,rfl,rfl⟩<;>rfl
 pyHash:=λ hv h=>by
  rcases gq hv with⟨n,t,rfl,rfl⟩|⟨x,t,rfl,rfl⟩
  ·exact wpAny_pyHash_int h
  ·exact wpAny_pyHash_str h
 eqBool:=λ{A E s a b u v Q}hu hv h=>by
  rcases gq hu with⟨n,t,rfl,rfl⟩|⟨x,t,rfl,rfl⟩<;>rcases gq hv with⟨n',t',rfl,rfl⟩|⟨x',t',rfl,rfl⟩
  ·refine wpAny_eqBool_int ?_;have e:(n==n')=decide (AK.i n=AK.i n'):=by simp;rfl
   refine ae e ?_;exact h
  ·refine nN ?_;simpa using h
  ·refine nO ?_;simpa using h
  ·refine wpAny_eqBool_str ?_;simpa [mV]using h
 «strs»:=λ k x t v h=>by
  rcases gq h with⟨n,t',rfl,e⟩|⟨x',t',rfl,e⟩
  ·exact nomatch e
  ·injection e with e;subst e
   cases (v)<;>simp [Ha,Value.isStrOf,Value.isStr]
noncomputable abbrev cu(prog:Program)(w:World):HeapKind prog w (List AK):=tupleKind (nP prog w)
inductive KT(h:Heap)(lam:List Addr):List (List AK×AV)->List (List AK×Addr×Value)->Prop
 |nil:KT h lam [] []
 |cons {k:List AK} {av:AV} {a:Addr} {v:Value} {r r'}:VR h lam av v->KT h lam r r'->KT h lam ((k,av)::r) ((k,a,v)::r')
theorem KT.mono{h h':Heap}{lam bK:List Addr}(k:Kx h lam h' bK){r r'}(x:KT h lam r r'):KT h' bK r r':=by
 induction x with
 |nil=>exact .nil
 |cons a _ ih=>exact .cons (a.mono k) ih
noncomputable def A7:List Nat:=[109,116,121,126,140,147,154,168,173,185,199,206,211,218,239,246,253,265,272,307,314,321,328,335,342,361,368,389,396,401,406,420,427,441,448,455,525,539,546,554,562,567,574,586,591,596,601,608,613]
structure Fn where
 addr:Addr
 ok:A7.contains addr=true
namespace Fn
noncomputable def nQ:Fn:=⟨109,rfl⟩
noncomputable def j0:Fn:=⟨116,rfl⟩
noncomputable def gV:Fn:=⟨121,rfl⟩
noncomputable def jj:Fn:=⟨126,rfl⟩
noncomputable def uf:Fn:=⟨140,rfl⟩
noncomputable def xo:Fn:=⟨147,rfl⟩
noncomputable def path:Fn:=⟨154,rfl⟩
noncomputable def between:Fn:=⟨168,rfl⟩
noncomputable def By:Fn:=⟨173,rfl⟩
noncomputable def xq:Fn:=⟨185,rfl⟩
noncomputable def Bz:Fn:=⟨199,rfl⟩
noncomputable def oE:Fn:=⟨206,rfl⟩
noncomputable def take:Fn:=⟨211,rfl⟩
noncomputable def nR:Fn:=⟨218,rfl⟩
noncomputable def r_:Fn:=⟨239,rfl⟩
noncomputable def op:Fn:=⟨246,rfl⟩
noncomputable def kids:Fn:=⟨253,rfl⟩
noncomputable def term:Fn:=⟨265,rfl⟩
noncomputable def weight:Fn:=⟨272,rfl⟩
noncomputable def u5:Fn:=⟨307,rfl⟩
noncomputable def make:Fn:=⟨314,rfl⟩
noncomputable def lM:Fn:=⟨321,rfl⟩
noncomputable def A8:Fn:=⟨328,rfl⟩
noncomputable def qo:Fn:=⟨335,rfl⟩
noncomputable def members:Fn:=⟨342,rfl⟩
noncomputable def back:Fn:=⟨361,rfl⟩
noncomputable def Hb:Fn:=⟨368,rfl⟩
noncomputable def ug:Fn:=⟨389,rfl⟩
noncomputable def oF:Fn:=⟨396,rfl⟩
noncomputable def node:Fn:=⟨401,rfl⟩
noncomputable def add:Fn:=⟨406,rfl⟩
noncomputable def l6:Fn:=⟨420,rfl⟩
noncomputable def find:Fn:=⟨427,rfl⟩
noncomputable def merge:Fn:=⟨441,rfl⟩
noncomputable def u6:Fn:=⟨448,rfl⟩
noncomputable def settle:Fn:=⟨455,rfl⟩
noncomputable def u7:Fn:=⟨525,rfl⟩
noncomputable def push:Fn:=⟨539,rfl⟩
noncomputable def pop:Fn:=⟨546,rfl⟩
noncomputable def u9:Fn:=⟨554,rfl⟩
noncomputable def join:Fn:=⟨562,rfl⟩
noncomputable def u_:Fn:=⟨567,rfl⟩
noncomputable def vc:Fn:=⟨574,rfl⟩
noncomputable def pick:Fn:=⟨586,rfl⟩
noncomputable def gr:Fn:=⟨591,rfl⟩
noncomputable def more:Fn:=⟨596,rfl⟩
noncomputable def lN:Fn:=⟨601,rfl⟩
noncomputable def kM:Fn:=⟨608,rfl⟩
noncomputable def gw:Fn:=⟨613,rfl⟩
end Fn
noncomputable def xr(Q:Nat->Prop):List Nat->Prop
 |[]=>True
 |n::r=>Q n/\xr Q r
theorem xr.mem{Q:Nat->Prop}{L:List Nat}(h:xr Q L){n:Nat}(m:n∈L):Q n:=by
 induction L with
 |nil=>cases m
 |cons a r ih=>exact (List.mem_cons.mp m).elim (λ e=>e▸h.1) (ih h.2)
theorem xr.fn{Q:Nat->Prop}(h:xr Q A7)(f:Fn):Q f.addr:=h.mem (List.contains_iff_mem.mp f.ok)
theorem Kb{Q:Nat->Bool}(h:A7.all Q=true)(f:Fn):Q f.addr=true:=List.all_eq_true.mp h _ (List.contains_iff_mem.mp f.ok)
noncomputable def dN.addr:dN->Addr
 |.dO=>176|.bank=>289|.fY=>371|.levels=>577
noncomputable def QY:dN->List (String×Fn)
 |.dO=>[("renewed",.xo),("path",.path),("between",.between),("of_edge",.By)]
 |.bank=>[("size",.oE),("take",.take),("require",.nR),("cut",.r_),("op",.op),("kids",.kids),("term",.term),("weight",.weight)]
 |.fY=>[("make",.make),("size",.lM),("find",.A8),("merge",.qo),("members",.members),("back",.back),("cut",.Hb)]
 |.levels=>[("size",.oF),("node",.node),("add",.add),("find",.find),("merge",.merge),("settle",.settle),("push",.push),("pop",.pop),("look_at",.u9),("join",.join),("unmake",.u_),("unjoin",.vc)]
noncomputable def Uq(L:List (String×Fn))(m:String):Option Fn:=(L.find? λ p=>decide (p.1=m)).map (·.2)
theorem FO{P:String->Fn->Bool}(m:String)(f:Fn):∀(L:List (String×Fn)),Uq L m=some f->(L.all λ p=>P p.1 p.2)=true->P m f=true:=by intro L e h;obtain ⟨p,hp,rfl⟩:=Option.map_eq_some_iff.mp e;have h1:=List.all_eq_true.mp h p (List.mem_of_find?_eq_some hp);have h2:p.1=m:=of_decide_eq_true (p:=p.1=m) (List.find?_some (p:=λ p:String×Fn=>decide (p.1=m)) hp);exact h2▸h1
noncomputable def vd(c:dN)(m:String):Option Fn:=Uq (QY c) m
noncomputable def qp:dN->Fn
 |.dO=>.uf|.bank=>.Bz|.fY=>.u5|.levels=>.u7
noncomputable def attrsOf:dN->List String
 |.dO=>["heap","parts","level","mark","beside"]
 |.bank=>["nodes","numbers","weights","depths"]
 |.fY=>["above","lots","merged"]
 |.levels=>["bank","unions","edges","forest","known","above","waiting","backs","changes","marks","made"]
structure Places where
 prog:Program
 w:World
 h₀:Heap
 os:OsState
 K:Frag
structure Wd(G:Places):Prop where
 X:G.K.In G.h₀
 b:∃mb,G.h₀.Ns builtinsNs mb/\∀x:Str,x≠"__name__"->mb x=bootBuiltins x
 nolimit:G.h₀.NoLimit
 sys:∃o,G.h₀.get? sysModules=some o
 nodigits:∃mc,G.h₀.Ns cStatics mc/\mc "sys.int_max_str_digits"=none
 fn:∀f:Fn,fnIn G.K f.addr=true
 vf:∀f:Fn,typeIn G.K (.ref f.addr)=some (.type "function")
 BA:∀c m f,vd c m=some f->findIn G.K (.ref c.addr) (Str.ofString m)=some (some (.ref f.addr))
 mq:∀c:dN,findIn G.K (.ref c.addr) "__getattribute__"=some (some (.builtin "object.__getattribute__"))
 getattr:∀c:dN,findIn G.K (.ref c.addr) "__getattr__"=some none
 setattr:∀c:dN,findIn G.K (.ref c.addr) "__setattr__"=some (some (.builtin "object.__setattr__"))
 attr:∀(c:dN)(x:String),(attrsOf c).contains x=true->findIn G.K (.ref c.addr) (Str.ofString x)=some none
 hasDict:∀c:dN,hasDictIn G.K c.addr=true
 over:∀c:dN,plainOver G.K c.addr=true
 makes:∀c:dN,makesIn G.K c.addr=true
 init:∀c:dN,findIn G.K (.ref c.addr) "__init__"=some (some (.ref (qp c).addr))
def Ur(G:Places)(h:Heap)(a:Addr)(ns:List Int):Prop:=∃es ep t ms,h.get? a=some {cls:=.type "set",dict:=none,data:=.set es ep t,slots:=#[]}/\t.fits es.size=true/\(t.led=true\/G.w.params.followText "set-order"=true)/\
 (es.size=2->t.plain=true->∃a b,t.place=#[a,b]/\a<b)/\IntsAre (es.toList.map (·.2)) ms/\ms.Perm ns/\ns.length<=2
inductive OR(G:Places)(h:Heap)(lam:List Addr)(l:Nat)(a:Addr):AO->Prop
 |list {xs:List AV} {items:Array Value} {n:Nat}:IsL h a items n->bq h lam xs items.toList->xs.length<=10000->OR G h lam l a (.list xs)
 |dI {kvs:List (Int×AV)} {kvs'}:h.DictOf (intKind G.prog G.w) a kvs'->KR id h lam kvs kvs'->OR G h lam l a (.dI kvs)
 |dS {kvs:List (String×AV)} {kvs'}:h.DictOf (PySem.strKind G.prog G.w) a kvs'->KR Str.ofString h lam kvs kvs'->OR G h lam l a (.dS kvs)
 |dT {kvs:List (List AK×AV)} {xs}:h.DictOfH (cu G.prog G.w) a xs->KT h lam kvs xs->(∀x∈xs,x.2.1∉lam)->OR G h lam l a (.dT kvs)
 |inst {c:dN} {b:Addr}:h.get? a=some (instObj c.addr b)->lam[l+1]?=some b->OR G h lam l a (.inst c)
 |zip {TI TO i1 i2:Addr}:IsZip h a TI TO .none->TI∉lam->IsPair h TI (.ref i1) (.ref i2)->lam[l+1]?=some i1->lam[l+2]?=some i2->lam[l+3]?=some TO->OR G h lam l a .zip
 |fD {x y:Value}:IsPair h a x y->OR G h lam l a .fD
 |bY {xs:List AV} {i:Nat} {t:Addr} {items:Array Value} {n:Nat}:h.IsTupleIter a t i->TT h lam t items n->bq h lam xs items.toList->OR G h lam l a (.bY xs i)
 |dead {o:Obj}:h.get? a=some o->(∀v,o.data≠.cell v)->OR G h lam l a .dead
 |set {ns:List Int}:Ur G h a ns->OR G h lam l a (.set ns)
def vg(a:Addr)(h h':Heap):Prop:=∀o,h.get? a=some o->h'.get? a=some o
theorem DictOf.at'{prog:Program}{w:World}{K:Type}[DecidableEq K]{knd:KeyKind prog w K}{h h':Heap}{a:Addr}{kvs}(x:h.DictOf knd a kvs)(e:vg a h h'):h'.DictOf knd a kvs:=
 let⟨o,es,ep,ho,r⟩:=x;⟨o,es,ep,e _ ho,r⟩
theorem uh{prog:Program}{w:World}{h h':Heap}{lam bK:List Addr}(k:Kx h lam h' bK){ks:List AK}{a:Addr}(hn:a∉lam)(x:(cu prog w).is h ks a):(cu prog w).is h' ks a:=
 let⟨o,items,n,ho,hc,hd,hi⟩:=(x:IsTupleKey (nP prog w) h ks a);show IsTupleKey (nP prog w) h' ks a from⟨o,items,n,k.tup _ _ _ _ hn hc hd ho,hc,hd,hi⟩
theorem DictOfH.at'{prog:Program}{w:World}{h h':Heap}{lam bK:List Addr}{a:Addr}{xs}(x:h.DictOfH (cu prog w) a xs)(e:vg a h h')(k:Kx h lam h' bK)(hn:∀x∈xs,x.2.1∉lam):h'.DictOfH (cu prog w) a xs:=
 let⟨o,es,ep,ho,hx,hd,he,hk,fa⟩:=x;⟨o,es,ep,e _ ho,hx,hd,he,λ y hy=>uh k (hn y hy) (hk y hy),fa⟩
theorem DictOfH.out{prog:Program}{w:World}{h h':Heap}{lam bK:List Addr}{a:Addr}{xs}(x:h.DictOfH (cu prog w) a xs)(k:Kx h lam h' bK)(hn:∀x∈xs,x.2.1∉lam):∀x∈xs,x.2.1∉bK:=λ y hy=>by refine Bu x λ o es ep ho hx hd he hk fa=>?_;refine Bt ((hk y hy:IsTupleKey (nP prog w) h y.1 y.2.1)) λ o' items n gK aa=>?_;exact k.out (hn y hy) gK
theorem OR.keep{G:Places}{h h':Heap}{lam bK:List Addr}{l:Nat}{a:Addr}{ao:AO}(x:OR G h lam l a ao)(e:vg a h h')(k:Kx h lam h' bK):OR G h' bK l a ao:=by
 cases x with
 |list h1 h2 h3=>exact .list (e _ h1) (h2.mono k) h3
 |dI h1 h2=>exact .dI (DictOf.at' h1 e) (h2.mono k)
 |dS h1 h2=>exact .dS (DictOf.at' h1 e) (h2.mono k)
 |dT h1 h2 h3=>exact .dT (DictOfH.at' h1 e k h3) (h2.mono k) (DictOfH.out h1 k h3)
 |inst h1 h2=>exact .inst (e _ h1) (k.ext _ _ h2)
 |zip h1 h2 h3 h4 h5 h6=>exact .zip (e _ h1) (k.out h2 h3) (k.tup _ _ _ _ h2 rfl rfl h3) (k.ext _ _ h4) (k.ext _ _ h5) (k.ext _ _ h6)
 |fD h1=>exact .fD (e _ h1)
 |bY h1 h2 h3=>
  refine bp h1 λ o ho hr=>?_;exact .bY ⟨o,e o ho,hr⟩ (k.tt h2) (h3.mono k)
 |dead h1 h2=>exact .dead (e _ h1) h2
 |set h1=>refine Un h1 λ es ep t ms ho r=>?_;exact .set ⟨es,ep,t,ms,e _ ho,r⟩
theorem OR.some{G:Places}{h:Heap}{lam:List Addr}{l:Nat}{a:Addr}{ao:AO}(x:OR G h lam l a ao):∃o,h.get? a=some o/\(∀v,o.data≠.cell v):=by
 cases x with
 |list h1 h2=>exact ⟨_,h1,by simp⟩
 |dI h1 h2=>refine ue h1 λ o es ep ho hx hd aa=>?_;exact ⟨o,ho,by refine ae hd ?_;simp⟩
 |dS h1 h2=>refine ue h1 λ o es ep ho hx hd aa=>?_;exact ⟨o,ho,by refine ae hd ?_;simp⟩
 |dT h1 h2=>refine ue h1 λ o es ep ho hx hd aa=>?_;exact ⟨o,ho,by refine ae hd ?_;simp⟩
 |inst h1 h2=>exact ⟨_,h1,by simp⟩
 |zip h1=>exact ⟨_,h1,by simp⟩
 |fD h1=>exact ⟨_,h1,by simp⟩
 |bY h1=>refine fO h1 λ o ho aa hd=>?_;exact ⟨o,ho,by refine ae hd ?_;simp⟩
 |dead h1 h2=>exact ⟨_,h1,h2⟩
 |set h1=>refine Un h1 λ es ep t ms ho aa=>?_;exact ⟨_,ho,by simp⟩
end
section
structure HS(G:Places)(s:Shared)(lam:List Addr)(σ:U):Prop where
 base:∀b o,G.h₀.get? b=some o->s.heap.get? b=some o
 gens:s.gens=#[]
 os:s.os=G.os
 len:lam.length=σ.length
 nodup:lam.Nodup
 above:∀a∈lam,G.h₀.get? a=none
 obj:∀l a ao,lam[l]?=some a->σ[l]?=some ao->OR G s.heap lam l a ao
structure Step(s:Shared)(lam:List Addr)(s':Shared)(bK:List Addr):Prop where
 ext:k8 lam bK
 keep:∀a o,a∉lam->s.heap.get? a=some o->s'.heap.get? a=some o
 fresh:∀a∈bK,a∈lam\/s.heap.get? a=none
theorem Step.refl(s:Shared)(lam:List Addr):Step s lam s lam:=⟨.refl _,λ aa aa aa e=>e,λ aa h=>.inl h⟩
theorem Step.trans{s s' ym:Shared}{lam bK mW:List Addr}(x:Step s lam s' bK)(y:Step s' bK ym mW):Step s lam ym mW where
 ext:=x.ext.trans y.ext
 keep:=λ a o hn e=>y.keep a o (λ hm=>(x.fresh a hm).elim hn λ hs=>by rw [e]at hs;exact sN hs) (x.keep a o hn e)
 fresh:=λ a hm=>(y.fresh a hm).elim (λ h=>x.fresh a h) λ h=>by
  by_cases hl:a∈lam
  ·exact .inl hl
  ·refine .inr ?_;cases e:s.heap.get? a with
   |none=>rfl
   |some o=>rw [x.keep a o hl e]at h;exact sN h
theorem HS.has{G:Places}{s:Shared}{lam:List Addr}{σ:U}(H:HS G s lam σ){a:Addr}(ha:a∈lam):∃(l:Nat)(ao:AO),lam[l]?=some a/\σ[l]?=some ao/\OR G s.heap lam l a ao:=by
 refine dM (List.mem_iff_getElem?.mp ha) λ l hl=>?_;have dP:l<σ.length:=by refine cA H.len ?_;exact (List.getElem?_eq_some_iff.mp hl).1
 exact ⟨l,σ[l],hl,List.getElem?_eq_getElem dP,H.obj _ _ _ hl (List.getElem?_eq_getElem dP)⟩
theorem HS.xt{G:Places}{s:Shared}{lam:List Addr}{σ:U}(H:HS G s lam σ){a:Addr}{v:Option Value}(hx:s.heap.IsCell a v):a∉lam:=λ ha=>by refine xn (H.has ha) λ l ao aa aa x=>?_;refine bp hx λ o ho hd=>?_;refine bp x.some λ o' gK mX=>?_;rw [ho]at gK;(refine Uj gK ?_;clear gK;intro e9;subst e9);exact mX _ hd
theorem Step.kx{s s':Shared}{lam bK:List Addr}(x:Step s lam s' bK):Kx s.heap lam s'.heap bK:=⟨x.ext,λ a o aa aa hn aa aa ho=>x.keep a o hn ho,x.fresh⟩
theorem Step.vr{G:Places}{s s':Shared}{lam bK:List Addr}{σ:U}{av:AV}{v:Value}(x:Step s lam s' bK)(H:HS G s lam σ)(h:VR s.heap lam av v):VR s'.heap bK av v:=h.mono x.kx
theorem Step.vrs{G:Places}{s s':Shared}{lam bK:List Addr}{σ:U}{av:List AV}{v:List Value}(x:Step s lam s' bK)(H:HS G s lam σ)(h:bq s.heap lam av v):bq s'.heap bK av v:=h.mono x.kx
theorem Kx.refl(h:Heap)(lam:List Addr):Kx h lam h lam:=⟨.refl _,λ aa aa aa aa aa aa aa e=>e,λ aa h=>.inl h⟩
theorem Kx.trans{h h' mY:Heap}{lam bK mW:List Addr}(x:Kx h lam h' bK)(y:Kx h' bK mY mW)(al:∀a o,h.get? a=some o->∃o',h'.get? a=some o'):Kx h lam mY mW:=
 ⟨x.ext.trans y.ext,λ a o items n hn hc hd ho=>y.tup a o items n (x.out hn ho) hc hd (x.tup a o items n hn hc hd ho),λ a hm=>(y.fresh a hm).elim (λ h=>x.fresh a h) λ hs=>by
  cases e:h.get? a with
  |none=>exact .inr rfl
  |some o=>refine dM (al a o e) λ o' e'=>?_;rw [e']at hs;exact sN hs⟩
theorem Kx.grow{h h':Heap}{lam:List Addr}(hk:∀b o,h.get? b=some o->h'.get? b=some o):Kx h lam h' lam:=⟨.refl _,λ a o aa aa aa aa aa e=>hk a o e,λ aa h=>.inl h⟩
theorem Kx.snoc{h h':Heap}{lam:List Addr}{a:Addr}(hk:∀b o,h.get? b=some o->h'.get? b=some o)(ha:h.get? a=none):Kx h lam h' (lam++[a]):=
 ⟨.snoc _ _,λ a o aa aa aa aa aa e=>hk a o e,λ b hb=>by
  rcases List.mem_append.mp hb with h|h
  ·exact .inl h
  ·simp at h;subst h;exact .inr ha⟩
theorem Kx.upd{h h':Heap}{lam:List Addr}{d:Addr}(hd:d∈lam)(hs:Heap.SameBut d h h'):Kx h lam h' lam:=
 ⟨.refl _,λ a o aa aa hn aa aa ho=>by refine ae (hs.2 a (λ e=>hn (e▸hd))) ?_;exact ho,λ aa h=>.inl h⟩
structure FR(G:Places)(h:Heap)(lam:List Addr)(env:Env)(ρ:Loc):Prop where
 loc:∃m,h.Ns env.locals m/\∀x av,env.kindOf (Str.ofString x)=some .local->ρ x=some av->∃v,m (Str.ofString x)=some v/\VR h lam av v
 cell:∀x,(env.kindOf (Str.ofString x)=some .cell\/(env.kindOf (Str.ofString x)=some .free/\x≠"__class__"))->
  ∃c ov,env.cells.lookup (Str.ofString x)=some c/\h.IsCell c ov/\G.h₀.get? c=none/\∀av,ρ x=some av->∃v,ov=some v/\VR h lam av v
 apart:env.cells.Pairwise λ x y=>x.2≠y.2
 new:env.locals∉lam
 base:G.h₀.get? env.locals=none
 cells:∀p∈env.cells,∃v,h.IsCell p.2 v
theorem FR.step{G:Places}{s s':Shared}{lam bK:List Addr}{σ:U}{env:Env}{ρ:Loc}(F:FR G s.heap lam env ρ)(H:HS G s lam σ)(x:Step s lam s' bK):FR G s'.heap bK env ρ where
 loc:=by refine bp F.loc λ m hn hv=>?_;refine ⟨m,hn.at' λ o e=>x.keep _ o F.new e,λ y av hk hr=>?_⟩;refine bp (hv y av hk hr) λ v hm jk=>?_;exact ⟨v,hm,x.vr H jk⟩
 cell:=λ y hk=>by
  refine nD (F.cell y hk) λ c ov hl hc hb hv=>?_;refine ⟨c,ov,hl,?_,hb,λ av hr=>?_⟩
  ·refine bp hc λ o ho hd=>?_;exact ⟨o,x.keep _ _ (H.xt ⟨o,ho,hd⟩) ho,hd⟩
  ·refine bp (hv av hr) λ v e jk=>?_;exact ⟨v,e,x.vr H jk⟩
 apart:=F.apart
 new:=λ hm=>(x.fresh _ hm).elim F.new λ hs=>by obtain ⟨m,⟨o,es,ep,ho,_⟩,_⟩:=F.loc;rw [ho]at hs;exact sN hs
 base:=F.base
 cells:=λ p hp=>by refine xm (F.cells p hp) λ v o ho hd=>?_;exact ⟨v,o,x.keep _ _ (H.xt ⟨o,ho,hd⟩) ho,hd⟩
theorem FR.weaken{G:Places}{h:Heap}{lam:List Addr}{env:Env}{ρ ρ':Loc}(F:FR G h lam env ρ)(hw:∀y av,ρ' y=some av->ρ y=some av):FR G h lam env ρ' where
 loc:=let⟨m,hn,hv⟩:=F.loc;⟨m,hn,λ x av hk hr=>hv x av hk (hw _ _ hr)⟩
 cell:=λ x hk=>let⟨c,ov,a,b,c',hv⟩:=F.cell x hk;⟨c,ov,a,b,c',λ av hr=>hv av (hw _ _ hr)⟩
 apart:=F.apart
 new:=F.new
 base:=F.base
 cells:=F.cells
theorem HS.grow{G:Places}{s s':Shared}{lam:List Addr}{σ:U}(H:HS G s lam σ)(hk:∀b o,s.heap.get? b=some o->s'.heap.get? b=some o)(hg:s'.gens=s.gens)(ho:s'.os=s.os):
  HS G s' lam σ/\Step s lam s' lam:=
 ⟨⟨λ b o e=>hk b o (H.base b o e),hg.trans H.gens,ho.trans H.os,H.len,H.nodup,H.above,λ l a ao h1 h2=>(H.obj l a ao h1 h2).keep (λ o e=>hk a o e) (.grow hk)⟩,
  .refl _,λ a o aa e=>hk a o e,λ aa h=>.inl h⟩
theorem HS.toks{G:Places}{s:Shared}{lam:List Addr}{σ:U}(H:HS G s lam σ)(tk:Nat):HS G {s with toks:=tk} lam σ/\Step s lam {s with toks:=tk} lam:=
 H.grow (s':={s with toks:=tk}) (λ aa aa e=>e) rfl rfl
theorem HS.new{G:Places}{s s':Shared}{lam:List Addr}{σ:U}{a:Addr}{ao:AO}(H:HS G s lam σ)(hk:∀b o,s.heap.get? b=some o->s'.heap.get? b=some o)(ha:s.heap.get? a=none)
  (hg:s'.gens=s.gens)(ho:s'.os=s.os)(hr:OR G s'.heap (lam++[a]) lam.length a ao):HS G s' (lam++[a]) (σ++[ao])/\Step s lam s' (lam++[a]):=by
 have Us:a∉lam:=λ hm=>by refine xn (H.has hm) λ l vi aa aa x=>?_;refine bp x.some λ o ho aa=>?_;rw [ho]at ha;exact sN ha
 refine ⟨⟨λ b o e=>hk b o (H.base b o e),hg.trans H.gens,ho.trans H.os,by simp [H.len],?_,?_,?_⟩,k8.snoc _ _,λ a o aa e=>hk a o e,?_⟩
 ·rw [List.nodup_append];exact ⟨H.nodup,by simp,λ x hx y hy e=>by simp at hy;subst hy;subst e;exact Us hx⟩
 ·intro b hb;rcases List.mem_append.mp hb with h|h
  ·exact H.above b h
  ·simp at h;subst h;cases e:G.h₀.get? b with
   |none=>rfl
   |some o=>rw [H.base _ _ e]at ha;exact sN ha
 ·intro l b vi h1 h2;by_cases hl:l<lam.length
  ·rw [List.getElem?_append_left hl]at h1;rw [List.getElem?_append_left (H.len▸hl)]at h2;exact (H.obj l b vi h1 h2).keep (λ o e=>hk b o e) (.snoc hk ha)
  ·have eH:lam.length<=l:=Nat.not_lt.mp hl;rw [List.getElem?_append_right eH]at h1;rw [List.getElem?_append_right (H.len▸eH)]at h2;have e0:l -lam.length=0:=by have:=(List.getElem?_eq_some_iff.mp h1).1;simp at this;exact this
   have e1:l=lam.length:=Nat.le_antisymm (cI (bI e0) (bP (Nat.sub_add_cancel ((Nat.le_of_not_lt hl):(lam.length)<=(l)))) (by simp+arith only)) ((Nat.le_of_not_lt hl));rw [e0]at h1;rw [<-H.len,e0]at h2;simp at h1 h2;subst h1;subst h2;subst e1;exact hr
 ·intro b hb;rcases List.mem_append.mp hb with h|h
  ·exact .inl h
  ·simp at h;subst h;exact .inr ha
theorem jl{l:List Addr}(hn:l.Nodup){i j:Nat}{a:Addr}(hi:l[i]?=some a)(hj:l[j]?=some a):i=j:=
 (List.getElem?_inj (List.getElem?_eq_some_iff.mp hi).1 hn).mp (hi.trans hj.symm)
theorem HS.upd{G:Places}{s s':Shared}{lam:List Addr}{σ:U}{d:Addr}{l:Nat}{ao:AO}(H:HS G s lam σ)(hd:lam[l]?=some d)(hs:Heap.SameBut d s.heap s'.heap)(hg:s'.gens=s.gens)(ho:s'.os=s.os)(hr:OR G s'.heap lam l d ao):
  HS G s' lam (σ.set l ao)/\Step s lam s' lam:=by
 have hm:d∈lam:=List.mem_of_getElem? hd;have kc:=Kx.upd hm hs;refine ⟨⟨λ b o e=>?_,hg.trans H.gens,ho.trans H.os,by simp [H.len],H.nodup,H.above,λ l' a vi h1 h2=>?_⟩,.refl _,λ a o hn e=>?_,λ aa h=>.inl h⟩
 ·have:b≠d:=λ e'=>by subst e';rw [H.above _ hm]at e;exact Zp e
  refine ae (hs.2 b this) ?_;exact H.base b o e
 ·by_cases e:l'=l
  ·subst e;rw [hd]at h1;(refine Uj h1 ?_;clear h1;intro e9;subst e9);rw [List.getElem?_set_self (by refine cA H.len ?_;exact (List.getElem?_eq_some_iff.mp hd).1)]at h2
   (refine Uj h2 ?_;clear h2;intro e9;subst e9);exact hr
  ·rw [List.getElem?_set_ne (Ne.symm e)]at h2;have b_:a≠d:=λ e'=>e (jl H.nodup h1 (e'▸hd));exact (H.obj l' a vi h1 h2).keep (λ o e=>by refine ae (hs.2 a b_) ?_;exact e) kc
 ·have:a≠d:=λ e'=>hn (e'▸hm);refine ae (hs.2 a this) ?_;exact e
end
section
inductive lE(R:AV->AV->Bool->Prop):List AV->List AV->Bool->Prop
 |nil:lE R [] [] true
 |l {x:AV} {xs:List AV}:lE R (x::xs) [] false
 |r {x:AV} {xs:List AV}:lE R [] (x::xs) false
 |ff {x y:AV} {xs ys:List AV}:R x y false->lE R (x::xs) (y::ys) false
 |tt {x y:AV} {xs ys:List AV} {b:Bool}:R x y true->lE R xs ys b->lE R (x::xs) (y::ys) b
inductive hJ(R:AV->AV->Bool->Prop):AV->AV->Bool->Prop
 |nn:hJ R .none .none true
 |nt {vs:List AV}:hJ R .none (.tup vs) false
 |tn {vs:List AV}:hJ R (.tup vs) .none false
 |ii {a b:Int}:hJ R (.int a) (.int b) (decide (a=b))
 |is {a:Int} {x:String}:hJ R (.int a) (.str x) false
 |si {a:Int} {x:String}:hJ R (.str x) (.int a) false
 |ss {x y:String}:hJ R (.str x) (.str y) (x==y)
 |tt {xs ys:List AV} {b:Bool}:lE R xs ys b->hJ R (.tup xs) (.tup ys) b
noncomputable def gm:Nat->AV->AV->Bool->Prop
 |0=>λ aa aa aa=>False
 |n+1=>hJ (gm n)
theorem lE.iff{R:AV->AV->Bool->Prop}(ih:∀{x y b},R x y b->(b=true↔x=y)){xs ys:List AV}{b:Bool}(h:lE R xs ys b):b=true↔xs=ys:=by
 induction h with
 |nil=>exact ⟨λ aa=>rfl,λ aa=>rfl⟩
 |l=>exact ⟨λ e=>(nomatch e),λ e=>(nomatch e)⟩
 |r=>exact ⟨λ e=>(nomatch e),λ e=>(nomatch e)⟩
 |ff hf=>exact ⟨λ e=>(nomatch e),λ e=>(ih hf).2 (List.cons.inj e).1⟩
 |tt hf _ i2=>exact ⟨λ e=>(ih hf).1 rfl▸i2.1 e▸rfl,λ e=>i2.2 (List.cons.inj e).2⟩
theorem hJ.iff{R:AV->AV->Bool->Prop}(ih:∀{x y b},R x y b->(b=true↔x=y)){x y:AV}{b:Bool}(h:hJ R x y b):b=true↔x=y:=by
 cases h with
 |nn=>exact ⟨λ aa=>rfl,λ aa=>rfl⟩
 |ii=>exact ⟨λ e=>congrArg _ (of_decide_eq_true e),λ e=>decide_eq_true (AV.int.inj e)⟩
 |ss=>exact ⟨λ e=>congrArg _ (eq_of_beq e),λ e=>AV.str.inj e▸beq_self_eq_true _⟩
 |tt h=>exact ⟨λ e=>congrArg _ ((h.iff ih).1 e),λ e=>(h.iff ih).2 (AV.tup.inj e)⟩
 |_=>exact ⟨λ e=>(nomatch e),λ e=>(nomatch e)⟩
theorem gm.iff:∀{n:Nat}{x y:AV}{b:Bool},gm n x y b->(b=true↔x=y):=λ{n}=>by
 induction n with
 |zero=>exact λ h=>h.elim
 |succ n ih=>exact hJ.iff ih
section
variable{prog:Program} {w:World} {A:Around} {E:Value->Shared->Prop} {s:Shared}
theorem i5{a b:Value}{Ta Tb Kc Kd:String}{Q:Value->Shared->Prop}(hu:A.units<cLine)(ha:s.TypeIs a Ta)(hb:s.TypeIs b Tb)
  (b_:(Value.type Ta !=Value.type Tb)=true)(xu:isSubtype (.type Tb) (.type Ta)=pure false)(h1:Slot Ta (cmpInfo .Eq).2.1 Kc)(h2:Slot Tb (cmpInfo .Eq).2.2 Kd)(hk:isSame a b=pure false)
  (sO:∀Q:Value->Shared->Prop,Q .notImplemented s->wpAny (model prog w) A (call (.builtin Kc) [a,b]) Q E s)
  (yn:∀Q:Value->Shared->Prop,Q .notImplemented s->wpAny (model prog w) A (call (.builtin Kd) [b,a]) Q E s)(h:Q (.bool false) s):
  wpAny (model prog w) A (richCompare .Eq a b) Q E s:=by
 rcases hi:cmpInfo CmpOp.Eq with⟨sym,f,r⟩
 rw [hi]at h1 h2;unfold richCompare;refine ae hi ?_;dsimp only;rw [ha.oneThing_none]
 try with_reducible refine wpAny_holding ?_
 refine wpAny_bind (wpAny_cRoomFor_or (.inr hu) ?_);refine wpAny_bind (wpAny_typeOf ha (wpAny_bind (wpAny_typeOf hb ?_)));refine ae (if_pos b_) ?_;refine wpAny_bind (wpAny_of_eq xu ?_);refine ae (if_neg Bool.false_ne_true)<|ae (if_pos (show(!false)=true from rfl)) ?_;refine wpAny_bind (m:=tryCompare a _ b) (wpAny_tryCompare_declines ha h1 (sO _ ⟨rfl,?_⟩));refine wpAny_bind (m:=tryCompare b _ a) (wpAny_tryCompare_declines hb h2 (yn _ ⟨rfl,?_⟩));exact wpAny_bind (wpAny_rule (wpAny_bind (wpAny_of_eq hk (wpAny_pure h))))
theorem pL{a b:Value}{Ta Tb Kc Kd:String}{Q:Value->Shared->Prop}(hu:A.units<cLine)(ha:s.TypeIs a Ta)(hb:s.TypeIs b Tb)
  (b_:(Value.type Ta !=Value.type Tb)=true)(xu:isSubtype (.type Tb) (.type Ta)=pure false)(h1:Slot Ta (cmpInfo .NotEq).2.1 Kc)(h2:Slot Tb (cmpInfo .NotEq).2.2 Kd)(hk:isSame a b=pure false)
  (sO:∀Q:Value->Shared->Prop,Q .notImplemented s->wpAny (model prog w) A (call (.builtin Kc) [a,b]) Q E s)
  (yn:∀Q:Value->Shared->Prop,Q .notImplemented s->wpAny (model prog w) A (call (.builtin Kd) [b,a]) Q E s)(h:Q (.bool true) s):
  wpAny (model prog w) A (richCompare .NotEq a b) Q E s:=by
 rcases hi:cmpInfo CmpOp.NotEq with⟨sym,f,r⟩
 rw [hi]at h1 h2;unfold richCompare;refine ae hi ?_;dsimp only;rw [ha.oneThing_none]
 try with_reducible refine wpAny_holding ?_
 refine wpAny_bind (wpAny_cRoomFor_or (.inr hu) ?_);refine wpAny_bind (wpAny_typeOf ha (wpAny_bind (wpAny_typeOf hb ?_)));refine ae (if_pos b_) ?_;refine wpAny_bind (wpAny_of_eq xu ?_);refine ae (if_neg Bool.false_ne_true)<|ae (if_pos (show(!false)=true from rfl)) ?_;refine wpAny_bind (m:=tryCompare a _ b) (wpAny_tryCompare_declines ha h1 (sO _ ⟨rfl,?_⟩));refine wpAny_bind (m:=tryCompare b _ a) (wpAny_tryCompare_declines hb h2 (yn _ ⟨rfl,?_⟩));exact wpAny_bind (wpAny_rule (wpAny_bind (wpAny_of_eq hk (wpAny_pure h))))
theorem jz{b:Value}(hb:b=.ref a)(Q:Value->Shared->Prop)(h:Q .notImplemented s):wpAny (model prog w) A (call (.builtin "NoneType.__eq__") [.none,b]) Q E s:=by subst hb;exact wpAny_call_entry (T:="NoneType") PySem.F.slot_NoneType_eq rfl PySem.F.entry_NoneType_eq (wpAny_pure ⟨_,rfl,h⟩) (PySem.F.args_NoneType_eq_2 _ _)
theorem qq{b:Value}(hb:b=.ref a)(Q:Value->Shared->Prop)(h:Q .notImplemented s):wpAny (model prog w) A (call (.builtin "NoneType.__ne__") [.none,b]) Q E s:=by subst hb;exact wpAny_call_entry (T:="NoneType") PySem.F.slot_NoneType_ne rfl PySem.F.entry_NoneType_ne (wpAny_pure ⟨_,rfl,h⟩) (PySem.F.args_NoneType_ne_2 _ _)
theorem IsT.typeIs{lam:List Addr}{a:Addr}{items:Array Value}{n:Nat}(x:TT s.heap lam a items n):s.TypeIs (.ref a) "tuple":=⟨_,x.2,rfl⟩
theorem jA{lam:List Addr}{a:Addr}{b:Value}{Tb:String}{items:Array Value}{n:Nat}(x:TT s.heap lam a items n)(hb:s.TypeIs b Tb)(hs:isSubtype (.type Tb) (.type "tuple")=pure false)(Q:Value->Shared->Prop)(h:Q .notImplemented s):
  wpAny (model prog w) A (call (.builtin "tuple.__eq__") [.ref a,b]) Q E s:=by
 refine wpAny_call_entry PySem.F.slot_tuple_eq (IsT.typeIs x) PySem.F.entry_tuple_eq ?_ (PySem.F.args_tuple_eq_2 _ _);refine (?_:wpAny _ _ (isInstance b (.type "tuple")>>=_) _ _ s);refine wpAny_bind (wpAny_isInstance hb hs ?_);refine ae (if_pos (show(!false)=true from rfl)) ?_;exact wpAny_bind (wpAny_pure (wpAny_pure ⟨_,rfl,h⟩))
theorem qr{lam:List Addr}{a:Addr}{b:Value}{Tb:String}{items:Array Value}{n:Nat}(x:TT s.heap lam a items n)(hb:s.TypeIs b Tb)(hs:isSubtype (.type Tb) (.type "tuple")=pure false)(Q:Value->Shared->Prop)(h:Q .notImplemented s):
  wpAny (model prog w) A (call (.builtin "tuple.__ne__") [.ref a,b]) Q E s:=by
 refine wpAny_call_entry PySem.F.slot_tuple_ne (IsT.typeIs x) PySem.F.entry_tuple_ne ?_ (PySem.F.args_tuple_ne_2 _ _);refine (?_:wpAny _ _ (isInstance b (.type "tuple")>>=_) _ _ s);refine wpAny_bind (wpAny_isInstance hb hs ?_);refine ae (if_pos (show(!false)=true from rfl)) ?_;exact wpAny_bind (wpAny_pure (wpAny_pure ⟨_,rfl,h⟩))
theorem QZ(a:Addr):isSame .none (.ref a)=pure false:=rfl
theorem Q0(a:Addr):isSame (.ref a) .none=pure false:=rfl
theorem bq.kn{h:Heap}{lam:List Addr}{vs:List Value}{C:List Value->Prop}(x:bq h lam [] vs)(k:C []):C vs:=by cases (x);exact k
theorem bq.kc{h:Heap}{lam:List Addr}{a:AV}{as:List AV}{vs:List Value}{C:List Value->Prop}(x:bq h lam (a::as) vs)(k:∀v us,VR h lam a v->bq h lam as us->C (v::us)):C vs:=by cases x with|cons h1 h2=>exact k _ _ h1 h2
theorem BB{f:AV->AV->Bool->Prop}{lam:List Addr}{z:Bool}{body:Value×Value->(Option Fin×Unit)->Sem (ForInStep (Option Fin×Unit))}{Q:(Option Fin×Unit)->Shared->Prop}
  (step:∀x y v u r,VR s.heap lam x v->VR s.heap lam y u->f x y r->∀Q:Bool->Shared->Prop,Q r s->wpAny (model prog w) A (eqBool v u) Q E s)
  (Zw:∀x y,body (x,y) (none,())=(eqBool x y>>=λ t=>if(!t)=true then(ret (.bool z)>>=λ z=>pure (ForInStep.done (some z,())))else pure (ForInStep.yield (none,()))))
  {as bs:List AV}{r:Bool}(he:lE f as bs r):(r=false->Q (some (.done (.ret (.bool z))),()) s)->(r=(as.length==bs.length)->Q (none,()) s)->
   ∀{xs ys:List Value},bq s.heap lam as xs->bq s.heap lam bs ys->wpAny (model prog w) A (forIn (xs.zip ys) (none,()) body) Q E s:=by
 induction he with
 |nil=>exact λ aa h2 aa aa hx aa=>hx.kn (C:=λ xs=>wpAny _ _ (forIn (xs.zip _) _ body) Q E s) (wpAny_pure (h2 rfl))
 |r=>exact λ aa h2 aa aa hx aa=>hx.kn (C:=λ xs=>wpAny _ _ (forIn (xs.zip _) _ body) Q E s) (wpAny_pure (h2 rfl))
 |l=>
  intro _ h2 xs _ _ hy;refine hy.kn (C:=λ ys=>wpAny _ _ (forIn (xs.zip ys) _ body) Q E s) ?_;refine ae List.zip_nil_right ?_;exact wpAny_pure (h2 rfl)
 |ff hf=>
  intro h1 _ _ ys hx hy;refine hx.kc (C:=λ xs=>wpAny _ _ (forIn (xs.zip ys) _ body) Q E s) λ v xs hv aa=>hy.kc (C:=λ ys=>wpAny _ _ (forIn ((v::xs).zip ys) _ body) Q E s) λ u ys hu aa=>?_;rw [List.zip_cons_cons,List.forIn_cons,Zw];exact wpAny_bind (wpAny_bind (step _ _ _ _ _ hv hu hf _ (wpAny_bind (wpAny_pure (wpAny_pure (wpAny_pure (h1 rfl)))))))
 |tt hf _ ih=>intro h1 h2 _ ys hx hy;refine hx.kc (C:=λ xs=>wpAny _ _ (forIn (xs.zip ys) _ body) Q E s) λ v xs hv dQ=>hy.kc (C:=λ ys=>wpAny _ _ (forIn ((v::xs).zip ys) _ body) Q E s) λ u ys hu Ut=>?_;rw [List.zip_cons_cons,List.forIn_cons,Zw];exact wpAny_bind (wpAny_bind (step _ _ _ _ _ hv hu hf _ (wpAny_pure (ih h1 (λ e=>h2 (e.trans (Bool.eq_iff_iff.2 (by simp)))) dQ Ut))))
theorem qt{f:AV->AV->Bool->Prop}{a b:Addr}{xs ys:Array Value}{n m:Nat}{as bs:List AV}{lam:List Addr}{r:Bool}{op:CmpOp}{P:Fin->Shared->Prop}(jT:op=.Eq\/op=.NotEq)
  (FP:TT s.heap lam a xs n)(sP:TT s.heap lam b ys m)(ha:bq s.heap lam as xs.toList)(hb:bq s.heap lam bs ys.toList)
  (step:∀x y v u r,VR s.heap lam x v->VR s.heap lam y u->f x y r->∀Q:Bool->Shared->Prop,Q r s->wpAny (model prog w) A (eqBool v u) Q E s)
  (he:lE f as bs r)(h:P (.done (.ret (.bool (if op=.Eq then r else !r)))) s):
  wpAny (model prog w) A (match op with|.Eq=>Builtin.«tuple.__eq__» ⟨[.ref a,.ref b],[]⟩|_=>Builtin.«tuple.__ne__» ⟨[.ref a,.ref b],[]⟩) P E s:=by
 have Zx:s.TypeIs (.ref b) "tuple":=IsT.typeIs sP;rcases jT with rfl|rfl
 ·refine (?_:wpAny _ _ (isInstance (.ref b) (.type "tuple")>>=_) _ _ s);refine wpAny_bind (wpAny_isInstance Zx isSubtype_tuple_tuple ?_);refine ae (if_neg (show¬(!true)=true from Bool.false_ne_true)) ?_;refine wpAny_bind (wpAny_tupleItemsOf FP.2 rfl (wpAny_bind (wpAny_tupleItemsOf sP.2 rfl (wpAny_bind ?_))));refine BB step (λ aa aa=>rfl) he (λ e=>?_) (λ e=>?_) ha hb
  ·subst e;exact wpAny_pure (h)
  ·refine wpAny_pure ?_;have e1:(xs.size==ys.size)=r:=by refine ae e<|ae ha.length<|ae hb.length ?_;simp
   refine (?_:P (.done (.ret (.bool (xs.size==ys.size)))) s);refine ae e1 ?_;exact h
 ·refine (?_:wpAny _ _ (isInstance (.ref b) (.type "tuple")>>=_) _ _ s);refine wpAny_bind (wpAny_isInstance Zx isSubtype_tuple_tuple ?_);refine ae (if_neg (show¬(!true)=true from Bool.false_ne_true)) ?_;refine wpAny_bind (wpAny_tupleItemsOf FP.2 rfl (wpAny_bind (wpAny_tupleItemsOf sP.2 rfl (wpAny_bind ?_))));refine BB step (λ aa aa=>rfl) he (λ e=>?_) (λ e=>?_) ha hb
  ·subst e;exact wpAny_pure (h)
  ·refine wpAny_pure ?_;have e1:(xs.size==ys.size)=r:=by refine ae e<|ae ha.length<|ae hb.length ?_;simp
   refine (?_:P (.done (.ret (.bool (xs.size !=ys.size)))) s);have e2:(xs.size !=ys.size)=!r:=by refine cA e1 ?_;rfl
   refine ae e2 ?_;exact h
end
end
section
section
variable{prog:Program} {w:World} {E:Value->Shared->Prop} {s:Shared} {lam:List Addr}
theorem beq_false_of_ne{a b:Value}(h:a≠b):(a==b)=false:=decide_eq_false h
theorem mr{A:Around}{a b:Value}{Q:Bool->Shared->Prop}(b_:(a==b)=false)(hf:∀x t,a≠.float x t)(h:wpAny (model prog w) A (richCompare .Eq a b) (λ v s'=>wpAny (model prog w) A (truthOfDropped v) Q E s') E s):
  wpAny (model prog w) A (eqBool a b) Q E s:=by
 unfold eqBool
 try with_reducible refine wpAny_holding ?_
 refine ae b_<|ae (if_neg Bool.false_ne_true) ?_;cases a with
 |float x t=>exact absurd rfl (hf x t)
 |_=>exact wpAny_bind h
theorem NI{f:AV->AV->Bool->Prop}{h:Heap}(ih:∀{x y v r},VR h lam x v->VR h lam y v->f x y r->r=true){as bs:List AV}{r:Bool}(he:lE f as bs r):∀{vs:List Value},bq h lam as vs->bq h lam bs vs->r=true:=by
 induction he with
 |nil=>exact λ aa aa=>rfl
 |l=>intro vs ha hb;cases (hb);cases (ha)
 |r=>intro vs ha hb;cases (ha);cases (hb)
 |ff hf=>intro vs ha hb;cases ha with|cons h1 h2=>cases hb with|cons h3 h4=>exact ih h1 h3 hf
 |tt hf _ qu=>intro vs ha hb;cases ha with|cons h1 h2=>cases hb with|cons h3 h4=>exact qu h2 h4
theorem VR.none_{h:Heap}{lam:List Addr}{v:Value}(x:VR h lam .none v):v=.none:=by cases (x);rfl
theorem VR.oG{h:Heap}{lam:List Addr}{i:Int}{v:Value}(x:VR h lam (.int i) v):∃t,v=.int i t:=by cases (x);exact ⟨_,rfl⟩
theorem VR.abU{h:Heap}{lam:List Addr}{l:Nat}{v:Value}(x:VR h lam (.ref l) v):∃a,v=.ref a/\lam[l]?=some a:=by cases (x);exact ⟨_,rfl,by assumption⟩
theorem VR.qv{h:Heap}{lam:List Addr}{vs:List AV}{v:Value}(x:VR h lam (.tup vs) v):∃a items n,v=.ref a/\TT h lam a items n/\bq h lam vs items.toList:=by cases x with|tup h1 h2 _=>exact ⟨_,_,_,rfl,h1,h2⟩
theorem VR.qw{h:Heap}{lam:List Addr}{x:String}{v:Value}(y:VR h lam (.str x) v):∃t,v=.str (Str.ofString x) t:=by cases y with|str _ t e=>subst e;exact ⟨_,rfl⟩
theorem str_beq(a b:String):(a==b)=decide (Str.ofString a=Str.ofString b):=by simp only [mV];by_cases fB:a=b<;>exact rfl
theorem NJ{h:Heap}{f:AV->AV->Bool->Prop}(ih:∀{x y v r},VR h lam x v->VR h lam y v->f x y r->r=true){x y:AV}{v:Value}{r:Bool}(hx:VR h lam x v)(hy:VR h lam y v)(he:hJ f x y r):r=true:=by
 cases he with
 |nn=>rfl
 |nt=>refine Bt hy.qv λ aa aa aa e aa=>?_;exact nomatch hx.none_.symm.trans e
 |tn=>refine Bt hx.qv λ aa aa aa e aa=>?_;exact nomatch hy.none_.symm.trans e
 |ii=>obtain ⟨_,rfl⟩:=hx.oG;obtain ⟨_,e⟩:=hy.oG;cases (e);exact decide_eq_true rfl
 |is=>obtain ⟨_,rfl⟩:=hx.oG;obtain ⟨_,e⟩:=hy.qw;cases (e)
 |si=>obtain ⟨_,rfl⟩:=hy.oG;obtain ⟨_,e⟩:=hx.qw;cases (e)
 |ss=>obtain ⟨_,rfl⟩:=hx.qw;obtain ⟨_,e⟩:=hy.qw;injection e with e _;refine ae (cq e) ?_;exact beq_self_eq_true _
 |tt he=>
  obtain ⟨a,i1,k1,rfl,h1,h2⟩:=hx.qv;refine qn hy.qv λ aa i2 k2 e h3 h4=>?_;cases (e);have e:=h1.2.symm.trans h3.2;injection e with e;injection e with _ _ e _;injection e with e _;subst e
  exact NI ih he h2 h4
theorem NK{h:Heap}:∀{n:Nat}{x y:AV}{v:Value}{r:Bool},VR h lam x v->VR h lam y v->gm n x y r->r=true:=λ{n}=>by
 induction n with
 |zero=>exact λ aa aa e=>e.elim
 |succ n ih=>exact NJ ih
theorem EJ{f:AV->AV->Bool->Prop}{A:Around}{x y:AV}{v u:Value}{r:Bool}{Q:Bool->Shared->Prop}(he:hJ f x y r)(hv:VR s.heap lam x v)(hu:VR s.heap lam y u)(hA:A.units+1<cLine)(h:Q r s)
  (htt:∀(xs ys:List AV),x=.tup xs->y=.tup ys->lE f xs ys r->wpAny (model prog w) A (eqBool v u) Q E s):wpAny (model prog w) A (eqBool v u) Q E s:=by
 cases he with
 |nn=>
  have:=hv.none_;subst this;have:=hu.none_;subst this;unfold eqBool;try with_reducible refine wpAny_holding ?_
  exact wpAny_bind (wpAny_rule (wpAny_pure h))
 |nt=>
  have:=hv.none_;subst this;obtain ⟨a,items,m,rfl,h1,h2⟩:=hu.qv;exact mr (rfl) (λ aa aa=>by simp) (i5 (Ta:="NoneType") (Tb:="tuple") (Nat.le_of_lt hA) rfl (IsT.typeIs h1) (by decide) PySem.F.sub_tuple_NoneType PySem.F.slot_NoneType_eq PySem.F.slot_tuple_eq_refl rfl
   (jz rfl) (jA h1 (Tb:="NoneType") rfl PySem.F.sub_NoneType_tuple) (wpAny_truthy_bool h))
 |tn=>
  have:=hu.none_;subst this;obtain ⟨a,items,m,rfl,h1,h2⟩:=hv.qv;exact mr (rfl) (λ aa aa=>by simp) (i5 (Ta:="tuple") (Tb:="NoneType") (Nat.le_of_lt hA) (IsT.typeIs h1) rfl (by decide) PySem.F.sub_NoneType_tuple PySem.F.slot_tuple_eq PySem.F.slot_NoneType_eq_refl rfl
   (jA h1 (Tb:="NoneType") rfl PySem.F.sub_NoneType_tuple) (jz rfl) (wpAny_truthy_bool h))
 |ii=>obtain ⟨_,rfl⟩:=hv.oG;obtain ⟨_,rfl⟩:=hu.oG;exact wpAny_eqBool_int h
 |is=>obtain ⟨_,rfl⟩:=hv.oG;obtain ⟨_,rfl⟩:=hu.qw;exact nN h
 |si=>obtain ⟨_,rfl⟩:=hv.qw;obtain ⟨_,rfl⟩:=hu.oG;exact nO h
 |ss=>obtain ⟨_,rfl⟩:=hv.qw;obtain ⟨_,rfl⟩:=hu.qw;refine wpAny_eqBool_str ?_;rw [<-str_beq];exact h
 |tt he=>exact htt _ _ rfl rfl he
theorem lO:∀(n:Nat){A:Around}{x y:AV}{v u:Value}{r:Bool}{Q:Bool->Shared->Prop},gm n x y r->VR s.heap lam x v->VR s.heap lam y u->A.units+n+1<cLine->Q r s->
  wpAny (model prog w) A (eqBool v u) Q E s:=by
 intro n;induction n with
 |zero=>
  exact λ he=>he.elim
 |succ n ih=>
  intro A x y v u r Q he hv hu hA h;refine EJ he hv hu (bG hA (by simp+arith only)) h λ xs ys ex ey he'=>?_;subst ex;subst ey;obtain ⟨a,as,k1,rfl,h1,h2⟩:=hv.qv;obtain ⟨b,bs,k2,rfl,h3,h4⟩:=hu.qv;by_cases fB:(Value.ref a==Value.ref b)=true
  ·have e:a=b:=by have:=eq_of_beq fB;injection this
   subst e;unfold eqBool;try with_reducible refine wpAny_holding ?_
   refine ae (if_pos fB) ?_;have e:r=true:=NK (n:=n+1) hv hu he;subst e;exact wpAny_bind (wpAny_rule (wpAny_pure h))
  ·exact mr (by simpa using fB) (λ aa aa=>by simp) (wpAny_richCompare_same_room (op:=.Eq) (IsT.typeIs h1) (IsT.typeIs h3) PySem.F.slot_tuple_eq
    (wpAny_call_entry PySem.F.slot_tuple_eq (IsT.typeIs h1) PySem.F.entry_tuple_eq
     (qt (op:=.Eq) (.inl rfl) h1 h3 h2 h4 (λ x y v u r hv hu hf Q hq=>ih hf hv hu (by show A.units+1+n+1<cLine;exact bG hA (by simp+arith only)) hq) he' ⟨_,rfl,(λ e=>nomatch e),(by show wpAny _ _ (truthOfDropped (Value.bool (if(CmpOp.Eq:CmpOp)=CmpOp.Eq then r else !r))) _ _ _;refine ae (if_pos rfl) ?_;exact wpAny_truthy_bool h)⟩) (PySem.F.args_tuple_eq_2 _ _)) (bG hA (by simp+arith only)))
end
end
section
section
variable{h:Heap} {lam:List Addr} {v:Value} {C:Value->Prop}
theorem VR.kn(x:VR h lam .none v)(k:C .none):C v:=by cases x;exact k
theorem VR.kb{b:Bool}(x:VR h lam (.bool b) v)(k:C (.bool b)):C v:=by cases x;exact k
theorem VR.ki{i:Int}(x:VR h lam (.int i) v)(k:∀t,C (.int i t)):C v:=by cases x;exact k _
theorem VR.ks{x:String}(y:VR h lam (.str x) v)(k:∀t,C (.str (Str.ofString x) t)):C v:=by cases y with|str _ t e=>subst e;exact k _
theorem VR.kr{l:Nat}(x:VR h lam (.ref l) v)(k:∀a,lam[l]?=some a->C (.ref a)):C v:=by cases x;exact k _ (by assumption)
theorem VR.kt{vs:List AV}(x:VR h lam (.tup vs) v)(k:∀a items n,TT h lam a items n->bq h lam vs items.toList->C (.ref a)):C v:=by cases x with|tup h1 h2 _=>exact k _ _ _ h1 h2
theorem VR.kz{vs:List AV}(x:VR h lam (.tup vs) v):vs.length<=10000:=by cases x;assumption
end
structure iK(d:Nat)(A:Around):Prop where
 h:A.handled=none
 dep:A.depth+3*d<recursionLimit
 un:A.units+40*d+100<cLine
noncomputable def kN(sc:Scope):Bool:=sc.names.any λ n=>n.1==(".0":Str)
structure Q1(sc:Scope)(env:Env):Prop where
 scope:env.scope=sc
 kind:sc.kind=.function
 globals:env.globals=mainGlobals
 builtins:env.builtins=builtinsNs
 own:kN sc=false->env.func.isSome=true
def Own(env:Env)(a:Addr):Prop:=a=env.locals\/(env.func.isSome=true/\a∈env.cells.map (·.2))
def Hc(env:Env)(a:Addr):Prop:=a=env.locals\/a∈env.cells.map (·.2)
theorem Own.all{env:Env}{a:Addr}(x:Own env a):Hc env a:=x.imp id (·.2)
structure cG(env:Env)(s:Shared)(lam:List Addr)(s':Shared)(bK:List Addr):Prop where
 kx:Kx s.heap lam s'.heap bK
 keep:∀a o,a∉lam->¬Own env a->s.heap.get? a=some o->s'.heap.get? a=some o
 alive:∀a o,s.heap.get? a=some o->∃o',s'.heap.get? a=some o'
theorem cG.refl(env:Env)(s:Shared)(lam:List Addr):cG env s lam s lam:=⟨.refl _ _,λ aa aa aa aa e=>e,λ aa o e=>⟨o,e⟩⟩
theorem cG.trans{env:Env}{s s' ym:Shared}{lam bK mW:List Addr}(x:cG env s lam s' bK)(y:cG env s' bK ym mW):cG env s lam ym mW where
 kx:=x.kx.trans y.kx x.alive
 keep:=λ a o hn hw e=>y.keep a o (x.kx.out hn e) hw (x.keep a o hn hw e)
 alive:=λ a o e=>let⟨o',e'⟩:=x.alive a o e;y.alive a o' e'
theorem HS.ui{G:Places}{s:Shared}{lam:List Addr}{σ:U}(H:HS G s lam σ){a:Addr}(ha:a∈lam){C:Prop}(k:∀o,s.heap.get? a=some o->(∀v,o.data≠.cell v)->C):C:=
 xn (H.has ha) λ aa aa aa aa hr=>bp hr.some λ o h1 h2=>k o h1 h2
theorem Step.toF{G:Places}{env:Env}{s s':Shared}{lam bK:List Addr}{σ':U}(x:Step s lam s' bK)(H':HS G s' bK σ'):cG env s lam s' bK where
 kx:=x.kx
 keep:=λ a o hn aa e=>x.keep a o hn e
 alive:=λ a o e=>by
  by_cases hl:a∈lam
  ·exact dM (List.mem_iff_getElem?.mp hl) λ l h=>H'.ui (List.mem_of_getElem? (x.ext l a h)) λ o' h aa=>⟨o',h⟩
  ·exact ⟨o,x.keep a o hl e⟩
inductive AF where
 |next|cont|ret(v:AV)
inductive vj(h:Heap)(lam:List Addr):AF->Flow->Prop
 |next:vj h lam .next .next
 |cont:vj h lam .cont .cont
 |ret {av:AV} {v:Value}:VR h lam av v->vj h lam (.ret av) (.ret v)
set_option genInjectivity false
set_option genSizeOf false
abbrev PV:=AV->U->Prop
abbrev PF:=AF->Loc->U->Prop
noncomputable def cP(l:List (String×Option AV)):Loc:=λ y=>(l.lookup y).getD none
noncomputable def pick(vs:List String)(ρ:Loc):Loc:=cP (vs.map λ x=>(x,ρ x))
theorem gW{vs:List String}{ρ:Loc}{y:String}{v:AV}(h:pick vs ρ y=some v):y∈vs/\ρ y=some v:=by
 unfold pick cP at h;induction vs with
 |nil=>cases h
 |cons x r ih=>
  rw [List.map_cons,List.lookup_cons]at h;cases e:y==x with
  |true=>rw [e]at h;cases eq_of_beq e;exact ⟨.head _,h⟩
  |false=>rw [e]at h;exact ⟨.tail _ (ih h).1,(ih h).2⟩
structure bS where
 call:Fn->List AV->U->PV->Prop
 make:dN->List AV->U->PV->Prop
structure cZ where
 G:Places
 d:Nat
 F:bS
 sc:Scope
noncomputable abbrev cZ.M(Γ:cZ):Model:=model Γ.G.prog Γ.G.w
abbrev AE:=bS->Loc->U->PV->Prop
abbrev AL:=bS->Loc->U->(List AV->U->Prop)->Prop
abbrev AT:=bS->Loc->U->(Bool->U->Prop)->Prop
abbrev AG:=bS->AV->Loc->U->(Loc->U->Prop)->Prop
abbrev AS:=bS->Loc->U->PF->Prop
abbrev O1:=U->PV->AV->Prop
abbrev O2:=U->PV->AV->AV->Prop
abbrev OL:=U->PV->List AV->Prop
def need{α:Type}(o:Option α)(P:α->Prop):Prop:=match o with
 |some a=>P a
 |none=>False
theorem need.k{α:Type}{o:Option α}{P:α->Prop}{C:Prop}(h:need o P)(k:∀a,o=some a->P a->C):C:=by
 cases o with
 |none=>exact h.elim
 |some a=>exact k a rfl h
def vm(v:AV)(k:Bool->Prop):Prop:=match v with
 |.bool b=>k b
 |_=>False
def pM(v:AV)(k:Int->Prop):Prop:=match v with
 |.int i=>k i
 |_=>False
def yo(v:AV)(k:String->Prop):Prop:=match v with
 |.str x=>k x
 |_=>False
theorem vm.k{v:AV}{k:Bool->Prop}(h:vm v k):∃b,v=.bool b/\k b:=by cases v<;>first|exact h.elim|exact ⟨_,rfl,h⟩
theorem pM.k{v:AV}{k:Int->Prop}(h:pM v k):∃b,v=.int b/\k b:=by cases v<;>first|exact h.elim|exact ⟨_,rfl,h⟩
theorem yo.k{v:AV}{k:String->Prop}(h:yo v k):∃b,v=.str b/\k b:=by cases v<;>first|exact h.elim|exact ⟨_,rfl,h⟩
theorem need.i{α:Type}{o:Option α}{P:α->Prop}{a:α}(e:o=some a)(p:P a):need o P:=e▸p
structure St(Γ:cZ)where
 s:Shared
 lam:List Addr
 σ:U
 H:HS Γ.G s lam σ
section
variable{Γ:cZ}
def St.Le(o w:St Γ):Prop:=Step o.s o.lam w.s w.lam
def St.R(w:St Γ)(v:AV)(u:Value):Prop:=VR w.s.heap w.lam v u
def St.Rs(w:St Γ)(v:List AV)(u:List Value):Prop:=bq w.s.heap w.lam v u
def St.FR(w:St Γ)(env:Env)(ρ:Loc):Prop:=Mine.FR Γ.G w.s.heap w.lam env ρ
def St.nS(env:Env)(o w:St Γ):Prop:=cG env o.s o.lam w.s w.lam
theorem St.R.up{o w:St Γ}{v:AV}{u:Value}(h:o.R v u)(S:o.Le w):w.R v u:=VR.mono (Step.kx S) h
theorem St.Rs.up{o w:St Γ}{v:List AV}{u:List Value}(h:o.Rs v u)(S:o.Le w):w.Rs v u:=bq.mono (Step.kx S) h
theorem St.Le.tr{a b c:St Γ}(x:a.Le b)(y:b.Le c):a.Le c:=Step.trans x y
structure Cx(Γ:cZ)where
 A:Around
 E:Value->Shared->Prop
 env:Env
 f:St Γ
 o:St Γ
 w:St Γ
 ρ:Loc
 R:iK Γ.d A
 ok:Q1 Γ.sc env
 F:w.FR env ρ
 S:o.Le w
 T:f.nS env w
abbrev Cx.wp{α:Type}(K:Cx Γ)(m:Sem α)(Q:α->Shared->Prop):Prop:=wpAny Γ.M K.A m Q K.E K.w.s
def Cx.KV(K:Cx Γ)(P:PV)(Q:Value->Shared->Prop):Prop:=∀u v(w:St Γ),K.o.Le w->P v w.σ->w.R v u->Q u w.s
def Cx.KL(K:Cx Γ)(n:Nat)(P:List AV->U->Prop)(Q:List Value->Shared->Prop):Prop:=∀u v(w:St Γ),K.o.Le w->v.length=n->P v w.σ->w.Rs v u->Q u w.s
def Cx.KB(K:Cx Γ)(P:Bool->U->Prop)(Q:Bool->Shared->Prop):Prop:=∀b(w:St Γ),K.o.Le w->P b w.σ->Q b w.s
def Cx.KM(K:Cx Γ)(P:U->Prop)(Q:Unit->Shared->Prop):Prop:=∀w:St Γ,K.o.Le w->P w.σ->Q () w.s
def Cx.KU(K:Cx Γ)(P:Loc->U->Prop)(Q:Unit->Shared->Prop):Prop:=∀ρ(w:St Γ),w.FR K.env ρ->K.f.nS K.env w->P ρ w.σ->Q () w.s
def Cx.KS(K:Cx Γ)(P:PF)(Q:Flow->Shared->Prop):Prop:=∀fl f ρ(w:St Γ),w.FR K.env ρ->K.f.nS K.env w->P f ρ w.σ->vj w.s.heap w.lam f fl->Q fl w.s
noncomputable def Cx.r(K:Cx Γ):Cx Γ:={K with o:=K.w,S:=.refl _ _}
noncomputable def Cx.up(K:Cx Γ)(w:St Γ)(S:K.w.Le w):Cx Γ:={K with w:=w,F:=FR.step K.F K.w.H S,S:=K.S.tr S,T:=cG.trans K.T (Step.toF S w.H)}
noncomputable def Cx.jB(K:Cx Γ)(ρ:Loc)(w:St Γ)(F:w.FR K.env ρ)(T:K.f.nS K.env w):Cx Γ:={K with w:=w,o:=w,ρ:=ρ,F:=F,S:=.refl _ _,T:=T}
noncomputable def Cx.rf(K:Cx Γ):Cx Γ:={K with o:=K.w,S:=.refl _ _,f:=K.w,T:=.refl _ _ _}
noncomputable def Cx.at(K:Cx Γ)(A:Around)(E:Value->Shared->Prop)(R:iK Γ.d A):Cx Γ:={K with A:=A,E:=E,R:=R}
def aZ(Γ:cZ)(e:Expr)(a:AE):Prop:=∀(K:Cx Γ){P:PV}{Q:Value->Shared->Prop},a Γ.F K.ρ K.w.σ P->K.KV P Q->K.wp (eval e K.env) Q
def jD(Γ:cZ)(e:Expr)(a:AT):Prop:=∀(K:Cx Γ){P:Bool->U->Prop}{Q:Bool->Shared->Prop},a Γ.F K.ρ K.w.σ P->K.KB P Q->K.wp (PySem.isTrue e K.env (eval e K.env)) Q
def ig(Γ:cZ)(e:Expr)(a:AG):Prop:=∀(K:Cx Γ){v:AV}{u:Value}{P:Loc->U->Prop}{Q:Unit->Shared->Prop},a Γ.F v K.ρ K.w.σ P->K.w.R v u->K.KU P Q->K.wp (assign e K.env u) Q
def iL(Γ:cZ)(e:Stmt)(a:AS):Prop:=∀(K:Cx Γ){P:PF}{Q:Flow->Shared->Prop},a Γ.F K.ρ K.w.σ P->K.KS P Q->K.wp (exec e K.env) Q
def nE(Γ:cZ)(e:List Stmt)(a:AS):Prop:=∀(K:Cx Γ){P:PF}{Q:Flow->Shared->Prop},a Γ.F K.ρ K.w.σ P->K.KS P Q->K.wp (execs e K.env) Q
def Zy(Γ:cZ)(t:Value->Sem Value)(f:O1):Prop:=∀(K:Cx Γ){x:AV}{v:Value}{P:PV}{Q:Value->Shared->Prop},f K.w.σ P x->K.w.R x v->K.KV P Q->K.wp (t v) Q
def hO(Γ:cZ)(t:Value->Value->Sem Value)(f:O2):Prop:=∀(K:Cx Γ){x y:AV}{v u:Value}{P:PV}{Q:Value->Shared->Prop},f K.w.σ P x y->K.w.R x v->K.w.R y u->K.KV P Q->K.wp (t v u) Q
def iM(Γ:cZ)(fv:Value)(f:OL):Prop:=∀(K:Cx Γ){x:List AV}{v:List Value}{P:PV}{Q:Value->Shared->Prop},f K.w.σ P x->K.w.Rs x v->K.KV P Q->K.wp (call fv v) Q
theorem Cx.k1(K:Cx Γ){P:PV}{Q:Value->Shared->Prop}{v:AV}{u:Value}(k:K.KV P Q)(p:P v K.w.σ)(h:K.w.R v u)(tk:Nat):Q u {K.w.s with toks:=tk}:=
 let⟨H',S⟩:=K.w.H.toks tk;k u v ⟨_,_,_,H'⟩ (Step.trans K.S S) p h
theorem Cx.k0(K:Cx Γ){P:PV}{Q:Value->Shared->Prop}{v:AV}{u:Value}(k:K.KV P Q)(p:P v K.w.σ)(h:K.w.R v u):Q u K.w.s:=k u v K.w K.S p h
theorem Cx.kn(K:Cx Γ){P:PV}{Q:Value->Shared->Prop}{s:Shared}{lam:List Addr}{σ:U}{v:AV}{u:Value}(k:K.KV P Q)(HS:HS Γ.G s lam σ/\Step K.w.s K.w.lam s lam)(p:P v σ)(h:VR s.heap lam v u):Q u s:=
 k u v ⟨_,_,_,HS.1⟩ (Step.trans K.S HS.2) p h
theorem Cx.kind(K:Cx Γ){x:Str}{k:Option NameKind}(h:Γ.sc.names.lookup x=k):K.env.kindOf x=k:=by unfold Env.kindOf;refine ae K.ok.scope ?_;exact h
theorem Cx.fn(K:Cx Γ):K.env.scope.kind=.function:=K.ok.scope▸K.ok.kind
def aT(i:Int):AE:=λ _ _ σ P=>P (.int i) σ
def de(x:String):AE:=λ _ _ σ P=>P (.str x) σ
def lP:AE:=λ _ _ σ P=>P .none σ
def lQ(b:Bool):AE:=λ _ _ σ P=>P (.bool b) σ
def af(x:String):AE:=λ _ ρ σ P=>need (ρ x) λ v=>P v σ
theorem aA{i:Int}{k:Nat}{pos:Pos}:aZ Γ (.Constant (.int i) k pos) (aT i):=λ K aa aa p k=>wpAny_Constant_int (K.k1 k p (.int i _) _)
theorem bT{x:String}{k:Nat}{pos:Pos}:aZ Γ (.Constant (.str (Str.ofString x)) k pos) (de x):=λ K aa aa p k=>Constant_str (K.k1 k p (.str x _ rfl) _)
theorem jm{k:Nat}{pos:Pos}:aZ Γ (.Constant .none k pos) lP:=λ K aa aa p k=>wpAny_Constant_none (K.k0 k p .none)
theorem jn{b:Bool}{k:Nat}{pos:Pos}:aZ Γ (.Constant (.bool b) k pos) (lQ b):=λ K aa aa p k=>wpAny_Constant_bool (K.k0 k p (.bool b))
theorem Cx.Q2(K:Cx Γ){x:String}{v:AV}{C:Prop}(hx:K.ρ x=some v)(hk:K.env.kindOf (Str.ofString x)=some .cell\/(K.env.kindOf (Str.ofString x)=some .free/\x≠"__class__"))
  (k:∀c u,K.env.cells.lookup (Str.ofString x)=some c->K.w.s.heap.IsCell c (some u)->K.w.R v u->C):C:=
 nD (K.F.cell x hk) λ c aa hl hc aa hv=>bp (hv _ hx) λ u e jk=>k c u hl (e▸hc) jk
theorem ab{x:String}{pos:Pos}(hk:Γ.sc.names.lookup (Str.ofString x)=some .local)(hd:(Str.ofString x==("__debug__":Str))=false):aZ Γ (.Name (Str.ofString x) pos) (af x):=
 λ K aa aa h k=>h.k λ v hx p=>bp K.F.loc λ m hn hv=>bp (hv x v (K.kind hk) hx) λ u hm jk=>wpAny_Name (wpAny_loadName_local K.fn (K.kind hk) hn hm (K.k0 k p jk)) hd
theorem aP{x:String}{pos:Pos}(hk:Γ.sc.names.lookup (Str.ofString x)=some .cell)(hd:(Str.ofString x==("__debug__":Str))=false):aZ Γ (.Name (Str.ofString x) pos) (af x):=
 λ K aa aa h k=>h.k λ v hx p=>K.Q2 hx (.inl (K.kind hk)) λ c u hl hc hv=>wpAny_Name (wpAny_loadName_cell K.fn (K.kind hk) hl hc (K.k0 k p hv)) hd
theorem abi{x:String}{pos:Pos}(hk:Γ.sc.names.lookup (Str.ofString x)=some .free)(hd:(Str.ofString x==("__debug__":Str))=false)(hn:x≠"__class__")(fa:(Str.ofString x==("__classdict__":Str))=false):aZ Γ (.Name (Str.ofString x) pos) (af x):=
 λ K aa aa h k=>h.k λ v hx p=>K.Q2 hx (.inr ⟨K.kind hk,hn⟩) λ c u hl hc hv=>wpAny_Name (wpAny_loadName_free K.fn (K.kind hk) hl hc (K.k0 k p hv) fa) hd
def ay(a b:AE)(f:O2):AE:=λ F ρ σ P=>a F ρ σ λ x σ=>b F ρ σ λ y σ=>f σ P x y
def aU(a:AE)(f:O1):AE:=λ F ρ σ P=>a F ρ σ λ x σ=>f σ P x
theorem sd{l e:Expr}{t:Value->Value->Sem Value}{a b:AE}{f:O2}{P:PV}{Q:Value->Shared->Prop}(K:Cx Γ)(ha:aZ Γ l a)(hb:aZ Γ e b)(ho:hO Γ t f)(hc:ay a b f Γ.F K.ρ K.w.σ P)(k:K.KV P Q):
  K.wp (eval l K.env) λ v fA=>wpAny Γ.M K.A (eval e K.env) (λ u nT=>wpAny Γ.M K.A (t v u) Q K.E nT) K.E fA:=
 ha K.r hc λ v aa xv kO p hv=>hb (K.up xv kO).r p λ u aa dx dC p hu=>ho (K.up dx (kO.tr dC)) p (hv.up dC) hu k
theorem Sd{l:Expr}{t:Value->Sem Value}{a:AE}{f:O1}{P:PV}{Q:Value->Shared->Prop}(K:Cx Γ)(ha:aZ Γ l a)(ho:Zy Γ t f)(hc:aU a f Γ.F K.ρ K.w.σ P)(k:K.KV P Q):
  K.wp (eval l K.env) λ v fA=>wpAny Γ.M K.A (t v) Q K.E fA:=
 ha K.r hc λ v aa xv kO p hv=>ho (K.up xv kO) p hv k
theorem bQ{l r:Expr}{op:Operator}{pos:Pos}{a b:AE}{f:O2}(ha:aZ Γ l a)(hb:aZ Γ r b)(ho:hO Γ (binaryOp op) f):aZ Γ (.BinOp l op r pos) (ay a b f):=
 λ K aa aa hc k=>wpAny_BinOp (sd K ha hb ho hc k)
theorem qx{l r:Expr}{op:CmpOp}{pos:Pos}{a b:AE}{f:O2}(ha:aZ Γ l a)(hb:aZ Γ r b)(ho:hO Γ (compareOp op) f)(hm:behindInMarks op r=false):aZ Γ (.Compare l [op] [r] pos) (ay a b f):=
 λ K aa aa hc k=>wpAny_Compare1 (sd K ha hb ho hc k) hm
end
end
section
set_option genInjectivity false
set_option genSizeOf false
inductive nU(f:Int->Int->(AV->Prop)->Prop)(σ:U)(P:PV):AV->AV->Prop
 |mk {a b:Int}:f a b (λ v=>P v σ)->nU f σ P (.int a) (.int b)
abbrev oLt:O2:=nU λ a b P=>P (.bool (decide (a<b)))
abbrev oLe:O2:=nU λ a b P=>P (.bool (decide (a<=b)))
abbrev fZ:O2:=nU λ a b P=>P (.bool (decide (b<a)))
abbrev fk:O2:=nU λ a b P=>P (.int (a -b))
abbrev uj:O2:=nU λ a b P=>a.natAbs<2^60/\P (.int (a*b))
abbrev oDiv:O2:=nU λ a b P=>b=3/\P (.int (a/3))
abbrev oMod:O2:=nU λ a b P=>0<b/\P (.int (a %b))
def oEq:O2:=λ σ P x y=>∃b,gm 40 x y b/\P (.bool b) σ
def fm:O2:=λ σ P x y=>∃b,gm 40 x y b/\P (.bool !b) σ
inductive BC(σ:U)(P:PV):AV->AV->Prop
 |nn:P (.bool true) σ->BC σ P .none .none
 |tn {vs:List AV}:P (.bool false) σ->BC σ P (.tup vs) .none
inductive bW(σ:U)(P:PV):AV->AV->Prop
 |i {a b:Int}:P (.int (a+b)) σ->bW σ P (.int a) (.int b)
 |s {a b:String}:a.length+b.length<=10000->P (.str (a++b)) σ->bW σ P (.str a) (.str b)
 |t {a b:List AV}:a.length+b.length<=10000->P (.tup (a++b)) σ->bW σ P (.tup a) (.tup b)
 |l {a b:Nat} {xs ys:List AV}:σ[a]?=some (.list xs)->σ[b]?=some (.list ys)->xs.length+ys.length<=10000->P (.ref σ.length) (σ++[.list (xs++ys)])->bW σ P (.ref a) (.ref b)
section
variable{Γ:cZ}
theorem Se(a b:String):(Str.ofString a !=Str.ofString b)=!(a==b):=by rw [str_beq];rfl
theorem Q3{op:CmpOp}{t:Bool->Bool}(ho:op=.Eq/\t=id\/op=.NotEq/\t=not):hO Γ (compareOp op) λ σ P x y=>∃b,gm 40 x y b/\P (.bool (t b)) σ:=by
 intro K x y v u P Q hc hv hu k;refine bp hc λ b(hI:hJ (gm 39) x y b)p=>?_;have hA:=K.R.un;have hQ:=K.k0 k p (.bool (t b));clear k p hc;rcases ho with⟨rfl,rfl⟩|⟨rfl,rfl⟩
 ·refine (?_:wpAny Γ.M K.A (richCompare .Eq v u) Q K.E K.w.s);induction hI with
  |nn=>apply hv.kn;apply hu.kn;exact EqNone.eq_none_none hQ
  |nt=>
   apply hv.kn;apply hu.kt;intro _ _ _ h1 h2;exact (i5 (Ta:="NoneType") (Tb:="tuple") (bG hA (by simp+arith only)) rfl (IsT.typeIs h1) (by decide) PySem.F.sub_tuple_NoneType PySem.F.slot_NoneType_eq PySem.F.slot_tuple_eq_refl rfl
    (jz rfl) (jA h1 (Tb:="NoneType") rfl PySem.F.sub_NoneType_tuple) hQ)
  |tn=>
   apply hu.kn;apply hv.kt;intro _ _ _ h1 h2;exact (i5 (Ta:="tuple") (Tb:="NoneType") (bG hA (by simp+arith only)) (IsT.typeIs h1) rfl (by decide) PySem.F.sub_NoneType_tuple PySem.F.slot_tuple_eq PySem.F.slot_NoneType_eq_refl rfl
    (jA h1 (Tb:="NoneType") rfl PySem.F.sub_NoneType_tuple) (jz rfl) hQ)
  |ii=>apply hv.ki;intro _;apply hu.ki;intro _;exact PyProof.Rows.eq_int hQ
  |is=>apply hv.ki;intro _;apply hu.ks;intro _;exact EqMixed.eq_int_str hQ
  |si=>apply hv.ks;intro _;apply hu.ki;intro _;exact EqMixed.eq_str_int hQ
  |ss=>apply hv.ks;intro _;apply hu.ks;intro _;exact PyProof.Rows.eq_str (by have h:=hQ;rw [str_beq]at h;exact h)
  |tt he=>
   apply hv.kt;intro _ _ _ h1 h2;apply hu.kt;intro _ _ _ h3 h4;exact wpAny_richCompare_same_room (op:=.Eq) (IsT.typeIs h1) (IsT.typeIs h3) PySem.F.slot_tuple_eq
    (wpAny_call_entry PySem.F.slot_tuple_eq (IsT.typeIs h1) PySem.F.entry_tuple_eq
     (qt (op:=.Eq) (.inl rfl) h1 h3 h2 h4 (λ x y v u r hv hu hf Q hq=>lO 39 hf hv hu (by show K.A.units+1+39+1<cLine;exact bG hA (by simp+arith only)) hq) he ⟨_,rfl,(λ e=>nomatch e),(if_pos rfl).symm▸hQ⟩) (PySem.F.args_tuple_eq_2 _ _)) (bG hA (by simp+arith only))
 ·refine (?_:wpAny Γ.M K.A (richCompare .NotEq v u) Q K.E K.w.s);induction hI with
  |nn=>apply hv.kn;apply hu.kn;exact EqNone.ne_none_none hQ
  |nt=>
   apply hv.kn;apply hu.kt;intro _ _ _ h1 h2;exact (pL (Ta:="NoneType") (Tb:="tuple") (bG hA (by simp+arith only)) rfl (IsT.typeIs h1) (by decide) PySem.F.sub_tuple_NoneType PySem.F.slot_NoneType_ne PySem.F.slot_tuple_ne_refl rfl
    (qq rfl) (qr h1 (Tb:="NoneType") rfl PySem.F.sub_NoneType_tuple) hQ)
  |tn=>
   apply hu.kn;apply hv.kt;intro _ _ _ h1 h2;exact (pL (Ta:="tuple") (Tb:="NoneType") (bG hA (by simp+arith only)) (IsT.typeIs h1) rfl (by decide) PySem.F.sub_NoneType_tuple PySem.F.slot_tuple_ne PySem.F.slot_NoneType_ne_refl rfl
    (qr h1 (Tb:="NoneType") rfl PySem.F.sub_NoneType_tuple) (qq rfl) hQ)
  |ii=>apply hv.ki;intro _;apply hu.ki;intro _;exact PyProof.Rows.ne_int hQ
  |is=>apply hv.ki;intro _;apply hu.ks;intro _;exact EqMixed.ne_int_str hQ
  |si=>apply hv.ks;intro _;apply hu.ki;intro _;exact EqMixed.ne_str_int hQ
  |ss=>apply hv.ks;intro _;apply hu.ks;intro _;exact PyProof.Rows.ne_str ((Se _ _).symm▸hQ)
  |tt he=>
   apply hv.kt;intro _ _ _ h1 h2;apply hu.kt;intro _ _ _ h3 h4;exact wpAny_richCompare_same_room (op:=.NotEq) (IsT.typeIs h1) (IsT.typeIs h3) PySem.F.slot_tuple_ne
    (wpAny_call_entry PySem.F.slot_tuple_ne (IsT.typeIs h1) PySem.F.entry_tuple_ne
     (qt (op:=.NotEq) (.inr rfl) h1 h3 h2 h4 (λ x y v u r hv hu hf Q hq=>lO 39 hf hv hu (by show K.A.units+1+39+1<cLine;exact bG hA (by simp+arith only)) hq) he ⟨_,rfl,(λ e=>nomatch e),(hQ)⟩) (PySem.F.args_tuple_ne_2 _ _)) (bG hA (by simp+arith only))
theorem fq:hO Γ (compareOp .Eq) oEq:=Q3 (t:=id) (.inl ⟨rfl,rfl⟩)
theorem j4:hO Γ (compareOp .NotEq) fm:=Q3 (.inr ⟨rfl,rfl⟩)
theorem uk{t:Value->Value->Sem Value}{f:Int->Int->(AV->Prop)->Prop}(h:∀(K:Cx Γ)a b ta tb{P:PV}{Q:Value->Shared->Prop},f a b (λ v=>P v K.w.σ)->K.KV P Q->K.wp (t (.int a ta) (.int b tb)) Q):hO Γ t (nU f):=by intro K x y v u P Q hc;induction hc with|mk p=>intro hv hu k;apply hv.ki;intro _;apply hu.ki;intro _;exact h K _ _ _ _ p k
theorem Hd:hO Γ (compareOp .Lt) oLt:=uk λ K aa aa aa aa aa aa p k=>PyProof.Rows.lt_int (K.k0 k p (.bool _))
theorem abV:hO Γ (compareOp .LtE) oLe:=uk λ K aa aa aa aa aa aa p k=>PyProof.Rows.le_int (K.k0 k p (.bool _))
theorem k9:hO Γ (compareOp .Gt) fZ:=uk λ K aa aa aa aa aa aa p k=>PyProof.Rows.gt_int (K.k0 k p (.bool _))
theorem kC:hO Γ (binaryOp .Sub) fk:=uk λ K aa aa aa aa aa aa p k=>PyProof.Rows.sub_int (K.k1 k p (.int _ _) _)
theorem He{a:Int}(h:a.natAbs<2^60):Builtin.Int.intBits a<=64:=by
 unfold Builtin.Int.intBits;split
 ·exact Nat.zero_le _
 ·rename_i h0;have hz:a.natAbs≠0:=λ e=>h0 (by refine ae (Int.natAbs_eq_zero.mp e) ?_;rfl);have:=(Nat.log2_lt hz).mpr h;exact nc this rfl
theorem Hf:hO Γ (binaryOp .Mult) uj:=uk λ K aa aa aa aa aa aa p k=>PyProof.Rows.mul_int (K.k1 k p.2 (.int _ _) _) (IntMulOk.of_left (He p.1))
theorem Yh:hO Γ (binaryOp .FloorDiv) oDiv:=uk λ K a b aa aa aa Q p k=>by obtain ⟨rfl,p⟩:=p;exact PyProof.Rows.floordiv_int (by decide) (by refine ae (Int.fdiv_eq_ediv_of_nonneg a (by decide)) ?_;exact K.k1 k p (.int _ _) _) (.inl rfl)
theorem Hg:hO Γ (binaryOp .Mod) oMod:=uk λ K a b aa aa aa Q p k=>PyProof.Rows.mod_int' (Int.ne_of_gt p.1) ((Int.fmod_eq_emod_of_nonneg _ (Int.le_of_lt p.1)).symm▸K.k1 k p.2 (.int _ _) _)
theorem Uu:hO Γ (compareOp .Is) BC:=by
 intro K x y v u P Q hc;induction hc with
 |nn p=>intro hv hu k;apply hv.kn;apply hu.kn;exact wpAny_is_plain rfl (K.k0 k p (.bool true))
 |tn p=>intro hv hu k;apply hu.kn;apply hv.kt;intros;exact wpAny_is_plain rfl (K.k0 k p (.bool false))
theorem cN:16000000<=sizeLine:=by decide
theorem St.mu(w:St Γ):w.s.heap.objs.size∉w.lam:=λ hm=>w.H.ui hm λ o ho aa=>by rw [Heap.get?_none_of_le (Nat.le_refl _)]at ho;cases ho
theorem Cx.NL(K:Cx Γ){P:PV}{Q:Value->Shared->Prop}{cB:List AV}{vs:Array Value}(k:K.KV P Q)(p:P (.tup cB) K.w.σ)(hv:K.w.Rs cB vs.toList)(hz:cB.length<=10000)(tk:Nat):
  Q (.ref K.w.s.heap.objs.size) {K.w.s with heap:=K.w.s.heap.push {cls:=.type "tuple",data:=.seq vs},toks:=tk}:=
 have h:=K.w.H.grow (s':={K.w.s with heap:=K.w.s.heap.push {cls:=.type "tuple",data:=.seq vs},toks:=tk}) (λ b o e=>Heap.get?_push_of_some _ e) rfl rfl
 K.kn k h p (.tup (n:=0) ⟨K.w.mu,Heap.get?_push_size _ rfl⟩ (hv.mono h.2.kx) hz)
theorem Cx.Hh(K:Cx Γ){P:PV}{Q:Value->Shared->Prop}{cB:List AV}{vs:Array Value}(k:K.KV P Q)(p:P (.ref K.w.σ.length) (K.w.σ++[.list cB]))(hv:K.w.Rs cB vs.toList)(hz:cB.length<=10000)(tk:Nat):
  Q (.ref K.w.s.heap.objs.size) {K.w.s with heap:=K.w.s.heap.push {cls:=.type "list",data:=.seq vs},toks:=tk}:=
 have hk:=λ b o(e:K.w.s.heap.get? b=some o)=>Heap.get?_push_of_some {cls:=.type "list",data:=.seq vs} e;have hn:=Heap.get?_none_of_le (h:=K.w.s.heap) (Nat.le_refl K.w.s.heap.objs.size)
 K.kn k (K.w.H.new (s':={K.w.s with heap:=K.w.s.heap.push {cls:=.type "list",data:=.seq vs},toks:=tk}) hk hn rfl rfl (.list (n:=0) (Heap.get?_push_size _ rfl) (hv.mono (.snoc hk hn)) hz)) p
  (.ref (by refine cA K.w.H.len ?_;exact List.getElem?_concat_length ..))
theorem St.dv(w:St Γ){l:Nat}{a:Addr}{xs:List AV}(hl:w.lam[l]?=some a)(hs:w.σ[l]?=some (.list xs)){C:Prop}(k:∀items n,IsL w.s.heap a items n->w.Rs xs items.toList->xs.length=items.size->C):C:=by have:=w.H.obj _ _ _ hl hs;cases this with|list h1 h2 _=>exact k _ _ h1 h2 (by simpa using h2.length)
theorem St.lz(w:St Γ){l:Nat}{a:Addr}{xs:List AV}(hl:w.lam[l]?=some a)(hs:w.σ[l]?=some (.list xs)):xs.length<=10000:=by have:=w.H.obj _ _ _ hl hs;cases this;assumption
theorem IsL.typeIs{s:Shared}{a:Addr}{items:Array Value}{n:Nat}(x:IsL s.heap a items n):s.TypeIs (.ref a) "list":=⟨_,x,rfl⟩
theorem vo(a b:String):Str.ofString (a++b)=Str.ofString a++Str.ofString b:=by rw [Str.ofString_eq_toList,Str.ofString_eq_toList,Str.ofString_eq_toList];refine (?_:_=(⟨_++_⟩:Str));simp
theorem bq.emp{h:Heap}{lam:List Addr}{xs:List AV}{a:Array Value}(x:bq h lam xs a.toList)(e:a.isEmpty=true):xs=[]:=by have:=x.length;rw [Array.isEmpty_iff]at e;subst e;simpa using this
theorem d3:hO Γ (binaryOp .Add) bW:=by
 intro K x y v u Pr Q hc;have vq:=cN;induction hc with
 |i p=>intro hv hu k;apply hv.ki;intro _;apply hu.ki;intro _;exact PyProof.Rows.add_int (K.k1 k p (.int _ _) _)
 |s hb p=>intro hv hu k;apply hv.ks;intro _;apply hu.ks;intro _;exact PyProof.Rows.add_str (λ t' tk=>vo _ _▸K.k1 k p (.str _ _ rfl) _) (by rw [PySem.ofString_length,PySem.ofString_length];exact cI vq hb (by simp+arith only))
 |t hb p=>
  intro hv hu k;apply hv.kt;intro a xs k1 h1 h2;apply hu.kt;intro b ys k2 h3 h4;by_cases e1:xs.isEmpty=true
  ·rw [h2.emp e1]at p;exact concat_meets (IsT.typeIs h1) (IsT.typeIs h3) noFill_tuple_add seq_tuple_add PySem.F.slot_tuple_add PySem.F.entry_tuple_add (PySem.F.args_tuple_add_2 _ _) (AutoSeq1.tuple___add___tuple_tuple_0 a xs k1 b ys k2 e1) ⟨h1.2,h3.2,K.k0 k p (.tup h3 h4 (by simp;exact ji hb))⟩
  ·by_cases e2:ys.isEmpty=true
   ·rw [h4.emp e2,List.append_nil]at p;exact concat_meets (IsT.typeIs h1) (IsT.typeIs h3) noFill_tuple_add seq_tuple_add PySem.F.slot_tuple_add PySem.F.entry_tuple_add (PySem.F.args_tuple_add_2 _ _) (AutoSeq1.tuple___add___tuple_tuple_1 a xs k1 b ys k2 e1 e2) ⟨h1.2,h3.2,K.k0 k p (.tup h1 h2 (Bv hb))⟩
   ·exact P.add_tuple h1.2 h3.2 e1 e2 (K.NL k p (by refine ae Array.toList_append ?_;exact h2.append h4) (by simpa using hb) _) (by have:=h2.length;have:=h4.length;simp only [Array.length_toList]at*;lia)
 |l e1 e2 hb p=>
  intro hv hu k;apply hv.kr;intro _ hA;apply hu.kr;intro _ hB;exact K.w.dv hA e1 λ is n h1 h2 l1=>K.w.dv hB e2 λ js m h3 h4 l2=>P.add_list h1 h3 (K.Hh k p (by refine ae Array.toList_append ?_;exact h2.append h4) (by simpa using hb) _) (Bw vq hb (bP l1) (bP l2) (by simp+arith only))
noncomputable def aae:Expr->Bool
 |.Starred _ _=>false
 |_=>true
def NS(e:Expr):Prop:=aae e=true
theorem NS.s{e:Expr}(h:NS e)(rest:List Expr)(env:Env):starEach (e::rest) env=(false,eval e env)::starEach rest env:=by cases e<;>first|rfl|exact nomatch h
theorem NS.g{e:Expr}(h:NS e)(rest:List Expr)(env:Env):assignEach (e::rest) env=(false,assign e env)::assignEach rest env:=by cases e<;>first|rfl|exact nomatch h
inductive eY(Γ:cZ):List Expr->List AE->Prop
 |nil:eY Γ [] []
 |cons {e:Expr} {es:List Expr} {c:AE} {cs:List AE}:aZ Γ e c->NS e->eY Γ es cs->eY Γ (e::es) (c::cs)
noncomputable def i':List AE->AL
 |[],_,_,σ,P=>P [] σ
 |c::cs,F,ρ,σ,P=>c F ρ σ λ v σ=>i' cs F ρ σ λ vs σ=>P (v::vs) σ
theorem Ap{M:Model}{A:Around}{E:Value->Shared->Prop}{s:Shared}{t:Sem Value}{pos:Pos}{rest:List (Bool×Sem Value)}{Q:List Value->Shared->Prop}
  (h:wpAny M A t (λ v fA=>wpAny M A (spliced (backTo pos rest)) (λ vs nT=>Q (v::vs) nT) E fA) E s):wpAny M A (spliced (backTo pos ((false,t)::rest))) Q E s:=by
 refine (?_:wpAny _ _ (spliced ((false,_)::backTo pos _)) _ _ _);refine spliced_cons ?_;exact h
theorem eY.run{es:List Expr}{cs:List AE}(x:eY Γ es cs)(pos:Pos):∀(K:Cx Γ){P:List AV->U->Prop}{Q:List Value->Shared->Prop},i' cs Γ.F K.ρ K.w.σ P->K.KL cs.length P Q->K.wp (spliced (backTo pos (starEach es K.env))) Q:=by
 induction x with
 |nil=>exact λ K P Q hc k=>spliced_nil (k _ _ K.w K.S rfl hc .nil)
 |cons h1 hn _ ih=>intro K P Q hc k;refine ae (hn.s _ _) ?_;exact Ap (h1 K.r hc λ u v xv kO p hv=>ih (K.up xv kO).r p λ us vs dx dC hl p dQ=>k (u::us) (v::vs) dx (K.S.tr (kO.tr dC)) (congrArg Nat.succ hl) p (.cons (hv.up dC) dQ))
def cn(cs:List AE):AE:=λ F ρ σ P=>i' cs F ρ σ λ vs σ=>P (.tup vs) σ
def da(cs:List AE):AE:=λ F ρ σ P=>i' cs F ρ σ λ vs σ=>P (.ref σ.length) (σ++[.list vs])
theorem St.Rs.small{w:St Γ}{v:List AV}{u:List Value}{n:Nat}(h:w.Rs v u)(e:v.length=n)(hn:n<=10000):u.toArray.size<=sizeLine:=by have:=bq.length h;have:=cN;refine ae List.size_toArray ?_;lia
theorem bA{es:List Expr}{cs:List AE}{k:Nat}{pos:Pos}(x:eY Γ es cs)(hn:cs.length.ble 10000=true):aZ Γ (.Tuple es k pos) (cn cs):=λ K aa aa hc k=>Tuple_ (x.run pos K.r hc λ u v w S hl p hv=>wpAny_newObj_type ((K.up w S).NL k p (vs:=u.toArray) hv (hl▸Nat.le_of_ble_eq_true hn) _) (hv.small hl (Nat.le_of_ble_eq_true hn)))
theorem b0{es:List Expr}{cs:List AE}{pos:Pos}(x:eY Γ es cs)(hn:cs.length.ble 10000=true):aZ Γ (.List es pos) (da cs):=λ K aa aa hc k=>List_ (x.run pos K.r hc λ u v w S hl p hv=>wpAny_newObj_type ((K.up w S).Hh k p (vs:=u.toArray) hv (hl▸Nat.le_of_ble_eq_true hn) _) (hv.small hl (Nat.le_of_ble_eq_true hn)))
end
end
section
set_option genInjectivity false
set_option genSizeOf false
abbrev dw:=PySem.strKind
noncomputable def br{K:Type}[DecidableEq K](kvs:List (K×AV))(k:K):Option AV:=(kvs.find? λ kv=>decide (kv.1=k)).map (·.2)
noncomputable def dz{K:Type}[DecidableEq K](kvs:List (K×AV))(k:K)(v:AV):List (K×AV):=
 if kvs.any (λ kv=>decide (kv.1=k))then kvs.map (λ kv=>if kv.1=k then(kv.1,v)else kv)else kvs++[(k,v)]
noncomputable def jE{K:Type}[DecidableEq K](kvs:List (K×AV))(k:K):List (K×AV):=kvs.filter λ kv=>decide (kv.1≠k)
section
variable{K K':Type} [DecidableEq K] [DecidableEq K'] {f:K->K'} {h:Heap} {lam:List Addr}
theorem KR.get(hf:∀a b,f a=f b->a=b){kvs:List (K×AV)}{kvs':List (K'×Value)}(x:KR f h lam kvs kvs')(k:K):
  (∀av,br kvs k=some av->∃v,valueAt kvs' (f k)=some v/\VR h lam av v)/\(br kvs k=none->valueAt kvs' (f k)=none):=by
 induction x with
 |nil=>exact ⟨λ av e=>by simp [br]at e,λ aa=>rfl⟩
 |@cons k0 BD v0 r r' hv _ ih=>
  by_cases hk:k0=k
  ·subst hk;refine ⟨λ av e=>?_,λ e=>?_⟩
   ·simp [br]at e;subst e;exact ⟨v0,by simp [valueAt],hv⟩
   ·simp [br]at e
  ·have eB:¬f k0=f k:=λ e=>hk (hf _ _ e);have e1:br ((k0,BD)::r) k=br r k:=by simp [br,List.find?_cons,hk]
   have e2:valueAt ((f k0,v0)::r') (f k)=valueAt r' (f k):=by simp [valueAt,List.find?_cons,eB]
   refine ae e1<|ae e2 ?_;exact ih
theorem KR.append{a b:List (K×AV)}{a' b':List (K'×Value)}(x:KR f h lam a a')(y:KR f h lam b b'):KR f h lam (a++b) (a'++b'):=by
 induction x with
 |nil=>exact y
 |cons hv _ ih=>exact .cons hv ih
theorem KR.any(hf:∀a b,f a=f b->a=b){kvs:List (K×AV)}{kvs':List (K'×Value)}(x:KR f h lam kvs kvs')(k:K):kvs.any (λ kv=>decide (kv.1=k))=kvs'.any (λ kv=>decide (kv.1=f k)):=by
 induction x with
 |nil=>rfl
 |@cons k0 BD v0 r r' hv _ ih=>
  simp only [List.any_cons,ih];congr 1;by_cases hk:k0=k
  ·subst hk;simp
  ·have eB:¬f k0=f k:=λ e=>hk (hf _ _ e);simp [hk,eB]
theorem KR.BE(hf:∀a b,f a=f b->a=b){kvs:List (K×AV)}{kvs':List (K'×Value)}(x:KR f h lam kvs kvs')(k:K){av:AV}{v:Value}(hv:VR h lam av v):
  KR f h lam (kvs.map (λ kv=>if kv.1=k then(kv.1,av)else kv)) (kvs'.map (λ kv=>if kv.1=f k then(kv.1,v)else kv)):=by
 induction x with
 |nil=>exact .nil
 |@cons k0 BD v0 r r' Uv _ ih=>
  simp only [List.map_cons];by_cases hk:k0=k
  ·subst hk;simp only [if_true];exact .cons hv ih
  ·have eB:¬f k0=f k:=λ e=>hk (hf _ _ e);simp only [hk,eB,if_false];exact .cons Uv ih
theorem KR.set(hf:∀a b,f a=f b->a=b){kvs:List (K×AV)}{kvs':List (K'×Value)}(x:KR f h lam kvs kvs')(k:K){av:AV}{v:Value}(hv:VR h lam av v):KR f h lam (dz kvs k av) (stored kvs' (f k) v):=by
 unfold dz stored;refine ae (x.any hf k) ?_;split
 ·exact x.BE hf k hv
 ·exact x.append (.cons hv .nil)
theorem KR.del(hf:∀a b,f a=f b->a=b){kvs:List (K×AV)}{kvs':List (K'×Value)}(x:KR f h lam kvs kvs')(k:K):KR f h lam (jE kvs k) (without kvs' (f k)):=by
 unfold jE without;induction x with
 |nil=>exact .nil
 |@cons k0 BD v0 r r' hv _ ih=>
  by_cases hk:k0=k
  ·subst hk;simpa using ih
  ·have eB:¬f k0=f k:=λ e=>hk (hf _ _ e);simp only [List.filter_cons,ne_eq,hk,eB,not_false_eq_true,decide_true,if_true];exact .cons hv ih
theorem KR.length{kvs:List (K×AV)}{kvs':List (K'×Value)}(x:KR f h lam kvs kvs'):kvs.length=kvs'.length:=by
 induction x with
 |nil=>rfl
 |cons _ _ ih=>exact congrArg _ ih
theorem KR.keys{kvs:List (K×AV)}{kvs':List (K'×Value)}(x:KR f h lam kvs kvs'):kvs'.map (·.1)=kvs.map (λ kv=>f kv.1):=by
 induction x with
 |nil=>rfl
 |cons _ _ ih=>exact congrArg _ ih
end
section
variable{prog:Program} {w:World} {h:Heap}
theorem Ke{a:Addr}{kvs:List (Str×Value)}(x:h.DictOf (dw prog w) a kvs):∃es n,h.get? a=some (dictOf es n)/\KeysOf (dw prog w) es.toArray/\Pairs (dw prog w) es kvs/\(kvs.map (·.1)).Nodup:=by obtain ⟨⟨c,d,dt,sl⟩,es,ep,ho,⟨h1,h2,h3⟩,hd,hk,hp,hn⟩:=x;dsimp only at h1 h2 h3 hd;subst h1 h2 h3 hd;exact ⟨es.toList,ep,by simpa using ho,by simpa using hk,hp,hn⟩
theorem kD{x:Str}{v:Value}:(dw prog w).is x v=v.isStr x:=by cases v<;>simp [dw,PySem.strKind,Value.isStrOf,Value.isStr]
theorem Hi{es:List DictEntry}{kvs:List (Str×Value)}(hp:Pairs (dw prog w) es kvs)(x:Str):(es.find? λ e=>e.key.isStr x).map (·.val)=valueAt kvs x:=by
 induction hp with
 |nil=>rfl
 |@cons e kv es kvs h1 h2 _ ih=>
  by_cases hk:kv.1=x
  ·have:e.key.isStr x=true:=by refine cA (kD (prog:=prog) (w:=w))<|cA hk ?_;exact h1
   simp [List.find?_cons,this,valueAt,hk,h2]
  ·have:e.key.isStr x=false:=by
    cases hh:e.key.isStr x with
    |false=>rfl
    |true=>exact absurd ((dw prog w).inj _ _ _ h1 (by refine ae kD ?_;exact hh)) hk
   simp only [List.find?_cons,this];refine ae ih ?_;simp [valueAt,List.find?_cons,hk]
theorem sQ{es:List DictEntry}{kvs:List (Str×Value)}(hp:Pairs (dw prog w) es kvs):es.any (·.refKey)=false:=by
 induction hp with
 |nil=>rfl
 |@cons e kv es kvs h1 h2 _ ih=>refine dM (Value.isStrOf_shape h1) λ t ht=>?_;rw [List.any_cons,ih,Bool.or_false];unfold DictEntry.refKey;exact ae ht rfl
theorem FQ{es:List DictEntry}{kvs:List (Str×Value)}(hp:Pairs (dw prog w) es kvs)(x:Str):getL x es=some (valueAt kvs x):=by
 have:=Hi hp x;unfold getL;cases hf:es.find? (·.key.isStr x)with
 |some e=>rw [hf]at this;simp at this;exact congrArg _ this
 |none=>rw [hf]at this;simp at this;refine cA this<|ae (sQ hp) ?_;rfl
end
section
variable{Γ:cZ}
theorem VR.handed{h:Heap}{lam:List Addr}{av:AV}{v:Value}(x:VR h lam av v):handedIn v=true:=by cases x<;>rfl
inductive Q4(G:Places)(h:Heap)(lam:List Addr)(l:Nat)(a:Addr)(c:dN)(kvs:List (String×AV)):Prop
 |mk (b:Addr) (kvs':List (Str×Value)) (es:List DictEntry) (n:Nat):lam[l+1]?=some b->h.get? b=some (dictOf es n)->h.DictOf (dw G.prog G.w) b kvs'->Pairs (dw G.prog G.w) es kvs'->KR Str.ofString h lam kvs kvs'->
   W.InstAt h a (instObj c.addr b) c.addr (some (dictOf es n))->Q4 G h lam l a c kvs
theorem St.inst(w:St Γ){l:Nat}{a:Addr}{c:dN}{kvs:List (String×AV)}(hl:w.lam[l]?=some a)(h1:w.σ[l]?=some (.inst c))(h2:w.σ[l+1]?=some (.dS kvs)):Q4 Γ.G w.s.heap w.lam l a c kvs:=by
 have x:=w.H.obj _ _ _ hl h1;cases x with
 |inst hx hb=>
  have y:=w.H.obj _ _ _ hb h2;cases y with
  |dS hd hk=>exact nD (Ke hd) λ es n ho aa hp aa=>⟨_,_,es,n,hb,ho,hd,hp,hk,⟨hx,rfl,rfl,ho⟩⟩
inductive ai(x:String)(σ:U)(P:PV):AV->Prop
 |mk {l:Nat} {c:dN} {kvs:List (String×AV)} {v:AV}:σ[l]?=some (.inst c)->σ[l+1]?=some (.dS kvs)->(attrsOf c).contains x=true->br kvs x=some v->P v σ->ai x σ P (.ref l)
abbrev St.X(W:Wd Γ.G)(w:St Γ):Γ.G.K.In w.s.heap:=λ b o e=>w.H.base b o (W.X b o e)
theorem Uw(W:Wd Γ.G)(x:String):Zy Γ (λ v=>getAttr v (Str.ofString x) true) (ai x):=by
 intro K av v P Q hc;induction hc with
 |mk h1 h2 fg hg p=>
  intro hv k;apply hv.kr;intro a hl;induction K.w.inst hl h1 h2 with
  |mk b kvs' es n hb ho hd hp hk I=>refine bp ((hk.get (λ aa aa=>cq) x).1 _ hg) λ vv sR sS=>get_value (K.w.X W) I (W.mq _) (findObj_own (W.hasDict _) (W.attr _ x fg) rfl ?_) sS.handed (K.k1 k p sS _);rw [lookIn_dict,FQ hp,sR]
inductive b7(G:Places)(x:String)(v:Value):Prop
 |own (h:nsIn G.K mainGlobals (Str.ofString x)=some (some v))
 |boot (h:nsIn G.K mainGlobals (Str.ofString x)=some none) (hb:bootBuiltins (Str.ofString x)=some v) (hn:Str.ofString x≠"__name__")
theorem oH(W:Wd Γ.G)(K:Cx Γ){x:String}{v:Value}{pos:Pos}{Q:Value->Shared->Prop}
  (g:b7 Γ.G x v)(hk:Γ.sc.names.lookup (Str.ofString x)=some .globalImplicit)(hd:(Str.ofString x==("__debug__":Str))=false)(h:Q v K.w.s):K.wp (eval (.Name (Str.ofString x) pos) K.env) Q:=by
 refine Name_function_global K.fn (K.kind hk) ?_ hd;unfold loadGlobal;refine ae K.ok.globals<|ae K.ok.builtins ?_;cases g with
 |own hg=>exact wpAny_bind ((looks_nsIn (K.w.X W) hg).here (wpAny_pure h))
 |boot hg hb hn=>exact wpAny_bind ((looks_nsIn (K.w.X W) hg).here (bp W.b λ mb iR hm=>wpAny_bind (wpAny_nsGet (iR.keeps K.w.H.base) (by refine ae (hm _ hn)<|ae hb ?_;exact wpAny_pure h))))
theorem Hj(W:Wd Γ.G){x:String}{i:Int}{t:Tok}{pos:Pos}(g:b7 Γ.G x (.int i t))(hk:Γ.sc.names.lookup (Str.ofString x)=some .globalImplicit)(hd:(Str.ofString x==("__debug__":Str))=false):
  aZ Γ (.Name (Str.ofString x) pos) (aT i):=λ K aa aa p k=>oH W K g hk hd (K.k0 k p (.int i t))
def aCall(cs:List AE)(f:OL):AE:=λ F ρ σ P=>i' cs F ρ σ λ vs σ=>f σ P vs
def Kept(G:Places)(f:Value):Prop:=∀h,G.K.In h->∃k,(k=Keeper.frame\/k=Keeper.machine\/k=Keeper.boundFrame)/\Looks (model G.prog G.w) h (keeperOf f) k
theorem nV{G:Places}{f:Value}(h:keepIn G.K f=true):Kept G f:=λ hh X=>keeps_K h hh X
theorem aJ{G:Places}(id:String):Kept G (.builtin id):=λ aa aa=>⟨.machine,.inr (.inl rfl),.now⟩
theorem cF{G:Places}(n:String):Kept G (.type n):=λ aa aa=>⟨.machine,.inr (.inl rfl),.now⟩
theorem eY.plain{es:List Expr}{cs:List AE}(x:eY Γ es cs)(pos:Pos)(env:Env):(backTo pos (starEach es env)).any (·.1)=false:=by
 induction x with
 |nil=>rfl
 |cons _ hn _ ih=>rw [hn.s];exact ih
theorem f3(W:Wd Γ.G)(K:Cx Γ){pos:Pos}{f:Value}{first:List Value}{es:List Expr}{cs:List AE}{P:List AV->U->Prop}{Q:Value->Shared->Prop}(hk:Kept Γ.G f)(x:eY Γ es cs)(he:i' cs Γ.F K.ρ K.w.σ P)
  (h:∀us vs(w:St Γ),K.w.Le w->P vs w.σ->w.Rs vs us->wpAny Γ.M K.A (call f (first++us)) Q K.E w.s):K.wp (callWith pos f first (backTo pos (starEach es K.env)) []) Q:=by
 have run:K.wp (spliced (backTo pos (starEach es K.env))) λ us s=>Γ.G.K.In s.heap/\wpAny Γ.M K.A (call f (first++us)) Q K.E s:=x.run pos K.r he λ us vs w S aa p hv=>⟨w.X W,h us vs w S p hv⟩
 refine callWith_of (P:=λ h=>Γ.G.K.In h) (by rw [x.plain];rfl) (λ h X=>hk h X) ?_;cases x with
 |nil=>exact evalArgs_nil3 ⟨K.w.X W,h [] _ K.w (.refl _ _) he .nil⟩
 |cons h1 hn _=>rw [hn.s]at run⊢;exact evalArgs_plain run
theorem aX(W:Wd Γ.G){x:String}{fv:Value}{np pos:Pos}{es:List Expr}{cs:List AE}{f:OL}(g:b7 Γ.G x fv)(hk:Γ.sc.names.lookup (Str.ofString x)=some .globalImplicit)(hd:(Str.ofString x==("__debug__":Str))=false)
  (kp:Kept Γ.G fv)(a:eY Γ es cs)(hf:iM Γ fv f):aZ Γ (.Call (.Name (Str.ofString x) np) es [] pos) (aCall cs f):=λ K aa aa hc k=>
 wpAny_Call_ofName (oH W K g hk hd (f3 W K kp a hc λ us vs w S p hv=>hf (K.up w S) p hv k))
def qy(Γ:cZ)(fv:Value)(f:List AV->U->PV->Prop):Prop:=
 ∀(A:Around)(E:Value->Shared->Prop)(w:St Γ){x:List AV}{v:List Value}{P:PV}{Q:Value->Shared->Prop},iK Γ.d A->w.Rs x v->f x w.σ P->(∀u y(w':St Γ),w.Le w'->P y w'.σ->w'.R y u->Q u w'.s)->
  codeAny Γ.M A (.call fv ⟨v,[]⟩) (λ r s'=>match r with|.ok (.ret v)=>Q v s'|.ok _=>False|.error e=>E e s') w.s
theorem qy.v{fv:Value}{f:List AV->U->PV->Prop}(h:qy Γ fv f):iM Γ fv λ σ P x=>f x σ P:=λ K aa aa aa aa hc hv k=>wpAny_call (h K.A K.E K.w K.R hv hc λ u y w S p h=>k u y w (K.S.tr S) p h)
def mv(Γ:cZ):Prop:=∀f:Fn,qy Γ (.ref f.addr) (Γ.F.call f)
def gn(f:Fn)(cs:List AE):AE:=λ F ρ σ P=>i' cs F ρ σ λ vs σ=>F.call f vs σ P
inductive bu(m:String)(σ:U)(P:Nat->Fn->Prop):AV->Prop
 |mk {l:Nat} {c:dN} {kvs:List (String×AV)} {f:Fn}:σ[l]?=some (.inst c)->σ[l+1]?=some (.dS kvs)->br kvs m=none->vd c m=some f->P l f->bu m σ P (.ref l)
def bJ(o:AE)(m:String)(cs:List AE):AE:=λ F ρ σ P=>o F ρ σ λ ov σ=>bu m σ (λ l f=>i' cs F ρ σ λ vs σ=>F.call f (.ref l::vs) σ P) ov
theorem FT{G:Places}(W:Wd G)(f:Fn):keepIn G.K (.ref f.addr)=true:=by
 have:=W.fn f;unfold fnIn at this;unfold keepIn;split at this
 ·rename_i e;simp only [e]
 ·cases this
theorem dp(W:Wd Γ.G)(O:mv Γ){x:String}{f:Fn}{np pos:Pos}{es:List Expr}{cs:List AE}(g:b7 Γ.G x (.ref f.addr))(hk:Γ.sc.names.lookup (Str.ofString x)=some .globalImplicit)(hd:(Str.ofString x==("__debug__":Str))=false)
  (a:eY Γ es cs):aZ Γ (.Call (.Name (Str.ofString x) np) es [] pos) (gn f cs):=aX (f:=λ σ P x=>Γ.F.call f x σ P) W g hk hd (nV (FT W f)) a (O f).v
def Zz(o:Expr)(m:String)(apos pos:Pos)(es:List Expr)(pl:Env->Sem Bool):Prop:=eval (.Call (.Attribute o (Str.ofString m) apos) es [] pos)=λ env=>(do
   let ov<-eval o env
   standAt apos.atName
   let(f,first)<-holding [ov] (getMethod ov (Str.ofString m) (pl env))
   callWith pos f first (backTo pos (starEach es env)) [])
def fX(o:Expr)(m:String)(apos pos:Pos)(es:List Expr):Prop:=∃pl,Zz o m apos pos es pl
theorem fX.mk{o:Expr}{m:String}{apos pos:Pos}{es:List Expr}(pl:Env->Sem Bool)(h:Zz o m apos pos es pl):fX o m apos pos es:=⟨pl,h⟩
theorem bk(W:Wd Γ.G)(O:mv Γ){o:Expr}{m:String}{apos pos:Pos}{es:List Expr}{c:AE}{cs:List AE}(ho:aZ Γ o c)(a:eY Γ es cs)
  (he:fX o m apos pos es):aZ Γ (.Call (.Attribute o (Str.ofString m) apos) es [] pos) (bJ c m cs):=by
 intro K P Q hc k;refine dM he λ pl he=>MethodCall_ (pl:=pl K.env) (ho K.r hc λ ov v w S p hv=>?_) (congrFun he _);revert hv;induction p with
 |mk h1 h2 ij hf p=>
  intro hv;apply hv.kr;intro a' hl;induction w.inst hl h1 h2 with
  |mk b kvs' pN n hb ho hd hp ZC I=>refine method_fn (w.X W) I (W.mq _) (W.getattr _) (W.BA _ m _ hf) (W.vf _) (by show(getL _ pN).map _=_;rw [FQ hp,(ZC.get (λ aa aa=>cq) m).2 ij];rfl) ?_;exact f3 W (K.up w S) (nV (FT W _)) a p λ us vs dx dC p dQ=>(O _).v (K.up dx (S.tr dC)) p (.cons (.ref (dC.ext _ _ hl)) dQ) k
end
end
section
set_option genInjectivity false
set_option genSizeOf false
section
variable{Γ:cZ}
def bL(a:AE):AT:=λ F ρ σ P=>a F ρ σ λ v σ=>vm v λ b=>P b σ
def Hk(a:AT):AT:=λ F ρ σ P=>a F ρ σ λ b σ=>P (!b) σ
def um(a b:AT):AT:=λ F ρ σ P=>a F ρ σ λ x σ=>if x then b F ρ σ P else P false σ
def pO(a b:AT):AT:=λ F ρ σ P=>a F ρ σ λ x σ=>if x then P true σ else b F ρ σ P
def A9:AT:=λ _ _ σ P=>P true σ
def nW:AT:=λ _ _ σ P=>P false σ
theorem Cx.Ux(K:Cx Γ){P:Bool->U->Prop}{Q:Bool->Shared->Prop}(k:K.KB P Q):K.KV (λ v σ=>vm v λ b=>P b σ) λ u s=>wpAny Γ.M K.A (truthy u) Q K.E s:=by intro u v w S p hv;obtain ⟨b,rfl,p⟩:=p.k;apply hv.kb;exact wpAny_truthy_bool (k b w S p)
theorem se{e:Expr}{a:AE}(ha:aZ Γ e a)(he:∀env whole,PySem.isTrue e env whole=(do let v<-whole;standAt e.pos;holding [v] (truthy v))):jD Γ e (bL a):=
 λ K aa aa hc k=>wpAny_isTrue_value (ha K hc (K.Ux k)) (he _ _)
theorem a_{l r:Expr}{op:CmpOp}{pos:Pos}{a b:AE}{f:O2}(ha:aZ Γ l a)(hb:aZ Γ r b)(ho:hO Γ (compareOp op) f)(hm:behindInMarks op r=false):jD Γ (.Compare l [op] [r] pos) (bL (ay a b f)):=
 λ K aa aa hc k=>wpAny_isTrue_Compare1 (sd K ha hb ho hc (K.Ux k)) hm
theorem xw{e:Expr}{pos:Pos}{a:AT}(ha:jD Γ e a):jD Γ (.UnaryOp .Not e pos) (Hk a):=λ K aa aa hc k=>wpAny_isTrue_Not (ha K hc λ b w S p=>k _ w S p)
inductive nX(Γ:cZ):List Expr->AT->Prop
 |nil:nX Γ [] A9
 |cons {e:Expr} {es:List Expr} {a b:AT}:jD Γ e a->nX Γ es b->nX Γ (e::es) (um a b)
inductive sf(Γ:cZ):List Expr->AT->Prop
 |nil:sf Γ [] nW
 |cons {e:Expr} {es:List Expr} {a b:AT}:jD Γ e a->sf Γ es b->sf Γ (e::es) (pO a b)
theorem nX.run{es:List Expr}{a:AT}(x:nX Γ es a):∀(K:Cx Γ){P:Bool->U->Prop}{Q:Bool->Shared->Prop},a Γ.F K.ρ K.w.σ P->K.KB P Q->K.wp (allTrue .And es K.env) Q:=by
 induction x with
 |nil=>exact λ K aa aa hc k=>wpAny_allTrue_And_nil (k _ K.w K.S hc)
 |cons h1 _ ih=>
  exact λ K aa aa hc k=>wpAny_allTrue_And_cons (h1 K.r hc λ b w S p=>by
   cases b with
   |true=>exact ih (K.up w S) p k
   |false=>exact k _ w (K.S.tr S) p)
theorem sf.run{es:List Expr}{a:AT}(x:sf Γ es a):∀(K:Cx Γ){P:Bool->U->Prop}{Q:Bool->Shared->Prop},a Γ.F K.ρ K.w.σ P->K.KB P Q->K.wp (allTrue .Or es K.env) Q:=by
 induction x with
 |nil=>exact λ K aa aa hc k=>wpAny_allTrue_Or_nil (k _ K.w K.S hc)
 |cons h1 _ ih=>
  exact λ K aa aa hc k=>wpAny_allTrue_Or_cons (h1 K.r hc λ b w S p=>by
   cases b with
   |true=>exact k _ w (K.S.tr S) p
   |false=>exact ih (K.up w S) p k)
theorem xx{es:List Expr}{pos:Pos}{a:AT}(x:nX Γ es a):jD Γ (.BoolOp .And es pos) a:=λ K aa aa hc k=>wpAny_isTrue_BoolOp (x.run K hc k)
theorem qz{es:List Expr}{pos:Pos}{a:AT}(x:sf Γ es a):jD Γ (.BoolOp .Or es pos) a:=λ K aa aa hc k=>wpAny_isTrue_BoolOp (x.run K hc k)
def BF(a b c:AE):AT:=λ F ρ σ P=>a F ρ σ λ x σ=>b F ρ σ λ y σ=>nU (λ m n T=>if m<=n then T .none else P false σ) σ (λ _ σ=>c F ρ σ λ z σ=>nU (λ n o T=>P (decide (n<o)) σ) σ (λ aa aa=>True) y z) x y
theorem EK{l m r:Expr}{pos:Pos}{a b c:AE}(ha:aZ Γ l a)(hb:aZ Γ m b)(hc:aZ Γ r c)(hm:lastMarks [.LtE,.Lt] [m,r]=false):jD Γ (.Compare l [.LtE,.Lt] [m,r] pos) (BF a b c):=by
 refine λ K P Q h k=>isTrue_chain (ha K.r h λ v x xv kO p hv=>test_link (hb (K.up xv kO).r p λ u y dx dC p' hu=>?_)) hm;have hv:=hv.up dC;revert hv hu;cases p' with
 |@mk m n p=>
  intro hu hv;apply hv.ki;intro t;apply hu.ki;intro t';refine PyProof.Rows.le_int (wpAny_truthy_bool ?_);by_cases hle:m<=n
  ·rw [if_pos hle]at p;refine ae (if_pos (decide_eq_true hle)) ?_;refine test_last (hc (K.up dx (kO.tr dC)).r p λ u z mw oI p hz=>?_);revert hz;cases p with
   |mk p=>intro hz;apply hz.ki;intro t'';exact PyProof.Rows.lt_int (wpAny_truthy_bool (k _ mw (K.S.tr ((kO.tr dC).tr oI)) p))
  ·rw [if_neg hle]at p;refine ae (if_neg (by simpa using hle)) ?_;exact k _ dx (K.S.tr (kO.tr dC)) p
def pP(t:AT)(a b:AE):AE:=λ F ρ σ P=>t F ρ σ λ x σ=>if x then a F ρ σ P else b F ρ σ P
theorem ft{t x y:Expr}{pos:Pos}{tt:AT}{a b:AE}(ht:jD Γ t tt)(ha:aZ Γ x a)(hb:aZ Γ y b):aZ Γ (.IfExp t x y pos) (pP tt a b):=λ K aa aa hc k=>
 wpAny_IfExp (ht K.r hc λ c w S p=>by
  cases c with
  |true=>exact ha (K.up w S) p k
  |false=>exact hb (K.up w S) p k)
def NM(a b:AE):AE:=λ F ρ σ P=>a F ρ σ λ x σ=>vm x λ c=>if c then b F ρ σ P else P (.bool false) σ
theorem FU{x y:Expr}{pos:Pos}{a b:AE}(ha:aZ Γ x a)(hb:aZ Γ y b):aZ Γ (.BoolOp .And [x,y] pos) (NM a b):=λ K aa aa hc k=>wpAny_And2 (ha K.r hc λ u aa w S p hu=>by
 obtain ⟨c,rfl,p⟩:=p.k;apply hu.kb;refine wpAny_truthy_bool ?_;cases c with
 |true=>exact hb (K.up w S) p k
 |false=>exact k _ _ w (K.S.tr S) p (.bool false))
end
noncomputable def ja(ρ:Loc)(x:String)(v:AV):Loc:=λ y=>if y=x then some v else ρ y
section
variable{Γ:cZ}
theorem lR{h h':Heap}{lam:List Addr}{b:Addr}(hs:Heap.SameBut b h h')(Q5:∀o items n,h.get? b=some o->o.data≠.seq items n):Kx h lam h' lam:=
 ⟨.refl _,λ a o items n aa hc hd ho=>by
  by_cases e:a=b
  ·subst e;exact absurd hd (Q5 _ _ _ ho)
  ·refine ae (hs.2 a e) ?_;exact ho,λ aa h=>.inl h⟩
theorem HS.other{G:Places}{s:Shared}{lam:List Addr}{σ:U}{h':Heap}{b:Addr}{tk:Nat}(H:HS G s lam σ)(hs:Heap.SameBut b s.heap h')(hb:b∉lam)(h0:G.h₀.get? b=none)
  (Q5:∀o items n,s.heap.get? b=some o->o.data≠.seq items n):HS G {s with heap:=h',toks:=tk} lam σ:=by
 have kc:Kx s.heap lam h' lam:=lR hs Q5;refine ⟨λ a o e=>?_,H.gens,H.os,H.len,H.nodup,H.above,λ l a ao h1 h2=>?_⟩
 ·have:a≠b:=λ e'=>by subst e';rw [h0]at e;cases e
  refine (?_:h'.get? a=some o);refine ae (hs.2 a this) ?_;exact H.base a o e
 ·have:a≠b:=λ e'=>hb (e'▸List.mem_of_getElem? h1);exact (H.obj l a ao h1 h2).keep (λ o e=>by refine (?_:h'.get? a=some o);refine ae (hs.2 a this) ?_;exact e) kc
theorem kP{h:Heap}{L:Addr}{m:Str->Option Value}(hn:h.Ns L m):∀o items n,h.get? L=some o->o.data≠.seq items n:=λ o items n e hd=>by refine qn hn λ o' es ep ho sT aa=>?_;rw [e]at ho;cases ho;rw [hd]at sT;cases sT
theorem sU{h:Heap}{c:Addr}{v:Option Value}(hn:h.IsCell c v):∀o items n,h.get? c=some o->o.data≠.seq items n:=λ o items n e hd=>by refine bp hn λ o' ho sT=>?_;rw [e]at ho;cases ho;rw [hd]at sT;cases sT
theorem oJ{h:Heap}{c:Addr}{v:Option Value}{m:Str->Option Value}(hn:h.IsCell c v)(hm:h.Ns c m):False:=by refine bp hn λ o' ho sT=>?_;refine qn hm λ o es ep gK hd aa=>?_;rw [ho]at gK;cases gK;rw [hd]at sT;cases sT
theorem yp(ρ:Loc)(x:String)(v:AV):ja ρ x v x=some v:=if_pos rfl
theorem sg{ρ:Loc}{x y:String}{v:AV}(h:y≠x):ja ρ x v y=ρ y:=if_neg h
theorem vt(K:Cx Γ){x:String}{av:AV}{v:Value}{P:Loc->U->Prop}{Q:Unit->Shared->Prop}(hv:K.w.R av v)(hk:Γ.sc.names.lookup (Str.ofString x)=some .local)(k:K.KU P Q)(p:P (ja K.ρ x av) K.w.σ):
  K.wp (storeName K.env (Str.ofString x) v) Q:=by
 refine bp K.F.loc λ m hn hm=>?_;refine wpAny_storeName_local (K.kind hk) hn (λ h' fa hs=>?_) (by refine ae K.ok.scope<|ae K.ok.kind ?_;rfl);have kt:Kx K.w.s.heap K.w.lam h' K.w.lam:=lR hs (kP hn);refine k _ ⟨_,_,_,K.w.H.other (tk:=K.w.s.toks+1) hs K.F.new K.F.base (kP hn)⟩ ⟨⟨_,fa,λ y bv mx hy=>?_⟩,λ y mx=>?_,K.F.apart,K.F.new,K.F.base,λ p hp=>dM (K.F.cells p hp) λ v hv=>⟨v,hv.sameBut hs λ e=>oJ hv (e▸hn)⟩⟩
  (cG.trans K.T ⟨kt,λ a o aa hw e=>(hs.2 a λ e'=>hw (.inl e')).trans e,λ a o e=>?_⟩) p
 ·by_cases iH:y=x
  ·subst iH;rw [yp]at hy;cases hy;exact ⟨v,if_pos rfl,hv.mono kt⟩
  ·rw [sg iH]at hy;exact bp (hm y bv mx hy) λ u h1 h2=>⟨u,(if_neg λ e=>iH (cq e)).trans h1,h2.mono kt⟩
 ·refine nD (K.F.cell y mx) λ c ov h1 h2 h3 h4=>⟨c,ov,h1,h2.sameBut hs (λ e=>oJ h2 (e▸hn)),h3,λ bv hy=>?_⟩
  rw [sg (λ e=>by subst e;rw [K.kind hk]at mx;rcases mx with mx|mx;cases mx;cases mx.1)]at hy;exact bp (h4 bv hy) λ u e1 e2=>⟨u,e1,e2.mono kt⟩
 ·by_cases ha:a=K.env.locals
  ·subst ha;exact Bt fa λ o' es ep gK aa=>⟨o',gK⟩
  ·exact ⟨o,(hs.2 a ha).trans e⟩
theorem Kf(K:Cx Γ){x:String}{av:AV}{v:Value}{P:Loc->U->Prop}{Q:Unit->Shared->Prop}(hv:K.w.R av v)(hk:Γ.sc.names.lookup (Str.ofString x)=some .cell)(Uy:kN Γ.sc=false)(k:K.KU P Q)(p:P (ja K.ρ x av) K.w.σ):
  K.wp (storeName K.env (Str.ofString x) v) Q:=by
 refine nD (K.F.cell x (.inl (K.kind hk))) λ c ov h1 h2 h3 h4=>?_;refine wpAny_storeName_cell K.fn (K.kind hk) h1 h2 λ h' lF hs=>?_;have kt:Kx K.w.s.heap K.w.lam h' K.w.lam:=lR hs (sU h2);refine bp K.F.loc λ m hn hm=>?_;refine k _ ⟨_,_,_,K.w.H.other (tk:=K.w.s.toks) hs (K.w.H.xt h2) h3 (sU h2)⟩ ⟨⟨m,hn.sameBut hs (λ e=>oJ h2 (e▸hn)),λ y bv mx hy=>?_⟩,λ y mx=>?_,K.F.apart,K.F.new,K.F.base,λ p hp=>?_⟩
  (cG.trans K.T ⟨kt,λ a o aa hw e=>(hs.2 a λ e'=>hw (.inr ⟨K.ok.own Uy,List.mem_map.mpr ⟨_,mem_of_lookup h1,e'.symm⟩⟩)).trans e,λ a o e=>?_⟩) p
 ·rw [sg (λ e=>by subst e;rw [K.kind hk]at mx;cases mx)]at hy;exact bp (hm y bv mx hy) λ u e1 e2=>⟨u,e1,e2.mono kt⟩
 ·by_cases iH:y=x
  ·subst iH;refine ⟨c,some v,h1,lF,h3,λ bv hy=>?_⟩;rw [yp]at hy;cases hy;exact ⟨v,rfl,hv.mono kt⟩
  ·refine nD (K.F.cell y mx) λ c' ov' g1 g2 g3 g4=>⟨c',ov',g1,g2.sameBut hs (λ e=>iH (cq (name_of_addr K.F.apart (mem_of_lookup g1) (e▸mem_of_lookup h1)))),g3,λ bv hy=>?_⟩
   rw [sg iH]at hy;exact bp (g4 bv hy) λ u e1 e2=>⟨u,e1,e2.mono kt⟩
 ·by_cases e:p.2=c
  ·exact ⟨_,e▸lF⟩
  ·exact dM (K.F.cells p hp) λ v hv=>⟨v,hv.sameBut hs e⟩
 ·by_cases ha:a=c
  ·subst ha;exact bp lF λ o' gK aa=>⟨o',gK⟩
  ·exact ⟨o,(hs.2 a ha).trans e⟩
def aW(x:String):AG:=λ _ v ρ σ P=>P (ja ρ x v) σ
theorem aD{x:String}{pos:Pos}(hk:Γ.sc.names.lookup (Str.ofString x)=some .local):ig Γ (.Name (Str.ofString x) pos) (aW x):=λ K aa aa aa aa p hv k=>wpAny_assign_Name (vt K hv hk k p)
theorem oK{x:String}{pos:Pos}(hk:Γ.sc.names.lookup (Str.ofString x)=some .cell)(Uy:kN Γ.sc=false):ig Γ (.Name (Str.ofString x) pos) (aW x):=λ K aa aa aa aa p hv k=>wpAny_assign_Name (Kf K hv hk Uy k p)
end
end
section
set_option genInjectivity false
set_option genSizeOf false
section
variable{prog:Program} {w:World}
theorem Yg{x:Str}{v:Value}(h:v.isStr x=true):(dw prog w).is x v=true:=by refine ae kD ?_;exact h
theorem pQ{es:List DictEntry}(x:Str):(es.findIdx? λ e=>(dw prog w).is x e.key)=es.findIdx? λ e=>e.key.isStr x:=by congr 1;funext e;exact kD
theorem Sf{x:Str}{t:Tok}{v:Value}{es:List DictEntry}{kvs:List (Str×Value)}(hk:KeysOf (dw prog w) es.toArray)(hp:Pairs (dw prog w) es kvs)(hn:(kvs.map (·.1)).Nodup):
  KeysOf (dw prog w) (putL x (PyData.keyHash w.params x) (.str x t) v es).toArray/\Pairs (dw prog w) (putL x (PyData.keyHash w.params x) (.str x t) v es) (stored kvs x v)/\((stored kvs x v).map (·.1)).Nodup:=by
 have eZ:(dw prog w).is x (.str x t)=true:=strKind_is prog w x t;rw [<-putL_find];have qA:=hp.findIdx x;rw [pQ]at qA;cases hi:es.findIdx? (λ e=>e.key.isStr x)with
 |some i=>
  rw [hi]at qA;dsimp only;have e1:stored kvs x v=kvs.map λ kv=>if kv.1=x then(kv.1,v)else kv:=by rw [stored,if_pos (any_of_findIdx_some qA.symm)]
  have e2:(es.modify i λ e=>⟨e.hash,e.key,v⟩)=es.modify i λ e=>{e with val:=v}:=rfl;refine ⟨?_,?_,?_⟩
  ·have:=KeysOf.modify (knd:=dw prog w) hk i v;refine ae e2 ?_;simpa using this
  ·refine ae e1<|ae e2 ?_;exact hp.modify hn (by rw [pQ];exact hi) v
  ·refine ae e1 ?_;have:(kvs.map λ kv=>if kv.1=x then(kv.1,v)else kv).map (·.1)=kvs.map (·.1):=by refine ae List.map_map ?_;congr 1;funext kv;simp only [Function.comp];split<;>rfl
   refine ae this ?_;exact hn
 |none=>
  rw [hi]at qA;dsimp only;have aaf:¬(kvs.any λ kv=>decide (kv.1=x))=true:=by intro ha;refine bp (List.any_eq_true.mp ha) λ y hy hd=>?_;have:=(List.findIdx?_eq_none_iff.mp qA.symm) y hy;rw [hd]at this;cases this
  have e1:stored kvs x v=kvs++[(x,v)]:=if_neg (by assumption);refine ⟨?_,?_,?_⟩
  ·intro e he;simp only [List.mem_toArray,List.mem_append,List.mem_singleton]at he;rcases he with he|rfl
   ·exact hk e (by simpa using he)
   ·exact ⟨x,eZ,rfl⟩
  ·refine ae e1 ?_;exact hp.append eZ _ v
  ·rw [e1,List.map_append,List.nodup_append];refine ⟨hn,by simp,λ a ha b hb e=>?_⟩;simp at hb;subst hb;subst e;obtain ⟨y,hy,rfl⟩:=List.mem_map.mp ha;exact aaf (List.any_eq_true.mpr ⟨y,hy,decide_eq_true rfl⟩)
end
section
variable{G:Places} {d:Nat} {sc:Scope}
theorem EL(W:Wd G){A:Around}{E:Value->Shared->Prop}{s:Shared}{a b:Addr}{c:dN}{x:String}{v:Value}{es:List DictEntry}{n:Nat}{Q:Unit->Shared->Prop}(X:G.K.In s.heap)(I:PySem.W.InstAt s.heap a (instObj c.addr b) c.addr (some (dictOf es n)))
  (hb:s.heap.get? b=some (dictOf es n))(ij:es.any (·.refKey)=false)(fg:(attrsOf c).contains x=true)(hz:∀k:Value,(putL (Str.ofString x) (PyData.keyHash G.w.params (Str.ofString x)) k v es).length<=1000)
  (h:Q () {s with heap:=s.heap.update b (Obj.putName (Str.ofString x) (PyData.keyHash G.w.params (Str.ofString x)) (.str (Str.ofString x) (s.toks+1)) v),toks:=s.toks+2}):
  wpAny (model G.prog G.w) A (setAttr (.ref a) (Str.ofString x) v) Q E s:=by
 refine set_plain X I (W.setattr c) ?_;have I':=I;obtain ⟨hx,-,-,-⟩:=I';have ht:takerIn G.K c.addr (Str.ofString x)=some none:=by unfold takerIn;rw [W.attr c x fg];rfl
 refine osa_open (s:={s with toks:=s.toks+1}) X I (W.over c) ht λ bb=>?_;refine bp (any_some (W.hasDict c)) λ cd hc sT=>?_;dsimp only;refine wpAny_bind (wpAny_pure (wpAny_bind (wpAny_bind (wpAny_loadPart hx (wpAny_bind (Looks.here (s:={s with toks:=s.toks+1}) (looks_clsIn X hc) ?_))))));rw [sT];refine wpAny_pure (a:=some b) (wpAny_bind (wpAny_pure (wpAny_bind ?_)));unfold nsSet;refine wpAny_bind (wpAny_bind (wpAny_askSetting (wpAny_pure (wpAny_bind (wpAny_mkText (wpAny_bind (wpAny_loadPart hb ?_)))))));have Yi:(!es.toArray.any (·.key.isStr (Str.ofString x))&&es.toArray.any (·.refKey))=false:=by
  have:es.toArray.any (·.refKey)=false:=by simpa using ij
  rw [this,Bool.and_false]
 dsimp only;rw [aRefKeyMayBeTheName_at,Yi];refine wpAny_updatePart hb ?_;have fu:(s.heap.update b (Obj.putName (Str.ofString x) (PyData.keyHash G.w.params (Str.ofString x)) (.str (Str.ofString x) (s.toks+1)) v)).get? b=some (dictOf (putL (Str.ofString x) (PyData.keyHash G.w.params (Str.ofString x)) (.str (Str.ofString x) (s.toks+1)) v es) (putN (Str.ofString x) es n)):=by rw [Heap.get?_update_self _ hb (by rw [putName_dict];rfl),putName_dict]
 refine wpAny_bind (wpAny_lookBehind fu (pastItsLine_dict (by refine ae List.size_toArray ?_;have:=hz (.str (Str.ofString x) (s.toks+1));have:=cN;lia)) (wpAny_pure h))
end
section
variable{M:Model} {A:Around} {E:Value->Shared->Prop} {s:Shared} {env:Env}
theorem Uz{vs keep:List Value}{Q:Unit->Shared->Prop}(h:Q () s):wpAny M A (release vs keep) Q E s:=λ Γ p hΓ=>by simp only [Sem.wp_release];exact h
theorem abk{α:Type}{pos:Pos}{t:Sem α}{Q:α->Shared->Prop}(h:wpAny M A t Q E s):wpAny M A (standAt pos>>=λ aa=>t) Q E s:=wpAny_bind (wpAny_standAt h)
theorem EM{o:Expr}{x:Str}{pos:Pos}{v:Value}{Q:Unit->Shared->Prop}
  (h:wpAny M A (eval o env) (λ ov fA=>wpAny M A (setAttr ov x v) Q E fA) E s):wpAny M A (assign (.Attribute o x pos) env v) Q E s:=by
 rw [PySem.assign_Attribute];exact wpAny_bind (wpAny_holding (wpAny_mono h (λ ov fA gj=>wpAny_bind (wpAny_standAt (wpAny_bind (wpAny_holding (wpAny_mono gj (λ aa aa q=>Uz q) λ aa aa e=>e))))) λ aa aa e=>e))
theorem Hl{o i:Expr}{pos:Pos}{v:Value}{Q:Unit->Shared->Prop}
  (h:wpAny M A (eval o env) (λ ov fA=>wpAny M A (eval i env) (λ iv nT=>wpAny M A (setItem ov iv v) Q E nT) E fA) E s):wpAny M A (assign (.Subscript o i pos) env v) Q E s:=by
 rw [PySem.assign_Subscript];exact wpAny_bind (wpAny_holding (wpAny_mono h (λ ov fA gj=>wpAny_bind (wpAny_holding (wpAny_mono gj (λ iv nT j5=>wpAny_bind (wpAny_standAt (wpAny_bind (wpAny_holding (wpAny_mono j5 (λ aa aa q=>Uz q) λ aa aa e=>e))))) λ aa aa e=>e))) λ aa aa e=>e))
end
section
variable{prog:Program} {w:World} {A:Around} {E:Value->Shared->Prop} {s:Shared}
theorem Aq{l:Addr}{items:Array Value}{n:Nat}{k:Int}{t:Tok}{v:Value}{i:Nat}{Q:Unit->Shared->Prop}(hl:IsL s.heap l items n)(hi:i<items.size)
  (hk:k=(i:Int)\/k=(i:Int) -items.size)(fV:items.size<2^62)
  (hQ:∀h',IsL h' l (items.setIfInBounds i v) n->Heap.SameBut l s.heap h'->Q () {s with heap:=h'}):wpAny (model prog w) A (setItem (.ref l) (.int k t) v) Q E s:=by
 have ht:s.TypeIs (.ref l) "list":=IsL.typeIs hl;unfold setItem
 try with_reducible refine wpAny_holding ?_
 first|refine wpAny_bind (wpAny_pure ?_)|skip
 refine wpAny_bind (wpAny_sequenceKey ht (by decide) ?_);refine wpAny_bind (wpAny_callSpecial?_slot (name:=Str.ofString "__setitem__") ht slot_list_setitem
  (wpAny_call_entry slot_list_setitem ht entry_list_setitem ?_ (args_list_setitem _ _ _)))
 refine (?_:wpAny _ _ (Builtin.List.listSubscript? (.int k t)>>=_) _ _ s);have Hm:Builtin.List.listFitsIndex k=true:=by
  rcases hk with rfl|rfl
  ·exact fitsIndex_of (by lia) (by lia)
  ·exact fitsIndex_neg (by lia) (by lia)
 refine wpAny_bind (wpAny_listSubscript_int Hm ?_);clear Hm;have hx:items[i]?=some items[i]:=Array.getElem?_eq_getElem hi;have Hn:IsL (s.heap.update l (Obj.mapSeq (·.setIfInBounds i v))) l (items.setIfInBounds i v) n:=by refine (?_:Heap.get? _ _=_);refine ae (Heap.get?_update_self _ hl rfl) ?_;simp [Obj.mapSeq]
 rcases hk with rfl|rfl
 ·refine (?_:wpAny _ _ ((seqItemAt l i>>=λ r=>pure (r.map (i,·)))>>=_) _ _ s);refine wpAny_bind (wpAny_bind (wpAny_seqItemAt hl rfl (wpAny_pure ?_)));refine ae hx ?_;refine (?_:wpAny _ _ (setSeqItemAt l i v>>=_) _ _ s);refine wpAny_bind (wpAny_setSeqItemAt hl rfl ?_)
  first
   |exact wpAny_bind (wpAny_pure (wpAny_pure ⟨.none,rfl,wpAny_pure (hQ _ Hn (Heap.SameBut.update ..))⟩))
   |exact wpAny_pure ⟨.none,rfl,wpAny_pure (hQ _ Hn (Heap.SameBut.update ..))⟩
 ·have h0:(i:Int) -items.size<0:=by lia
  have qA:=seqIndex_neg (k:=(i:Int) -items.size) (n:=items.size) h0 (by lia);have he:((i:Int) -items.size+items.size).toNat=i:=by lia
  rw [he]at qA;generalize (i:Int) -items.size=k at*;obtain ⟨j,rfl⟩:∃j:Nat,k=Int.negSucc j:=by
   cases k with
   |ofNat n=>exact absurd h0 (Int.not_lt.mpr (Int.natCast_nonneg n))
   |negSucc n=>exact ⟨n,rfl⟩
  refine (?_:wpAny _ _ ((Builtin.List.listItems (.ref l)>>=λ xs=>pure ((seqIndex? (Int.negSucc j) xs.size).bind λ i=>xs[i]?.map (i,·)))>>=_) _ _ s);refine wpAny_bind (wpAny_bind ?_);refine (?_:wpAny _ _ (seqItems? (.ref l)>>=_) _ _ s);refine wpAny_bind (wpAny_seqItems hl rfl (wpAny_pure (wpAny_pure ?_)));refine ae qA ?_;simp only [Option.bind_some,hx,Option.map_some];refine (?_:wpAny _ _ (setSeqItemAt l i v>>=_) _ _ s);refine wpAny_bind (wpAny_setSeqItemAt hl rfl ?_)
  first
   |exact wpAny_bind (wpAny_pure (wpAny_pure ⟨.none,rfl,wpAny_pure (hQ _ Hn (Heap.SameBut.update ..))⟩))
   |exact wpAny_pure ⟨.none,rfl,wpAny_pure (hQ _ Hn (Heap.SameBut.update ..))⟩
end
theorem NN(x:Str)(hs:Int)(k v:Value)(es:List DictEntry):(putL x hs k v es).length<=es.length+1:=by
 induction es with
 |nil=>exact Nat.le_refl _
 |cons e r ih=>
  unfold putL;split
  ·simp
  ·simp only [List.length_cons];exact Nat.lt_succ_of_le ih
noncomputable def BG:AV->Option AK
 |.int i=>some (.i i)
 |.str x=>some (.s x)
 |_=>none
noncomputable def gx:List AV->Option (List AK)
 |[]=>some []
 |a::r=>match BG a,gx r with
  |some k,some ks=>some (k::ks)
  |_,_=>none
section
variable{prog:Program} {w:World} {h:Heap} {lam:List Addr}
theorem bq.set{x:AV}{v:Value}(hv:VR h lam x v){cB vs}(y:bq h lam cB vs):∀(j:Nat),bq h lam (cB.set j x) (vs.set j v):=by
 refine y.ind (λ cB vs=>∀j:Nat,bq h lam (cB.set j x) (vs.set j v)) (λ aa=>.nil) λ h1 h2 ih j=>?_;cases j with
 |zero=>exact .cons hv h2
 |succ j=>exact .cons h1 (ih j)
theorem Sg{av:AV}{v:Value}{k:AK}(hv:VR h lam av v)(e:BG av=some k):(nP prog w).is k v=true:=by
 have:Ha k v=true:=by
  cases hv<;>simp only [BG,reduceCtorEq,Option.some.injEq]at e
  ·subst e;exact if_pos rfl
  ·rename_i x X t hx;subst e;subst hx;exact if_pos rfl
 exact this
theorem NO{cB:List AV}{vs:List Value}{ks:List AK}(hv:bq h lam cB vs)(e:gx cB=some ks):ItemsAre (nP prog w) ks vs:=by
 induction cB generalizing vs ks with
 |nil=>cases hv;cases e;exact .nil
 |cons a r ih=>
  cases hv with
  |cons h1 h2=>
   unfold gx at e;split at e
   ·rename_i k ks' e1 e2;cases e;exact .cons (Sg h1 e1) (ih h2 e2)
   ·cases e
theorem jo{cB:List AV}{a:Addr}{ks:List AK}(hv:VR h lam (.tup cB) (.ref a))(e:gx cB=some ks):(cu prog w).is h ks a:=by
 cases hv with
 |tup ht dQ=>exact ⟨_,_,_,ht.2,rfl,rfl,NO dQ e⟩
theorem KT.get{kvs:List (List AK×AV)}{xs}(x:KT h lam kvs xs)(k:List AK):
  (∀av,br kvs k=some av->∃p,atKey xs k=some p/\VR h lam av p.2)/\(br kvs k=none->atKey xs k=none):=by
 induction x with
 |nil=>exact ⟨λ av e=>by simp [br]at e,λ aa=>rfl⟩
 |@cons k0 BD a0 v0 r r' hv _ ih=>
  by_cases hk:k0=k
  ·subst hk;refine ⟨λ av e=>?_,λ e=>?_⟩
   ·simp [br]at e;subst e;exact ⟨(a0,v0),by simp [atKey],hv⟩
   ·simp [br]at e
  ·have e1:br ((k0,BD)::r) k=br r k:=by simp [br,List.find?_cons,hk]
   have e2:atKey ((k0,a0,v0)::r') k=atKey r' k:=by simp [atKey,List.find?_cons,hk]
   refine ae e1<|ae e2 ?_;exact ih
theorem NP{K:Type}[DecidableEq K](kvs:List (K×AV))(k:K):(br kvs k).isSome=kvs.any λ kv=>decide (kv.1=k):=by
 induction kvs with
 |nil=>rfl
 |cons a r ih=>
  by_cases hk:a.1=k
  ·simp [br,hk]
  ·have:br (a::r) k=br r k:=by simp [br,List.find?_cons,hk]
   refine ae this<|ae ih ?_;simp [hk]
theorem KT.append{a b:List (List AK×AV)}{a' b'}(x:KT h lam a a')(y:KT h lam b b'):KT h lam (a++b) (a'++b'):=by
 induction x with
 |nil=>exact y
 |cons hv _ ih=>exact .cons hv ih
theorem KT.BE{kvs:List (List AK×AV)}{xs}(x:KT h lam kvs xs)(k:List AK){av:AV}{v:Value}(hv:VR h lam av v):
  KT h lam (kvs.map (λ kv=>if kv.1=k then(kv.1,av)else kv)) (xs.map (putAt k v)):=by
 induction x with
 |nil=>exact .nil
 |@cons k0 BD a0 v0 r r' Uv _ ih=>
  simp only [List.map_cons];by_cases hk:k0=k
  ·subst hk;simp only [putAt,if_true];exact .cons hv ih
  ·simp only [putAt,hk,if_false];exact .cons Uv ih
theorem KT.set{kvs:List (List AK×AV)}{xs}(x:KT h lam kvs xs)(k:List AK){av:AV}{v:Value}{a:Addr}(hv:VR h lam av v):KT h lam (dz kvs k av) (storedH xs k a v):=by
 unfold dz storedH;rw [<-NP];cases hg:br kvs k with
 |some u=>
  refine bp ((x.get k).1 u hg) λ p hp aa=>?_;refine ae hp ?_;exact x.BE k hv
 |none=>refine ae ((x.get k).2 hg) ?_;exact x.append (.cons hv .nil)
theorem sV{xs:List (List AK×Addr×Value)}{k:List AK}{a:Addr}{v:Value}(h:∀x∈xs,x.2.1∉lam)(ha:a∉lam):∀x∈storedH xs k a v,x.2.1∉lam:=λ x hx=>by
 unfold storedH at hx;split at hx
 ·obtain ⟨y,hy,rfl⟩:=List.mem_map.mp hx;have:=h y hy;unfold putAt;split<;>exact this
 ·rcases List.mem_append.mp hx with hx|hx
  ·exact h x hx
  ·simp at hx;subst hx;exact ha
theorem KT.length{kvs:List (List AK×AV)}{xs}(x:KT h lam kvs xs):kvs.length=xs.length:=by
 induction x with
 |nil=>rfl
 |cons _ _ ih=>exact congrArg _ ih
end
section
variable{Γ:cZ}
def OpS(Γ:cZ)(t:Value->Value->Sem Unit)(f:AV->U->(U->Prop)->AV->Prop):Prop:=∀(K:Cx Γ){o x:AV}{ov v:Value}{P:U->Prop}{Q:Unit->Shared->Prop},f x K.w.σ P o->K.w.R o ov->K.w.R x v->K.KM P Q->K.wp (t ov v) Q
def Op3(Γ:cZ)(t:Value->Value->Value->Sem Unit)(f:AV->U->(U->Prop)->AV->AV->Prop):Prop:=∀(K:Cx Γ){o i x:AV}{ov iv v:Value}{P:U->Prop}{Q:Unit->Shared->Prop},f x K.w.σ P o i->K.w.R o ov->K.w.R i iv->K.w.R x v->K.KM P Q->K.wp (t ov iv v) Q
theorem Cx.km(K:Cx Γ){P:U->Prop}{Q:Unit->Shared->Prop}{s:Shared}{lam:List Addr}{σ:U}(k:K.KM P Q)(HS:HS Γ.G s lam σ/\Step K.w.s K.w.lam s lam)(p:P σ):Q () s:=k ⟨_,_,_,HS.1⟩ (Step.trans K.S HS.2) p
theorem Cx.ZD(K:Cx Γ){P:Loc->U->Prop}{Q:Unit->Shared->Prop}(k:K.KU P Q):K.r.KM (λ σ=>P K.ρ σ) Q:=λ w S p=>k K.ρ w (FR.step K.F K.w.H S) (cG.trans K.T (Step.toF S w.H)) p
theorem Cx.qB(K:Cx Γ){P:U->Prop}{Q:Unit->Shared->Prop}{l:Nat}{a:Addr}{ao:AO}{h':Heap}{tk:Nat}(k:K.KM P Q)(hl:K.w.lam[l]?=some a)(hs:Heap.SameBut a K.w.s.heap h')(p:P (K.w.σ.set l ao))
  (hr:Kx K.w.s.heap K.w.lam h' K.w.lam->OR Γ.G h' K.w.lam l a ao):Q () {K.w.s with heap:=h',toks:=tk}:=
 K.km k (K.w.H.upd (s':={K.w.s with heap:=h',toks:=tk}) hl hs rfl rfl (hr (Kx.upd (List.mem_of_getElem? hl) hs))) p
inductive bw(x:String)(v:AV)(σ:U)(P:U->Prop):AV->Prop
 |mk {l:Nat} {c:dN} {kvs:List (String×AV)}:σ[l]?=some (.inst c)->σ[l+1]?=some (.dS kvs)->(attrsOf c).contains x=true->kvs.length<=100->P (σ.set (l+1) (.dS (dz kvs x v)))->bw x v σ P (.ref l)
theorem UA{G:Places}{s:Shared}{b:Addr}{kvs':List (Str×Value)}{es:List DictEntry}{n:Nat}{x:Str}{v:Value}{tk:Nat}(sP:s.heap.get? b=some (dictOf es n))(hd:s.heap.DictOf (dw G.prog G.w) b kvs'):
  (s.heap.update b (Obj.putName x (PyData.keyHash G.w.params x) (.str x tk) v)).DictOf (dw G.prog G.w) b (stored kvs' x v):=by
 refine nD (Ke hd) λ pN n' gK hko hpo qC=>?_;rw [sP]at gK;cases gK;refine Uk (Sf (t:=tk) (v:=v) (x:=x) hko hpo qC) λ g1 g2 g3=>?_;exact ⟨_,_,_,by rw [Heap.get?_update_self _ sP (by rw [putName_dict];rfl),putName_dict],⟨rfl,rfl,rfl⟩,rfl,g1,by simpa using g2,g3⟩
theorem Kg(W:Wd Γ.G)(x:String):OpS Γ (λ o v=>setAttr o (Str.ofString x) v) (bw x):=by
 intro K o av ov v P Q hc;induction hc with
 |mk h1 h2 fg hlen p=>
  intro ho hv k;apply ho.kr;intro a hl;induction K.w.inst hl h1 h2 with
  |mk b kvs' es n hb sP hd hp hk I=>
   refine EL W (K.w.X W) I sP (sQ hp) fg (λ k=>?_) ?_
   ·have:=NN (Str.ofString x) (PyData.keyHash Γ.G.w.params (Str.ofString x)) k v es;have:=hk.length;have:es.length=kvs'.length:=hp.length;lia
   ·exact K.qB k hb (.update ..) p λ kc=>.dS (UA sP hd) ((hk.set (λ aa aa=>cq) x hv).mono kc)
def Idx(k:Int)(n j:Nat):Prop:=j<n/\(k=(j:Int)\/k=(j:Int) -n)
inductive cz(x:AV)(σ:U)(P:U->Prop):AV->AV->Prop
 |l {l:Nat} {xs:List AV} {k:Int} {j:Nat}:σ[l]?=some (.list xs)->Idx k xs.length j->P (σ.set l (.list (xs.set j x)))->cz x σ P (.ref l) (.int k)
 |i {l:Nat} {kvs:List (Int×AV)} {k:Int}:σ[l]?=some (.dI kvs)->kvs.length<=10000->P (σ.set l (.dI (dz kvs k x)))->cz x σ P (.ref l) (.int k)
 |s {l:Nat} {kvs:List (String×AV)} {k:String}:σ[l]?=some (.dS kvs)->kvs.length<=10000->P (σ.set l (.dS (dz kvs k x)))->cz x σ P (.ref l) (.str k)
 |t {l:Nat} {kvs:List (List AK×AV)} {ks:List AV} {k:List AK}:σ[l]?=some (.dT kvs)->gx ks=some k->kvs.length<=10000->P (σ.set l (.dT (dz kvs k x)))->cz x σ P (.ref l) (.tup ks)
theorem St.dI(w:St Γ){l:Nat}{a:Addr}{kvs:List (Int×AV)}(hl:w.lam[l]?=some a)(hs:w.σ[l]?=some (.dI kvs)){C:Prop}(k:∀kvs',w.s.heap.DictOf (intKind Γ.G.prog Γ.G.w) a kvs'->KR id w.s.heap w.lam kvs kvs'->kvs.length=kvs'.length->C):C:=by have:=w.H.obj _ _ _ hl hs;cases this with|dI h1 h2=>exact k _ h1 h2 h2.length
theorem St.dS(w:St Γ){l:Nat}{a:Addr}{kvs:List (String×AV)}(hl:w.lam[l]?=some a)(hs:w.σ[l]?=some (.dS kvs)){C:Prop}(k:∀kvs',w.s.heap.DictOf (dw Γ.G.prog Γ.G.w) a kvs'->KR Str.ofString w.s.heap w.lam kvs kvs'->kvs.length=kvs'.length->C):C:=by have:=w.H.obj _ _ _ hl hs;cases this with|dS h1 h2=>exact k _ h1 h2 h2.length
theorem St.dT(w:St Γ){l:Nat}{a:Addr}{kvs:List (List AK×AV)}(hl:w.lam[l]?=some a)(hs:w.σ[l]?=some (.dT kvs)){C:Prop}(k:∀xs,w.s.heap.DictOfH (cu Γ.G.prog Γ.G.w) a xs->KT w.s.heap w.lam kvs xs->(∀x∈xs,x.2.1∉w.lam)->kvs.length=xs.length->C):C:=by have:=w.H.obj _ _ _ hl hs;cases this with|dT h1 h2 h3=>exact k _ h1 h2 h3 h2.length
theorem iK.tk{G:Places}{d:Nat}{A:Around}(R:iK d A):(cu G.prog G.w).room A.in1:=by refine (?_:A.units+1<cLine);have:=R.un;exact bG this (by simp+arith only)
theorem Kh:Op3 Γ setItem cz:=by
 intro K o i x ov iv v P Q hc;have my:=cN;induction hc with
 |l hs hj p=>
  intro ho hi hv k;apply ho.kr;intro a hl;apply hi.ki;intro t;have hz:=K.w.lz hl hs;refine K.w.dv hl hs λ items n h1 h2 hlen=>Aq h1 (hlen▸hj.1) (by refine cA hlen ?_;exact hj.2) (by lia) λ h' nY vu=>K.qB (tk:=K.w.s.toks) k hl vu p λ kc=>.list nY (by
   refine ae Array.toList_setIfInBounds ?_;exact bq.set (hv.mono kc) (h2.mono kc) _) (by simpa using hz)
 |i hs hz p=>
  intro ho hi hv k;apply ho.kr;intro a hl;apply hi.ki;intro t;exact K.w.dI hl hs λ kvs' h1 h2 hlen=>wpAny_setItem_pairs (knd:=intKind Γ.G.prog Γ.G.w) (intKind_is _ _ _ _) h1 (λ h' hd vu=>K.qB k hl vu p λ kc=>.dI hd ((h2.set (λ aa aa e=>e) _ hv).mono kc)) (e_ my hz (bP hlen) (by simp+arith only))
 |s hs hz p=>
  intro ho hi hv k;apply ho.kr;intro a hl;apply hi.ks;intro t;exact K.w.dS hl hs λ kvs' h1 h2 hlen=>wpAny_setItem_pairs (knd:=dw Γ.G.prog Γ.G.w) (strKind_is _ _ _ _) h1 (λ h' hd vu=>K.qB k hl vu p λ kc=>.dS hd ((h2.set (λ aa aa=>cq) _ hv).mono kc)) (e_ my hz (bP hlen) (by simp+arith only))
 |t hs hk hz p=>intro ho hi hv k;apply ho.kr;intro a hl;refine K.w.dT hl hs λ xs h1 h2 h3 hlen=>?_;have UB:=hi;revert UB;apply hi.kt;intro b yq nn ht dQ UB;exact wpAny_setItem_heap (knd:=cu Γ.G.prog Γ.G.w) (iK.tk K.R) (jo UB hk) h1 (λ h' hd vu=>K.qB k hl vu p λ kc=>.dT hd ((h2.set _ hv).mono kc) (sV h3 ht.1)) (e_ my hz (bP hlen) (by simp+arith only))
def dh(o:AE)(x:String):AG:=λ F v ρ σ P=>o F ρ σ λ ov σ=>bw x v σ (λ σ=>P ρ σ) ov
def iN(o i:AE):AG:=λ F v ρ σ P=>o F ρ σ λ ov σ=>i F ρ σ λ iv σ=>cz v σ (λ σ=>P ρ σ) ov iv
theorem bR(W:Wd Γ.G){e:Expr}{x:String}{pos:Pos}{o:AE}(ho:aZ Γ e o):ig Γ (.Attribute e (Str.ofString x) pos) (dh o x):=λ K aa aa aa aa hc hv k=>EM (ho K.r hc λ u aa w S p hu=>Kg W x (K.up w S).r p hu (hv.up S) ((K.up w S).ZD k))
theorem eJ{e i:Expr}{pos:Pos}{o c:AE}(ho:aZ Γ e o)(hi:aZ Γ i c):ig Γ (.Subscript e i pos) (iN o c):=λ K aa aa aa aa hc hv k=>Hl (ho K.r hc λ u aa w S p hu=>hi (K.up w S).r p λ j aa dx dC p hj=>Kh (K.up dx (S.tr dC)).r p (hu.up dC) hj (hv.up (S.tr dC)) ((K.up dx (S.tr dC)).ZD k))
end
end
section
set_option genInjectivity false
set_option genSizeOf false
section
variable{prog:Program} {w:World} {A:Around} {E:Value->Shared->Prop}
theorem Ki{it l:Addr}{items:Array Value}(b_:l≠it):∀(n i:Nat)(s:Shared)(Q:List Value->Shared->Prop),s.heap.IsListIter it l i->s.heap.IsList l items->i+n<=items.size->
  (∀h',h'.IsListIter it l (i+n)->Heap.SameBut it s.heap h'->Q ((items.toList.drop i).take n) {s with heap:=h'})->wpAny (model prog w) A (draw (.ref it) n) Q E s:=by
 intro bD;induction bD with
 |zero=>
  intro i s Q hi hl hn hQ;have:=hQ s.heap hi (Heap.SameBut.refl _ _);rw [List.take_zero]at this;exact wpAny_pure this
 |succ n ih=>
  intro i s Q hi hl hn hQ;have hx:items[i]?=some items[i]:=Array.getElem?_eq_getElem (ml hn);unfold draw;refine wpAny_bind (wpAny_pyNext_list_item hi hl hx λ h' mz hs=>?_);have eH:h'.IsList l items:=hl.extBut hs.extBut b_;refine wpAny_bind (wpAny_holding (ih (i+1) _ _ mz eH (bG hn (by simp+arith only)) λ mY aag Kj=>?_));refine wpAny_pure ?_;have e:(items.toList.drop i).take (n+1)=items[i]::(items.toList.drop (i+1)).take n:=by refine ae (List.drop_eq_getElem_cons (by simpa using(ml hn:i<items.size)))<|ae List.take_succ_cons ?_;simp
  refine cA e ?_;exact hQ mY (by refine ae (show i+(n+1)=i+1+n by simp+arith only) ?_;exact aag) (hs.trans Kj)
theorem uo{s:Shared}{t:Addr}{items:Array Value}{Q:List Value->Shared->Prop}(hh:A.handled=none)(ht:s.heap.IsList t items)
  (hQ:∀h',Heap.ExtBut s.heap.objs.size s.heap h'->Q items.toList {s with heap:=h'}):wpAny (model prog w) A (unpackItems (.ref t) items.size none) Q E s:=by
 have dP:t≠s.heap.objs.size:=by refine bp ht λ o ho aa=>?_;exact Nat.ne_of_lt (Heap.lt_size ho)
 unfold unpackItems;refine wpAny_bind ?_;unfold notIterableAtAll;refine wpAny_bind (wpAny_specialOf ht.typeIs PySem.F.slot_list_iter.lookup (wpAny_pure ?_));refine ae (if_neg Bool.false_ne_true) ?_;refine wpAny_bind (wpAny_holding (wpAny_pyIter_list ht (wpAny_bind (wpAny_holding (Ki dP items.size 0 _ _ ⟨_,Heap.get?_push_size _ rfl,rfl,rfl⟩ (ht.push _) (by simp+arith only) λ gj hit hs=>?_)))));have aah:(items.toList.drop 0).take items.size=items.toList:=by refine ae List.drop_zero ?_;exact List.take_of_length_le (by simp)
 refine ae aah<|ae (if_neg (by simp)) ?_;have mZ:gj.IsList t items:=(ht.push _).extBut hs.extBut dP;refine wpAny_bind (wpAny_holding (wpAny_pyNext_list_end hh hit mZ (by simp) λ j5 he=>?_));simp only [Option.isSome_none,Bool.false_eq_true,if_false];exact wpAny_pure (hQ j5 λ b o hb e=>he b o hb (hs.extBut b o hb (Heap.get?_push_of_some _ e)))
theorem BH{s:Shared}{env:Env}{elts:List Expr}{k:Nat}{pos:Pos}{v:Value}{Q:Unit->Shared->Prop}(hs:(assignEach elts env).findIdx? (·.1)=none)
  (h:wpAny (model prog w) A (unpackItems v (assignEach elts env).length none) (λ items s'=>wpAny (model prog w) A (assignInOrder ((assignEach elts env).map (·.2)) items) Q E s') E s):
  wpAny (model prog w) A (assign (.Tuple elts k pos) env v) Q E s:=by
 refine (?_:wpAny _ _ (standAt pos>>=λ aa=>unpack v (assignEach elts env)) _ _ _);refine wpAny_bind (wpAny_standAt ?_);unfold unpack;refine ae hs ?_;exact wpAny_bind (wpAny_holding h)
end
section
variable{Γ:cZ}
def St.ext(w:St Γ){h':Heap}(he:Heap.ExtBut w.s.heap.objs.size w.s.heap h'):HS Γ.G {w.s with heap:=h'} w.lam w.σ/\Step w.s w.lam {w.s with heap:=h'} w.lam:=
 w.H.grow (s':={w.s with heap:=h'}) (λ b o e=>he b o (Nat.ne_of_lt (Heap.lt_size e)) e) rfl rfl
inductive cO(σ:U)(P:List AV->Prop):AV->Prop
 |t {vs:List AV}:P vs->cO σ P (.tup vs)
 |l {l:Nat} {xs:List AV}:σ[l]?=some (.list xs)->P xs->cO σ P (.ref l)
theorem vx(K:Cx Γ){av:AV}{v:Value}{n:Nat}{P:List AV->Prop}{Q:List Value->Shared->Prop}(e:cO K.w.σ (λ vs=>P vs) av)(hn:∀vs,P vs->vs.length=n)(hv:K.w.R av v)(k:K.KL n (λ vs σ=>σ=K.w.σ/\P vs) Q):
  K.wp (unpackItems v n none) Q:=by
 have kk:∀{us:List Value}{vs:List AV}{h':Heap},vs.length=n->P vs->K.w.Rs vs us->Heap.ExtBut K.w.s.heap.objs.size K.w.s.heap h'->Q us {K.w.s with heap:=h'}:=λ hl p dQ he=>
  have h:=K.w.ext he
  k _ _ ⟨_,_,_,h.1⟩ (Step.trans K.S h.2) hl ⟨rfl,p⟩ (dQ.mono h.2.kx)
 revert hv;induction e with
 |t p=>
  intro hv;apply hv.kt;intro a items m h1 h2;have e:items.size=n:=by have:=h2.length;have:=hn _ p;simp at*;lia
  exact e▸PySem.wpAny_unpackItems_tuple K.R.h ⟨_,h1.2,rfl,_,rfl⟩ λ h' he=>kk (hn _ p) p h2 he
 |l hx p=>intro hv;apply hv.kr;intro a hl;exact K.w.dv hl hx λ items m h1 h2 hlen=>(hlen.symm.trans (hn _ p))▸uo K.R.h ⟨_,h1,rfl,_,rfl⟩ λ h' he=>kk (hn _ p) p h2 he
inductive m6(Γ:cZ):List Expr->List AG->Prop
 |nil:m6 Γ [] []
 |cons {e:Expr} {es:List Expr} {c:AG} {cs:List AG}:ig Γ e c->NS e->m6 Γ es cs->m6 Γ (e::es) (c::cs)
def bE(vs:List AV)(k:AV->List AV->Prop):Prop:=match vs with
 |v::vs=>k v vs
 |[]=>False
def eE(vs:List AV)(p:Prop):Prop:=match vs with
 |[]=>p
 |_=>False
noncomputable def xy:List AG->bS->List AV->Loc->U->(Loc->U->Prop)->Prop
 |[],_,vs,ρ,σ,P=>eE vs (P ρ σ)
 |g::gs,F,vs,ρ,σ,P=>bE vs λ v vs=>g F v ρ σ λ ρ σ=>xy gs F vs ρ σ P
noncomputable def dZ:Nat->List AV->Prop->Prop
 |0,vs,p=>eE vs p
 |n+1,vs,p=>bE vs λ aa vs=>dZ n vs p
theorem dZ.k:∀{n:Nat}{vs:List AV}{p:Prop},dZ n vs p->vs.length=n/\p
 |0,[],_,h=>⟨rfl,h⟩
 |n+1,_::vs,_,h=>⟨congrArg Nat.succ (dZ.k (n:=n) h).1,(dZ.k (n:=n) h).2⟩
def fP(gs:List AG):AG:=λ F v ρ σ P=>cO σ (λ vs=>dZ gs.length vs (xy gs F vs ρ σ P)) v
theorem m6.len{es:List Expr}{cs:List AG}(x:m6 Γ es cs)(env:Env):(assignEach es env).length=cs.length/\(assignEach es env).findIdx? (·.1)=none:=by
 induction x with
 |nil=>exact ⟨rfl,rfl⟩
 |cons _ hn _ ih=>rw [hn.g];exact ⟨congrArg Nat.succ ih.1,by refine ae List.findIdx?_cons ?_;simp [ih.2]⟩
noncomputable def Cx.yr(K:Cx Γ)(w:St Γ)(S:K.w.Le w):Cx Γ:=K.jB K.ρ w (FR.step K.F K.w.H S) (cG.trans K.T (Step.toF S w.H))
theorem m6.run{es:List Expr}{cs:List AG}(x:m6 Γ es cs):∀(K:Cx Γ){vs:List AV}{us:List Value}{P:Loc->U->Prop}{Q:Unit->Shared->Prop},xy cs Γ.F vs K.ρ K.w.σ P->K.w.Rs vs us->K.KU P Q->
  K.wp (assignInOrder ((assignEach es K.env).map (·.2)) us) Q:=by
 induction x with
 |nil=>
  intro K vs us P Q h hv k;cases hv with
  |nil=>exact assignInOrder_nil (k K.ρ K.w K.F K.T h)
  |cons _ _=>exact h.elim
 |cons h1 hn _ ih=>
  intro K vs us P Q h hv k;rw [hn.g];cases hv with
  |nil=>exact h.elim
  |cons sR sS=>exact assignInOrder_cons (h1 K.rf h sR λ ρ w F T p=>ih (K.jB ρ w F (cG.trans K.T T)) p (bq.mono T.kx sS) k)
theorem dJ{es:List Expr}{cs:List AG}{k:Nat}{pos:Pos}(x:m6 Γ es cs):ig Γ (.Tuple es k pos) (fP cs):=by intro K v u P Q h hv k;refine Bs (x.len K.env) λ h1 h2=>BH h2 (h1▸vx K.r h (λ aa p=>p.k.1) hv λ us vs w S aa p dQ=>?_);obtain ⟨e,p⟩:=p;exact x.run (K.yr w S) (e▸p.k.2) dQ k
def aF(a:AE)(g:AG):AS:=λ F ρ σ P=>a F ρ σ λ v σ=>g F v ρ σ λ ρ σ=>P .next ρ σ
theorem Ho{M:Model}{A:Around}{E:Value->Shared->Prop}{s:Shared}{env:Env}{t value:Expr}{pos:Pos}{Q:Flow->Shared->Prop}(ht:NS t)
  (h:wpAny M A (eval value env) (λ v fA=>wpAny M A (assign t env v) (λ aa=>Q .next) E fA) E s)
  (hs:swapsWithSole [t] value pos.line env=pure false)(hw:swappedStores [t] value env=pure none):wpAny M A (exec (.Assign [t] value pos) env) Q E s:=wpAny_Assign_stores (by rw [ht.g];exact h) hs hw
theorem oL{t e:Expr}{pos:Pos}{a:AE}{g:AG}(ha:aZ Γ e a)(hg:ig Γ t g)(ht:NS t)
  (h1:∀env:Env,env.scope=Γ.sc->swapsWithSole [t] e pos.line env=pure false)(h2:∀env:Env,env.scope=Γ.sc->swappedStores [t] e env=pure none):iL Γ (.Assign [t] e pos) (aF a g):=λ K aa aa hc k=>
 Ho ht (ha K.r hc λ u v w S p hu=>hg (K.yr w S) p hu λ ρ w F T p=>k _ _ ρ w F T p .next) (h1 _ K.ok.scope) (h2 _ K.ok.scope)
theorem az{t e:Expr}{pos:Pos}{a:AE}{g:AG}(ha:aZ Γ e a)(hg:ig Γ t g)(ht:NS t)(h1:swapsWithSole [t] e pos.line=λ aa=>pure false)(h2:swappedStores [t] e=λ aa=>pure none):iL Γ (.Assign [t] e pos) (aF a g):=oL ha hg ht (λ aa aa=>congrFun h1 _) λ aa aa=>congrFun h2 _
inductive m7(Γ:cZ):List Str->List AG->Prop
 |nil:m7 Γ [] []
 |cons {x:String} {xs:List Str} {cs:List AG}:Γ.sc.names.lookup (Str.ofString x)=some .local->m7 Γ xs cs->m7 Γ (Str.ofString x::xs) (aW x::cs)
theorem m7.run{ns:List Str}{cs:List AG}(x:m7 Γ ns cs):∀(K:Cx Γ){vs:List AV}{us:List Value}{P:Loc->U->Prop}{Q:Unit->Shared->Prop},xy cs Γ.F vs K.ρ K.w.σ P->K.w.Rs vs us->K.KU P Q->
  K.wp (assignInOrder (ns.map λ n=>bindName K.env n) us) Q:=by
 induction x with
 |nil=>
  intro K vs us P Q h hv k;cases hv with
  |nil=>exact assignInOrder_nil (k K.ρ K.w K.F K.T h)
  |cons _ _=>exact h.elim
 |cons hk _ ih=>
  intro K vs us P Q h hv k;cases hv with
  |nil=>exact h.elim
  |cons sR sS=>exact assignInOrder_cons (wpAny_bindName (vt K.rf sR hk (P:=λ ρ σ=>xy _ Γ.F _ ρ σ P) (λ ρ w F T p=>ih (K.jB ρ w F (cG.trans K.T T)) p (bq.mono T.kx sS) k) h))
theorem m7.len{ns:List Str}{cs:List AG}(x:m7 Γ ns cs):ns.length=cs.length:=by
 induction x with
 |nil=>rfl
 |cons _ _ ih=>exact congrArg Nat.succ ih
def oM(a:AE)(gs:List AG):AS:=λ F ρ σ P=>a F ρ σ λ v σ=>cO σ (λ vs=>dZ gs.length vs (xy gs F vs.reverse ρ σ λ ρ σ=>P .next ρ σ)) v
theorem j6{elts:List Expr}{k:Nat}{NQ:Pos}{e:Expr}{pos:Pos}{a:AE}{names:List Str}{gs:List AG}(ha:aZ Γ e a)(hg:m7 Γ names.reverse gs)
  (h1:∀env:Env,env.scope=Γ.sc->swapsWithSole [.Tuple elts k NQ] e pos.line env=pure false)(h2:∀env:Env,env.scope=Γ.sc->swappedStores [.Tuple elts k NQ] e env=pure (some names)):
  iL Γ (.Assign [.Tuple elts k NQ] e pos) (oM a gs):=λ K aa aa hc k=>
 have hn:names.length=gs.length:=by have:=hg.len;simpa using this
 Assign_Tuple_swapped (ha K.r hc λ u v w S p hu=>hn▸vx (K.up w S).r p (λ aa p=>p.k.1) hu λ us vs dx dC aa p dQ=>by obtain ⟨e,p⟩:=p;exact hg.run (K.yr dx (S.tr dC)) (e▸p.k.2) dQ.rev λ ρ w F T p=>k _ _ ρ w F T p .next) (h1 _ K.ok.scope) (h2 _ K.ok.scope)
def bN(a:AE):AS:=λ F ρ σ P=>a F ρ σ λ _ σ=>P .next ρ σ
theorem Cx.kS(K:Cx Γ){P:PF}{Q:Flow->Shared->Prop}{f:AF}{fl:Flow}(k:K.KS P Q)(w:St Γ)(S:K.w.Le w)(p:P f K.ρ w.σ)(h:vj w.s.heap w.lam f fl):Q fl w.s:=k _ _ K.ρ w (FR.step K.F K.w.H S) (cG.trans K.T (Step.toF S w.H)) p h
theorem bh{e:Expr}{pos:Pos}{a:AE}(ha:aZ Γ e a)(h1:swapsWith e none pos.line=λ aa=>pure false):iL Γ (.Expr e pos) (bN a):=λ K aa aa hc k=>wpAny_Expr_any (ha K.r hc λ u v w S p aa=>K.kS k w S p .next) (by unfold interactive;refine ae K.ok.scope<|ae K.ok.kind ?_;rfl) (congrFun h1 _)
def cH(a:AE):AS:=λ F ρ σ P=>a F ρ σ λ v σ=>P (.ret v) ρ σ
theorem bC{e:Expr}{pos:Pos}{a:AE}(ha:aZ Γ e a):iL Γ (.Return (some e) pos) (cH a):=λ K aa aa hc k=>wpAny_Return_some (ha K.r hc λ u v w S p hu=>K.kS k w S p (.ret hu))
def Q6:AS:=λ _ ρ σ P=>P .cont ρ σ
theorem NR{pos:Pos}:iL Γ (.Continue pos) Q6:=λ K aa aa hc k=>wpAny_Continue (k _ _ K.ρ K.w K.F K.T hc .cont)
def ed(t:AT)(a b:AS):AS:=λ F ρ σ P=>t F ρ σ λ x σ=>if x then a F ρ σ P else b F ρ σ P
theorem cf{t:Expr}{x y:List Stmt}{pos:Pos}{ct:AT}{a b:AS}(ht:jD Γ t ct)(ha:nE Γ x a)(hb:nE Γ y b):iL Γ (.If t x y pos) (ed ct a b):=λ K aa aa hc k=>
 wpAny_If (ht K.r hc λ c w S p=>by
  cases c with
  |true=>exact ha (K.yr w S) p k
  |false=>exact hb (K.yr w S) p k)
def aG:AS:=λ _ ρ σ P=>P .next ρ σ
def AF.seq(f:AF)(P:PF)(k:Loc->U->Prop)(ρ:Loc)(σ:U):Prop:=match f with
 |.next=>k ρ σ
 |f=>P f ρ σ
def aq(a b:AS):AS:=λ F ρ σ P=>a F ρ σ λ f ρ σ=>f.seq P (λ ρ σ=>b F ρ σ P) ρ σ
theorem aw:nE Γ [] aG:=λ K aa aa hc k=>wpAny_execs_nil (k _ _ K.ρ K.w K.F K.T hc .next)
theorem ag{st:Stmt}{rest:List Stmt}{a b:AS}(ha:iL Γ st a)(hb:nE Γ rest b):nE Γ (st::rest) (aq a b):=λ K aa aa hc k=>
 wpAny_execs_cons (ha K hc λ fl f ρ w F T p hf=>by
  cases hf with
  |next=>exact hb (K.jB ρ w F T) p k
  |cont=>exact k _ _ ρ w F T p .cont
  |ret hv=>exact k _ _ ρ w F T p (.ret hv))
def AF.turn(f:AF)(P:PF)(k:Loc->U->Prop)(ρ:Loc)(σ:U):Prop:=match f with
 |.ret v=>P (.ret v) ρ σ
 |_=>k ρ σ
noncomputable def f5(ns:List String)(t:AT)(b:AS):Nat->AS
 |0,_,_,_,_=>False
 |n+1,F,ρ,σ,P=>t F ρ σ λ x σ=>if x then b F ρ σ λ f ρ σ=>f.turn P (λ ρ σ=>f5 ns t b n F (pick ns ρ) σ P) ρ σ else P .next ρ σ
def iS(ns:List String)(t:AT)(b:AS):AS:=λ F ρ σ P=>∃n,f5 ns t b n F (pick ns ρ) σ P
theorem iK.mark{d:Nat}{A:Around}(R:iK d A):iK d (A.mark none):=⟨by show Option.or none A.handled=none;refine ae R.h ?_;rfl,R.dep,R.un⟩
inductive WhileI(K:Cx Γ)(ns:List String)(ct:AT)(cb:AS)(P:PF)(k:Nat):Shared->Prop
 |mk (ρ:Loc) (w:St Γ):w.FR K.env ρ->K.f.nS K.env w->f5 ns ct cb k Γ.F ρ w.σ P->WhileI K ns ct cb P k w.s
theorem fF{ns:List String}{t:Expr}{b:List Stmt}{pos:Pos}{ct:AT}{cb:AS}(ht:jD Γ t ct)(hb:nE Γ b cb):iL Γ (.While t b [] pos) (iS ns ct cb):=by
 intro K P Q hc k;obtain ⟨n,hc⟩:=hc;refine (?_:wpAny _ _ (standAt pos>>=λ aa=>runOwn (.whileLoop t b [] K.env) K.env) _ _ _);refine wpAny_bind (wpAny_standAt (wpAny_runOwn ?_ (by decide)));refine codeAny_whileLoop (I:=WhileI K ns ct cb P) (λ m s hI=>?_) n ⟨_,K.w,K.F.weaken λ aa aa h=>(gW h).2,K.T,hc⟩;induction hI with
 |mk ρ w F T h=>
  cases m with
  |zero=>exact h.elim
  |succ m=>
   refine ht ((K.jB ρ w F T).at _ _ K.R.mark) h λ x dx dC p=>?_;cases x with
   |false=>exact wpAny_execs_nil ((K.jB ρ w F T).kS k dx dC p .next)
   |true=>
    refine hb (((K.jB ρ w F T).at _ _ K.R.mark).yr dx dC) p λ fl f Yj mw Sh Ar p hf=>?_;cases hf with
    |ret hv=>exact k _ _ Yj mw Sh Ar p (.ret hv)
    |next=>exact ⟨m,Nat.lt_succ_self _,_,mw,Sh.weaken λ aa aa h=>(gW h).2,Ar,p⟩
    |cont=>exact ⟨m,Nat.lt_succ_self _,_,mw,Sh.weaken λ aa aa h=>(gW h).2,Ar,p⟩
end
end
section
set_option genInjectivity false
set_option genSizeOf false
inductive aL where
 |list(l i:Nat)
 |tup(vs:List AV)
 |lG(a c:Int)(n:Nat)
 |enum(l i:Nat)
 |text(x:String)(i:Nat)
 |zip(l:Nat)
noncomputable def ef(x:String):Bool:=["a","b","c","f","g"].contains x
theorem oN{x:String}(h:ef x=true):∃c,(Str.ofString x).cps=#[c]/\Str.ofString x=⟨#[c]⟩/\c<128:=by
 unfold ef at h;simp only [List.contains_cons,List.contains_nil,Bool.or_false,Bool.or_eq_true,beq_iff_eq]at h;rcases h with rfl|rfl|rfl|rfl|rfl
 ·exact ⟨97,rfl,by decide,by decide⟩
 ·exact ⟨98,rfl,by decide,by decide⟩
 ·exact ⟨99,rfl,by decide,by decide⟩
 ·exact ⟨102,rfl,by decide,by decide⟩
 ·exact ⟨103,rfl,by decide,by decide⟩
structure lT(fp:List Addr)(s:Shared)(lam:List Addr)(s':Shared):Prop where
 kx:Kx s.heap lam s'.heap lam
 keep:∀a o,a∉fp->s.heap.get? a=some o->s'.heap.get? a=some o
theorem HS.iter{G:Places}{s:Shared}{lam:List Addr}{σ:U}{h':Heap}{tk:Nat}{fp:List Addr}(H:HS G s lam σ)(hk:∀a o,a∉fp->s.heap.get? a=some o->h'.get? a=some o)(jF:∀b∈fp,b∉lam/\G.h₀.get? b=none)
  (ha:∀b∈fp,∃o,s.heap.get? b=some o/\∀items n,o.data≠.seq items n):HS G {s with heap:=h',toks:=tk} lam σ/\lT fp s lam {s with heap:=h',toks:=tk}:=by
 have kx:Kx s.heap lam h' lam:=⟨.refl _,λ a o items n aa aa hd ho=>by
   by_cases e:a∈fp
   ·refine bp (ha a e) λ o' gK hn=>?_;rw [ho]at gK;cases gK;exact absurd hd (hn _ _)
   ·exact hk a o e ho,λ aa h=>.inl h⟩
 refine ⟨⟨λ a o e=>hk a o (λ hm=>?_) (H.base a o e),H.gens,H.os,H.len,H.nodup,H.above,λ l a ao h1 h2=>(H.obj l a ao h1 h2).keep (λ o e=>hk a o (λ hm=>(jF a hm).1 (List.mem_of_getElem? h1)) e) kx⟩,kx,hk⟩;have:=(jF a hm).2;rw [e]at this;cases this
theorem cG.iter{env:Env}{s fA s':Shared}{lam NT:List Addr}{fp:List Addr}(S:cG env s lam fA NT)(N:lT fp fA NT s')(jF:∀b∈fp,s.heap.get? b=none):cG env s lam s' NT where
 kx:=S.kx.trans N.kx S.alive
 keep:=λ a o hn hw e=>N.keep a o (λ hm=>by rw [jF a hm]at e;cases e) (S.keep a o hn hw e)
 alive:=λ a o e=>let⟨o',e'⟩:=S.alive a o e;⟨o',N.keep a o' (λ hm=>by rw [jF a hm]at e;cases e) e'⟩
theorem FR.iter{G:Places}{env:Env}{s s':Shared}{lam:List Addr}{ρ:Loc}{fp:List Addr}(F:FR G s.heap lam env ρ)(N:lT fp s lam s')(jF:∀b∈fp,¬Hc env b):FR G s'.heap lam env ρ where
 loc:=by refine bp F.loc λ m hn hv=>?_;refine ⟨m,hn.at' λ o e=>N.keep _ o (λ hm=>jF _ hm (.inl rfl)) e,λ y av hk hr=>?_⟩;refine bp (hv y av hk hr) λ v hm jk=>?_;exact ⟨v,hm,jk.mono N.kx⟩
 cell:=λ y hk=>by
  refine nD (F.cell y hk) λ c ov hl hc hb hv=>?_;refine ⟨c,ov,hl,?_,hb,λ av hr=>?_⟩
  ·refine bp hc λ o ho hd=>?_;exact ⟨o,N.keep _ _ (λ hm=>jF _ hm (.inr (List.mem_map.mpr ⟨_,mem_of_lookup hl,rfl⟩))) ho,hd⟩
  ·refine bp (hv av hr) λ v e jk=>?_;exact ⟨v,e,jk.mono N.kx⟩
 apart:=F.apart
 new:=F.new
 base:=F.base
 cells:=λ p hp=>by refine xm (F.cells p hp) λ v o ho hd=>?_;exact ⟨v,o,N.keep _ _ (λ hm=>jF _ hm (.inr (List.mem_map.mpr ⟨_,hp,rfl⟩))) ho,hd⟩
def IR(h:Heap)(lam:List Addr):aL->Addr->List Addr->Prop
 |.list l i,it,fp=>∃a,h.IsListIter it a i/\lam[l]?=some a/\fp=[it]
 |.tup vs,it,fp=>∃t i n items,h.IsTupleIter it t i/\TT h lam t items n/\bq h lam vs (items.toList.drop i)/\fp=[it]
 |.lG a c n,it,fp=>IsRangeIter h it a n c/\fp=[it]
 |.enum l i,it,fp=>∃a li old,IsEnum h it li i old/\h.IsListIter li a i/\lam[l]?=some a/\it≠li/\fp=[it,li]
 |.text x i,it,fp=>∃t,h.IsStrIter it "str_ascii_iterator" (Str.ofString x) t i/\ef x=true/\fp=[it]
 |.zip l,it,fp=>lam[l]?=some it/\fp=[]
inductive cw(σ:U)(Pe:Prop)(Ps:AV->aL->Prop):aL->Prop
 |le {l i:Nat} {xs:List AV}:σ[l]?=some (.list xs)->xs.length<=i->Pe->cw σ Pe Ps (.list l i)
 |ls {l i:Nat} {xs:List AV} {x:AV}:σ[l]?=some (.list xs)->xs[i]?=some x->Ps x (.list l (i+1))->cw σ Pe Ps (.list l i)
 |te:Pe->cw σ Pe Ps (.tup [])
 |ts {v:AV} {vs:List AV}:Ps v (.tup vs)->cw σ Pe Ps (.tup (v::vs))
 |re {a c:Int}:Pe->cw σ Pe Ps (.lG a c 0)
 |rs {a c:Int} {n:Nat}:Ps (.int a) (.lG (a+c) c n)->cw σ Pe Ps (.lG a c (n+1))
 |ee {l i:Nat} {xs:List AV}:σ[l]?=some (.list xs)->xs.length<=i->Pe->cw σ Pe Ps (.enum l i)
 |es {l i:Nat} {xs:List AV} {x:AV}:σ[l]?=some (.list xs)->xs[i]?=some x->Ps (.tup [.int i,x]) (.enum l (i+1))->cw σ Pe Ps (.enum l i)
 |xe {x:String} {i:Nat}:Pe->cw σ Pe Ps (.text x (i+1))
 |xs {x:String}:Ps (.str x) (.text x 1)->cw σ Pe Ps (.text x 0)
def fb:aL->Prop
 |.enum _ _=>False
 |.zip _=>False
 |_=>True
def Q7(t:Expr)(x:aL):Prop:=fb x\/∃es k pos,t=.Tuple es k pos
theorem IR.alive{h:Heap}{lam:List Addr}{x:aL}{it:Addr}{fp:List Addr}(r:IR h lam x it fp):∀b∈fp,∃o,h.get? b=some o/\∀items n,o.data≠.seq items n:=by
 have one:∀{o:Obj},h.get? it=some o->(∀items n,o.data≠.seq items n)->∀b∈[it],∃o,h.get? b=some o/\∀items n,o.data≠.seq items n:=λ ho hd b hb=>by cases List.mem_singleton.mp hb;exact ⟨_,ho,hd⟩
 cases x with
 |list l i=>exact fO r λ a h1 aa e=>e▸fO h1 λ o ho aa hd=>one ho (by refine ae hd ?_;simp)
 |tup vs=>obtain ⟨t,i,n,items,h1,_,_,rfl⟩:=r;exact fO h1 λ o ho aa hd=>one ho (by refine ae hd ?_;simp)
 |lG a c n=>exact r.2▸one r.1 (by simp)
 |enum l i=>
  obtain ⟨a,li,old,h1,h2,_,_,rfl⟩:=r;refine fO h2 λ o ho aa hd=>λ b hb=>?_;rcases List.mem_cons.mp hb with rfl|hb
  ·exact ⟨_,h1,by simp⟩
  ·cases List.mem_singleton.mp hb;exact ⟨o,ho,by refine ae hd ?_;simp⟩
 |text x i=>exact fO r λ t h1 aa e=>e▸fO h1 λ o ho aa hd=>one ho (by refine ae hd ?_;simp)
 |zip l=>exact r.2▸λ b hb=>nomatch hb
theorem IR.keep{h h':Heap}{lam bK:List Addr}{x:aL}{it:Addr}{fp:List Addr}(r:IR h lam x it fp)(e:∀b∈fp,vg b h h')(k:Kx h lam h' bK):IR h' bK x it fp:=by
 cases x with
 |list l i=>obtain ⟨a,⟨o,ho,hr⟩,h2,rfl⟩:=r;exact ⟨a,⟨o,e it (.head _) o ho,hr⟩,k.ext _ _ h2,rfl⟩
 |tup vs=>obtain ⟨t,i,n,items,⟨o,ho,hr⟩,h2,h3,rfl⟩:=r;exact ⟨t,i,n,items,⟨o,e it (.head _) o ho,hr⟩,k.tt h2,h3.mono k,rfl⟩
 |lG a c n=>obtain ⟨h1,rfl⟩:=r;exact ⟨e it (.head _) _ h1,rfl⟩
 |enum l i=>obtain ⟨a,li,old,h1,⟨o,ho,hr⟩,h3,h4,rfl⟩:=r;exact ⟨a,li,old,e it (.head _) _ h1,⟨o,e _ (.tail _ (.head _)) o ho,hr⟩,k.ext _ _ h3,h4,rfl⟩
 |text x i=>obtain ⟨t,⟨o,ho,hr⟩,h2,rfl⟩:=r;exact ⟨t,⟨o,e it (.head _) o ho,hr⟩,h2,rfl⟩
 |zip l=>exact ⟨k.ext _ _ r.1,r.2⟩
theorem oO{M:Model}{A:Around}{E:Value->Shared->Prop}{s:Shared}{target:Expr}{it:Addr}{v:Value}{Q:Unit->Shared->Prop}(hq:∃o,s.heap.get? it=some o/\∃n,o.cls=.type n/\
  ["enumerate","zip","dict_itemiterator","dict_reverseitemiterator","odict_iterator","itertools.zip_longest","itertools.pairwise"].contains n=false)(h:Q () s):wpAny M A (letOwnedTupleGo target (.ref it) v) Q E s:=by
 obtain ⟨o,ho,n,hc,hn⟩:=hq;have key:wpAny M A (match(Value.ref it,v)with
  |(.ref r,.ref a)=>load r>>=λ o=>match o.cls,o.data with
   |.type n,.fields vs=>
    if["enumerate","zip","dict_itemiterator","dict_reverseitemiterator","odict_iterator","itertools.zip_longest","itertools.pairwise"].contains n&&vs[0]?==some (rawInt a)then do
     rule "for.unpacks-the-owned-tuple"
     updateField r 0 .none
    else pure ()
   |_,_=>pure ()
  |_=>pure ()) Q E s:=by
  cases v with
  |ref a=>
   refine wpAny_bind (wpAny_load ho ?_);refine ae hc ?_;cases hd:o.data with
   |fields vs=>simp only [hn,Bool.false_and,Bool.false_eq_true,if_false];exact wpAny_pure h
   |_=>exact wpAny_pure h
  |_=>exact wpAny_pure h
 cases target with
 |Tuple _ _ _=>exact key
 |List _ _=>exact key
 |_=>exact wpAny_pure h
section
variable{Γ:cZ}
theorem turn(K:Cx Γ){t:Expr}{x:aL}{it:Addr}{fp:List Addr}{Pe:Prop}{Ps:AV->aL->Prop}{Qn:Shared->Prop}{Qs:Value->Shared->Prop}{Q:Option Value->Shared->Prop}(hn:∀s,Qn s->Q none s)(hs:∀v s,wpAny Γ.M K.A (letOwnedTupleGo t (.ref it) v) (λ aa nT=>Qs v nT) K.E s->Q (some v) s)(hc:cw K.w.σ Pe Ps x)(hk:Q7 t x)(r:IR K.w.s.heap K.w.lam x it fp)(jF:∀b∈fp,b∉K.w.lam/\Γ.G.h₀.get? b=none)
  (kn:∀s'(H:HS Γ.G s' K.w.lam K.w.σ),lT fp K.w.s K.w.lam s'->Pe->Qn s')
  (ks:∀u v x' s'(H:HS Γ.G s' K.w.lam K.w.σ),lT fp K.w.s K.w.lam s'->Ps v x'->VR s'.heap K.w.lam v u->IR s'.heap K.w.lam x' it fp->Q7 t x'->(fb x->fb x')->Qs u s'):
  K.wp (pyNext (.ref it)) Q:=by
 have vy:=r.alive;have fin:∀{h':Heap}{tk:Nat},fp=[it]->(∀b o,b≠it->K.w.s.heap.get? b=some o->h'.get? b=some o)->HS Γ.G {K.w.s with heap:=h',toks:=tk} K.w.lam K.w.σ/\lT fp K.w.s K.w.lam {K.w.s with heap:=h',toks:=tk}:=λ e hb=>K.w.H.iter (λ b o hn=>hb b o λ q=>hn (by rw [e,q];exact .head _)) jF vy
 have sb:∀{h':Heap},Heap.SameBut it K.w.s.heap h'->∀b o,b≠it->K.w.s.heap.get? b=some o->h'.get? b=some o:=λ hs b o hb e=>(hs.2 b hb).trans e;induction hc with
 |le hx hi p=>
  refine fO r λ a h1 h2 hf=>?_;exact K.w.dv h2 hx λ items n g1 g2 hl=>wpAny_pyNext_list_end K.R.h h1 ⟨_,g1,rfl,_,rfl⟩ (Array.getElem?_eq_none_iff.mpr (Nat.le_trans (bP hl) hi)) λ h' hB=>
   have h:=fin (tk:=K.w.s.toks) hf λ b o hb e=>hB b o hb e
   hn _ (kn _ h.1 h.2 p)
 |ls hx hy p=>
  refine fO r λ a h1 h2 hf=>?_;refine K.w.dv h2 hx λ items n g1 g2 hl=>bp (bq.get g2 _ hy) λ v hv jk=>wpAny_pyNext_list_item h1 ⟨_,g1,rfl,_,rfl⟩ (x:=v) (by rw [<-hv,Array.getElem?_toList]) λ h' hi hB=>?_;have h:=fin (tk:=K.w.s.toks) hf (sb hB);exact hs _ _ (oO (fO hi λ o ho hc aa=>⟨o,ho,_,hc,by decide⟩) (ks _ _ _ _ h.1 h.2 p (jk.mono h.2.kx) ⟨a,hi,h2,hf⟩ hk λ aa=>trivial))
 |te p=>
  refine Uo r λ t i n items h1 h2 h3 hf=>?_;exact wpAny_pyNext_tuple_end K.R.h h1 ⟨_,h2.2,rfl,_,rfl⟩ (by have:=h3.length;simp at this;rw [Array.getElem?_eq_none_iff];lia) λ h' hB=>
   have h:=fin (tk:=K.w.s.toks) hf λ b o hb e=>hB b o hb e
   hn _ (kn _ h.1 h.2 p)
 |ts p=>
  refine Uo r λ t i n items h1 h2 h3 hf=>?_;have dP:i<items.toList.length:=by have:=h3.length;simp at this;simp;lia
  rw [List.drop_eq_getElem_cons dP]at h3;cases h3 with
  |cons hv dQ=>
   refine wpAny_pyNext_tuple_item h1 ⟨_,h2.2,rfl,_,rfl⟩ (by rw [<-Array.getElem?_toList];exact List.getElem?_eq_getElem dP) λ h' hi hB=>?_;have h:=fin (tk:=K.w.s.toks) hf (sb hB);exact hs _ _ (oO (fO hi λ o ho hc aa=>⟨o,ho,_,hc,by decide⟩) (ks _ _ _ _ h.1 h.2 p (hv.mono h.2.kx) ⟨_,_,_,_,hi,h.2.kx.tt h2,dQ.mono h.2.kx,hf⟩ hk λ aa=>trivial))
 |re p=>
  refine r.elim λ h1 hf=>?_;exact wpAny_pyNext_range_end K.R.h h1 (by simp) λ h' hB=>
   have h:=fin (tk:=K.w.s.toks) hf λ b o hb e=>hB b o hb e
   hn _ (kn _ h.1 h.2 p)
 |@rs a c n p=>
  refine r.elim λ h1 hf=>?_;refine wpAny_pyNext_range_item h1 (by lia) λ h' hi hB=>?_;have h:=fin (tk:=K.w.s.toks+1) hf (sb hB);rw [show((n+1:Nat):Int) -1=n by lia]at hi;exact hs _ _ (oO ⟨_,hi,_,rfl,by decide⟩ (ks _ _ _ _ h.1 h.2 p (.int _ _) ⟨hi,hf⟩ hk λ aa=>trivial))
 |ee hx hi p=>
  refine NH r λ a li old h1 h2 h3 h4 hf=>?_;refine K.w.dv h3 hx λ items n g1 g2 hl=>wpAny_pyNext_enum_end K.R.h h1 h2 ⟨_,g1,rfl,_,rfl⟩ (Array.getElem?_eq_none_iff.mpr (Nat.le_trans (bP hl) hi)) λ h' hB=>?_;have h:=K.w.H.iter (tk:=K.w.s.toks) (λ b o hb e=>hB b o (λ q=>hb (q▸hf▸.tail _ (.head _))) e) jF vy;exact hn _ (kn _ h.1 h.2 p)
 |es hx hy p=>
  refine NH r λ a li old h1 h2 h3 h4 hf=>?_;rcases hk with hk|⟨es,k,pos,rfl⟩
  ·exact hk.elim
  refine K.w.dv h3 hx λ items n g1 g2 hl=>bp (bq.get g2 _ hy) λ v hv jk=>wpAny_pyNext_enum_item h1 h2 ⟨_,g1,rfl,_,rfl⟩ (x:=v) (cA hv<|ae Array.getElem?_toList rfl) h4 λ h' ho hi ht fV hk=>?_;refine hs _ _ (wpAny_letOwnedTupleGo_enum (s:={K.w.s with heap:=h',toks:=K.w.s.toks+1}) ho λ mY he hB=>?_);have h:=K.w.H.iter (h':=mY) (tk:=K.w.s.toks+1) (λ b o hb e=>(hB.2 b λ q=>hb (q▸hf▸.head _)).trans (hk b o (λ q=>hb (q▸hf▸.head _)) (λ q=>hb (q▸hf▸.tail _ (.head _))) e)) jF vy;exact ks _ _ _ _ h.1 h.2 p (.tup (items:=#[.int _ K.w.s.toks,v]) (n:=0) ⟨K.w.mu,(hB.2 _ (Nat.ne_of_gt (Heap.lt_size h1))).trans ht⟩ (.cons (.int _ _) (.cons (jk.mono h.2.kx) .nil)) (Nat.le_of_ble_eq_true rfl))
   ⟨a,li,_,he,bp hi λ o gK hr=>⟨o,(hB.2 _ (Ne.symm h4)).trans gK,hr⟩,h3,h4,hf⟩ (.inr ⟨_,_,_,rfl⟩) id
 |xe p=>
  refine fO r λ t h1 h2 hf=>?_;exact fO (oN h2) λ c sO yn UC=>wpAny_pyNext_ascii_end K.R.h h1 (by refine ae sO ?_;exact rfl) λ h' hB=>
   have h:=fin (tk:=K.w.s.toks) hf λ b o hb e=>hB b o hb e
   hn _ (kn _ h.1 h.2 p)
 |xs p=>refine fO r λ t h1 h2 hf=>?_;refine fO (oN h2) λ c sO yn UC=>wpAny_pyNext_ascii_item h1 (c:=c) (by refine ae sO ?_;rfl) λ h' hi hB=>?_;have h:=fin (tk:=K.w.s.toks+1) hf (sb hB);exact hs _ _ (oO (fO hi λ o ho hc aa=>⟨o,ho,_,hc,by decide⟩) (ks _ _ _ _ h.1 h.2 p (.str _ _ yn.symm) ⟨t,hi,h2,hf⟩ hk λ aa=>trivial))
abbrev AI:=bS->Loc->U->(aL->U->Prop)->Prop
def Apart(K:Cx Γ)(fp:List Addr):Prop:=∀b∈fp,Γ.G.h₀.get? b=none/\¬Hc K.env b/\K.f.s.heap.get? b=none
def St.It(w:St Γ)(x:aL)(it:Addr)(fp:List Addr):Prop:=IR w.s.heap w.lam x it fp/\∀b∈fp,b∉w.lam
theorem HS.xA{G:Places}{s:Shared}{lam:List Addr}{σ:U}{b:Addr}(H:HS G s lam σ)(hb:s.heap.get? b=none):G.h₀.get? b=none:=by
 cases e:G.h₀.get? b with
 |none=>rfl
 |some o=>exact nomatch hb.symm.trans (H.base b o e)
theorem qD{G:Places}{h:Heap}{env:Env}{lam:List Addr}{ρ:Loc}{b:Addr}(F:FR G h lam env ρ)(hb:h.get? b=none):¬Hc env b:=λ hw=>by
 rcases hw with rfl|hw
 ·obtain ⟨m,⟨o,_,_,ho,_⟩,_⟩:=F.loc;rw [ho]at hb;cases hb
 ·obtain ⟨p,hp,rfl⟩:=List.mem_map.mp hw;obtain ⟨v,o,ho,_⟩:=F.cells p hp;rw [ho]at hb;cases hb
theorem Cx.apart(K:Cx Γ){fp:List Addr}(h:∀b∈fp,K.w.s.heap.get? b=none):Apart K fp:=λ b hb=>⟨K.w.H.xA (h b hb),qD K.F (h b hb),by
 cases e:K.f.s.heap.get? b with
 |none=>rfl
 |some o=>exact dM (K.T.alive b o e) λ o' e'=>nomatch(h b hb).symm.trans e'⟩
theorem St.It.step{K:Cx Γ}{w w':St Γ}{x:aL}{it:Addr}{fp:List Addr}(r:w.It x it fp)(h:Apart K fp)(S:St.nS K.env w w'):w'.It x it fp:=
 ⟨r.1.keep (λ b hb o e=>S.keep b o (r.2 b hb) (λ q=>(h b hb).2.1 q.all) e) S.kx,λ b hb=>bp (r.1.alive b hb) λ o ho aa=>S.kx.out (r.2 b hb) ho⟩
def Cx.KI(K:Cx Γ)(kd:aL->Prop)(P:aL->U->Prop)(Q:Value->Shared->Prop):Prop:=∀it x(w:St Γ)fp,K.w.Le w->P x w.σ->kd x->w.It x it fp->(∀b∈fp,K.w.s.heap.get? b=none)->Q (.ref it) w.s
def mA(Γ:cZ)(kd:aL->Prop)(e:Expr)(c:AI):Prop:=∀(K:Cx Γ){P:aL->U->Prop}{Q:Value->Shared->Prop},c Γ.F K.ρ K.w.σ P->K.KI kd P Q->K.wp (eval e K.env) λ v fA=>wpAny Γ.M K.A (pyIter v) Q K.E fA
noncomputable def gy(ns:List String)(g:AG)(b:AS):Nat->aL->AS
 |0,_,_,_,_,_=>False
 |n+1,x,F,ρ,σ,P=>cw σ (P .next ρ σ) (λ v x=>g F v ρ σ λ ρ σ=>b F ρ σ λ f ρ σ=>f.turn P (λ ρ σ=>gy ns g b n x F (pick ns ρ) σ P) ρ σ) x
def iO(ns:List String)(c:AI)(g:AG)(b:AS):AS:=λ F ρ σ P=>c F ρ σ λ x σ=>∃n,gy ns g b n x F (pick ns ρ) σ P
inductive UD(K:Cx Γ)(ns:List String)(t:Expr)(g:AG)(cb:AS)(it:Addr)(fp:List Addr)(P:PF)(k:Nat):Shared->Prop
 |mk (ρ:Loc) (w:St Γ) (x:aL):w.FR K.env ρ->K.f.nS K.env w->w.It x it fp->Q7 t x->gy ns g cb k x Γ.F ρ w.σ P->UD K ns t g cb it fp P k w.s
theorem eL{ns:List String}{t e:Expr}{b:List Stmt}{pos:Pos}{kd:aL->Prop}{c:AI}{g:AG}{cb:AS}(he:mA Γ kd e c)(hg:ig Γ t g)(hb:nE Γ b cb)
  (hf:∀env x,foldedSetIterable e env x=pure x)(ht:∀x,kd x->Q7 t x):iL Γ (.For t e b [] pos) (iO ns c g cb):=λ K P Q hc k=>
 wpAny_For (he K hc λ it x w fp S p hx r jF=>by
  obtain ⟨n,p⟩:=p;have ap:=K.apart jF;refine codeAny_forLoop_any (I:=UD K ns t g cb it fp P) (λ m s hI=>?_) n ⟨_,w,x,(FR.step K.F K.w.H S).weaken λ aa aa h=>(gW h).2,cG.trans K.T (Step.toF S w.H),r,ht x hx,p⟩;induction hI with
  |mk ρ w x F T r hx p=>
   cases m with
   |zero=>exact p.elim
   |succ m=>
    refine turn ((K.jB ρ w F T).at K.A _ K.R) (λ aa h=>h) (λ aa aa h=>h) p hx r.1 (λ b hb=>⟨r.2 b hb,(ap b hb).1⟩) (λ s' H N p=>?_) λ u v x' s' H N p hv ir hx aa=>?_
    ·exact wpAny_execs_nil (k _ _ ρ ⟨s',_,_,H⟩ (F.iter N λ b hb=>(ap b hb).2.1) (cG.iter T N λ b hb=>(ap b hb).2.2) p .next)
    ·refine hg ((K.jB ρ ⟨s',_,_,H⟩ (F.iter N λ b hb=>(ap b hb).2.1) (cG.iter T N λ b hb=>(ap b hb).2.2)).at K.A _ K.R).rf p hv λ aai dx UE nZ p=>?_;have Yk:=St.It.step (K:=K) (w:=⟨s',_,_,H⟩) ⟨ir,r.2⟩ ap nZ;have Ar:=cG.trans (cG.iter T N λ b hb=>(ap b hb).2.2) nZ;refine hb ((K.jB aai dx UE Ar).at K.A _ K.R).rf p λ fl f abW nF aaj Kk p hf=>?_;cases hf with
     |ret hv=>exact k _ _ abW nF aaj (cG.trans Ar Kk) p (.ret hv)
     |next=>exact ⟨m,Nat.lt_succ_self _,_,nF,x',aaj.weaken λ aa aa h=>(gW h).2,cG.trans Ar Kk,Yk.step ap Kk,hx,p⟩
     |cont=>exact ⟨m,Nat.lt_succ_self _,_,nF,x',aaj.weaken λ aa aa h=>(gW h).2,cG.trans Ar Kk,Yk.step ap Kk,hx,p⟩) (hf _)
end
end
section
set_option genInjectivity false
set_option genSizeOf false
noncomputable def intsOf:List AV->Option (List Int)
 |[]=>some []
 |.int i::r=>(match intsOf r with|some ns=>some (i::ns)|none=>none)
 |_::_=>none
theorem uq{h:Heap}{lam:List Addr}{cB:List AV}{vs:List Value}(x:bq h lam cB vs):∀{ns:List Int},intsOf cB=some ns->∃xs:List (Int×Tok),vs=xs.map (λ p=>Value.int p.1 p.2)/\xs.map (·.1)=ns:=by
 refine x.ind (λ cB vs=>∀{ns:List Int},intsOf cB=some ns->∃xs:List (Int×Tok),vs=xs.map (λ p=>Value.int p.1 p.2)/\xs.map (·.1)=ns) (λ e=>⟨[],rfl,Option.some.inj e⟩) λ{a v as vs}h1 aa ih ns e=>?_;cases a with
 |int i=>
  obtain ⟨t,rfl⟩:=h1.oG;obtain ⟨vz,e1,rfl⟩:∃vz,intsOf as=some vz/\i::vz=ns:=by
   simp only [intsOf]at e;split at e
   ·rename_i q;exact ⟨_,q,Option.some.inj e⟩
   ·cases e
  obtain ⟨xs,rfl,rfl⟩:=ih e1;exact ⟨(i,t)::xs,rfl,rfl⟩
 |_=>cases e
theorem bq.ints{h:Heap}{lam:List Addr}{xs:List (Int×Tok)}:bq h lam (xs.map λ p=>AV.int p.1) (xs.map λ p=>Value.int p.1 p.2):=by
 induction xs with
 |nil=>exact .nil
 |cons p r ih=>exact .cons (.int _ _) ih
theorem Yl(ns:List Int):intsOf (ns.map .int)=some ns:=by
 induction ns with
 |nil=>rfl
 |cons n r ih=>simp [intsOf,ih]
theorem EN(f:Nat->Int):∀n,∀j,j<=n->f j<=f (argBest (λ i j=>decide (f i>f j)) n):=by
 intro bD;induction bD with
 |zero=>
  intro j h;have:j=0:=Nat.le_antisymm h (Nat.zero_le _);subst this;simp [argBest]
 |succ n ih=>
  intro j h;unfold argBest;have ih:=ih;by_cases hc:f (n+1)>f (argBest (λ i j=>decide (f i>f j)) n)
  ·refine ae (if_pos (decide_eq_true hc)) ?_;by_cases hj:j=n+1
   ·subst hj;exact Int.le_refl _
   ·have:=ih j (Nat.le_of_lt_succ (Nat.lt_of_le_of_ne h hj));lia
  ·refine ae (if_neg (by simpa using hc)) ?_;by_cases hj:j=n+1
   ·subst hj;lia
   ·exact ih j (Nat.le_of_lt_succ (Nat.lt_of_le_of_ne h hj))
noncomputable def maxOf:List Int->Int
 |[]=>0
 |[n]=>n
 |n::m::r=>max n (maxOf (m::r))
theorem Si(n m:Int)(r:List Int):maxOf (n::m::r)=max n (maxOf (m::r)):=rfl
theorem Hq{ns:List Int}{M:Int}(h1:M∈ns)(h2:∀a∈ns,a<=M):maxOf ns=M:=by
 have:∀l:List Int,l≠[]->maxOf l∈l/\∀a∈l,a<=maxOf l:=by
  intro l;induction l with
  |nil=>intro h;exact absurd rfl h
  |cons a l ih=>
   intro _;cases l with
   |nil=>exact ⟨.head _,λ b h=>by cases List.mem_singleton.mp h;exact Int.le_refl _⟩
   |cons b l=>
    rw [Si];have h:=ih (by simp);refine ⟨(Int.le_total a (maxOf (b::l))).elim (λ q=>?_) λ q=>?_,λ c hc=>(List.mem_cons.mp hc).elim (λ e=>e▸Int.le_max_left ..) λ hc=>Int.le_trans (h.2 c hc) (Int.le_max_right ..)⟩
    ·refine ae (Int.max_eq_right q) ?_;exact List.mem_cons_of_mem _ h.1
    ·refine ae (Int.max_eq_left q) ?_;exact .head _
 have:=this ns λ e=>by subst e;cases h1
 exact Int.le_antisymm (h2 _ this.1) (this.2 _ h1)
noncomputable def ins(n:Int):List Int->List Int
 |[]=>[n]
 |m::r=>if n<=m then n::m::r else m::ins n r
theorem A_(n m:Int)(r:List Int):ins n (m::r)=if n<=m then n::m::r else m::ins n r:=rfl
theorem Q8(n:Int):ins n []=[n]:=rfl
noncomputable def hU:List Int->List Int
 |[]=>[]
 |n::r=>ins n (hU r)
theorem FV(n:Int)(r:List Int):hU (n::r)=ins n (hU r):=rfl
theorem Sj:hU []=[]:=rfl
theorem BI(n:Int):∀l,(ins n l).Perm (n::l):=by
 intro bD;induction bD with
 |nil=>
  skip;exact .refl _
 |cons m r ih=>
  skip;rw [A_];split
  ·exact .refl _
  ·exact ((ih).cons m).trans (.swap n m r)
theorem iA:∀l,(hU l).Perm l:=by
 intro bD;induction bD with
 |nil=>
  skip;exact .refl _
 |cons n r ih=>skip;exact (BI n _).trans ((ih).cons n)
theorem Hr(n:Int):∀{l:List Int},l.Pairwise (·<=·)->(ins n l).Pairwise (·<=·):=by
 intro bD;induction bD with
 |nil=>
  intro zz;simp [Q8]
 |cons m r ih=>
  intro h;rw [A_];rw [List.pairwise_cons]at h;split
  ·rename_i hle;refine List.pairwise_cons.mpr ⟨λ a ha=>?_,List.pairwise_cons.mpr h⟩;rcases List.mem_cons.mp ha with rfl|ha
   ·exact hle
   ·have:=h.1 a ha;lia
  ·rename_i hle;refine List.pairwise_cons.mpr ⟨λ a ha=>?_,ih h.2⟩;rcases List.mem_cons.mp ((BI n r).mem_iff.mp ha)with rfl|ha
   ·lia
   ·exact h.1 a ha
theorem mB:∀l,(hU l).Pairwise (·<=·):=by
 intro bD;induction bD with
 |nil=>
  skip;exact .nil
 |cons n r ih=>skip;exact Hr n (ih)
theorem pR{a b:List Int}(h:a.Perm b)(ha:a.Pairwise (·<=·))(hb:b.Pairwise (·<=·)):a=b:=by
 induction a generalizing b with
 |nil=>exact h.nil_eq
 |cons x a ih=>cases b with
  |nil=>exact absurd h.symm (by simp)
  |cons y b=>
   rw [List.pairwise_cons]at ha hb;have hx:x∈y::b:=h.mem_iff.mp (.head _);have hy:y∈x::a:=h.mem_iff.mpr (.head _);have e:x=y:=by
    rcases List.mem_cons.mp hx with e|hx
    ·exact e
    ·rcases List.mem_cons.mp hy with e|hy
     ·exact e.symm
     ·exact Int.le_antisymm (ha.1 y hy) (hb.1 x hx)
   subst e;exact ae (ih ((List.perm_cons x).mp h) ha.2 hb.2) rfl
theorem intsAre_of(ps:List (Int×Tok)):IntsAre (ps.map λ p=>Value.int p.1 p.2) (ps.map (·.1)):=by
 induction ps with
 |nil=>exact .nil
 |cons p r ih=>exact .cons _ _ ih
theorem bq.ofInts{h:Heap}{lam:List Addr}{vs:List Value}{ns:List Int}(x:IntsAre vs ns):bq h lam (ns.map .int) vs:=
 @IntsAre.rec (λ vs ns aa=>bq h lam (ns.map .int) vs) .nil (λ n t aa aa aa r=>.cons (.int n t) r) _ _ x
section
variable{h:Heap} {lam:List Addr} {vs:List Value} {C:List Value->Prop}
theorem bq.k1{a:AV}(x:bq h lam [a] vs)(k:∀v,VR h lam a v->C [v]):C vs:=by cases x with|cons h1 h2=>cases h2;exact k _ h1
theorem bq.k2{a b:AV}(x:bq h lam [a,b] vs)(k:∀v u,VR h lam a v->VR h lam b u->C [v,u]):C vs:=by cases x with|cons h1 h2=>exact h2.k1 (C:=λ vs=>C (_::vs)) λ aa h3=>k _ _ h1 h3
theorem bq.k3{a b c:AV}(x:bq h lam [a,b,c] vs)(k:∀v u w,VR h lam a v->VR h lam b u->VR h lam c w->C [v,u,w]):C vs:=by cases x with|cons h1 h2=>exact h2.k2 (C:=λ vs=>C (_::vs)) λ aa aa h3 h4=>k _ _ _ h1 h3 h4
end
section
variable{Γ:cZ}
theorem Cx.kg(K:Cx Γ){P:PV}{Q:Value->Shared->Prop}{v:AV}{u:Value}{h':Heap}{tk:Nat}(k:K.KV P Q)(p:P v K.w.σ)(hk:∀b o,K.w.s.heap.get? b=some o->h'.get? b=some o)(hv:VR h' K.w.lam v u):Q u {K.w.s with heap:=h',toks:=tk}:=
 K.kn k (K.w.H.grow (s':={K.w.s with heap:=h',toks:=tk}) hk rfl rfl) p hv
theorem Cx.kl(K:Cx Γ){P:PV}{Q:Value->Shared->Prop}{cB:List AV}{vs:Array Value}{n:Nat}{h':Heap}{tk:Nat}{a:Addr}(k:K.KV P Q)(p:P (.ref K.w.σ.length) (K.w.σ++[.list cB]))(hk:∀b o,K.w.s.heap.get? b=some o->h'.get? b=some o)
  (ha:K.w.s.heap.get? a=none)(hl:IsL h' a vs n)(hv:K.w.Rs cB vs.toList)(hz:cB.length<=10000):Q (.ref a) {K.w.s with heap:=h',toks:=tk}:=
 K.kn k (K.w.H.new (s':={K.w.s with heap:=h',toks:=tk}) (a:=a) (ao:=.list cB) hk ha rfl rfl (.list hl (bq.mono (.snoc hk ha) hv) hz)) p (.ref (by refine cA K.w.H.len ?_;exact List.getElem?_concat_length ..))
theorem IsL.il{h:Heap}{a:Addr}{items:Array Value}{n:Nat}(x:IsL h a items n):h.IsList a items:=⟨_,x,rfl,_,rfl⟩
theorem TT.it{h:Heap}{lam:List Addr}{a:Addr}{items:Array Value}{n:Nat}(x:TT h lam a items n):h.IsTuple a items:=⟨_,x.2,rfl,_,rfl⟩
theorem St.Ba(w:St Γ){l:Nat}{a:Addr}{xs:List AV}{ns:List Int}(hl:w.lam[l]?=some a)(hs:w.σ[l]?=some (.list xs))(hn:intsOf xs=some ns){C:Prop}(k:∀(ps:List (Int×Tok))n,IsL w.s.heap a (intItems ps.toArray) n->ps.map (·.1)=ns->C):C:=
 w.dv hl hs λ items n g1 g2 aa=>bp (uq g2 hn) λ ps e1 e2=>k ps n (by refine ae (show intItems ps.toArray=items from Array.toList_inj.mp (by rw [e1];simp [intItems])) ?_;exact g1) e2
inductive bx(σ:U)(P:PV):List AV->Prop
 |l {l:Nat} {xs:List AV}:σ[l]?=some (.list xs)->P (.int xs.length) σ->bx σ P [.ref l]
 |t {vs:List AV}:P (.int vs.length) σ->bx σ P [.tup vs]
theorem cv:iM Γ (.builtin "len") bx:=by
 intro K x v Pr Q hc;induction hc with
 |l hx p=>
  intro hv k;apply hv.k1;intro u hu;apply hu.kr;intro a hl;have hz:=K.w.lz hl hx;exact K.w.dv hl hx λ items n g1 g2 e=>Calls.call_len_list (IsL.il g1) (by lia) (K.k1 k (e▸p) (.int _ _) _)
 |@t vs p=>intro hv k;apply hv.k1;intro u hu;have hz:=hu.kz;apply hu.kt;intro a items n ht dQ;have e:vs.length=items.size:=dQ.length.trans (Array.length_toList ..);exact P.len_tuple ht.2 (by lia) (K.k1 k (e▸p) (.int _ _) _)
inductive j7(σ:U)(P:PV):List AV->Prop
 |i {a b:Int}:P (.int (if b>a then b else a)) σ->j7 σ P [.int a,.int b]
 |l {l:Nat} {xs:List AV} {ns:List Int}:σ[l]?=some (.list xs)->intsOf xs=some ns->0<ns.length->P (.int (maxOf ns)) σ->j7 σ P [.ref l]
theorem Kl{ps:List (Int×Tok)}{ns:List Int}(e2:ps.map (·.1)=ns)(h:argBest (λ i j=>decide (numAt ps.toArray i>numAt ps.toArray j)) (ps.toArray.size -1)<ns.length):
  maxOf ns=numAt ps.toArray (argBest (λ i j=>decide (numAt ps.toArray i>numAt ps.toArray j)) (ps.toArray.size -1)):=by
 have BJ:∀i,i<ns.length->ns[i]?=some (numAt ps.toArray i):=λ i hi=>by
  have:i<ps.length:=by rw [<-e2]at hi;simpa using hi
  refine cA e2 ?_;simp [numAt,this]
 refine Hq (List.mem_of_getElem? (BJ _ h)) λ a ha=>dM (List.mem_iff_getElem?.mp ha) λ i hi=>?_;have gL:=(List.getElem?_eq_some_iff.mp hi).1;have fV:ps.toArray.size=ns.length:=by refine cA e2 ?_;exact (List.length_map ..).symm
 rw [BJ i gL]at hi;cases hi;exact EN _ _ i (e_ gL (bP fV) (bP (Nat.sub_add_cancel (cI (bP fV) gL (by simp+arith only):(1)<=(ps.toArray.size)))) (by simp+arith only))
theorem vA:iM Γ (.builtin "max") j7:=by
 intro K x v P Q hc;induction hc with
 |@i a b p=>
  intro hv k;apply hv.k2;intro u w h1 h2;apply h1.ki;intro t;apply h2.ki;intro t';exact max_two_ints K.R.h λ h' tk hk=>K.kg k p hk (by split<;>exact .int _ _)
 |l hx iR j8 p=>intro hv k;apply hv.k1;intro u hu;apply hu.kr;intro a hl;refine K.w.Ba hl hx iR λ ps n g1 e2=>?_;have fV:ps.toArray.size=ps.length:=rfl;have f6:=congrArg List.length e2;rw [List.length_map]at f6;refine max_intList K.R.h (IsL.il g1) (e_ j8 (bP fV) (bP f6) (by simp+arith only)) λ v h' tk lF hk=>?_;obtain ⟨t,rfl⟩:=intItems_at lF;have dP:=(Array.getElem?_eq_some_iff.mp lF).1;simp [intItems]at dP;exact K.kg k p hk (Kl e2 (by simpa [f6]using dP)▸.int _ _)
inductive BK(σ:U)(P:PV):List AV->Prop
 |i {a b:Int}:P (.int (if b<a then b else a)) σ->BK σ P [.int a,.int b]
theorem UG:iM Γ (.builtin "min") BK:=by
 intro K x v P Q hc;induction hc with
 |@i a b p=>intro hv k;apply hv.k2;intro u w h1 h2;apply h1.ki;intro t;apply h2.ki;intro t';exact min_two_ints K.R.h λ h' tk hk=>K.kg k p hk (by split<;>exact .int _ _)
noncomputable def Bb(ns:List Int):Bool:=ns.all (λ n=>decide (0<=n/\n<=1000000000))&&decide (ns.length<=1000)
inductive BL(σ:U)(P:PV):List AV->Prop
 |l {l:Nat} {xs:List AV} {ns:List Int}:σ[l]?=some (.list xs)->intsOf xs=some ns->Bb ns=true->P (.int ns.sum) σ->BL σ P [.ref l]
theorem Km{ps:List (Int×Tok)}{ns:List Int}(e2:ps.map (·.1)=ns)(ik:Bb ns=true):ps.length=ns.length/\ns.length<=1000/\∀k,preSum (numAt ps.toArray) k=(ns.take k).sum/\(0<=preSum (numAt ps.toArray) k/\preSum (numAt ps.toArray) k<=1000000000*k)/\0<=numAt ps.toArray k/\numAt ps.toArray k<=1000000000:=by
 unfold Bb at ik;simp only [Bool.and_eq_true,List.all_eq_true,decide_eq_true_eq]at ik;have BJ:∀i,numAt ps.toArray i=(ns[i]?).getD 0:=λ i=>by rw [<-e2];simp [numAt]
 have UH:∀i,0<=numAt ps.toArray i/\numAt ps.toArray i<=1000000000:=λ i=>by
  rw [BJ];cases e:ns[i]?with
  |none=>decide
  |some m=>exact ik.1 m (List.mem_of_getElem? e)
 refine ⟨by rw [<-e2,List.length_map],ik.2,λ k=>⟨?_,?_,UH k⟩⟩
 ·induction k with
  |zero=>simp [preSum]
  |succ k ih=>refine (?_:preSum (numAt ps.toArray) k+numAt ps.toArray k=_);rw [ih,BJ,List.take_add_one];cases ns[k]?<;>simp
 ·induction k with
  |zero=>simp [preSum]
  |succ k ih=>refine (?_:0<=preSum (numAt ps.toArray) k+numAt ps.toArray k/\preSum (numAt ps.toArray) k+numAt ps.toArray k<=_);have hb:=UH k;constructor<;>lia
theorem UI:iM Γ (.builtin "sum") BL:=by
 intro K x v P Q hc;induction hc with
 |@l l xs ns hx iR ik p=>
  intro hv k;apply hv.k1;intro u hu;apply hu.kr;intro a hl;refine K.w.Ba hl hx iR λ ps n g1 e2=>Uk (Km e2 ik) λ hlen hz ur=>sum_intList K.R.h (IsL.il g1) (λ j hj=>?_) λ h' tk t' hk=>K.kg k p hk ?_
  ·have hb:=(ur j).2.2;have hp:=(ur (j+1)).2.1;have ZE:j<ns.length:=by simpa [hlen]using hj
   unfold InLong;constructor<;>constructor<;>lia
  ·refine ae ((ur _).1)<|ae (show ps.toArray.size=ns.length by exact hlen)<|ae List.take_length ?_;exact .int _ _
inductive d8(σ:U)(P:PV):List AV->Prop
 |l {l:Nat} {xs:List AV}:σ[l]?=some (.list xs)->P (.tup xs) σ->d8 σ P [.ref l]
 |t {vs:List AV}:P (.tup vs) σ->d8 σ P [.tup vs]
theorem St.Ym(w:St Γ){h':Heap}(hk:∀b o,w.s.heap.get? b=some o->h'.get? b=some o):h'.objs.size∉w.lam:=λ hm=>w.H.ui hm λ aa ho aa=>Nat.lt_irrefl _ (Heap.lt_size (hk _ _ ho))
theorem ip:iM Γ (.type "tuple") d8:=by
 intro K x v P Q hc;induction hc with
 |l hx p=>
  intro hv k;apply hv.k1;intro u hu;apply hu.kr;intro a hl;have hz:=K.w.lz hl hx;exact K.w.dv hl hx λ items n g1 g2 e=>call_tuple_list (IsL.il g1) (λ h' hk=>
   have eB:=λ b o(e:K.w.s.heap.get? b=some o)=>Heap.get?_push_of_some {cls:=.type "tuple",data:=.seq items} (hk b o e)
   K.kg (tk:=K.w.s.toks) k p eB (.tup (n:=0) ⟨K.w.Ym hk,Heap.get?_push_size _ rfl⟩ (bq.mono (.grow eB) g2) hz)) (Nat.le_trans (e▸hz) (Nat.le_trans (by decide) cN))
 |t p=>intro hv k;apply hv.k1;intro u hu;have hz:=hu.kz;apply hu.kt;intro a items n ht dQ;exact call_tuple_same ht.it (K.k0 k p (.tup ht dQ hz))
inductive Hs(σ:U)(P:PV):List AV->Prop
 |l {l:Nat} {xs:List AV}:σ[l]?=some (.list xs)->P (.ref σ.length) (σ++[.list xs])->Hs σ P [.ref l]
theorem Kn:iM Γ (.type "list") Hs:=by
 intro K x v P Q hc;induction hc with
 |l hx p=>intro hv k;apply hv.k1;intro u hu;apply hu.kr;intro a hl;have hz:=K.w.lz hl hx;exact K.w.dv hl hx λ items n g1 g2 e=>call_list_seq a (.inl rfl) g1 rfl rfl (λ h' c' hk hD=>K.kl (tk:=K.w.s.toks) k p hk (Heap.get?_none_of_le (Nat.le_refl _)) hD g2 hz) (Nat.le_trans (e▸hz) (Nat.le_trans (by decide) cN))
inductive xB(σ:U)(P:PV):List AV->Prop
 |l {l:Nat} {xs:List AV} {ns:List Int}:σ[l]?=some (.list xs)->intsOf xs=some ns->ns.length<64->P (.ref σ.length) (σ++[.list ((hU ns).map .int)])->xB σ P [.ref l]
theorem Ko:iM Γ (.builtin "sorted") xB:=by
 intro K x v P Q hc;induction hc with
 |@l l xs ns hx iR hz p=>intro hv k;apply hv.k1;intro u hu;apply hu.kr;intro a hl;refine K.w.Ba hl hx iR λ ps n g1 e2=>sorted_ints (vs:=(intItems ps.toArray).toList) (ns:=ns) (IsL.il g1) (by refine cA e2 ?_;simpa [intItems]using intsAre_of ps) (by rw [<-e2]at hz;simpa [intItems]using hz) λ out vz a1 a2 a3=>?_;cases pR (a2.trans (iA ns).symm) a3 (mB ns);exact dM (sortedAll_at K.w.s.heap (intItems ps.toArray).toList out) λ aa hk=>K.kl (tk:=K.w.s.toks) k p (λ aa aa=>sortedAll_old) (Heap.get?_none_of_le (Nat.le_succ _)) hk (bq.ofInts a1) (by rw [List.length_map,(iA ns).length_eq];exact nc (Nat.le_of_lt hz) rfl)
inductive Ht(σ:U)(P:PV):List AV->Prop
 |i {n:Int}:P (.int n) σ->Ht σ P [.int n]
theorem NU:iM Γ (.type "int") Ht:=by
 intro K x v P Q hc;induction hc with
 |i p=>intro hv k;apply hv.k1;intro u hu;apply hu.ki;intro t;exact call_int_int (K.k0 k p (.int _ _))
end
end
section
set_option genInjectivity false
set_option genSizeOf false
section
variable{Γ:cZ}
theorem St.Le.none{o w:St Γ}(S:o.Le w){b:Addr}(h:w.s.heap.get? b=none):o.s.heap.get? b=none:=by
 cases e:o.s.heap.get? b with
 |none=>rfl
 |some v=>exact dM ((Step.toF (env:=default) S w.H).alive b v e) λ aa e'=>nomatch h.symm.trans e'
theorem Cx.Q9(K:Cx Γ){kd:aL->Prop}{P:aL->U->Prop}{Q:Value->Shared->Prop}{x:aL}{w:St Γ}{h':Heap}{tk:Nat}{it:Addr}(k:K.KI kd P Q)(S:K.w.Le w)(hk:∀b o,w.s.heap.get? b=some o->h'.get? b=some o)(hn:w.s.heap.get? it=none)(p:P x w.σ)(hx:kd x)
  (ir:Kx w.s.heap w.lam h' w.lam->IR h' w.lam x it [it]):Q (.ref it) {w.s with heap:=h',toks:=tk}:=
 have h:=w.H.grow (s':={w.s with heap:=h',toks:=tk}) hk rfl rfl
 k it x ⟨_,_,_,h.1⟩ [it] (Step.trans S h.2) p hx ⟨ir h.2.kx,λ b hb hm=>w.H.ui hm λ o ho aa=>by cases List.mem_singleton.mp hb;exact nomatch hn.symm.trans ho⟩ λ b hb=>by cases List.mem_singleton.mp hb;exact S.none hn
inductive dD(σ:U)(P:aL->Prop):AV->Prop
 |t {vs:List AV}:P (.tup vs)->dD σ P (.tup vs)
 |l {l:Nat} {xs:List AV}:σ[l]?=some (.list xs)->P (.list l 0)->dD σ P (.ref l)
 |x {x:String}:ef x=true->P (.text x 0)->dD σ P (.str x)
def eP(a:AE):AI:=λ F ρ σ P=>a F ρ σ λ v σ=>dD σ (λ x=>P x σ) v
theorem c_{e:Expr}{a:AE}(ha:aZ Γ e a):mA Γ fb e (eP a):=λ K P Q hc k=>ha K.r hc λ u v w S p hv=>by
 have hg:=λ(o:Obj)b o'(e:w.s.heap.get? b=some o')=>Heap.get?_push_of_some o e;have hn:=Heap.get?_none_of_le (h:=w.s.heap) (Nat.le_refl _);revert hv;induction p with
 |t p=>
  intro hv;apply hv.kt;intro a items n ht dQ;exact wpAny_pyIter_tuple ht.it (K.Q9 (tk:=w.s.toks) k S (hg _) hn p trivial λ kx=>⟨_,0,_,_,⟨_,Heap.get?_push_size _ rfl,rfl,rfl⟩,kx.tt ht,by refine ae List.drop_zero ?_;exact dQ.mono kx,rfl⟩)
 |l hx p=>
  intro hv;apply hv.kr;intro a hl;exact w.dv hl hx λ items n g1 g2 aa=>wpAny_pyIter_list (IsL.il g1) (K.Q9 (tk:=w.s.toks) k S (hg _) hn p trivial λ kx=>⟨_,⟨_,Heap.get?_push_size _ rfl,rfl,rfl⟩,hl,rfl⟩)
 |x hy p=>intro hv;apply hv.ks;intro t;exact fO (oN hy) λ c sO yn UC=>wpAny_pyIter_ascii (by refine ae sO ?_;simpa using UC) (K.Q9 (tk:=w.s.toks) k S (hg _) hn p trivial λ kx=>⟨_,⟨_,Heap.get?_push_size _ rfl,rfl,rfl⟩,hy,rfl⟩)
def m8(a b c:Int):Prop:=0<c/\c<=1000/\-1000000<=a/\a<=1000000/\-1000000<=b/\b<=1000000
noncomputable def oP(a b c:Int):aL:=.lG a c (Builtin.Range.rangeSize a b c).toNat
inductive lh(P:aL->Prop):List AV->Prop
 |a {b:Int}:m8 0 b 1->P (oP 0 b 1)->lh P [.int b]
 |b {a b:Int}:m8 a b 1->P (oP a b 1)->lh P [.int a,.int b]
 |c {a b c:Int}:m8 a b c->P (oP a b c)->lh P [.int a,.int b,.int c]
def xC(cs:List AE):AI:=λ F ρ σ P=>i' cs F ρ σ λ vs σ=>lh (λ x=>P x σ) vs
theorem NV{a b c:Int}(h:m8 a b c):0<=Builtin.Range.rangeSize a b c/\Builtin.Range.small a b c=true:=by
 unfold m8 at h;have hn:0<=Builtin.Range.rangeSize a b c/\Builtin.Range.rangeSize a b c<=3000000:=by
  unfold Builtin.Range.rangeSize;refine ae (if_pos h.1) ?_;split
  ·have h1:0<=(b -a -1)/c:=Int.ediv_nonneg (by omega) (by omega);have h2:(b -a -1)/c<=b -a -1:=Int.ediv_le_self _ (by omega);omega
  ·decide
 refine ⟨hn.1,?_⟩;unfold Builtin.Range.small Builtin.Range.rangeFitsLong;have hc:c>0:=h.1;refine ae (if_pos hc) ?_;simp only [Bool.and_eq_true,decide_eq_true_eq,Bool.or_eq_true];refine ⟨⟨⟨⟨?_,?_⟩,?_⟩,?_⟩,.inr ?_⟩<;>omega
theorem uu(K:Cx Γ){P:aL->U->Prop}{Q:Value->Shared->Prop}{w:St Γ}{a b c:Int}{t u v:Tok}{tk:Nat}(k:K.KI fb P Q)(S:K.w.Le w)(ik:m8 a b c)(p:P (oP a b c) w.σ):
  wpAny Γ.M K.A (pyIter (.ref w.s.heap.objs.size)) Q K.E {w.s with heap:=w.s.heap.push {cls:=.type "range",data:=.fields #[.int a t,.int b u,.int c v]},toks:=tk}:=by
 refine Bs (NV ik) λ ZF UJ=>wpAny_pyIter_range (IsRange.new ..) UJ (K.Q9 k S (λ b o e=>Heap.get?_push_of_some _ (Heap.get?_push_of_some _ e)) (Heap.get?_none_of_le ?_) p trivial λ aa=>⟨?_,rfl⟩)
 ·refine (?_:_<=(Heap.push _ _).objs.size);rw [Heap.size_push];exact Nat.le_succ _
 ·refine (?_:_=_);refine ae (Int.toNat_of_nonneg ZF) ?_;exact Heap.get?_push_size _ rfl
theorem n0(W:Wd Γ.G){np pos:Pos}{es:List Expr}{cs:List AE}(g:b7 Γ.G "range" (.type "range"))(hk:Γ.sc.names.lookup (Str.ofString "range")=some .globalImplicit)(kp:Kept Γ.G (.type "range"))(a:eY Γ es cs):
  mA Γ fb (.Call (.Name (Str.ofString "range") np) es [] pos) (xC cs):=λ K P Q hc k=>
 wpAny_Call_ofName (oH W K g hk (by decide) (f3 W K kp a hc λ us vs w S p hv=>by
  revert hv;induction p with
  |a ik p=>intro hv;apply hv.k1;intro u h1;apply h1.ki;intro t;exact call_range_1 (uu K k S ik p)
  |b ik p=>intro hv;apply hv.k2;intro u v h1 h2;apply h1.ki;intro t;apply h2.ki;intro t';exact call_range_2 (uu K k S ik p)
  |c ik p=>intro hv;apply hv.k3;intro u v x h1 h2 h3;apply h1.ki;intro t;apply h2.ki;intro t';apply h3.ki;intro t'';have aak:=ik;unfold m8 at aak;exact call_range_3 (by omega) (uu K k S ik p) (Or.inl (PyProof.noPylong_small (by omega)))))
end
mutual
noncomputable def kQ:AV->Bool
 |.base _=>false
 |.tup vs=>nG vs
 |_=>true
noncomputable def nG:List AV->Bool
 |[]=>true
 |v::vs=>kQ v&&nG vs
end
theorem qE(v:AV)(vs:List AV):nG (v::vs)=(kQ v&&nG vs):=rfl
theorem abl:nG []=true:=rfl
theorem Hu(vs:List AV):kQ (.tup vs)=nG vs:=rfl
theorem abJ(x:String):kQ (.str x)=true:=rfl
theorem abK(x:Int):kQ (.int x)=true:=rfl
inductive BM(h:Heap)(lam:List Addr)(b:Addr):AV->Prop
 |tup {vs:List AV} {items:Array Value} {n:Nat}:TT h lam b items n->bq h lam vs items.toList->BM h lam b (.tup vs)
 |ref {l:Nat}:lam[l]?=some b->BM h lam b (.ref l)
 |base:BM h lam b (.base b)
noncomputable def VW(h:Heap)(lam:List Addr)(a:AV):Value->Prop
 |.none=>a=.none
 |.bool b=>a=.bool b
 |.int i _=>a=.int i
 |.str X _=>∃y,a=.str y/\X=Str.ofString y
 |.ref b=>BM h lam b a
 |_=>False
section
variable{h:Heap} {lam:List Addr} {a b:AV} {v:Value}
theorem VR.vw(x:VR h lam a v):VW h lam a v:=
 @VR.rec h lam (λ a v aa=>VW h lam a v) (λ aa aa aa=>True) rfl (λ aa=>rfl) (λ aa aa=>rfl) (λ x aa aa e=>⟨x,rfl,e⟩) (λ ht hv aa aa=>.tup ht hv) (λ e=>.ref e) (λ aa=>.base) trivial (λ aa aa aa aa=>trivial) _ _ x
theorem VR.UK(x:VR h lam a .none):a=.none:=x.vw
theorem VR.ofBool{b:Bool}(x:VR h lam a (.bool b)):a=.bool b:=x.vw
theorem VR.ofInt{i:Int}{t:Tok}(x:VR h lam a (.int i t)):a=.int i:=x.vw
theorem VR.ofStr{X:Str}{t:Tok}(x:VR h lam a (.str X t)):∃y,a=.str y/\X=Str.ofString y:=x.vw
theorem VR.Q_{b:Addr}(x:VR h lam a (.ref b)):BM h lam b a:=x.vw
theorem VR.det(hn:lam.Nodup)(x:VR h lam a v)(y:VR h lam b v)(h1:kQ a=true)(h2:kQ b=true):a=b:=by
 refine @VR.rec h lam (λ a v aa=>∀b,VR h lam b v->kQ a=true->kQ b=true->a=b) (λ as vs aa=>∀bs,bq h lam bs vs->nG as=true->nG bs=true->as=bs)
  (λ b hb aa aa=>hb.UK.symm) (λ aa b hb aa aa=>hb.ofBool.symm) (λ aa aa b hb aa aa=>hb.ofInt.symm) (λ x aa t e b hb aa aa=>?_) (λ ht hv aa ih b hb h1 h2=>?_) (λ hl b hb aa h2=>?_) (λ aa aa aa h1 aa=>nomatch h1) (λ bs hb aa aa=>?_) (λ h1 h2 i1 i2 bs hb e1 e2=>?_) _ _ x _ y h1 h2
 ·obtain ⟨y,rfl,e'⟩:=hb.ofStr;rw [cq (e.symm.trans e')]
 ·cases hb.Q_ with
  |tup mZ lF=>
   have e:=ht.2.symm.trans mZ.2;injection e with e;injection e with _ _ e _;injection e with e _
   subst e;rw [ih _ lF h1 h2]
  |ref hl=>exact absurd (List.mem_of_getElem? hl) ht.1
  |base=>cases h2
 ·cases hb.Q_ with
  |tup mZ lF=>exact absurd (List.mem_of_getElem? hl) mZ.1
  |ref eH=>rw [jl hn hl eH]
  |base=>cases h2
 ·cases hb;rfl
 ·cases hb with|cons h3 h4=>have e1:=Bool.and_eq_true_iff.mp e1;have e2:=Bool.and_eq_true_iff.mp e2;exact ae (i1 _ h3 e1.1 e2.1)<|ae (i2 _ h4 e1.2 e2.2) rfl
end
inductive jb(x:AV):List AV->Bool->Prop
 |nil:jb x [] false
 |cons {y:AV} {r:List AV} {a b:Bool}:kQ y=true->gm 20 y x a->jb x r b->jb x (y::r) (a||b)
theorem bq.mem{h:Heap}{lam:List Addr}{cB:List AV}{vs:List Value}(x:bq h lam cB vs):∀v∈vs,∃a∈cB,VR h lam a v:=by
 refine x.ind (λ cB vs=>∀v∈vs,∃a∈cB,VR h lam a v) (λ v hv=>nomatch hv) λ h1 aa ih v hv=>?_;rcases List.mem_cons.mp hv with rfl|hv
 ·exact ⟨_,.head _,h1⟩
 ·refine bp (ih v hv) λ a ha h3=>?_;exact ⟨a,.tail _ ha,h3⟩
theorem jb.each{x:AV}{ys:List AV}{b:Bool}(h:jb x ys b):∀y∈ys,∃c,gm 20 y x c/\kQ y=true:=by
 induction h with
 |nil=>exact λ aa hy=>nomatch hy
 |cons e0 e1 _ ih=>
  intro y hy;rcases List.mem_cons.mp hy with rfl|hy
  ·exact ⟨_,e1,e0⟩
  ·exact ih y hy
open Classical in
noncomputable def Ra(h:Heap)(lam:List Addr)(x:AV)(y:Value):Bool:=decide (∃a,VR h lam a y/\gm 20 a x true/\kQ a=true)
open Classical in
theorem Kp{h:Heap}{lam:List Addr}(hn:lam.Nodup){x a:AV}{y:Value}{c:Bool}(hy:VR h lam a y)(e:gm 20 a x c)(hb:kQ a=true):Ra h lam x y=c:=by
 unfold Ra;cases c with
 |true=>exact decide_eq_true ⟨a,hy,e,hb⟩
 |false=>refine decide_eq_false λ ⟨b,FW,e',hbb⟩=>?_;rw [VR.det hn FW hy hbb hb]at e';exact nomatch e.iff.2 (e'.iff.1 rfl)
theorem FX{h:Heap}{lam:List Addr}(hn:lam.Nodup){x:AV}{ys:List AV}{b:Bool}(e:jb x ys b):∀{vs:List Value},bq h lam ys vs->vs.any (Ra h lam x)=b:=by
 induction e with
 |nil=>intro vs hv;cases hv;rfl
 |cons e0 e1 _ ih=>
  intro vs hv;cases hv with|cons h1 h2=>
  exact ae List.any_cons<|ae (Kp hn h1 e1 e0)<|ae (ih h2) rfl
theorem BN{d:Nat}{A:Around}{s:Shared}{lam:List Addr}(R:iK d A)(hn:lam.Nodup){x:AV}{v:Value}{ys:List AV}{vs:List Value}{b:Bool}(hx:VR s.heap lam x v)(hv:bq s.heap lam ys vs)(e:jb x ys b):
  ∀y∈vs,SeqAt.EqAt A.in1 s y v (Ra s.heap lam x y):=λ y hy prog w E Q hq=>by
 refine bp (hv.mem y hy) λ a ha h1=>?_;refine bp (e.each a ha) λ c hc hb=>?_;rw [Kp hn h1 hc hb]at hq;exact lO 20 hc h1 hx (by have:=R.un;refine (?_:A.units+1+20+1<cLine);exact bG this (by simp+arith only)) hq
theorem KR.isSome{K K':Type}[DecidableEq K][DecidableEq K']{f:K->K'}{h:Heap}{lam:List Addr}(hf:∀a b,f a=f b->a=b){kvs:List (K×AV)}{kvs':List (K'×Value)}(x:KR f h lam kvs kvs')(k:K):(valueAt kvs' (f k)).isSome=(br kvs k).isSome:=by
 cases e:br kvs k with
 |some v=>refine bp ((x.get hf k).1 v e) λ u h1 aa=>?_;refine ae h1 ?_;rfl
 |none=>refine ae ((x.get hf k).2 e) ?_;rfl
theorem KT.isSome{h:Heap}{lam:List Addr}{kvs:List (List AK×AV)}{xs}(x:KT h lam kvs xs)(k:List AK):(atKey xs k).isSome=(br kvs k).isSome:=by
 cases e:br kvs k with
 |some v=>refine bp ((x.get k).1 v e) λ u h1 aa=>?_;refine ae h1 ?_;rfl
 |none=>refine ae ((x.get k).2 e) ?_;rfl
section
variable{prog:Program} {w:World} {A:Around} {E:Value->Shared->Prop} {s:Shared}
theorem gz{value slice:Expr}{o i:Value}{T id:String}{Q:Value->Shared->Prop}(ht:s.TypeIs o T)(hs:Slot T "__getitem__" id)(hm:o≠.builtin "sys.modules#opaque")(h:wpAny (model prog w) A (getItem o i) Q E s):
  wpAny (model prog w) A (subscriptTail value slice o i) Q E s:=by
 unfold subscriptTail;refine ae (getitemInPython_of_ne hm) ?_;refine wpAny_bind (wpAny_bind (wpAny_specialOf ht hs.lookup (wpAny_pure ?_)));have key:wpAny (model prog w) A (subscripted slice false o i) Q E s:=by
  cases slice with
  |Slice _ _ st _=>
   cases st with
   |none=>exact wpAny_operate' h
   |some _=>exact wpAny_operate' h
  |_=>exact wpAny_operate' h
 exact wpAny_bind (wpAny_mono key (λ r fA q=>wpAny_bind (wpAny_letTemporaryGo (wpAny_pure q))) λ aa aa e=>e)
end
section
variable{Γ:cZ}
theorem St.fG(W:Wd Γ.G)(w:St Γ){l:Nat}{a:Addr}(ha:w.lam[l]?=some a):(a==sysModules)=false:=beq_eq_false_iff_ne.mpr λ e=>dM W.sys λ o ho=>nomatch(e▸w.H.above a (List.mem_of_getElem? ha)).symm.trans ho
inductive qF(σ:U)(P:Bool->Prop):AV->AV->Prop
 |tu {x:AV} {ys:List AV} {b:Bool}:jb x ys b->P b->qF σ P x (.tup ys)
 |l {x:AV} {l:Nat} {ys:List AV} {b:Bool}:σ[l]?=some (.list ys)->jb x ys b->P b->qF σ P x (.ref l)
 |i {k:Int} {l:Nat} {kvs:List (Int×AV)}:σ[l]?=some (.dI kvs)->P (br kvs k).isSome->qF σ P (.int k) (.ref l)
 |s {k:String} {l:Nat} {kvs:List (String×AV)}:σ[l]?=some (.dS kvs)->P (br kvs k).isSome->qF σ P (.str k) (.ref l)
 |t {ks:List AV} {k:List AK} {l:Nat} {kvs:List (List AK×AV)}:σ[l]?=some (.dT kvs)->gx ks=some k->P (br kvs k).isSome->qF σ P (.tup ks) (.ref l)
abbrev n4:O2:=λ σ P=>qF σ λ b=>P (.bool b) σ
abbrev fc:O2:=λ σ P=>qF σ λ b=>P (.bool !b) σ
theorem Rb(W:Wd Γ.G)(n:Bool):hO Γ (compareOp (if n then .NotIn else .In)) λ σ P=>qF σ λ b=>P (.bool (if n then !b else b)) σ:=by
 intro K x c v u P Q hc;induction hc with
 |tu hb p=>
  intro hv hu k;apply hu.kt;intro a items m ht dQ;have e:=FX K.w.H.nodup hb dQ;rw [Array.any_toList]at e;subst e;have he:=λ y(hy:y∈items)=>BN K.R K.w.H.nodup hv dQ hb y (Array.mem_toList_iff.mpr hy);cases n with
  |true=>exact SeqAt.notIn_tupleAt _ ht.it he (K.k0 k p (.bool _))
  |false=>exact SeqAt.in_tupleAt _ ht.it he (K.k0 k p (.bool _))
 |l hx hb p=>
  intro hv hu k;apply hu.kr;intro a hl;refine K.w.dv hl hx λ items m g1 g2 aa=>?_;have e:=FX K.w.H.nodup hb g2;rw [Array.any_toList]at e;subst e;have he:=λ y(hy:y∈items)=>BN K.R K.w.H.nodup hv g2 hb y (Array.mem_toList_iff.mpr hy);cases n with
  |true=>exact SeqAt.notIn_listAt _ (IsL.il g1) he (K.k0 k p (.bool _))
  |false=>exact SeqAt.in_listAt _ (IsL.il g1) he (K.k0 k p (.bool _))
 |@i k0 _ _ hx p=>
  intro hv hu k;apply hu.kr;intro a hl;apply hv.ki;intro t;refine K.w.dI hl hx λ kvs' h1 h2 aa=>?_;rw [<-h2.isSome (λ aa aa e=>e)]at p;cases n with
  |true=>exact wpAny_notIn_of (knd:=intKind Γ.G.prog Γ.G.w) (intKind_is _ _ _ _) (K.w.fG W hl) h1.mapOf (K.k1 k p (.bool _) _)
  |false=>exact wpAny_in_of (knd:=intKind Γ.G.prog Γ.G.w) (intKind_is _ _ _ _) (K.w.fG W hl) h1.mapOf (K.k1 k p (.bool _) _)
 |s hx p=>
  intro hv hu k;apply hu.kr;intro a hl;apply hv.ks;intro t;refine K.w.dS hl hx λ kvs' h1 h2 aa=>?_;rw [<-h2.isSome (λ aa aa=>cq)]at p;cases n with
  |true=>exact wpAny_notIn_of (knd:=dw Γ.G.prog Γ.G.w) (strKind_is _ _ _ _) (K.w.fG W hl) h1.mapOf (K.k1 k p (.bool _) _)
  |false=>exact wpAny_in_of (knd:=dw Γ.G.prog Γ.G.w) (strKind_is _ _ _ _) (K.w.fG W hl) h1.mapOf (K.k1 k p (.bool _) _)
 |t hx hk p=>
  intro hv hu k;apply hu.kr;intro a hl;refine K.w.dT hl hx λ xs h1 h2 aa aa=>?_;rw [<-h2.isSome]at p;have lF:=hv;revert lF;apply hv.kt;intro b items m ht dQ lF;cases n with
  |true=>exact wpAny_notIn_heap (knd:=cu Γ.G.prog Γ.G.w) (iK.tk K.R) (jo lF hk) (K.w.fG W hl) h1 (K.k1 k p (.bool _) _)
  |false=>exact wpAny_in_heap (knd:=cu Γ.G.prog Γ.G.w) (iK.tk K.R) (jo lF hk) (K.w.fG W hl) h1 (K.k1 k p (.bool _) _)
theorem Hv(W:Wd Γ.G):hO Γ (compareOp .In) n4:=Rb W false
theorem l7(W:Wd Γ.G):hO Γ (compareOp .NotIn) fc:=Rb W true
inductive ah(σ:U)(P:PV):AV->AV->Prop
 |l {l:Nat} {xs:List AV} {k:Int} {j:Nat} {v:AV}:σ[l]?=some (.list xs)->Idx k xs.length j->xs[j]?=some v->P v σ->ah σ P (.ref l) (.int k)
 |i {l:Nat} {kvs:List (Int×AV)} {k:Int} {v:AV}:σ[l]?=some (.dI kvs)->br kvs k=some v->P v σ->ah σ P (.ref l) (.int k)
 |s {l:Nat} {kvs:List (String×AV)} {k:String} {v:AV}:σ[l]?=some (.dS kvs)->br kvs k=some v->P v σ->ah σ P (.ref l) (.str k)
 |t {l:Nat} {kvs:List (List AK×AV)} {ks:List AV} {k:List AK} {v:AV}:σ[l]?=some (.dT kvs)->gx ks=some k->br kvs k=some v->P v σ->ah σ P (.ref l) (.tup ks)
 |u {xs:List AV} {k:Int} {j:Nat} {v:AV}:Idx k xs.length j->xs[j]?=some v->P v σ->ah σ P (.tup xs) (.int k)
 |x {x:String} {k:Int} {j:Nat} {c:Char}:Idx k x.toList.length j->x.toList.length<=10000->x.toList[j]?=some c->P (.str (String.ofList [c])) σ->ah σ P (.str x) (.int k)
theorem bq.size{h:Heap}{lam:List Addr}{xs:List AV}{a:Array Value}(x:bq h lam xs a.toList):xs.length=a.size:=x.length.trans (Array.length_toList ..)
theorem Idx.seq{k:Int}{n j:Nat}(e:Idx k n j):seqIndex? k n=some j:=by
 obtain ⟨h,rfl|rfl⟩:=e
 ·have h2:¬(j:Int)<0:=by lia
  simp [seqIndex?,h2,h]
 ·have h2:(j:Int) -n<0:=by lia
  have h3:0<=(j:Int) -n+n:=by lia
  simp [seqIndex?,h2,h3];exact h
theorem UL{value slice:Expr}:hO Γ (subscriptTail value slice) ah:=by
 intro K o i v u Pr Q hc;induction hc with
 |@l l xs k j v hx hj hv p=>
  intro ho hi k;apply ho.kr;intro a hl;apply hi.ki;intro t;have hz:=K.w.lz hl hx;refine K.w.dv hl hx λ items n g1 g2 e=>bp (bq.get g2 _ hv) λ y hy jk=>gz (IsL.typeIs g1) slot_list_getitem (by simp) ?_;rw [Array.getElem?_toList]at hy;obtain ⟨vB,rfl|rfl⟩:=hj
  ·exact wpAny_getItem_list (IsL.il g1) (by lia) (by lia) (by simpa using hy) (K.k0 k p jk)
  ·exact wpAny_getItem_list_neg (IsL.il g1) (by lia) (by lia) (by lia) (by refine ae (show((j:Int) -xs.length+items.size).toNat=j by lia) ?_;exact hy) (K.k0 k p jk)
 |i hx hv p=>
  intro ho hi k;apply ho.kr;intro a hl;apply hi.ki;intro t;exact K.w.dI hl hx λ kvs' h1 h2 aa=>bp ((h2.get (λ aa aa e=>e) _).1 _ hv) λ u e1 e2=>gz h1.typeIs slot_dict_getitem (by simp) (wpAny_getItem_of (knd:=intKind Γ.G.prog Γ.G.w) (intKind_is _ _ _ _) h1.mapOf e1 (K.k1 k p e2 _))
 |s hx hv p=>
  intro ho hi k;apply ho.kr;intro a hl;apply hi.ks;intro t;exact K.w.dS hl hx λ kvs' h1 h2 aa=>bp ((h2.get (λ aa aa=>cq) _).1 _ hv) λ u e1 e2=>gz h1.typeIs slot_dict_getitem (by simp) (wpAny_getItem_of (knd:=dw Γ.G.prog Γ.G.w) (strKind_is _ _ _ _) h1.mapOf e1 (K.k1 k p e2 _))
 |t hx hk hv p=>
  intro ho hi k;apply ho.kr;intro a hl;refine K.w.dT hl hx λ xs h1 h2 aa aa=>bp ((h2.get _).1 _ hv) λ q e1 e2=>?_;have mz:=hi;revert mz;apply hi.kt;intro b' items n ht dQ mz;exact gz (qn h1 λ o es ep ho hx aa=>⟨o,ho,hx.1⟩) slot_dict_getitem (by simp) (wpAny_getItem_heap (knd:=cu Γ.G.prog Γ.G.w) (iK.tk K.R) (jo mz hk) h1 e1 (K.k1 k p e2 _))
 |u hj hv p=>
  intro ho hi k;have hz:=ho.kz;apply ho.kt;intro a items n ht dQ;apply hi.ki;intro t;refine bp (bq.get dQ _ hv) λ y hy jk=>?_;have e:=dQ.size;have ZE:=hj;unfold Idx at ZE;rw [Array.getElem?_toList]at hy;exact gz (IsT.typeIs ht) PySem.F.slot_tuple_getitem (by simp) (P.getItem_tuple ht.2 (by lia) (by lia) (e▸hj.seq) hy (K.k0 k p jk))
 |@x x k j c hj hz hv p=>
  intro ho hi k;apply ho.ks;intro t;apply hi.ki;intro t';have hlen:(Str.ofString x).length=x.toList.length:=by rw [Str.ofString_eq_toList];refine (?_:Array.size _=_);exact List.length_map ..
  have hcp:(Str.ofString x).cps[j]?=some c.toNat:=by rw [Str.ofString_eq_toList];simp [hv]
  have e1:Str.ofString (String.ofList [c])=⟨#[c.toNat]⟩:=by rw [Str.ofString_eq_toList];simp
  exact gz rfl PySem.F.slot_str_getitem (by simp) (P.getItem_str (c:=c.toNat) (by have:=hj.1;rcases hj.2 with rfl|rfl<;>simp<;>lia) (by refine ae hlen<|ae hj.seq ?_;exact hcp) (K.k1 k p (.str _ _ e1.symm) _))
theorem ax(W:Wd Γ.G){e:Expr}{x:String}{pos:Pos}{c:AE}(ho:aZ Γ e c)(he:eval (.Attribute e (Str.ofString x) pos)=λ env=>(do
   let o<-eval e env
   standAt pos.atName
   let r<-holding [o] (getAttr o (Str.ofString x) true)
   letTemporaryGo e o r
   pure r)):aZ Γ (.Attribute e (Str.ofString x) pos) (aU c (ai x)):=λ K aa aa hc k=>Attribute_any_ (Sd K ho (Uw W x) hc k) (congrFun he _)
theorem aC{e i:Expr}{pos:Pos}{c ci:AE}(ho:aZ Γ e c)(hi:aZ Γ i ci):aZ Γ (.Subscript e i pos) (ay c ci ah):=λ K aa aa hc k=>Subscript_ (sd K ho hi UL hc k)
end
end
section
set_option genInjectivity false
set_option genSizeOf false
theorem cellsFrom_some:∀(names:List (Str×NameKind))(n:Nat)(acc:List (Str×Addr))(x:Str),(names.lookup x=some .cell\/(acc.lookup x).isSome=true)->((cellsFrom n names acc).lookup x).isSome=true:=by
 intro bD;induction bD with
 |nil=>
  intro n acc x h;rcases h with h|h
  ·simp at h
  ·exact h
 |cons qG r ih=>
  obtain ⟨y,k⟩:=qG;intro n acc x h;unfold cellsFrom;by_cases iH:x==y
  ·rcases h with h|h
   ·rw [List.lookup_cons,iH]at h;cases h;exact ih _ _ x (.inr (by refine ae List.lookup_cons<|ae iH ?_;rfl))
   ·split
    ·exact ih _ _ x (.inr (by refine ae List.lookup_cons<|ae iH ?_;rfl))
    ·exact ih _ _ x (.inr h)
  ·have UM:(x==y)=false:=by simpa using iH
   rcases h with h|h
   ·rw [List.lookup_cons,UM]at h;split
    ·exact ih _ _ x (.inl h)
    ·exact ih _ _ x (.inl h)
   ·split
    ·exact ih _ _ x (.inr (by refine ae List.lookup_cons<|ae UM ?_;exact h))
    ·exact ih _ _ x (.inr h)
theorem vC:∀(names:List (Str×NameKind))(n:Nat)(acc:List (Str×Addr)),(names.map (·.1)++acc.map (·.1)).Nodup->((cellsFrom n names acc).map (·.1)).Nodup:=by
 intro bD;induction bD with
 |nil=>
  intro n acc h;exact h
 |cons qG r ih=>
  obtain ⟨y,k⟩:=qG;intro n acc h;unfold cellsFrom;split
  ·refine ih _ _ ?_;simp only [List.map_cons,List.cons_append]at h;exact (List.perm_middle (l₁:=r.map (·.1)) (l₂:=acc.map (·.1)) (a:=y)).nodup_iff.mpr h
  ·refine ih _ _ ?_;simp only [List.map_cons,List.cons_append]at h;exact (List.nodup_cons.mp h).2
theorem BO{l:List (Str×Addr)}{x:Str}{y:Addr}(hn:(l.map (·.1)).Nodup)(h:(x,y)∈l):l.lookup x=some y:=by
 induction l with
 |nil=>cases h
 |cons z r ih=>
  rw [List.map_cons,List.nodup_cons]at hn;rw [List.lookup_cons];rcases List.mem_cons.mp h with e|h
  ·subst e;rw [beq_self_eq_true]
  ·cases hb:x==z.1 with
   |false=>exact ih hn.2 h
   |true=>exact absurd (eq_of_beq hb▸List.mem_map.mpr ⟨_,h,rfl⟩) hn.1
noncomputable def bindR:List String->List AV->Loc->Loc
 |n::ns,v::vs,ρ=>bindR ns vs (ja ρ n v)
 |_,_,ρ=>ρ
theorem FY(n:String)(ns:List String)(v:AV)(vs:List AV)(ρ:Loc):bindR (n::ns) (v::vs) ρ=bindR ns vs (ja ρ n v):=rfl
theorem NW{h:Heap}{lam:List Addr}{kindOf:Str->Option NameKind}{ns:List String}{cB:List AV}{vs:List Value}{ρ:Loc}{m cm:Str->Option Value}(hl:ns.length=cB.length)(hv:bq h lam cB vs)(hk:∀n∈ns,kindOf (Str.ofString n)=some .local\/kindOf (Str.ofString n)=some .cell)
  (h1:∀x av,kindOf (Str.ofString x)=some .local->ρ x=some av->∃v,m (Str.ofString x)=some v/\VR h lam av v)
  (h2:∀x av,kindOf (Str.ofString x)≠some .local->ρ x=some av->∃v,cm (Str.ofString x)=some v/\VR h lam av v):
  (∀x av,kindOf (Str.ofString x)=some .local->bindR ns cB ρ x=some av->∃v,bindL kindOf ((ns.map Str.ofString).zip vs) m (Str.ofString x)=some v/\VR h lam av v)/\
  (∀x av,kindOf (Str.ofString x)≠some .local->bindR ns cB ρ x=some av->∃v,bindC kindOf ((ns.map Str.ofString).zip vs) cm (Str.ofString x)=some v/\VR h lam av v):=by
 induction ns generalizing cB vs ρ m cm with
 |nil=>cases cB with
  |nil=>apply hv.kn;exact ⟨h1,h2⟩
  |cons=>cases hl
 |cons n ns ih=>cases cB with
  |nil=>cases hl
  |cons a cB=>
   apply hv.kc;intro v vs hv dQ;rw [FY];simp only [List.map_cons,List.zip_cons_cons,bindL,bindC];refine ih (by simpa using hl) dQ (λ x hx=>hk x (.tail _ hx)) (λ x av hx e=>?_) (λ x av hx e=>?_)
   ·by_cases qH:x=n
    ·subst qH;simp only [ja,if_true,Option.some.injEq]at e;subst e;refine ae (if_pos hx) ?_;exact ⟨_,if_pos rfl,hv⟩
    ·simp only [ja,qH,if_false]at e;refine bp (h1 x av hx e) λ v e1 e2=>?_;have b_:¬Str.ofString x=Str.ofString n:=λ q=>qH (cq q);split
     ·exact ⟨v,by simp only [b_,if_false];exact e1,e2⟩
     ·exact ⟨v,e1,e2⟩
   ·by_cases qH:x=n
    ·subst qH;simp only [ja,if_true,Option.some.injEq]at e;subst e;refine ae (if_neg hx) ?_;exact ⟨_,if_pos rfl,hv⟩
    ·simp only [ja,qH,if_false]at e;refine bp (h2 x av hx e) λ v e1 e2=>?_;have b_:¬Str.ofString x=Str.ofString n:=λ q=>qH (cq q);split
     ·exact ⟨v,e1,e2⟩
     ·exact ⟨v,by simp only [b_,if_false];exact e1,e2⟩
section
variable{G:Places} {d:Nat}
structure cE(G:Places)(a:Addr)(ns:List String)(sc:Scope)(body:List Stmt):Prop where
 at_:∃o fd,G.K.lookup a=some o/\o.data=.func fd/\codeIn G.K fd.code fd.qualname=true/\fd.body=.stmts body/\fd.scope=sc/\fd.closure=[]/\fd.globals=mainGlobals/\fd.builtins=builtinsNs/\
  ∀vs:List Value,vs.length=ns.length->bindArgs fd ⟨vs,[]⟩=pure ((ns.map Str.ofString).zip vs)
 kinds:∀n∈ns,sc.names.lookup (Str.ofString n)=some .local\/sc.names.lookup (Str.ofString n)=some .cell
 BP:∀x,sc.names.lookup x≠some .free
 nodup:(sc.names.map (·.1)).Nodup
 kind:sc.kind=.function
 co:sc.isCoroutine=false
 gen:sc.isGenerator=false
end
def AF.out(f:AF)(P:PV)(σ:U):Prop:=match f with
 |.ret v=>P v σ
 |_=>P .none σ
def FZ(ns:List String)(c:AS)(F:bS)(cB:List AV)(σ:U)(P:PV):Prop:=cB.length=ns.length/\c F (bindR ns cB λ aa=>none) σ λ f _ σ=>f.out P σ
theorem cE.k{G:Places}{a:Addr}{ns:List String}{sc:Scope}{body:List Stmt}{C:Prop}(K:cE G a ns sc body)(k:∀o fd,G.K.lookup a=some o->o.data=.func fd->codeIn G.K fd.code fd.qualname=true->fd.body=.stmts body->fd.scope=sc->fd.closure=[]->fd.globals=mainGlobals->fd.builtins=builtinsNs->
  (∀vs:List Value,vs.length=ns.length->bindArgs fd ⟨vs,[]⟩=pure ((ns.map Str.ofString).zip vs))->C):C:=by
 obtain ⟨o,fd,ho,Hw,F0,vD,Kq,BQ,F1,jU,vE⟩:=K.at_;exact k o fd ho Hw F0 vD Kq BQ F1 jU vE
theorem b8{Γ:cZ}{G:Places}{d:Nat}{F:bS}{a:Addr}{ns:List String}{sc:Scope}{body:List Stmt}{c:AS}(W:Wd G)(K:cE G a ns sc body)(hb:nE ⟨G,d,F,sc⟩ body c)(hg:Γ.G=G)(hd:Γ.d=d+1):qy Γ (.ref a) (FZ ns c F):=by
 subst hg;rintro A E w x v P Q R hv ⟨hl,hc⟩ k;refine K.k λ o fd ho Hw F0 vD Kq BQ F1 jU vE=>?_;have hX:=w.X W;have UN:v.length=ns.length:=by rw [<-bq.length hv];exact hl
 have dep:=R.dep;have un:=R.un;rw [hd]at dep un;subst Kq;refine codeAny_call_cells (o:=o) (fd:=fd) (body:=body) (binds:=(ns.map Str.ofString).zip v) (ml dep) (hX _ _ ho) Hw (W.nolimit.keeps w.H.base) (codeRec_of hX F0) vD (vE v UN) BQ (λ x hx=>?_) (λ fA ic=>?_) K.co K.gen K.kind
 ·obtain ⟨n,hn,e⟩:=List.mem_map.mp (List.of_mem_zip (show(x.1,x.2)∈_ from hx)).1;rw [<-e];exact (K.kinds n hn).imp id λ h=>⟨h,cellsFrom_some _ _ _ _ (.inl h)⟩
 ·generalize jc:callEnvC fd w.s.heap.objs.size a=env at ic⊢;have e1:env.locals=w.s.heap.objs.size:=by rw [<-jc];rfl
  have e2:env.scope=fd.scope:=by rw [<-jc];rfl
  have e3:env.cells=cellsFrom (w.s.heap.objs.size+1) fd.scope.names []:=by rw [<-jc];rfl
  have ek:∀x,env.kindOf x=fd.scope.names.lookup x:=λ x=>by unfold Env.kindOf;rw [e2]
  obtain ⟨h',tk,eI,_⟩:=ic.done;have UO:∀b o,w.s.heap.get? b=some o->fA.heap.get? b=some o:=ic.toInCall.keep;have hg:=w.H.grow (s':=fA) UO (by rw [eI]) (ae eI rfl);have UP:=NW (kindOf:=env.kindOf) (ρ:=λ aa=>none) (m:=λ aa=>none) (cm:=λ aa=>none) hl.symm (bq.mono hg.2.kx hv) (λ n hn=>by rw [ek];exact K.kinds n hn) (λ aa aa aa e=>nomatch e) (λ aa aa aa e=>nomatch e);have hL:w.s.heap.get? env.locals=none:=e1▸Heap.get?_none_of_le (Nat.le_refl _);have qI:∀p∈env.cells,w.s.heap.get? p.2=none:=λ p hp=>Heap.get?_none_of_le (Nat.le_of_lt (e1▸ic.above p.1 p.2 hp));have qC:(env.cells.map (·.1)).Nodup:=e3▸vC _ _ _ (by simpa using K.nodup);have UQ:FR Γ.G fA.heap w.lam env (bindR ns x λ aa=>none):=by refine ⟨⟨_,ic.toInCall.ns,UP.1⟩,λ x hx=>?_,ic.apart,λ hm=>e1▸w.mu<|e1▸hm,w.H.xA hL,λ p hp=>⟨_,ic.cell p.1 p.2 (BO qC hp)⟩⟩;have yt:env.kindOf (Str.ofString x)=some .cell:=hx.elim id λ h=>absurd (ek _▸h.1) (K.BP _);refine dM (Option.isSome_iff_exists.mp (cellsFrom_some fd.scope.names (w.s.heap.objs.size+1) [] (Str.ofString x) (.inl (ek _▸yt)))) λ cc BR=>?_;rw [<-e3]at BR;exact ⟨cc,_,BR,ic.cell _ _ BR,w.H.xA (qI (_,cc) (mem_of_lookup BR)),λ UR e=>UP.2 x UR (by refine ae yt ?_;decide) e⟩
  have fin:∀{w':St ⟨Γ.G,d,F,fd.scope⟩},cG env fA w.lam w'.s w'.lam->Step w.s w.lam w'.s w'.lam:=λ S=>by
   refine ⟨S.kx.ext,λ b o' hn e=>S.keep b o' hn (λ hw=>?_) (UO b o' e),λ b hb=>(S.kx.fresh b hb).imp id λ hn=>?_⟩
   ·rcases hw with rfl|hw
    ·exact nomatch hL.symm.trans e
    ·obtain ⟨p,hp,rfl⟩:=List.mem_map.mp hw.2;exact nomatch(qI p hp).symm.trans e
   ·cases e:w.s.heap.get? b with
    |none=>rfl
    |some o'=>exact nomatch hn.symm.trans (UO b o' e)
  refine hb ⟨A.deeper env,_,env,⟨fA,w.lam,w.σ,hg.1⟩,⟨fA,w.lam,w.σ,hg.1⟩,⟨fA,w.lam,w.σ,hg.1⟩,_,⟨R.h,by refine (?_:A.depth+1+3*d<_);exact bG dep (by simp+arith only),by refine (?_:A.units+3+40*d+100<_);exact bG un (by simp+arith only)⟩,
   ⟨e2,K.kind,by refine cA jc ?_;exact F1,by refine cA jc ?_;exact jU,λ aa=>by refine cA jc ?_;rfl⟩,UQ,.refl _ _,.refl _ _ _⟩ hc λ fl f ρ w' F' T p hf=>?_
  cases hf with
  |ret hv=>exact k _ _ ⟨w'.s,w'.lam,w'.σ,w'.H⟩ (fin T) p hv
  |next=>exact k _ _ ⟨w'.s,w'.lam,w'.σ,w'.H⟩ (fin T) p .none
  |cont=>exact k _ _ ⟨w'.s,w'.lam,w'.σ,w'.H⟩ (fin T) p .none
section
variable{Γ:cZ}
inductive cD(σ:U)(P:Nat->Prop):AV->Prop
 |mk {l:Nat} {xs:List AV}:σ[l]?=some (.list xs)->P l->cD σ P (.ref l)
inductive LAt(σ:U)(l:Nat)(P:List AV->Prop):Prop
 |mk {xs:List AV}:σ[l]?=some (.list xs)->P xs->LAt σ l P
inductive bO(v:AV)(σ:U)(P:U->Prop)(l:Nat):Prop
 |mk {xs:List AV}:σ[l]?=some (.list xs)->xs.length<10000->P (σ.set l (.list (xs++[v])))->bO v σ P l
theorem Cx.NX(K:Cx Γ){P:PV}{Q:Value->Shared->Prop}{v:AV}{u:Value}{l:Nat}{a:Addr}{items qJ:Array Value}{n:Nat}{US:List AV}{tk:Nat}{f:Array Value->Array Value}(k:K.KV P Q)(hl:K.w.lam[l]?=some a)(h1:IsL K.w.s.heap a items n)(hf:f items=qJ)
  (p:P v (K.w.σ.set l (.list US)))(hv:K.w.Rs US qJ.toList)(hu:K.w.R v u)(hz:US.length<=10000):Q u {K.w.s with heap:=K.w.s.heap.update a (Obj.mapSeq f),toks:=tk}:=by
 have hs:Heap.SameBut a K.w.s.heap (K.w.s.heap.update a (Obj.mapSeq f)):=Heap.SameBut.update ..;have kc:=Kx.upd (List.mem_of_getElem? hl) hs;refine K.kn k (K.w.H.upd (s':={K.w.s with heap:=K.w.s.heap.update a (Obj.mapSeq f),toks:=tk}) hl hs rfl rfl (.list (n:=if qJ.size=items.size then n else n+1) ?_ (bq.mono kc hv) hz)) p (VR.mono kc hu);refine (?_:Heap.get? _ _=_);refine ae (Heap.get?_update_self _ h1 rfl) ?_;subst hf;simp [Obj.mapSeq]
def dy(o c:AE):AE:=λ F ρ σ P=>o F ρ σ λ ov σ=>cD σ (λ l=>c F ρ σ λ v σ=>bO v σ (λ σ=>P .none σ) l) ov
theorem xD{e:Expr}{pos:Pos}{env:Env}(h:NS e):backTo pos (starEach [e] env)=[(false,eval e env)]:=by rw [h.s];rfl
theorem qK(K:Cx Γ){o:Expr}{m:Str}{name:String}{id:String}{apos pos:Pos}{es:List Expr}{c:AE}{P:Nat->Loc->U->Prop}{Q:Value->Shared->Prop}(ho:aZ Γ o c)(hm:m=Str.ofString name)(hf:fX o name apos pos es)(slot:Slot "list" m id)(Kr:typeOf (.builtin id)=pure (.type "method_descriptor"))
  (hc:c Γ.F K.ρ K.w.σ λ ov σ=>cD σ (λ l=>P l K.ρ σ) ov)(h:∀l a(w:St Γ),K.w.Le w->w.lam[l]?=some a->P l K.ρ w.σ->wpAny Γ.M K.A (callWith pos (.builtin id) [.ref a] (backTo pos (starEach es K.env)) []) Q K.E w.s):
  K.wp (eval (.Call (.Attribute o (Str.ofString name) apos) es [] pos) K.env) Q:=by
 subst hm;refine dM hf λ pl hf=>MethodCall_ (pl:=pl K.env) (ho K.r hc λ ov aa w S p hv=>?_) (congrFun hf _);revert hv;induction p with
 |mk hx p=>intro hv;apply hv.kr;intro a hl;exact w.dv hl hx λ items n g1 g2 aa=>getMethod_list_of slot Kr (IsL.il g1) ⟨_,g1,rfl⟩ (h _ a w S hl p)
theorem d9{n m:Nat}(h:n<=10000)(e:n=m):m<=sizeLine:=e▸Nat.le_trans h (Nat.le_trans (by decide) cN)
theorem cQ{o e:Expr}{apos pos:Pos}{c ce:AE}(ho:aZ Γ o c)(he:aZ Γ e ce)(hn:NS e)(hf:fX o "append" apos pos [e]):aZ Γ (.Call (.Attribute o (Str.ofString "append") apos) [e] [] pos) (dy c ce):=λ K P Q hc k=>
 qK K (P:=λ l ρ σ=>ce Γ.F ρ σ λ v σ=>bO v σ (λ σ=>P .none σ) l) ho rfl hf slot_list_append type_list_append hc λ l a w S hl p=>by
  refine ae (xD hn) ?_;refine PySem.P.append_list (he (K.up w S).r p λ u v dx dC p hu=>?_);cases p with
  |mk hx hz p=>exact dx.dv (dC.ext _ _ hl) hx λ items n k1 k2 e=>⟨items,n,d9 (Nat.le_of_lt hz) e,k1,(K.up dx (S.tr dC)).NX (tk:=dx.s.toks) k (dC.ext _ _ hl) k1 rfl p (by refine ae Array.toList_push ?_;exact bq.append k2 (.cons hu .nil)) .none (by simp;exact Nat.le_of_lt_succ hz)⟩
inductive fe(σ:U)(P:PV)(l:Nat):Prop
 |mk {xs:List AV} {v:AV}:σ[l]?=some (.list (xs++[v]))->P v (σ.set l (.list xs))->fe σ P l
def j9(o:AE):AE:=λ F ρ σ P=>o F ρ σ λ ov σ=>cD σ (λ l=>fe σ P l) ov
theorem gM{o:Expr}{apos pos:Pos}{c:AE}(ho:aZ Γ o c)(hf:fX o "pop" apos pos []):aZ Γ (.Call (.Attribute o (Str.ofString "pop") apos) [] [] pos) (j9 c):=λ K P Q hc k=>
 qK K (P:=λ l _ σ=>fe σ P l) ho rfl hf PySem.F.slot_list_pop PySem.F.type_list_pop hc λ l a w S hl p=>by
  cases p with
  |@mk zs v hx p=>
   have hz:=w.lz hl hx;have hv:(zs++[v])[(zs++[v]).length -1]?=some v:=by simp
   rw [<-List.dropLast_concat (l₁:=zs) (b:=v)]at p;generalize zs++[v]=xs at*;refine w.dv hl hx λ items n k1 k2 e=>bp (bq.get k2 _ hv) λ y hy hyr=>?_;rw [Array.getElem?_toList,e]at hy;refine PySem.P.pop_list k1 hy ((K.up w S).NX (tk:=w.s.toks) k hl k1 rfl p ?_ hyr (by simp;exact Nat.le_succ_of_le hz)) (d9 hz e);rw [Array.eraseIdxIfInBounds,dif_pos (Array.getElem?_eq_some_iff.mp hy).1,Array.toList_eraseIdx,List.eraseIdx_eq_take_drop_succ,List.drop_of_length_le (by rw [Array.length_toList];lia),List.append_nil,List.dropLast_eq_take,e];exact bq.take k2 _
inductive qL(l:Nat)(σ:U)(P:U->Prop):AV->Prop
 |mk {l':Nat} {xs ys:List AV}:σ[l]?=some (.list xs)->σ[l']?=some (.list ys)->xs.length+ys.length<=10000->P (σ.set l (.list (xs++ys)))->qL l σ P (.ref l')
def sh(o c:AE):AE:=λ F ρ σ P=>o F ρ σ λ ov σ=>cD σ (λ l=>c F ρ σ λ v σ=>qL l σ (λ σ=>P .none σ) v) ov
theorem qM{o e:Expr}{apos pos:Pos}{c ce:AE}(ho:aZ Γ o c)(he:aZ Γ e ce)(hn:NS e)(hf:fX o "extend" apos pos [e]):aZ Γ (.Call (.Attribute o (Str.ofString "extend") apos) [e] [] pos) (sh c ce):=λ K P Q hc k=>
 qK K (P:=λ l ρ σ=>ce Γ.F ρ σ λ v σ=>qL l σ (λ σ=>P .none σ) v) ho rfl hf PySem.F.slot_list_extend PySem.F.type_list_extend hc λ l a w S hl p=>by
  rw [xD hn];refine PySem.P.extend_list (he (K.up w S).r p λ u v dx dC p hu=>?_);revert hu;induction p with
  |mk hx hy iH p=>
     intro hu;apply hu.kr;intro b eH;have hz:=dx.lz (dC.ext _ _ hl) hx;refine dx.dv (dC.ext _ _ hl) hx λ items n k1 k2 e=>dx.dv eH hy λ qJ n' k3 k4 e'=>⟨b,items,qJ,n,n',d9 hz e,Nat.le_succ_of_le (d9 iH (ae e<|ae e' rfl)),?_,rfl,k1,k3,(K.up dx (S.tr dC)).NX (tk:=dx.s.toks) k (dC.ext _ _ hl) k1 rfl p (by refine ae Array.toList_append ?_;exact bq.append k2 k4) .none (by simpa using iH)⟩
     have:=cN;unfold Builtin.List.listTooLong;simp;intro _;exact Bw iH (bP e) (bP e') this (by simp+arith only)
end
end
section
set_option genInjectivity false
set_option genSizeOf false
section
variable{Γ:cZ}
def gN(ao:AO):AE:=λ _ _ σ P=>P (.ref σ.length) (σ++[ao])
theorem uv{pos:Pos}{ao:AO}(hr:∀h lam l a,h.get? a=some {cls:=.type "dict",data:=.dict #[]}->OR Γ.G h lam l a ao):aZ Γ (.Dict [] [] pos) (gN ao):=λ K P Q p k=>wpAny_Dict_empty (K.kn k (K.w.H.new (s':={K.w.s with heap:=K.w.s.heap.push {cls:=.type "dict",data:=.dict #[]}}) (a:=K.w.s.heap.objs.size) (ao:=ao) (λ b o e=>Heap.get?_push_of_some _ e) (Heap.get?_none_of_le (Nat.le_refl _)) rfl rfl (hr _ _ _ _ (Heap.get?_push_size _ rfl))) p (.ref (by refine cA K.w.H.len ?_;exact List.getElem?_concat_length ..)))
theorem m9{pos:Pos}:aZ Γ (.Dict [] [] pos) (gN (.dI [])):=uv λ h lam l a e=>.dI (kvs':=[]) ⟨_,_,_,e,⟨rfl,rfl,rfl⟩,rfl,λ aa h=>by simp at h,.nil,.nil⟩ .nil
theorem yu{pos:Pos}:aZ Γ (.Dict [] [] pos) (gN (.dS [])):=uv λ h lam l a e=>.dS (kvs':=[]) ⟨_,_,_,e,⟨rfl,rfl,rfl⟩,rfl,λ aa h=>by simp at h,.nil,.nil⟩ .nil
theorem yv{pos:Pos}:aZ Γ (.Dict [] [] pos) (gN (.dT [])):=uv λ h lam l a e=>.dT (xs:=[]) ⟨_,_,_,e,⟨rfl,rfl,rfl⟩,rfl,rfl,λ aa h=>by simp at h,.nil⟩ .nil λ aa h=>by simp at h
inductive Bm(ok:AO->Prop)(σ:U)(P:Nat->Prop):AV->Prop
 |mk {l:Nat} {ao:AO}:σ[l]?=some ao->ok ao->P l->Bm ok σ P (.ref l)
def lj(ao:AO):Prop:=∃kvs,ao=.dI kvs
def Hx(ao:AO):Prop:=∃kvs,ao=.dS kvs
def uw(ao:AO):Prop:=∃kvs,ao=.dT kvs
def UT(ao:AO):Prop:=lj ao\/Hx ao\/uw ao
theorem St.dict(w:St Γ){l:Nat}{a:Addr}{ao:AO}(hl:w.lam[l]?=some a)(hx:w.σ[l]?=some ao)(h:UT ao):∃o,w.s.heap.get? a=some o/\o.cls=.type "dict"/\o.dict=none:=by
 rcases h with⟨kvs,rfl⟩|⟨kvs,rfl⟩|⟨kvs,rfl⟩
 ·exact w.dI hl hx λ aa g aa aa=>qn g λ o aa aa ho hx aa=>⟨o,ho,hx.1,hx.2.1⟩
 ·exact w.dS hl hx λ aa g aa aa=>qn g λ o aa aa ho hx aa=>⟨o,ho,hx.1,hx.2.1⟩
 ·exact w.dT hl hx λ aa g aa aa aa=>qn g λ o aa aa ho hx aa=>⟨o,ho,hx.1,hx.2.1⟩
theorem qN(K:Cx Γ){o:Expr}{m:String}{id:String}{apos pos:Pos}{es:List Expr}{c:AE}{ok:AO->Prop}{P:Nat->Loc->U->Prop}{Q:Value->Shared->Prop}(ho:aZ Γ o c)(hf:fX o m apos pos es)(slot:Slot "dict" (Str.ofString m) id)(Kr:typeOf (.builtin id)=pure (.type "method_descriptor"))
  (ik:∀ao,ok ao->UT ao)(hc:c Γ.F K.ρ K.w.σ λ ov σ=>Bm ok σ (λ l=>P l K.ρ σ) ov)(h:∀l a(w:St Γ),K.w.Le w->w.lam[l]?=some a->P l K.ρ w.σ->wpAny Γ.M K.A (callWith pos (.builtin id) [.ref a] (backTo pos (starEach es K.env)) []) Q K.E w.s):
  K.wp (eval (.Call (.Attribute o (Str.ofString m) apos) es [] pos) K.env) Q:=by
 refine dM hf λ pl hf=>MethodCall_ (pl:=pl K.env) (ho K.r hc λ ov aa w S p hv=>?_) (congrFun hf _);revert hv;induction p with
 |mk hx hk p=>intro hv;apply hv.kr;intro a hl;exact fO (w.dict hl hx (ik _ hk)) λ o ho hc hd=>getMethod_builtin ⟨o,ho,hc⟩ PySem.F.plainAttrs_dict slot Kr (λ b e=>by cases e;exact ⟨o,ho,hd⟩) (h _ a w S hl p)
theorem Sk{e e':Expr}{pos:Pos}{env:Env}(h:NS e)(h':NS e'):backTo pos (starEach [e,e'] env)=[(false,eval e env),(false,eval e' env)]:=by rw [h.s,h'.s];rfl
inductive BS(σ:U)(l:Nat)(P:List (String×AV)->Prop):Prop
 |mk {kvs:List (String×AV)}:σ[l]?=some (.dS kvs)->P kvs->BS σ l P
inductive Hy(σ:U)(l:Nat)(P:List (Int×AV)->Prop):Prop
 |mk {kvs:List (Int×AV)}:σ[l]?=some (.dI kvs)->P kvs->Hy σ l P
def Hz(o c:AE):AE:=λ F ρ σ P=>o F ρ σ λ ov σ=>Bm Hx σ (λ l=>c F ρ σ λ v σ=>yo v λ k=>BS σ l λ kvs=>P ((br kvs k).getD .none) σ) ov
def Rc(o c b:AE):AE:=λ F ρ σ P=>o F ρ σ λ ov σ=>Bm lj σ (λ l=>c F ρ σ λ v σ=>pM v λ k=>b F ρ σ λ y σ=>Hy σ l λ kvs=>P ((br kvs k).getD y) σ) ov
theorem KR.getD{K K':Type}[DecidableEq K][DecidableEq K']{f:K->K'}{h:Heap}{lam:List Addr}(hf:∀a b,f a=f b->a=b){kvs:List (K×AV)}{kvs':List (K'×Value)}(x:KR f h lam kvs kvs')(k:K){d:AV}{u:Value}(hd:VR h lam d u):VR h lam ((br kvs k).getD d) ((valueAt kvs' (f k)).getD u):=by
 cases e:br kvs k with
 |none=>refine ae ((x.get hf k).2 e) ?_;exact hd
 |some w=>exact bp ((x.get hf k).1 w e) λ u h1 h2=>h1▸h2
theorem F2(W:Wd Γ.G){o e:Expr}{apos pos:Pos}{c ce:AE}(ho:aZ Γ o c)(he:aZ Γ e ce)(hn:NS e)(hf:fX o "get" apos pos [e]):aZ Γ (.Call (.Attribute o (Str.ofString "get") apos) [e] [] pos) (Hz c ce):=λ K P Q hc k=>
 qN K (P:=λ l ρ σ=>ce Γ.F ρ σ λ v σ=>yo v λ k=>BS σ l λ kvs=>P ((br kvs k).getD .none) σ) ho hf PySem.F.slot_dict_get PySem.F.type_dict_get (λ aa h=>.inr (.inl h)) hc λ l a w S hl p=>by
  refine ae (xD hn) ?_;refine wpAny_dict_get1 (knd:=dw Γ.G.prog Γ.G.w) (w.fG W hl) (he (K.up w S).r p λ u v dx dC p hu=>?_);obtain ⟨y,rfl,p⟩:=p.k;apply hu.ks;intro t;cases p with
  |mk hx p=>exact dx.dS (dC.ext _ _ hl) hx λ kvs' k1 k2 aa=>⟨Str.ofString y,_,strKind_is _ _ _ _,k1.mapOf,(K.up dx (S.tr dC)).k1 k p (k2.getD (λ aa aa=>cq) y .none) _⟩
theorem Sl(W:Wd Γ.G){o e b:Expr}{apos pos:Pos}{c ce cb:AE}(ho:aZ Γ o c)(he:aZ Γ e ce)(hb:aZ Γ b cb)(hn:NS e)(fa:NS b)(hf:fX o "get" apos pos [e,b]):
  aZ Γ (.Call (.Attribute o (Str.ofString "get") apos) [e,b] [] pos) (Rc c ce cb):=λ K P Q hc k=>
 qN K (P:=λ l ρ σ=>ce Γ.F ρ σ λ v σ=>pM v λ k=>cb Γ.F ρ σ λ y σ=>Hy σ l λ kvs=>P ((br kvs k).getD y) σ) ho hf PySem.F.slot_dict_get PySem.F.type_dict_get (λ aa h=>.inl h) hc λ l a w S hl p=>by
  refine ae (Sk hn fa) ?_;refine wpAny_dict_get2 (knd:=intKind Γ.G.prog Γ.G.w) (w.fG W hl) (he (K.up w S).r p λ u v dx dC p hu=>?_);obtain ⟨y,rfl,p⟩:=p.k;refine hb (K.up dx (S.tr dC)).r p λ u' v' mw oI p hu'=>?_;apply hu.ki;intro t;cases p with
  |mk hx p=>exact mw.dI ((St.Le.tr dC oI).ext _ _ hl) hx λ kvs' k1 k2 aa=>⟨y,_,intKind_is _ _ _ _,k1.mapOf,(K.up mw (S.tr (St.Le.tr dC oI))).k1 k p (k2.getD (λ aa aa e=>e) y hu') _⟩
def sW(o:AE)(ok:AO->Prop)(cs:List AE)(f:Nat->OL):AE:=λ F ρ σ P=>o F ρ σ λ ov σ=>Bm ok σ (λ l=>i' cs F ρ σ λ vs σ=>f l σ P vs) ov
def Ks(Γ:cZ)(id:String)(f:Nat->OL):Prop:=∀(K:Cx Γ){l:Nat}{b:Addr}{x:List AV}{v:List Value}{P:PV}{Q:Value->Shared->Prop},f l K.w.σ P x->K.w.lam[l]?=some b->K.w.Rs x v->K.KV P Q->K.wp (call (.builtin id) (.ref b::v)) Q
theorem Bc(W:Wd Γ.G){o:Expr}{m:String}{id:String}{apos pos:Pos}{es:List Expr}{c:AE}{cs:List AE}{ok:AO->Prop}{f:Nat->OL}(ho:aZ Γ o c)(a:eY Γ es cs)(hf:fX o m apos pos es)(slot:Slot "dict" (Str.ofString m) id)(Kr:typeOf (.builtin id)=pure (.type "method_descriptor"))
  (ik:∀ao,ok ao->UT ao)(hm:Ks Γ id f):aZ Γ (.Call (.Attribute o (Str.ofString m) apos) es [] pos) (sW c ok cs f):=λ K P Q hc k=>
 qN K (P:=λ l ρ σ=>i' cs Γ.F ρ σ λ vs σ=>f l σ P vs) ho hf slot Kr ik hc λ l b w S hl p=>f3 W (K.up w S) (aJ id) a p λ us vs dx dC p hv=>hm (K.up dx (S.tr dC)) p (dC.ext _ _ hl) hv k
theorem Cx.sj(K:Cx Γ){P:PV}{Q:Value->Shared->Prop}{l:Nat}{a:Addr}{ao:AO}{h':Heap}{tk:Nat}{v:AV}{u:Value}(k:K.KV P Q)(hl:K.w.lam[l]?=some a)(hs:Heap.SameBut a K.w.s.heap h')(p:P v (K.w.σ.set l ao))
  (hr:Kx K.w.s.heap K.w.lam h' K.w.lam->OR Γ.G h' K.w.lam l a ao)(hu:K.w.R v u):Q u {K.w.s with heap:=h',toks:=tk}:=
 have kc:=Kx.upd (List.mem_of_getElem? hl) hs
 K.kn k (K.w.H.upd (s':={K.w.s with heap:=h',toks:=tk}) hl hs rfl rfl (hr kc)) p (VR.mono kc hu)
inductive gA(l:Nat)(σ:U)(P:PV):List AV->Prop
 |old {k:Int} {v u:AV} {kvs:List (Int×AV)}:σ[l]?=some (.dI kvs)->kvs.length<=10000->br kvs k=some u->P u σ->gA l σ P [.int k,v]
 |new {k:Int} {v:AV} {kvs:List (Int×AV)}:σ[l]?=some (.dI kvs)->kvs.length<=10000->br kvs k=none->P v (σ.set l (.dI (dz kvs k v)))->gA l σ P [.int k,v]
theorem Kt(W:Wd Γ.G):Ks Γ "dict.setdefault" gA:=by
 intro K l b x v P Q h;induction h with
 |@old k0 _ _ kvs hx hz e p=>
  intro hl hv k;apply hv.k2;intro u1 u2 h1 h2;apply h1.ki;intro t;exact K.w.dI hl hx λ kvs' g1 g2 hlen=>bp ((g2.get (λ aa aa e=>e) k0).1 _ e) λ u' e1 e2=>call_meetsIn PySem.F.slot_dict_setdefault g1.typeIs PySem.F.entry_dict_setdefault (PySem.F.args_dict_setdefault_3 _ _ _) (kt_meets_setdefault (intKind Γ.G.prog Γ.G.w) b (intKind_is _ _ _ _) (K.w.fG W hl) u2)
   ⟨kvs',g1,d9 hz hlen,λ u hu=>by cases e1.symm.trans hu;exact K.k1 k p e2 _,λ hn aa aa aa=>(nomatch e1.symm.trans hn)⟩
 |@new k0 _ kvs hx hz e p=>
  intro hl hv k;apply hv.k2;intro u1 u2 h1 h2;apply h1.ki;intro t;exact K.w.dI hl hx λ kvs' g1 g2 hlen=>call_meetsIn PySem.F.slot_dict_setdefault g1.typeIs PySem.F.entry_dict_setdefault (PySem.F.args_dict_setdefault_3 _ _ _) (kt_meets_setdefault (intKind Γ.G.prog Γ.G.w) b (intKind_is _ _ _ _) (K.w.fG W hl) u2)
   ⟨kvs',g1,d9 hz hlen,λ u hu=>(nomatch((g2.get (λ aa aa e=>e) k0).2 e).symm.trans hu),λ hn h' hd hs=>K.sj k hl hs p (λ kc=>.dI hd ((g2.set (λ aa aa e=>e) k0 h2).mono kc)) h2⟩
theorem vF(W:Wd Γ.G){o:Expr}{apos pos:Pos}{es:List Expr}{c:AE}{cs:List AE}(ho:aZ Γ o c)(a:eY Γ es cs)(hf:fX o "setdefault" apos pos es):aZ Γ (.Call (.Attribute o (Str.ofString "setdefault") apos) es [] pos) (sW c lj cs gA):=
 Bc W ho a hf PySem.F.slot_dict_setdefault PySem.F.type_dict_setdefault (λ aa h=>.inl h) (Kt W)
end
noncomputable def hV(xs:List AV)(lo hi st:Option Int):List AV:=
 (sliceRange (sliceBounds lo hi st xs.length).1 (sliceBounds lo hi st xs.length).2.1 (sliceBounds lo hi st xs.length).2.2).filterMap (xs[·]?)
theorem bq.filterMap{h:Heap}{lam:List Addr}{xs:List AV}{vs:Array Value}(hv:bq h lam xs vs.toList):∀is:List Nat,bq h lam (is.filterMap (xs[·]?)) (is.filterMap (vs[·]?)):=by
 intro bD;induction bD with
 |nil=>
  skip;exact .nil
 |cons i is ih=>
  skip;have ih:=ih;cases e:xs[i]?with
  |none=>
   have e':vs[i]?=none:=by rw [List.getElem?_eq_none_iff]at e;have:=hv.length;simp only [Array.length_toList]at this;rw [Array.getElem?_eq_none_iff];exact Nat.le_trans (bP this) e
   refine ae (List.filterMap_cons_none e)<|ae (List.filterMap_cons_none e') ?_;exact ih
  |some a=>refine bp (hv.get i e) λ v h1 h2=>?_;rw [Array.getElem?_toList]at h1;refine ae (List.filterMap_cons_some e)<|ae (List.filterMap_cons_some h1) ?_;exact .cons h2 ih
section
variable{Γ:cZ}
theorem NY{v:Value}{i:Int}(x:IsPart v (some i)):∃t,v=.int i t:=by cases x;exact ⟨_,rfl⟩
theorem yw{v:Value}(x:IsPart v none):v=.none:=by cases x;rfl
theorem HA{prog:Program}{w:World}{A:Around}{E:Value->Shared->Prop}{s:Shared}{t sl:Addr}{items:Array Value}{i:Int}{u:Tok}{Q:Value->Shared->Prop}(ht:IsTup s.heap t items)(hs:s.heap.IsSliceOf sl (.int i u) .none .none)
  (h1:1<=i)(h2:i<=items.size)(fV:items.size<=10000)(h:Q (.ref s.heap.objs.size) {s with heap:=s.heap.push {cls:=.type "tuple",data:=.seq (items.toList.drop i.toNat).toArray}}):wpAny (model prog w) A (getItem (.ref t) (.ref sl)) Q E s:=by
 have my:=cN;obtain ⟨j,rfl⟩:∃j:Nat,i=(j:Int):=⟨i.toNat,by lia⟩
 exact getItem_tuple_from ht hs (by lia) (by lia) (by simpa using h) (cI fV my (by simp+arith only))
inductive kE(Γ:cZ):Option Expr->Option AE->Prop
 |none:kE Γ none none
 |some {e:Expr} {c:AE}:aZ Γ e c->kE Γ (some e) (some c)
def BU(c:Option AE)(F:bS)(ρ:Loc)(σ:U)(P:Option Int->U->Prop):Prop:=match c with
 |none=>P none σ
 |some c=>c F ρ σ λ v σ=>pM v λ i=>P (some i) σ
theorem kE.run{e:Option Expr}{c:Option AE}(x:kE Γ e c)(K:Cx Γ){P:Option Int->U->Prop}{Q:Value->Shared->Prop}(hc:BU c Γ.F K.ρ K.w.σ P)(k:∀u i(w:St Γ),K.o.Le w->P i w.σ->IsPart u i->Q u w.s):K.wp (evalPart e K.env) Q:=by
 cases x with
 |none=>exact wpAny_pure (k _ _ K.w K.S hc .none)
 |some h=>
  exact h K hc λ u v w S p hu=>by obtain ⟨i,rfl,p⟩:=p.k;apply hu.ki;intro t;exact k _ _ w S p (.int _ _)
inductive eg(lo hi st:Option Int)(σ:U)(P:PV):AV->Prop
 |l {l:Nat} {xs:List AV}:σ[l]?=some (.list xs)->st≠some 0->(hV xs lo hi st).length<=10000->P (.ref σ.length) (σ++[.list (hV xs lo hi st)])->eg lo hi st σ P (.ref l)
 |t {xs:List AV} {a:Int}:lo=some a->hi=none->st=none->1<=a->a<=xs.length->P (.tup (xs.drop a.toNat)) σ->eg lo hi st σ P (.tup xs)
def f7(o:AE)(lo hi st:Option AE):AE:=λ F ρ σ P=>o F ρ σ λ ov σ=>BU lo F ρ σ λ l σ=>BU hi F ρ σ λ h σ=>BU st F ρ σ λ k σ=>eg l h k σ P ov
theorem HB(K:Cx Γ){value slice:Expr}{ov:AV}{v vl vh vk:Value}{l h k:Option Int}{sl:Addr}{P:PV}{Q:Value->Shared->Prop}(Rd:K.w.s.heap.IsSliceOf sl vl vh vk)(pl:IsPart vl l)(ph:IsPart vh h)(pk:IsPart vk k)(p:eg l h k K.w.σ P ov)(hv:K.w.R ov v)(kk:K.KV P Q):
  K.wp (subscriptTail value slice v (.ref sl)) Q:=by
 revert hv;induction p with
 |l hx h0 UU p=>
  intro hv;apply hv.kr;intro a ZG;have hz:=K.w.lz ZG hx;refine K.w.dv ZG hx λ items n g1 g2 hlen=>gz (IsL.typeIs g1) slot_list_getitem (by simp) (wpAny_getItem_list_slice (IsL.il g1) Rd pl ph pk h0 (K.Hh kk p ?_ UU _) (d9 hz hlen));unfold slicePick hV;refine ae hlen ?_;exact bq.filterMap g2 _
 |t e1 e2 e3 h1 h2 p=>subst e1 e2 e3;intro hv;have hz:=hv.kz;apply hv.kt;intro a items n ht dQ;have hlen:=dQ.size;obtain ⟨t,rfl⟩:=NY pl;cases yw ph;cases yw pk;exact gz (IsT.typeIs ht) PySem.F.slot_tuple_getitem (by simp) (HA ht.it Rd h1 (by lia) (Nat.le_trans (bP hlen) hz) (K.NL kk p (dQ.drop _) (by simp;exact Nat.le_trans hz (Nat.le_add_right ..)) K.w.s.toks))
theorem e6{e:Expr}{lower upper step:Option Expr}{p pos:Pos}{c:AE}{lo hi st:Option AE}(ho:aZ Γ e c)(hl:kE Γ lower lo)(hh:kE Γ upper hi)(hs:kE Γ step st):
  aZ Γ (.Subscript e (.Slice lower upper step p) pos) (f7 c lo hi st):=λ K P Q hc k=>
 Subscript_ (ho K.r hc λ v ov xv kO p hv=>wpAny_Slice (hl.run (K.up xv kO).r p λ vl l dx dC p pl=>hh.run (K.up dx (kO.tr dC)).r p λ vh h mw oI p ph=>hs.run (K.up mw ((kO.tr dC).tr oI)).r p λ vk kk nF HC p pk=>
  have h5:=nF.H.grow (s':={nF.s with heap:=nF.s.heap.push {cls:=.type "slice",data:=.fields #[vl,vh,vk]}}) (λ b o e=>Heap.get?_push_of_some _ e) rfl rfl
  HB (K.up ⟨_,_,_,h5.1⟩ ((((kO.tr dC).tr oI).tr HC).tr h5.2)) (Heap.IsSliceOf.new ..) pl ph pk p (VR.mono h5.2.kx (St.R.up hv (St.Le.tr dC (St.Le.tr oI HC)))) k))
end
end
section
set_option genInjectivity false
set_option genSizeOf false
section
variable{prog:Program} {w:World} {A:Around} {s:Shared}
theorem yx{R:Result->Shared->Prop}{elt target iter:Expr}{scope:Scope}{pos:Pos}{it acc:Value}{env:Env}(I:Nat->Shared->Prop)
  (turn:∀n s,I n s->wpAny (model prog w) A (pyNext it) (λ r fA=>match r with
   |none=>R (.ok .next) fA
   |some v=>wpAny (model prog w) A (letOwnedTupleGo target it v) (λ aa Ku=>wpAny (model prog w) A (assign target env v) (λ aa nT=>wpAny (model prog w) A (eval elt env) (λ x UW=>
     wpAny (model prog w) A (call (.builtin "list.append") [acc,x]) (λ aa UX=>∃m,m<n/\I m UX) (notedBy (model prog w) A env λ e s'=>R (.error e) s') UW)
     (notedBy (model prog w) A env λ e s'=>R (.error e) s') nT) (notedBy (model prog w) A env λ e s'=>R (.error e) s') Ku) (notedBy (model prog w) A env λ e s'=>R (.error e) s') fA) (notedBy (model prog w) A env λ e s'=>R (.error e) s') s)
  (n:Nat)(h:I n s):codeAny (model prog w) A (.compLoop (.ListComp elt [⟨target,iter,[],0⟩] scope pos) 0 it acc env) R s:=by
 refine codeAny_loop rfl I (λ n s hI=>?_) n h;refine (?_:wpAny _ _ ((compTurn (.ListComp elt [⟨target,iter,[],0⟩] scope pos) 0 it acc env).onRaise (λ x=>do noteFrame x env;theTreesLotGoes x)) _ _ s);refine wpAny_noted ?_;rw [compTurn_list1];refine wpAny_bind (wpAny_standAt (wpAny_bind (wpAny_mono (turn n s hI) (λ r fA gj=>?_) λ aa aa h'=>h')));cases r with
 |none=>exact wpAny_pure gj
 |some v=>
  refine wpAny_bind (wpAny_mono gj (λ aa Ku UY=>?_) λ aa aa h'=>h');exact wpAny_bind (wpAny_mono UY (λ aa nT j5=>wpAny_bind (wpAny_bind (wpAny_mono j5 (λ x UW n5=>wpAny_bind (wpAny_mono n5
   (λ aa UX NZ=>wpAny_pure (wpAny_pure ⟨rfl,NZ⟩)) λ aa aa h'=>h')) λ aa aa h'=>h'))) λ aa aa h'=>h')
theorem Kv{R:Result->Shared->Prop}{elt target iter c:Expr}{scope:Scope}{pos:Pos}{it acc:Value}{env:Env}(I:Nat->Shared->Prop)
  (turn:∀n s,I n s->wpAny (model prog w) A (pyNext it) (λ r fA=>match r with
   |none=>R (.ok .next) fA
   |some v=>wpAny (model prog w) A (letOwnedTupleGo target it v) (λ aa Ku=>wpAny (model prog w) A (assign target env v) (λ aa nT=>wpAny (model prog w) A (PySem.isTrue c env (eval c env)) (λ b UZ=>if b=true then
     wpAny (model prog w) A (eval elt env) (λ x UW=>wpAny (model prog w) A (call (.builtin "list.append") [acc,x]) (λ aa UX=>∃m,m<n/\I m UX) (notedBy (model prog w) A env λ e s'=>R (.error e) s') UW)
      (notedBy (model prog w) A env λ e s'=>R (.error e) s') UZ
     else∃m,m<n/\I m UZ)
     (notedBy (model prog w) A env λ e s'=>R (.error e) s') nT) (notedBy (model prog w) A env λ e s'=>R (.error e) s') Ku) (notedBy (model prog w) A env λ e s'=>R (.error e) s') fA) (notedBy (model prog w) A env λ e s'=>R (.error e) s') s)
  (n:Nat)(h:I n s):codeAny (model prog w) A (.compLoop (.ListComp elt [⟨target,iter,[c],0⟩] scope pos) 0 it acc env) R s:=by
 refine codeAny_loop rfl I (λ n s hI=>?_) n h;refine (?_:wpAny _ _ ((compTurn (.ListComp elt [⟨target,iter,[c],0⟩] scope pos) 0 it acc env).onRaise (λ x=>do noteFrame x env;theTreesLotGoes x)) _ _ s);refine wpAny_noted ?_;refine (?_:wpAny _ _ (standAt iter.pos>>=λ aa=>pyNext it>>=λ r=>match r with
  |none=>pure (.done .next)
  |some v=>letOwnedTupleGo target it v>>=λ aa=>assign target env v>>=λ aa=>forIn [c] true (λ c ok=>if ok then(PySem.isTrue c env (eval c env)>>=λ ok=>pure (ForInStep.yield ok))else pure (ForInStep.yield ok))>>=λ ok=>if ok then((eval elt env>>=λ x=>call (.builtin "list.append") [acc,x]>>=λ aa=>pure ())>>=λ aa=>again (.compLoop (.ListComp elt [⟨target,iter,[c],0⟩] scope pos) 0 it acc env))else again (.compLoop (.ListComp elt [⟨target,iter,[c],0⟩] scope pos) 0 it acc env)) _ _ s)
 refine wpAny_bind (wpAny_standAt (wpAny_bind (wpAny_mono (turn n s hI) (λ r fA gj=>?_) λ aa aa h'=>h')));cases r with
 |none=>exact wpAny_pure gj
 |some v=>
  refine wpAny_bind (wpAny_mono gj (λ aa Ku UY=>wpAny_bind (wpAny_mono UY (λ aa nT j5=>?_) λ aa aa h'=>h')) λ aa aa h'=>h');rw [List.forIn_cons];simp only [if_true];refine wpAny_bind (wpAny_bind (wpAny_bind (wpAny_mono j5 (λ b UZ n5=>wpAny_pure ?_) λ aa aa h'=>h')));dsimp only;refine ae List.forIn_nil ?_;refine wpAny_pure ?_;cases b with
  |true=>
   simp only [if_true]at n5⊢;exact wpAny_bind (wpAny_bind (wpAny_mono n5 (λ x UW NZ=>wpAny_bind (wpAny_mono NZ (λ aa UX qO=>wpAny_pure (wpAny_pure ⟨rfl,qO⟩)) λ aa aa h'=>h')) λ aa aa h'=>h'))
  |false=>simp only [Bool.false_eq_true,if_false]at n5⊢;exact wpAny_pure ⟨rfl,n5⟩
end
noncomputable def fw(env:Env):List (Str×NameKind)->List (Str×Addr)->List (Str×Addr)
 |[],acc=>acc
 |(n,k)::r,acc=>if k==.free then fw env r ((n,(env.cells.lookup n).getD 0)::acc)else fw env r acc
theorem oQ(env:Env)(n:Str)(k:NameKind)(r:List (Str×NameKind))(acc:List (Str×Addr)):fw env ((n,k)::r) acc=if k==.free then fw env r ((n,(env.cells.lookup n).getD 0)::acc)else fw env r acc:=rfl
theorem As{scope:Scope}{env:Env}(h:∀x∈scope.names,x.2=.free->(env.cells.lookup x.1).isSome=true):closureFor scope env=pure (fw env scope.names []):=by
 have key:∀(l:List (Str×NameKind))(acc:List (Str×Addr)),(∀x∈l,x.2=.free->(env.cells.lookup x.1).isSome=true)->
   (forIn l acc λ(x:Str×NameKind)(cs:List (Str×Addr))=>(if x.2==.free then(do let a<-cellOf env x.1;pure (ForInStep.yield ((x.1,a)::cs)))else pure (ForInStep.yield cs):Sem (ForInStep (List (Str×Addr)))))=pure (fw env l acc):=by
  intro l;induction l with
  |nil=>intro acc _;rfl
  |cons x r ih=>
   intro acc hl;obtain ⟨n,k⟩:=x;rw [List.forIn_cons];rw [oQ];by_cases hk:k==.free
   ·have hs:=hl (n,k) (.head _) (by simpa using hk);refine dM (Option.isSome_iff_exists.mp hs) λ a ha=>?_;simp only [hk,if_true,cellOf,ha,Option.getD_some];exact ih _ λ y hy=>hl y (.tail _ hy)
   ·simp only [hk,Bool.false_eq_true,if_false];exact ih _ λ y hy=>hl y (.tail _ hy)
 unfold closureFor;exact (congrArg (·>>=pure) (key scope.names [] h)).trans rfl
theorem vG{env:Env}:∀{names:List (Str×NameKind)}{acc:List (Str×Addr)}{p:Str×Addr},p∈fw env names acc->p∈acc\/((p.1,NameKind.free)∈names/\p.2=(env.cells.lookup p.1).getD 0):=by
 intro bD;induction bD with
 |nil=>
  intro acc p h;exact .inl h
 |cons qG r ih=>
  obtain ⟨n,k⟩:=qG;intro acc p h;rw [oQ]at h;split at h
  ·rename_i hk;have eB:k=.free:=by simpa using hk
   subst eB;rcases ih h with h|h
   ·rcases List.mem_cons.mp h with rfl|h
    ·exact .inr ⟨.head _,rfl⟩
    ·exact .inl h
   ·exact .inr ⟨.tail _ h.1,h.2⟩
  ·rcases ih h with h|h
   ·exact .inl h
   ·exact .inr ⟨.tail _ h.1,h.2⟩
theorem HD{env:Env}:∀{names:List (Str×NameKind)}{acc:List (Str×Addr)}{x:Str},((x,NameKind.free)∈names\/(acc.lookup x).isSome=true)->((fw env names acc).lookup x).isSome=true:=by
 intro bD;induction bD with
 |nil=>
  intro acc x h;rcases h with h|h
  ·cases h
  ·exact h
 |cons qG r ih=>
  obtain ⟨n,k⟩:=qG;intro acc x h;have keep:∀a,(acc.lookup x).isSome=true->((((n,a)::acc:List (Str×Addr))).lookup x).isSome=true:=λ a hs=>by
   refine ae List.lookup_cons ?_;split
   ·rfl
   ·exact hs
  rw [oQ];split
  ·rename_i hk;rcases h with h|h
   ·rcases List.mem_cons.mp h with e|h
    ·cases e;exact ih (.inr (by rw [List.lookup_cons,beq_self_eq_true];rfl))
    ·exact ih (.inl h)
   ·exact ih (.inr (keep _ h))
  ·rename_i hk;rcases h with h|h
   ·rcases List.mem_cons.mp h with e|h
    ·cases e;exact absurd rfl hk
    ·exact ih (.inl h)
   ·exact ih (.inr h)
end
section
set_option genInjectivity false
set_option genSizeOf false
theorem EO{f:Str->NameKind->NameKind}:∀(names:List (Str×NameKind))(x:Str),(names.map λ p=>(p.1,f p.1 p.2)).lookup x=(names.lookup x).map (f x):=by
 intro bD;induction bD with
 |nil=>
  intro x;exact rfl
 |cons qG r ih=>
  obtain ⟨n,k⟩:=qG;intro x;refine ae List.map_cons<|ae List.lookup_cons<|ae List.lookup_cons ?_;cases h:x==n with
  |true=>have:=eq_of_beq h;subst this;rfl
  |false=>exact ih x
theorem BV(scope:Scope)(env:Env)(x:Str):(relabel scope env).names.lookup x=(scope.names.lookup x).map λ k=>if(k==.free&&env.scope.kind==.function&&env.kindOf x==some .cell)then .cell else k:=by
 unfold relabel;have e:(scope.names.map λ(n,k)=>if(k==.free&&env.scope.kind==.function&&env.kindOf n==some .cell)then(n,NameKind.cell)else(n,k))
   =scope.names.map λ p=>(p.1,if(p.2==.free&&env.scope.kind==.function&&env.kindOf p.1==some .cell)then NameKind.cell else p.2):=by
  apply List.map_congr_left;rintro ⟨n,k⟩ _;dsimp only;split<;>rfl
 dsimp only;refine ae e ?_;exact EO (f:=λ n k=>if(k==.free&&env.scope.kind==.function&&env.kindOf n==some .cell)then NameKind.cell else k) scope.names x
theorem fQ{names:List (Str×NameKind)}{x:Str}{k:NameKind}(h:names.lookup x=some k):(x,k)∈names:=by
 induction names with
 |nil=>cases h
 |cons z r ih=>
  obtain ⟨n,k'⟩:=z;rw [List.lookup_cons]at h;cases hb:x==n with
  |true=>rw [hb]at h;cases h;have:=eq_of_beq hb;subst this;exact .head _
  |false=>rw [hb]at h;exact .tail _ (ih h)
section
variable{G:Places} {d:Nat} {sc:Scope}
structure qP(sc scope:Scope):Prop where
 kind:scope.kind=.function
 qQ:∀x∈scope.names,x.2≠.cell
 free:∀x∈scope.names,x.2=.free->sc.names.lookup x.1=some .cell/\∃y,x.1=Str.ofString y
 nodup:(scope.names.map (·.1)).Nodup
 dot:kN scope=true
theorem BW{env:Env}:∀(names:List (Str×NameKind))(acc:List (Str×Addr)),(names.map (·.1)++acc.map (·.1)).Nodup->((fw env names acc).map (·.1)).Nodup:=by
 intro bD;induction bD with
 |nil=>
  intro acc h;exact h
 |cons qG r ih=>
  obtain ⟨y,k⟩:=qG;intro acc h;rw [oQ];split
  ·refine ih _ ?_;simp only [List.map_cons,List.cons_append]at h;exact (List.perm_middle (l₁:=r.map (·.1)) (l₂:=acc.map (·.1)) (a:=y)).nodup_iff.mpr h
  ·refine ih _ ?_;simp only [List.map_cons,List.cons_append]at h;exact (List.nodup_cons.mp h).2
noncomputable def inner(scope:Scope)(ρ:Loc):Loc:=λ y=>if scope.names.lookup (Str.ofString y)=some .local then none else ρ y
theorem FR.comp{s:Shared}{lam:List Addr}{env:Env}{ρ:Loc}{scope:Scope}{C:Addr}{m:Str->Option Value}(F:FR G s.heap lam env ρ)(ok:Q1 sc env)(co:qP sc scope)(hC:s.heap.Ns C m)(hn:C∉lam)(h0:G.h₀.get? C=none):
  FR G s.heap lam (compEnvC scope (fw env scope.names []) C env) (inner scope ρ):=by
 have n6:∀x,(x,NameKind.free)∈scope.names->∃y c ov,x=Str.ofString y/\env.cells.lookup x=some c/\s.heap.IsCell c ov/\G.h₀.get? c=none/\∀av,ρ y=some av->∃v,ov=some v/\VR s.heap lam av v:=λ x hx=>by
  obtain ⟨h1,y,rfl⟩:=co.free _ hx rfl;have hk:env.kindOf (Str.ofString y)=some .cell:=by unfold Env.kindOf;refine ae ok.scope ?_;exact h1
  refine nD (F.cell y (.inl hk)) λ c ov e1 e2 e3 e4=>?_;exact ⟨y,c,ov,rfl,e1,e2,e3,e4⟩
 have oR:∀p∈fw env scope.names [],(p.1,NameKind.free)∈scope.names/\env.cells.lookup p.1=some p.2:=λ p hp=>by
  rcases vG hp with h|⟨h1,h2⟩
  ·cases h
  ·refine qn (n6 _ h1) λ y c ov aa e1 aa=>?_;refine ⟨h1,?_⟩;rw [e1]at h2⊢;refine ae h2 ?_;rfl
 have F3:∀x k,(compEnvC scope (fw env scope.names []) C env).kindOf x=some k->∃k0,scope.names.lookup x=some k0/\(k=k0\/(k=.cell/\k0=.free)):=λ x k h=>by
  have h':(relabel scope env).names.lookup x=some k:=h;rw [BV]at h';cases e:scope.names.lookup x with
  |none=>rw [e]at h';cases h'
  |some k0=>
   rw [e]at h';simp only [Option.map_some,Option.some.injEq]at h';refine ⟨k0,rfl,?_⟩;split at h'
   ·rename_i hc;simp only [Bool.and_eq_true,beq_iff_eq]at hc;exact .inr ⟨h'.symm,hc.1.1⟩
   ·exact .inl h'.symm
 refine ⟨⟨m,hC,λ x av hk hr=>?_⟩,λ x hx=>?_,?_,hn,h0,λ p hp=>?_⟩
 ·refine bp (F3 _ _ hk) λ k0 h1 h2=>?_;rcases h2 with rfl|⟨h2,_⟩
  ·unfold inner at hr;rw [if_pos h1]at hr;cases hr
  ·cases h2
 ·have hf:(Str.ofString x,NameKind.free)∈scope.names:=by
   rcases hx with hx|⟨hx,_⟩
   ·refine bp (F3 _ _ hx) λ k0 h1 h2=>?_;rcases h2 with rfl|⟨_,rfl⟩
    ·exact absurd rfl (co.qQ _ (fQ h1))
    ·exact fQ h1
   ·refine bp (F3 _ _ hx) λ k0 h1 h2=>?_;rcases h2 with rfl|⟨h2,_⟩
    ·exact fQ h1
    ·cases h2
  refine NH (n6 _ hf) λ y c ov e0 e1 e2 e3 e4=>?_;have:=cq e0;subst this;refine dM (Option.isSome_iff_exists.mp (HD (env:=env) (acc:=[]) (.inl hf))) λ c' mX=>?_;have h3:=(oR (Str.ofString x,c') (mem_of_lookup mX)).2;rw [e1]at h3;have e5:c'=c:=(Option.some.inj h3).symm;rw [e5]at mX;refine ⟨c,ov,mX,e2,e3,λ av hr=>e4 av ?_⟩;unfold inner at hr;split at hr
  ·cases hr
  ·exact hr
 ·have qC:=BW (env:=env) scope.names [] (by simpa using co.nodup);have hp:(fw env scope.names []).Pairwise λ x y=>x.1≠y.1:=by rw [List.Nodup,List.pairwise_map]at qC;exact qC
  refine List.Pairwise.imp_of_mem (λ{a b}ha hb b_ e=>b_ ?_) hp;have h1:=(oR a ha).2;have h2:=(oR b hb).2;rw [<-e]at h2;exact name_of_addr F.apart (mem_of_lookup h1) (mem_of_lookup h2)
 ·exact F.cells (p.1,p.2) (mem_of_lookup (oR p hp).2)
end
theorem xE(scope:Scope)(env:Env):kN (relabel scope env)=kN scope:=by unfold kN relabel;refine ae List.any_map ?_;congr 1;funext x;obtain ⟨a,b⟩:=x;simp only [Function.comp];split<;>rfl
def qR(scope:Scope)(ns:List String):Prop:=∀y,scope.names.lookup (Str.ofString y)=some .local->y∉ns
theorem Sm{scope:Scope}{ns:List String}(h:qR scope ns){ρ:Loc}:∀y av,pick ns ρ y=some av->inner scope ρ y=some av:=λ y av e=>by unfold inner;refine ae (if_neg (λ hl=>h y hl (gW e).1)) ?_;exact (gW e).2
noncomputable def hW(sc scope:Scope):Scope:=
 {scope with names:=scope.names.map λ(n,k)=>if(k==.free&&sc.kind==.function&&sc.names.lookup n==some .cell)then(n,.cell)else(n,k)}
theorem BX{sc scope:Scope}{env:Env}(h:env.scope=sc):relabel scope env=hW sc scope:=by subst h;rfl
noncomputable def l8(sc scope:Scope)(ns fs:List String):Bool:=
 (scope.kind==.function)&&scope.names.all (λ x=>x.2!=.cell)&&(scope.names.all λ x=>x.2!=.free||fs.any λ f=>x.1==Str.ofString f&&sc.names.lookup (Str.ofString f)==some .cell)&&
 decide (scope.names.map (·.1)).Nodup&&kN scope&&(scope.names.all λ x=>x.2!=.local||ns.all λ y=>x.1!=Str.ofString y)
theorem fH{sc scope:Scope}{ns fs:List String}(h:l8 sc scope ns fs=true):qP sc scope/\qR scope ns:=by
 unfold l8 at h;simp only [Bool.and_eq_true,beq_iff_eq,List.all_eq_true,decide_eq_true_eq,bne_iff_ne,ne_eq,Bool.or_eq_true,List.any_eq_true]at h;obtain ⟨⟨⟨⟨⟨h1,h2⟩,h3⟩,h5⟩,h6⟩,h7⟩:=h;refine ⟨⟨h1,λ x hx=>h2 x hx,λ x hx hk=>?_,h5,h6⟩,λ y hy=>?_⟩
 ·rcases h3 x hx with h|⟨f,hf,e1,e2⟩
  ·exact absurd hk h
  ·exact ⟨by refine ae e1 ?_;exact e2,f,e1⟩
 ·rcases h7 _ (fQ hy)with h|h
  ·exact absurd rfl h
  ·exact λ hm=>h y hm rfl
section
variable{Γ:cZ}
abbrev AR:=aL->Nat->bS->Loc->U->(U->Prop)->Prop
abbrev AM:=bS->Loc->U->(Option AV->U->Prop)->Prop
noncomputable def dk(ns:List String)(g:AG)(e:AM):Nat->AR
 |0,_,_,_,_,_,_=>False
 |n+1,x,l,F,ρ,σ,P=>cw σ (P σ) (λ v x=>g F v ρ σ λ ρ σ=>e F ρ σ λ r σ=>match r with
  |none=>dk ns g e n x l F (pick ns ρ) σ P
  |some u=>bO u σ (λ σ=>dk ns g e n x l F (pick ns ρ) σ P) l) x
def jG(c:AE):AM:=λ F ρ σ P=>c F ρ σ λ u σ=>P (some u) σ
def F4(t:AT)(c:AE):AM:=λ F ρ σ P=>t F ρ σ λ b σ=>if b then c F ρ σ λ u σ=>P (some u) σ else P none σ
def n7(Γ:cZ)(kd:aL->Prop)(elt target iter:Expr)(ifs:List Expr)(scope:Scope)(pos:Pos)(run:AR):Prop:=
 ∀(K:Cx Γ){x:aL}{it:Addr}{fp:List Addr}{l:Nat}{acc:Addr}{P:U->Prop}{R:Result->Shared->Prop},run x l Γ.F K.ρ K.w.σ P->kd x->K.w.It x it fp->Apart K fp->K.w.lam[l]?=some acc->
  (∀ρ(w:St Γ),w.FR K.env ρ->K.f.nS K.env w->P w.σ->w.lam[l]?=some acc->R (.ok .next) w.s)->
  codeAny Γ.M K.A (.compLoop (.ListComp elt [⟨target,iter,ifs,0⟩] scope pos) 0 (.ref it) (.ref acc) K.env) R K.w.s
inductive CompI(env:Env)(f:St Γ)(it:Addr)(fp:List Addr)(l:Nat)(acc:Addr)(run:Nat->aL->Loc->U->Prop)(k:Nat):Shared->Prop
 |mk (ρ:Loc) (w:St Γ) (x:aL):w.FR env ρ->f.nS env w->w.It x it fp->fb x->w.lam[l]?=some acc->run k x ρ w.σ->CompI env f it fp l acc run k w.s
theorem yy(K:Cx Γ){target:Expr}{g:AG}{e:AM}{it:Addr}{fp:List Addr}{l:Nat}{acc:Addr}{P:U->Prop}{n:Nat}{ns:List String}{s:Shared}{Qn B:Shared->Prop}{Q:Option Value->Shared->Prop}{E:Value->Shared->Prop}(hg:ig Γ target g)(ap:Apart K fp)
  (hI:CompI K.env K.f it fp l acc (λ k x ρ σ=>dk ns g e k x l Γ.F ρ σ P) n s)(fin:∀ρ(w:St Γ),w.FR K.env ρ->K.f.nS K.env w->P w.σ->w.lam[l]?=some acc->Qn w.s)
  (body:∀m ρ(w:St Γ)x,n=m+1->w.FR K.env ρ->K.f.nS K.env w->w.It x it fp->fb x->w.lam[l]?=some acc->(e Γ.F ρ w.σ λ r σ=>match r with
   |none=>dk ns g e m x l Γ.F (pick ns ρ) σ P
   |some u=>bO u σ (λ σ=>dk ns g e m x l Γ.F (pick ns ρ) σ P) l)->B w.s)
  (hn:∀s,Qn s->Q none s)(hs:∀v s,wpAny Γ.M K.A (letOwnedTupleGo target (.ref it) v) (λ aa s=>wpAny Γ.M K.A (assign target K.env v) (λ aa s=>B s) E s) E s->Q (some v) s):wpAny Γ.M K.A (pyNext (.ref it)) Q E s:=by
 induction hI with
 |mk ρ w x F T r hx hl p=>
  cases n with
  |zero=>exact p.elim
  |succ m=>have iF:=λ{s':Shared}(N:lT fp w.s w.lam s')=>FR.iter F N λ b hb=>(ap b hb).2.1;have iT:=λ{s':Shared}(N:lT fp w.s w.lam s')=>cG.iter T N λ b hb=>(ap b hb).2.2;refine turn ((K.jB ρ w F T).at K.A E K.R) hn hs p (.inl hx) r.1 (λ b hb=>⟨r.2 b hb,(ap b hb).1⟩) (λ s' H N p=>fin ρ ⟨s',_,_,H⟩ (iF N) (iT N) p hl) λ u v x' s' H N p hv ir aa yt=>?_;refine hg ((K.jB ρ ⟨s',_,_,H⟩ (iF N) (iT N)).at K.A E K.R).rf p hv λ aai dx UE nZ p=>?_;exact body m aai dx x' rfl UE (cG.trans (iT N) nZ) (St.It.step (K:=K) (w:=⟨s',_,_,H⟩) ⟨ir,r.2⟩ ap nZ) (yt hx) (nZ.kx.ext _ _ hl) p
end
end
section
set_option genInjectivity false
set_option genSizeOf false
section
variable{Γ:cZ}
theorem ux(K:Cx Γ){elt:Expr}{c:AE}{l:Nat}{acc:Addr}{N:U->Prop}{E:Value->Shared->Prop}{B:Shared->Prop}(hc:aZ Γ elt c)(hl:K.w.lam[l]?=some acc)
  (p:c Γ.F K.ρ K.w.σ λ u σ=>bO u σ N l)(k:∀w:St Γ,K.w.Le w->N w.σ->B w.s):
  wpAny Γ.M K.A (eval elt K.env) (λ y s=>wpAny Γ.M K.A (call (.builtin "list.append") [.ref acc,y]) (λ aa s=>B s) E s) E K.w.s:=
 hc (K.at K.A E K.R).r p λ y v w S p hy=>by
  cases p with
  |mk yt hz p=>have eH:=S.ext _ _ hl;refine w.dv eH yt λ items n k1 k2 e=>append_at k1 (λ h' hs fu=>?_) (d9 (Nat.le_of_lt hz) e);have kc:=Kx.upd (List.mem_of_getElem? eH) hs;have h7:=w.H.upd (s':={w.s with heap:=h'}) (ao:=.list _) eH hs rfl rfl (.list fu (by refine ae Array.toList_push ?_;exact (bq.mono kc k2).append (.cons (VR.mono kc hy) .nil)) (by simp;exact Nat.le_of_lt_succ hz));exact k ⟨_,_,_,h7.1⟩ (Step.trans S h7.2) p
theorem CompI.next{K:Cx Γ}{it:Addr}{fp:List Addr}{l:Nat}{acc:Addr}{g:AG}{e:AM}{P:U->Prop}{m:Nat}{ns:List String}{ρ:Loc}{w:St Γ}{x:aL}(ap:Apart K fp)(F:w.FR K.env ρ)(T:K.f.nS K.env w)(r:w.It x it fp)(hx:fb x)(hl:w.lam[l]?=some acc)
  (w':St Γ)(S:w.Le w')(p:dk ns g e m x l Γ.F (pick ns ρ) w'.σ P):∃k,k<m+1/\CompI K.env K.f it fp l acc (λ k x ρ σ=>dk ns g e k x l Γ.F ρ σ P) k w'.s:=
 ⟨m,Nat.lt_succ_self _,pick ns ρ,w',x,(FR.step F w.H S).weaken λ aa aa h=>(gW h).2,cG.trans T (Step.toF S w'.H),St.It.step (K:=K) r ap (Step.toF S w'.H),hx,S.ext _ _ hl,p⟩
theorem Rf{ns:List String}(n:Nat){elt target iter:Expr}{scope:Scope}{pos:Pos}{g:AG}{c:AE}(hg:ig Γ target g)(hc:aZ Γ elt c):n7 Γ fb elt target iter [] scope pos (dk ns g (jG c) n):=λ K x it fp l acc P R he hx r ap hl fin=>yx (I:=CompI K.env K.f it fp l acc λ k x ρ σ=>dk ns g (jG c) k x l Γ.F ρ σ P) (λ k s hI=>yy K hg ap hI fin (λ m ρ w x e F T r hx hl p=>e▸ux (N:=λ σ=>dk ns g (jG c) m x l Γ.F (pick ns ρ) σ P) (K.jB ρ w F T) hc hl p (CompI.next ap F T r hx hl)) (λ aa h=>h) λ aa aa h=>h) n ⟨K.ρ,K.w,x,K.F,K.T,r,hx,hl,he⟩
theorem Yn{ns:List String}(n:Nat){elt target iter test:Expr}{scope:Scope}{pos:Pos}{g:AG}{t:AT}{c:AE}(hg:ig Γ target g)(ht:jD Γ test t)(hc:aZ Γ elt c):n7 Γ fb elt target iter [test] scope pos (dk ns g (F4 t c) n):=λ K x it fp l acc P R he hx r ap hl fin=>
 Kv (I:=CompI K.env K.f it fp l acc λ k x ρ σ=>dk ns g (F4 t c) k x l Γ.F ρ σ P) (λ k s hI=>yy K hg ap hI fin (λ m ρ w x e F T r hx hl p=>by
  subst e;refine ht ((K.jB ρ w F T).at K.A _ K.R) p λ b dx dC p=>?_;cases b with
  |true=>exact ux (N:=λ σ=>dk ns g (F4 t c) m x l Γ.F (pick ns ρ) σ P) (K.jB ρ dx (FR.step F w.H dC) (cG.trans T (Step.toF dC dx.H))) hc (dC.ext _ _ hl) p λ mw oI=>CompI.next ap F T r hx hl mw (St.Le.tr dC oI)
  |false=>exact CompI.next (m:=m) ap F T r hx hl dx dC p) (λ aa h=>h) λ aa aa h=>h) n ⟨K.ρ,K.w,x,K.F,K.T,r,hx,hl,he⟩
theorem IR.self{A:Around}{E:Value->Shared->Prop}{s:Shared}{lam:List Addr}{x:aL}{it:Addr}{fp:List Addr}{Q:Value->Shared->Prop}(r:IR s.heap lam x it fp)(hx:fb x)(h:Q (.ref it) s):wpAny (model Γ.G.prog Γ.G.w) A (pyIter (.ref it)) Q E s:=by
 cases x with
 |list l i=>exact bp r λ a h1 aa=>wpAny_pyIter_listiter h1 h
 |tup vs=>obtain ⟨t,i,n,items,h1,_⟩:=r;exact wpAny_pyIter_tupleiter h1 h
 |lG a c n=>exact wpAny_pyIter_rangeiter r.1 h
 |enum=>exact hx.elim
 |zip=>exact hx.elim
 |text x i=>exact bp r λ t h1 aa=>wpAny_pyIter_striter_ascii h1 h
def qS(Γ:cZ)(kd:aL->Prop)(run:AR):Prop:=∀{A:Around}{E:Value->Shared->Prop}{w:St Γ}{x:aL}{it:Addr}{fp:List Addr}{Q:Value->Shared->Prop}{la:Nat}{F:bS}{ρ:Loc}{P:U->Prop},kd x->run x la F ρ w.σ P->w.It x it fp->Q (.ref it) w.s->wpAny Γ.M A (pyIter (.ref it)) Q E w.s
theorem BY{run:AR}:qS Γ fb run:=λ hx aa r h=>r.1.self hx h
noncomputable def cZ.sub(Γ:cZ)(sc:Scope):cZ:={Γ with sc:=sc}
def dE(src:AI)(ns:List String)(run:Nat->AR):AE:=λ F ρ σ P=>src F ρ σ λ x σ=>∃n,run n x σ.length F (pick ns ρ) (σ++[.list []]) λ σ'=>P (.ref σ.length) σ'
theorem Kw{l:List (Str×NameKind)}{y:Str×NameKind}(hn:(l.map (·.1)).Nodup)(hm:y∈l):l.lookup y.1=some y.2:=by
 induction l with
 |nil=>cases hm
 |cons p r ih=>
  obtain ⟨pn,pk⟩:=p;rw [List.map_cons,List.nodup_cons]at hn;rw [List.lookup_cons];rcases List.mem_cons.mp hm with e|hm
  ·subst e;rw [beq_self_eq_true]
  ·cases hb:y.1==pn with
   |false=>exact ih hn.2 hm
   |true=>have Rg:y.1∈r.map (·.1):=List.mem_map.mpr ⟨_,hm,rfl⟩;exact absurd (eq_of_beq hb▸Rg) hn.1
theorem yz(K:Cx Γ){elt target iter:Expr}{ifs:List Expr}{scope:Scope}{pos:Pos}{kd:aL->Prop}{src:AI}{run:Nat->AR}{ns:List String}{use:Option (Value->Sem Unit)}{P:PV}{Q:Value->Shared->Prop}
  (hh:qR scope ns)(co:qP Γ.sc scope)(hi:mA Γ kd iter src)(hf:∀env x,foldedSetIterable iter env x=pure x)(n8:∀n,n7 (Γ.sub (hW Γ.sc scope)) kd elt target iter ifs scope pos (run n))(self:∀n,qS Γ kd (run n))(hc:dE src ns run Γ.F K.ρ K.w.σ P)
  (fin:∀l acc C m(w:St Γ),K.w.Le w->P (.ref l) w.σ->w.lam[l]?=some acc->K.w.s.heap.get? C=none->C∉w.lam->Γ.G.h₀.get? C=none->w.s.heap.Ns C m->compPost Γ.M K.A K.E use Q (.ref acc) C (.ok .next) w.s):
  K.wp (comprehension (.ListComp elt [⟨target,iter,ifs,0⟩] scope pos) scope K.env (firstIterPos [⟨target,iter,ifs,0⟩] pos) (newList []) false (eval iter K.env) use) Q:=by
 have Rh:∀x∈scope.names,x.2=.free->(K.env.cells.lookup x.1).isSome=true:=λ y hy hk=>by obtain ⟨h1,z,hz⟩:=co.free y hy hk;refine xm (K.F.cell z (.inl (K.kind (hz▸h1)))) λ cc ov e1 aa=>?_;refine ae hz<|ae e1 ?_;rfl
 refine wpAny_comprehension_free (g:=⟨target,iter,ifs,0⟩) (gs:=[]) (use:=use) rfl (hf K.env) (As Rh) co.kind (λ y hy hk=>hk▸Kw co.nodup hy) (hi K hc λ it x w fp S p hx r jF=>?_);obtain ⟨fuel,p⟩:=p;refine wpAny_newList ?_;have yA:=λ b o(e:w.s.heap.get? b=some o)=>Heap.get?_push_of_some {cls:=.type "list",data:=.seq ([]:List Value).toArray} e;have h3:=w.H.new (s':={w.s with heap:=w.s.heap.push {cls:=.type "list",data:=.seq ([]:List Value).toArray}}) (a:=w.s.heap.objs.size) (ao:=.list []) yA (Heap.get?_none_of_le (Nat.le_refl _)) rfl rfl (.list (n:=0) (Heap.get?_push_size _ rfl) .nil (Nat.zero_le _));generalize hH:w.s.heap.push {cls:=.type "list",data:=.seq ([]:List Value).toArray}=n5 at*;let mw:St Γ:=⟨_,_,_,h3.1⟩
 have S3:K.w.Le mw:=Step.trans S h3.2;refine wpAny_newFunctionEnv co.qQ (by simp) (λ h' iR vu=>?_) co.kind;have Ri:n5.get? n5.objs.size=none:=Heap.get?_none_of_le (Nat.le_refl _);generalize hC:n5.objs.size=C at*;have h4:=h3.1.grow (s':={w.s with heap:=h',toks:=w.s.toks+0}) (λ b o e=>(vu.2 b λ q=>nomatch(q▸Ri).symm.trans e).trans (Heap.get?_push_of_some _ e)) rfl rfl;let nF:St Γ:=⟨_,_,_,h4.1⟩
 have Rj:w.Le nF:=Step.trans h3.2 h4.2;have S4:K.w.Le nF:=S.tr Rj;have Fi:=((FR.step K.F K.w.H S4).comp K.ok co iR (hC▸mw.mu) (mw.H.xA Ri)).weaken (Sm hh);have ZH:K.w.s.heap.get? C=none:=S3.none Ri;have vy:∀b∈fp,∃o,w.s.heap.get? b=some o:=λ b hb=>let⟨o,ho,_⟩:=r.1.alive b hb;⟨o,ho⟩;have abm:nF.It x it fp:=⟨r.1.keep (λ b hb o e=>Rj.keep b o (r.2 b hb) e) Rj.kx,λ b hb=>dM (vy b hb) λ o ho=>Rj.kx.out (r.2 b hb) ho⟩
 let K':Cx (Γ.sub (hW Γ.sc scope)):=⟨K.A,K.E,compEnvC scope (fw K.env scope.names []) C K.env,⟨K.w.s,K.w.lam,K.w.σ,K.w.H⟩,⟨_,_,_,h4.1⟩,⟨_,_,_,h4.1⟩,_,K.R,⟨BX K.ok.scope,co.kind,K.ok.globals,K.ok.builtins,λ h=>by rw [<-BX K.ok.scope]at h;exact nomatch((xE _ _).trans co.dot).symm.trans h⟩,Fi,.refl _ _,Step.toF S4 h4.1⟩
 have ap:Apart K' fp:=λ b hb=>⟨K.w.H.xA (jF b hb),λ hw=>by
  rcases hw with hw|hw
  ·exact dM (vy b hb) λ o ho=>(nomatch Ri.symm.trans ((show b=C from hw)▸yA _ _ ho:n5.get? C=some o))
  ·obtain ⟨p,hp,rfl⟩:=List.mem_map.mp hw;rcases vG hp with hq|⟨h1,h2⟩
   ·cases hq
   ·refine dM (Option.isSome_iff_exists.mp (Rh _ h1 rfl)) λ cc BR=>?_;rw [BR]at h2;have h3:=jF p.2 hb;rw [h2,show(some cc).getD 0=cc from rfl]at h3;exact xm (K.F.cells (p.1,cc) (mem_of_lookup BR)) λ v o ho aa=>(nomatch h3.symm.trans ho),jF b hb⟩
 have hl4:nF.lam[w.σ.length]?=some w.s.heap.objs.size:=by show(w.lam++[_])[_]?=_;refine cA w.H.len ?_;exact List.getElem?_concat_length ..
 have loop:=n8 fuel K' (R:=compPost Γ.M K.A K.E use Q (.ref w.s.heap.objs.size) C) p hx abm ap hl4 λ ρ w' F' T' p eH=>?_
 ·have:=codeAny_compStart_list (rest:=[]) loop (self fuel (w:=nF) hx p abm loop);exact this
 ·refine bp F'.loc λ m aal aa=>fin _ _ C m ⟨w'.s,w'.lam,w'.σ,w'.H⟩ ⟨T'.kx.ext,λ b o hn e=>T'.keep b o hn (λ hw=>?_) e,T'.kx.fresh⟩ p eH ZH F'.new F'.base aal;rcases hw with hw|hw
  ·exact nomatch ZH.symm.trans ((show b=C from hw)▸e:K.w.s.heap.get? C=some o)
  ·exact nomatch hw.1
theorem uy{elt target iter:Expr}{ifs:List Expr}{scope:Scope}{pos:Pos}{kd:aL->Prop}{src:AI}{run:Nat->AR}{ns:List String}(hh:qR scope ns)(co:qP Γ.sc scope)(hi:mA Γ kd iter src)(hf:∀env x,foldedSetIterable iter env x=pure x)
  (n8:∀n,n7 (Γ.sub (hW Γ.sc scope)) kd elt target iter ifs scope pos (run n))(self:∀n,qS Γ kd (run n)):aZ Γ (.ListComp elt [⟨target,iter,ifs,0⟩] scope pos) (dE src ns run):=λ K P Q h k=>
 yz K hh co hi hf n8 self h λ l acc C m w S p hl hC Rk U0 iR=>⟨m,iR,λ mY hs=>k _ _ ⟨_,_,_,w.H.other (tk:=w.s.toks) hs Rk U0 (kP iR)⟩ (K.S.tr ⟨S.ext,λ b o hn e=>(hs.2 b λ q=>nomatch(q▸hC).symm.trans e).trans (S.keep b o hn e),S.fresh⟩) p (.ref hl)⟩
theorem xF{x:String}{xp:Pos}{elt target iter:Expr}{ifs:List Expr}{scope:Scope}{cp pos:Pos}{kd:aL->Prop}{src:AI}{run:Nat->AR}{ns:List String}(hh:qR scope ns)(co:qP Γ.sc scope)(hi:mA Γ kd iter src)(hf:∀env x,foldedSetIterable iter env x=pure x)
  (n8:∀n,n7 (Γ.sub (hW Γ.sc scope)) kd elt target iter ifs scope cp (run n))(self:∀n,qS Γ kd (run n))(hk:Γ.sc.names.lookup (Str.ofString x)=some .local)
  (h1:∀env:Env,env.scope=Γ.sc->swapsWith (.ListComp elt [⟨target,iter,ifs,0⟩] scope cp) (some (.Name (Str.ofString x) xp)) pos.line env=pure true):
  iL Γ (.Assign [.Name (Str.ofString x) xp] (.ListComp elt [⟨target,iter,ifs,0⟩] scope cp) pos) (aF (dE src ns run) (aW x)):=by
 intro K P Q h k;refine (?_:wpAny _ _ _ _ _ _);rw [exec_Assign_Name_used _ _ _ _ (h1 K.env K.ok.scope),arm_evalThenUse_ListComp];refine wpAny_bind (wpAny_standAt (wpAny_bind ?_));refine wpAny_bind (m:=comprehension (.ListComp elt [⟨target,iter,ifs,0⟩] scope cp) scope K.env (firstIterPos [⟨target,iter,ifs,0⟩] cp) (newList []) false (eval iter K.env) (some (assign (.Name (Str.ofString x) xp) K.env))) ?_;refine yz K hh co hi hf n8 self h λ l acc C m w S p hl hC Rk U0 iR=>?_;refine (?_:wpAny _ _ (assign (.Name (Str.ofString x) xp) K.env (.ref acc)) _ _ _);refine aD hk (K.yr w S).rf p (.ref hl) λ ρ dx UE nZ p=>?_;have N0:dx.s.heap.Ns C m:=iR.at' λ o e=>nZ.keep _ o Rk (λ hw=>qD K.F hC hw.all) e;refine ⟨m,N0,λ mY hs=>wpAny_pure (wpAny_pure ?_)⟩;have aam:C∉dx.lam:=λ hm=>(nZ.kx.fresh _ hm).elim Rk λ e=>Bt iR λ o aa aa ho aa=>nomatch e.symm.trans ho
 have N:lT [C] dx.s dx.lam {dx.s with heap:=mY}:=⟨lR hs (kP N0),λ a o ha e=>(hs.2 a (by simpa using ha)).trans e⟩
 exact k _ _ ρ ⟨_,_,_,dx.H.other (tk:=dx.s.toks) hs aam U0 (kP N0)⟩ (FR.iter UE N λ b hb=>by cases List.mem_singleton.mp hb;exact qD K.F hC)
  (cG.trans K.T (cG.iter (cG.trans (Step.toF S w.H) nZ) N λ b hb=>by cases List.mem_singleton.mp hb;exact hC)) p .next
theorem i6{elt target iter:Expr}{scope:Scope}{pos:Pos}{src:AI}{g:AG}{c:AE}{ns fs:List String}(ck:l8 Γ.sc scope ns fs=true)(hi:mA Γ fb iter src)(hf:∀env x,foldedSetIterable iter env x=pure x)
  (hg:ig (Γ.sub (hW Γ.sc scope)) target g)(hc:aZ (Γ.sub (hW Γ.sc scope)) elt c):aZ Γ (.ListComp elt [⟨target,iter,[],0⟩] scope pos) (dE src ns (dk ns g (jG c))):=
 uy (fH ck).2 (fH ck).1 hi hf (λ n=>Rf n hg hc) (λ aa=>BY)
theorem Rl{elt target iter test:Expr}{scope:Scope}{pos:Pos}{src:AI}{g:AG}{t:AT}{c:AE}{ns fs:List String}(ck:l8 Γ.sc scope ns fs=true)(hi:mA Γ fb iter src)(hf:∀env x,foldedSetIterable iter env x=pure x)
  (hg:ig (Γ.sub (hW Γ.sc scope)) target g)(ht:jD (Γ.sub (hW Γ.sc scope)) test t)(hc:aZ (Γ.sub (hW Γ.sc scope)) elt c):aZ Γ (.ListComp elt [⟨target,iter,[test],0⟩] scope pos) (dE src ns (dk ns g (F4 t c))):=
 uy (fH ck).2 (fH ck).1 hi hf (λ n=>Yn n hg ht hc) (λ aa=>BY)
theorem Ky{x:String}{xp:Pos}{elt target iter:Expr}{scope:Scope}{cp pos:Pos}{src:AI}{g:AG}{c:AE}{ns fs:List String}(ck:l8 Γ.sc scope ns fs=true)(hi:mA Γ fb iter src)(hf:∀env x,foldedSetIterable iter env x=pure x)
  (hg:ig (Γ.sub (hW Γ.sc scope)) target g)(hc:aZ (Γ.sub (hW Γ.sc scope)) elt c)(hk:Γ.sc.names.lookup (Str.ofString x)=some .local)
  (h1:∀env:Env,env.scope=Γ.sc->swapsWith (.ListComp elt [⟨target,iter,[],0⟩] scope cp) (some (.Name (Str.ofString x) xp)) pos.line env=pure true):
  iL Γ (.Assign [.Name (Str.ofString x) xp] (.ListComp elt [⟨target,iter,[],0⟩] scope cp) pos) (aF (dE src ns (dk ns g (jG c))) (aW x)):=
 xF (fH ck).2 (fH ck).1 hi hf (λ n=>Rf n hg hc) (λ aa=>BY) hk h1
end
end
section
set_option genInjectivity false
set_option genSizeOf false
section
variable{prog:Program} {w:World} {K:Type} [DecidableEq K] {knd:HeapKind prog w K} {A:Around} {E:Value->Shared->Prop} {s:Shared}
noncomputable def j_(xs:List (K×Addr×Value))(k:K):List (K×Addr×Value):=xs.filter λ x=>decide (x.1≠k)
theorem Au{xs:List (K×Addr×Value)}{j:Nat}{k:K}{p:Addr×Value}(hn:(xs.map (·.1)).Nodup)(h:xs[j]?=some (k,p)):xs.eraseIdx j=j_ xs k:=by
 induction xs generalizing j with
 |nil=>rfl
 |cons x r ih=>
  rw [List.map_cons,List.nodup_cons]at hn;cases j with
  |zero=>
   simp at h;subst h;refine (?_:r=j_ ((k,p)::r) k);unfold j_;refine ae (List.filter_cons_of_neg (by simp)) ?_;refine (List.filter_eq_self.mpr λ y hy=>?_).symm;simp only [ne_eq,decide_not,Bool.not_eq_eq_eq_not,Bool.not_true,decide_eq_false_iff_not];exact λ e=>hn.1 (List.mem_map.mpr ⟨y,hy,e⟩)
  |succ j=>simp only [List.getElem?_cons_succ]at h;have hm:k∈r.map (·.1):=List.mem_map.mpr ⟨_,List.mem_of_getElem? h,rfl⟩;have hx:x.1≠k:=λ e=>hn.1 (e▸hm);refine (?_:x::r.eraseIdx j=j_ (x::r) k);unfold j_;refine ae (List.filter_cons_of_pos (by exact decide_eq_true hx))<|ae (ih hn.2 h) ?_;rfl
theorem BZ{α β:Type}(f:α->β)(l:List α)(j:Nat):(l.eraseIdx j).map f=(l.map f).eraseIdx j:=by
 induction l generalizing j with
 |nil=>rfl
 |cons x r ih=>cases j with
  |zero=>rfl
  |succ j=>exact congrArg (List.cons (f x)) (ih j)
theorem qT{d a:Addr}{xs:List (K×Addr×Value)}{k:K}{u:Addr×Value}{Q:Option DictEntry->Shared->Prop}(hu:knd.room A)(eZ:knd.is s.heap k a)(hm:s.heap.DictOfH knd d xs)(ht:atKey xs k=some u)
  (Yo:∀e:DictEntry,e.val=u.2->∀h',h'.DictOfH knd d (j_ xs k)->Heap.SameBut d s.heap h'->Q (some e) {s with heap:=h',toks:=s.toks+knd.draws k})
  (fV:xs.length<=sizeLine):
  wpAny (model prog w) A (Builtin.Dict.takeOut d (.ref a)) Q E s:=by
 refine Bu hm λ o es ep ho hc hd he F5 hn=>?_;have F6:=size_of_entries he;unfold Builtin.Dict.takeOut
 try with_reducible refine wpAny_holding ?_
 refine wpAny_bind (knd.pyHash hu eZ ?_);refine wpAny_bind (wpAny_dictFind_heap (s:={s with toks:=s.toks+knd.draws k}) hu eZ ho hd he F5 hn ?_ ?_)
 ·intro ij;rw [atKey_none_of_get ij]at ht;cases ht
 ·intro j p hj;rw [atKey_of_get hn hj]at ht;cases ht;refine wpAny_bind (wpAny_dictEntries (s:={s with toks:=s.toks+knd.draws k}) ho hd ?_);refine ae (entry_at he j)<|ae hj ?_;refine (?_:wpAny _ _ (updateDictKeys d _ _>>=_) _ _ _);refine wpAny_bind (wpAny_updateDictKeys (hz:=Nat.le_trans (bI F6) fV) (s:={s with toks:=s.toks+knd.draws k}) ho hd (wpAny_pure (Yo _ rfl _ ⟨_,_,ep+1,Heap.get?_update_self _ ho (Obj.isFreed_of_dict (Obj.data_mapDictKeys hd _)),
   hc.mapDictKeys _,Obj.data_mapDictKeys hd _,?_,?_,?_⟩ (Heap.SameBut.update ..))))
  ·rw [<-Au hn hj,BZ,<-he];obtain ⟨l⟩:=es;simp
  ·intro x hx;exact knd.keeps (F5 x (List.mem_filter.mp hx).1) ho hd (Heap.SameBut.update ..)
  ·exact (List.filter_sublist.map _).nodup hn
theorem vH{d a:Addr}{xs:List (K×Addr×Value)}{k:K}{v:Value}{Q:Value->Shared->Prop}(hu:knd.room A)(eZ:knd.is s.heap k a)(hm:s.heap.DictOfH knd d xs)
  (h1:∀u,atKey xs k=some u->Q u.2 {s with toks:=s.toks+knd.draws k})
  (h2:atKey xs k=none->∀h',h'.DictOfH knd d (storedH xs k a v)->Heap.SameBut d s.heap h'->Q v {s with heap:=h',toks:=s.toks+knd.draws k})
  (fV:xs.length<=sizeLine):
  wpAny (model prog w) A (dictSetDefault d (.ref a) v) Q E s:=by
 refine Bu hm λ o es ep ho hc hd he F5 hn=>?_;have F6:=size_of_entries he;unfold dictSetDefault
 try with_reducible refine wpAny_holding ?_
 refine wpAny_bind (knd.pyHash hu eZ ?_);refine wpAny_bind (wpAny_dictFind_heap (s:={s with toks:=s.toks+knd.draws k}) hu eZ ho hd he F5 hn ?_ ?_)
 ·intro ij;have aan:k∉xs.map (·.1):=not_mem_keys_of_get ij;refine wpAny_bind (wpAny_rule (wpAny_bind (wpAny_updateDictKeys (hz:=Nat.le_trans (bI F6) fV) (s:={s with toks:=s.toks+knd.draws k}) ho hd (wpAny_pure (h2 (atKey_none_of_get ij) _ ⟨_,_,ep+1,Heap.get?_update_self _ ho (Obj.isFreed_of_dict (Obj.data_mapDictKeys hd _)),
   hc.mapDictKeys _,Obj.data_mapDictKeys hd _,?_,?_,?_⟩ (Heap.SameBut.update ..))))))
  ·rw [storedH_new (atKey_none_of_get ij)];simp [he,entryOfKey]
  ·rw [storedH_new (atKey_none_of_get ij)];intro x hx;rcases List.mem_append.mp hx with hx|hx
   ·exact knd.keeps (F5 x hx) ho hd (Heap.SameBut.update ..)
   ·simp only [List.mem_singleton]at hx;subst hx;exact knd.keeps eZ ho hd (Heap.SameBut.update ..)
  ·rw [storedH_new (atKey_none_of_get ij)];rw [List.map_append,List.nodup_append];refine ⟨hn,by simp,?_⟩;intro x hx y hy;simp only [List.map_cons,List.map_nil,List.mem_singleton]at hy;subst hy;exact λ e=>aan (e▸hx)
 ·intro j p hj;refine wpAny_bind (wpAny_dictEntries (s:={s with toks:=s.toks+knd.draws k}) ho hd ?_);refine ae (entry_at he j)<|ae hj ?_;exact wpAny_bind (wpAny_rule (wpAny_pure (h1 _ (atKey_of_get hn hj))))
end
section
variable{G:Places} {d:Nat} {sc:Scope}
theorem vI{A:Around}{E:Value->Shared->Prop}{s:Shared}{dd a:Addr}{xs}{k:List AK}{u:Addr×Value}{Q:Value->Shared->Prop}(hu:(cu G.prog G.w).room A.in1)(eZ:(cu G.prog G.w).is s.heap k a)(hm:s.heap.DictOfH (cu G.prog G.w) dd xs)(ht:atKey xs k=some u)
  (fV:xs.length<=sizeLine)(h:∀h' tk,h'.DictOfH (cu G.prog G.w) dd (j_ xs k)->Heap.SameBut dd s.heap h'->Q u.2 {s with heap:=h',toks:=tk}):
  wpAny (model G.prog G.w) A (call (.builtin "dict.pop") [.ref dd,.ref a]) Q E s:=by
 refine call_meetsIn PySem.F.slot_dict_pop hm.typeIs PySem.F.entry_dict_pop (PySem.F.args_dict_pop_2 _ _) (.of_wp (S:=λ A R s=>(cu G.prog G.w).room A.in1/\(cu G.prog G.w).is s.heap k a/\s.heap.DictOfH (cu G.prog G.w) dd xs/\
  ∀h' tk,h'.DictOfH (cu G.prog G.w) dd (j_ xs k)->Heap.SameBut dd s.heap h'->R (.ok (.ret u.2)) {s with heap:=h',toks:=tk}) λ A R s ⟨hu,eZ,hm,h⟩=>?_) ⟨hu,eZ,hm,λ h' tk h1 h2=>h h' tk h1 h2⟩
 unfold Builtin.«dict.pop»;refine wpAny_bind ?_;unfold Builtin.Dict.keyAndDefault;refine wpAny_bind (wpAny_notOrdered_dict hm.typeIs ?_);refine (?_:wpAny _ _ (pure (dd,Value.ref a,none)) _ _ s);refine wpAny_pure ?_;refine Bu (id hm) λ o es ep ho hc hd he F5 hn=>?_;have hk:(keyPart (Value.ref a)).isSome=false:=rfl;simp only [hk,Bool.false_eq_true,if_false];refine wpAny_bind (wpAny_dictEntries ho hd (wpAny_bind (wpAny_pure ?_)));have b_:es.isEmpty=false:=by
  cases xs with
  |nil=>simp [atKey]at ht
  |cons x r=>have:=size_of_entries he;simp at this;rw [Array.isEmpty_eq_false_iff];intro e;rw [e]at this;simp at this
 refine ae b_<|ae (if_neg Bool.false_ne_true) ?_;refine wpAny_bind (qT hu eZ hm ht (λ e ZJ h' B0 Kj=>?_) fV);simp only [Option.isNone_some,Bool.false_eq_true,if_false];exact wpAny_bind (wpAny_letGo (wpAny_pure ⟨e.val,rfl,by refine ae ZJ ?_;exact h h' _ B0 Kj⟩))
theorem iU{A:Around}{E:Value->Shared->Prop}{s:Shared}{dd a:Addr}{xs}{k:List AK}{v:Value}{Q:Value->Shared->Prop}(hu:(cu G.prog G.w).room A.in1)(eZ:(cu G.prog G.w).is s.heap k a)(hm:s.heap.DictOfH (cu G.prog G.w) dd xs)
  (aao:(dd==sysModules)=false)(fV:xs.length<=sizeLine)(h1:∀u tk,atKey xs k=some u->Q u.2 {s with toks:=tk})
  (h2:atKey xs k=none->∀h' tk,h'.DictOfH (cu G.prog G.w) dd (storedH xs k a v)->Heap.SameBut dd s.heap h'->Q v {s with heap:=h',toks:=tk}):
  wpAny (model G.prog G.w) A (call (.builtin "dict.setdefault") [.ref dd,.ref a,v]) Q E s:=by
 refine call_meetsIn PySem.F.slot_dict_setdefault hm.typeIs PySem.F.entry_dict_setdefault (PySem.F.args_dict_setdefault_3 _ _ _) (.of_wp (S:=λ A R s=>(cu G.prog G.w).room A.in1/\(cu G.prog G.w).is s.heap k a/\s.heap.DictOfH (cu G.prog G.w) dd xs/\
  (∀u tk,atKey xs k=some u->R (.ok (.ret u.2)) {s with toks:=tk})/\(atKey xs k=none->∀h' tk,h'.DictOfH (cu G.prog G.w) dd (storedH xs k a v)->Heap.SameBut dd s.heap h'->R (.ok (.ret v)) {s with heap:=h',toks:=tk})) λ A R s ⟨hu,eZ,hm,h1,h2⟩=>?_) ⟨hu,eZ,hm,h1,h2⟩
 unfold Builtin.«dict.setdefault»;refine wpAny_bind ?_;unfold Builtin.Dict.keyAndDefault;refine wpAny_bind (wpAny_notOrdered_dict hm.typeIs ?_);refine (?_:wpAny _ _ (pure (dd,Value.ref a,some v)) _ _ s);refine wpAny_pure ?_;refine (?_:wpAny _ _ (if(dd==sysModules)=true then _ else(dictSetDefault dd (.ref a) v>>=_)) _ _ s);refine ae (if_neg (by rw [aao];exact Bool.false_ne_true)) ?_;exact wpAny_bind (vH hu eZ hm (λ u hu=>wpAny_pure ⟨_,rfl,h1 u _ hu⟩) (λ hn h' a b=>wpAny_pure ⟨_,rfl,h2 hn h' _ a b⟩) fV)
theorem xG{A:Around}{E:Value->Shared->Prop}{s:Shared}{dd a:Addr}{xs}{k:List AK}{u:Addr×Value}{Q:Unit->Shared->Prop}(hu:(cu G.prog G.w).room A.in1)(eZ:(cu G.prog G.w).is s.heap k a)(hm:s.heap.DictOfH (cu G.prog G.w) dd xs)(ht:atKey xs k=some u)
  (fV:xs.length<=sizeLine)(h:∀h' tk,h'.DictOfH (cu G.prog G.w) dd (j_ xs k)->Heap.SameBut dd s.heap h'->Q () {s with heap:=h',toks:=tk}):
  wpAny (model G.prog G.w) A (delItem (.ref dd) (.ref a)) Q E s:=by
 unfold delItem
 try with_reducible refine wpAny_holding ?_
 refine wpAny_bind (wpAny_sequenceKey hm.typeIs (by decide) ?_);refine wpAny_bind (wpAny_callSpecial?_slot (name:=Str.ofString "__delitem__") hm.typeIs PySem.F.slot_dict_delitem
  (call_meetsIn PySem.F.slot_dict_delitem hm.typeIs PySem.F.entry_dict_delitem (PySem.F.args_dict_delitem_2 _ _) (.of_wp (S:=λ A R s=>(cu G.prog G.w).room A.in1/\(cu G.prog G.w).is s.heap k a/\s.heap.DictOfH (cu G.prog G.w) dd xs/\
  ∀h' tk,h'.DictOfH (cu G.prog G.w) dd (j_ xs k)->Heap.SameBut dd s.heap h'->R (.ok (.ret .none)) {s with heap:=h',toks:=tk}) λ A R s ⟨hu,eZ,hm,h⟩=>?_) ⟨hu,eZ,hm,λ h' tk h1 h2=>wpAny_pure (h h' tk h1 h2)⟩))
 unfold Builtin.«dict.__delitem__»;refine wpAny_bind ?_;unfold Builtin.Dict.dictSlotArgs;refine wpAny_bind (wpAny_notOrdered_dict hm.typeIs ?_);refine (?_:wpAny _ _ (pure (Value.ref dd,Value.ref a)) _ _ s);refine wpAny_pure ?_;refine (?_:wpAny _ _ (Builtin.Dict.takeOut dd (.ref a)>>=_) _ _ s);refine wpAny_bind (qT hu eZ hm ht (λ e ZJ h' B0 Kj=>?_) fV);exact wpAny_bind (wpAny_letGo (wpAny_pure ⟨.none,rfl,h h' _ B0 Kj⟩))
end
theorem KT.del{h:Heap}{lam:List Addr}{kvs:List (List AK×AV)}{xs}(x:KT h lam kvs xs)(k:List AK):KT h lam (jE kvs k) (j_ xs k):=by
 induction x with
 |nil=>exact .nil
 |@cons k0 av a v r r' hv _ ih=>
  unfold jE j_ at ih⊢;by_cases hk:k0=k
  ·subst hk;refine ae (List.filter_cons_of_neg (by simp))<|ae (List.filter_cons_of_neg (by simp)) ?_;exact ih
  ·refine ae (List.filter_cons_of_pos (by exact decide_eq_true hk))<|ae (List.filter_cons_of_pos (by exact decide_eq_true hk)) ?_;exact .cons hv ih
theorem B1{lam:List Addr}{xs:List (List AK×Addr×Value)}{k:List AK}(h:∀x∈xs,x.2.1∉lam):∀x∈j_ xs k,x.2.1∉lam:=λ x hx=>h x (List.mem_filter.mp hx).1
section
variable{Γ:cZ}
inductive sk(l:Nat)(σ:U)(P:PV):List AV->Prop
 |mk {k:Int} {u:AV} {kvs:List (Int×AV)}:σ[l]?=some (.dI kvs)->kvs.length<=10000->br kvs k=some u->P u (σ.set l (.dI (jE kvs k)))->sk l σ P [.int k]
theorem U1:Ks Γ "dict.pop" sk:=by
 intro K l b x v P Q h;induction h with
 |@mk k0 u kvs hx hz e p=>
  intro hl hv k;apply hv.k1;intro u1 h1;apply h1.ki;intro t;exact K.w.dI hl hx λ kvs' g1 g2 hlen=>bp ((g2.get (λ aa aa e=>e) k0).1 _ e) λ u' e1 e2=>call_meetsIn PySem.F.slot_dict_pop g1.typeIs PySem.F.entry_dict_pop (PySem.F.args_dict_pop_2 _ _) (meets_dict_pop_there (intKind Γ.G.prog Γ.G.w) b (intKind_is _ _ _ _) [] (.inl rfl) rfl)
   ⟨kvs',u',g1,d9 hz hlen,e1,λ h' hd hs=>K.sj k hl hs p (λ kc=>.dI hd ((g2.del (λ aa aa e=>e) k0).mono kc)) e2⟩
theorem Sn(W:Wd Γ.G){o:Expr}{apos pos:Pos}{es:List Expr}{c:AE}{cs:List AE}(ho:aZ Γ o c)(a:eY Γ es cs)(hf:fX o "pop" apos pos es):aZ Γ (.Call (.Attribute o (Str.ofString "pop") apos) es [] pos) (sW c lj cs sk):=
 Bc W ho a hf PySem.F.slot_dict_pop PySem.F.type_dict_pop (λ aa h=>.inl h) U1
inductive vJ(l:Nat)(σ:U)(P:PV):List AV->Prop
 |mk {ks:List AV} {k:List AK} {u:AV} {kvs:List (List AK×AV)}:σ[l]?=some (.dT kvs)->gx ks=some k->kvs.length<=10000->br kvs k=some u->P u (σ.set l (.dT (jE kvs k)))->vJ l σ P [.tup ks]
theorem U2:Ks Γ "dict.pop" vJ:=by
 intro K l b x v P Q h;induction h with
 |@mk ks k0 u kvs hx hk hz e p=>intro hl hv k;apply hv.k1;intro u1 h1;refine K.w.dT hl hx λ xs g1 g2 g3 hlen=>bp ((g2.get k0).1 _ e) λ u' e1 e2=>?_;have nY:=h1;revert nY;apply h1.kt;intro ka items n ht dQ nY;exact vI K.R.tk (jo nY hk) g1 e1 (d9 hz hlen) λ h' tk hd hs=>K.sj k hl hs p (λ kc=>.dT hd ((g2.del k0).mono kc) (B1 g3)) e2
theorem So(W:Wd Γ.G){o:Expr}{apos pos:Pos}{es:List Expr}{c:AE}{cs:List AE}(ho:aZ Γ o c)(a:eY Γ es cs)(hf:fX o "pop" apos pos es):aZ Γ (.Call (.Attribute o (Str.ofString "pop") apos) es [] pos) (sW c uw cs vJ):=
 Bc W ho a hf PySem.F.slot_dict_pop PySem.F.type_dict_pop (λ aa h=>.inr (.inr h)) U2
inductive iq(l:Nat)(σ:U)(P:PV):List AV->Prop
 |old {ks:List AV} {k:List AK} {v u:AV} {kvs:List (List AK×AV)}:σ[l]?=some (.dT kvs)->gx ks=some k->kvs.length<=10000->br kvs k=some u->P u σ->iq l σ P [.tup ks,v]
 |new {ks:List AV} {k:List AK} {v:AV} {kvs:List (List AK×AV)}:σ[l]?=some (.dT kvs)->gx ks=some k->kvs.length<=10000->br kvs k=none->P v (σ.set l (.dT (dz kvs k v)))->iq l σ P [.tup ks,v]
theorem Kz(W:Wd Γ.G):Ks Γ "dict.setdefault" iq:=by
 intro K l b x v P Q h;induction h with
 |@old ks k0 _ _ kvs hx hk hz e p=>
  intro hl hv k;apply hv.k2;intro u1 u2 h1 h2;refine K.w.dT hl hx λ xs g1 g2 g3 hlen=>bp ((g2.get k0).1 _ e) λ u' e1 e2=>?_;have nY:=h1;revert nY;apply h1.kt;intro ka items n ht dQ nY;exact iU K.R.tk (jo nY hk) g1 (K.w.fG W hl) (d9 hz hlen) (λ u tk hu=>by cases e1.symm.trans hu;exact K.k1 k p e2 _) λ hn aa aa aa aa=>nomatch e1.symm.trans hn
 |@new ks k0 _ kvs hx hk hz e p=>intro hl hv k;apply hv.k2;intro u1 u2 h1 h2;refine K.w.dT hl hx λ xs g1 g2 g3 hlen=>?_;have nY:=h1;revert nY;apply h1.kt;intro ka items n ht dQ nY;exact iU K.R.tk (jo nY hk) g1 (K.w.fG W hl) (d9 hz hlen) (λ u tk hu=>nomatch((g2.get k0).2 e).symm.trans hu) λ hn h' tk hd hs=>K.sj k hl hs p (λ kc=>.dT hd ((g2.set k0 h2).mono kc) (sV g3 ht.1)) h2
theorem HE(W:Wd Γ.G){o:Expr}{apos pos:Pos}{es:List Expr}{c:AE}{cs:List AE}(ho:aZ Γ o c)(a:eY Γ es cs)(hf:fX o "setdefault" apos pos es):aZ Γ (.Call (.Attribute o (Str.ofString "setdefault") apos) es [] pos) (sW c uw cs iq):=
 Bc W ho a hf PySem.F.slot_dict_setdefault PySem.F.type_dict_setdefault (λ aa h=>.inr (.inr h)) (Kz W)
inductive qU(σ:U)(P:U->Prop):AV->AV->Prop
 |i {l:Nat} {k:Int} {kvs:List (Int×AV)}:σ[l]?=some (.dI kvs)->kvs.length<=10000->(br kvs k).isSome=true->P (σ.set l (.dI (jE kvs k)))->qU σ P (.ref l) (.int k)
 |t {l:Nat} {ks:List AV} {k:List AK} {kvs:List (List AK×AV)}:σ[l]?=some (.dT kvs)->gx ks=some k->kvs.length<=10000->(br kvs k).isSome=true->P (σ.set l (.dT (jE kvs k)))->qU σ P (.ref l) (.tup ks)
theorem Yp(K:Cx Γ){o i:AV}{ov iv:Value}{P:U->Prop}{Q:Unit->Shared->Prop}(hc:qU K.w.σ P o i):K.w.R o ov->K.w.R i iv->K.KM P Q->K.wp (delItem ov iv) Q:=by
 induction hc with
 |@i l k0 kvs hx hz U3 p=>
  intro ho hi k;apply ho.kr;intro b hl;apply hi.ki;intro t;refine K.w.dI hl hx λ kvs' g1 g2 hlen=>?_;refine (?_:wpAny _ _ (delItem _ _) _ _ _);unfold delItem
  try with_reducible refine wpAny_holding ?_
  refine wpAny_bind (wpAny_sequenceKey g1.typeIs (by decide) ?_);exact wpAny_bind (wpAny_callSpecial?_slot (name:=Str.ofString "__delitem__") g1.typeIs PySem.F.slot_dict_delitem
   (call_meetsIn PySem.F.slot_dict_delitem g1.typeIs PySem.F.entry_dict_delitem (PySem.F.args_dict_delitem_2 _ _) (meets_dict_delitem_pairs (intKind Γ.G.prog Γ.G.w) b (intKind_is _ _ _ _)) ⟨kvs',g1,d9 hz hlen,(KR.isSome (λ aa aa e=>e) g2 k0).trans U3,
    λ h' hd hs=>wpAny_pure (K.qB k hl hs p λ kc=>.dI hd ((g2.del (λ aa aa e=>e) k0).mono kc))⟩))
 |@t l ks k0 kvs hx hk hz U3 p=>intro ho hi k;apply ho.kr;intro b hl;refine K.w.dT hl hx λ xs g1 g2 g3 hlen=>dM (Option.isSome_iff_exists.mp U3) λ u e=>bp ((g2.get k0).1 _ e) λ u' e1 e2=>?_;have mz:=hi;revert mz;apply hi.kt;intro ka items n ht dQ mz;exact xG K.R.tk (jo mz hk) g1 e1 (d9 hz hlen) λ h' tk hd hs=>K.qB k hl hs p λ kc=>.dT hd ((g2.del k0).mono kc) (B1 g3)
def N1(o i:AE):AS:=λ F ρ σ P=>o F ρ σ λ ov σ=>i F ρ σ λ iv σ=>qU σ (λ σ=>P .next ρ σ) ov iv
theorem F7{e i:Expr}{p pos:Pos}{c ci:AE}(ho:aZ Γ e c)(hi:aZ Γ i ci):iL Γ (.Delete [.Subscript e i p] pos) (N1 c ci):=λ K P Q hc k=>wpAny_Delete (wpAny_deleteEach_cons (delete_Subscript (ho K.r hc λ v aa w S p hv=>hi (K.up w S).r p λ u aa dx dC p hu=>Yp (K.up dx (S.tr dC)).r p (hv.up dC) hu λ mw oI p=>wpAny_deleteEach_nil (K.kS k mw ((S.tr dC).tr oI) p .next))))
end
theorem xH{α:Type}(g:Nat->Bool)(a:Nat)(hg:∀k,g k=decide (a<=k)):∀(l:List α)(i:Nat),i<=a->((l.zipIdx i).filterMap λ(x,k)=>if g k then none else some x)=l.take (a -i):=by
 intro bD;induction bD with
 |nil=>
  intro i zz;simp
 |cons x r ih=>
  intro i h;rw [List.zipIdx_cons,List.filterMap_cons];dsimp only;by_cases e:i=a
  ·subst e;rw [show g i=true by rw [hg];exact decide_eq_true h];simp only [if_true,Nat.sub_self,List.take_zero];have:∀(l:List α)(j:Nat),i<=j->((l.zipIdx j).filterMap λ(x,k)=>if g k then none else some x)=[]:=by
    intro l;induction l with
    |nil=>intro j _;simp
    |cons y q ih=>intro j hj;rw [List.zipIdx_cons,List.filterMap_cons];dsimp only;rw [show g j=true by rw [hg];simpa using hj];rw [if_pos rfl];exact ih _ (Nat.le_succ_of_le hj)
   exact this r (i+1) (Nat.le_succ _)
  ·have hn:g i=false:=by rw [hg];simp;exact (Nat.lt_of_le_of_ne h e)
   rw [hn,if_neg Bool.false_ne_true];exact ae (ih (i+1) ((Nat.lt_of_le_of_ne h e)))<|ae (show a -i=(a -(i+1))+1 by exact Nat.le_antisymm (cI (bI (Nat.sub_add_cancel (show(i)<=(a) from h))) (bP (Nat.sub_add_cancel (show(i+1)<=(a) from(Nat.lt_of_le_of_ne h e)))) (by simp+arith only)) (cI (bP (Nat.sub_add_cancel (show(i)<=(a) from h))) (bI (Nat.sub_add_cancel (show(i+1)<=(a) from(Nat.lt_of_le_of_ne h e)))) (by simp+arith only)))<|ae List.take_succ_cons rfl
section
variable{G:Places} {d:Nat} {sc:Scope}
theorem N2{α:Type}(n:Nat)(g:Nat->Bool)(a:Nat):∀(l:List α)(i:Nat),i+l.length<=n->(∀k,k<n->g k=decide (a<=k))->i<=a->((l.zipIdx i).filterMap λ(x,k)=>if g k then none else some x)=l.take (a -i):=by
 intro l i hn hg hi;have:((l.zipIdx i).filterMap λ(x,k)=>if g k then none else some x)=((l.zipIdx i).filterMap λ(x,k)=>if(λ k=>decide (a<=k)) k then none else some x):=by
  have key:∀(l:List α)(i:Nat),i+l.length<=n->((l.zipIdx i).filterMap λ(x,k)=>if g k then none else some x)=((l.zipIdx i).filterMap λ(x,k)=>if(λ k=>decide (a<=k)) k then none else some x):=by
   intro l;induction l with
   |nil=>intro i _;rfl
   |cons y q ih=>intro i h;simp only [List.length_cons]at h;rw [List.zipIdx_cons,List.filterMap_cons,List.filterMap_cons,ih (i+1) (bG h (by simp+arith only))];dsimp only;exact ae (hg i (ml h)) rfl
  exact key l i hn
 refine ae this ?_;exact xH _ a (λ k=>rfl) l i hi
theorem Av{A:Around}{E:Value->Shared->Prop}{s:Shared}{l sl:Addr}{items:Array Value}{n:Nat}{i:Int}{u:Tok}{Q:Unit->Shared->Prop}(hl:IsL s.heap l items n)(hs:s.heap.IsSliceOf sl (.int i u) .none .none)(h0:0<=i)(h1:i<=items.size)(fV:items.size<=sizeLine)
  (h:∀f:Array Value->Array Value,f items=(items.toList.take i.toNat).toArray->Q () {s with heap:=s.heap.update l (Obj.mapSeq f)}):wpAny (model G.prog G.w) A (delItem (.ref l) (.ref sl)) Q E s:=by
 refine fO (id hs) λ os Rm hcs U4=>?_;have ZK:s.TypeIs (.ref sl) "slice":=⟨os,Rm,hcs⟩
 have qV:s.TypeIs (.ref l) "list":=⟨_,hl,rfl⟩
 unfold delItem
 try with_reducible refine wpAny_holding ?_
 refine wpAny_bind (wpAny_sequenceKey qV (by decide) ?_);refine wpAny_bind (wpAny_callSpecial?_slot (name:=Str.ofString "__delitem__") qV PySem.F.slot_list_delitem
  (wpAny_call_entry PySem.F.slot_list_delitem qV PySem.F.entry_list_delitem ?_ (PySem.F.args_list_delitem_2 _ _)))
 show wpAny _ _ (Builtin.List.listSubscript? (.ref sl)>>=_) _ _ s;refine wpAny_bind ?_;unfold Builtin.List.listSubscript?;refine wpAny_bind (wpAny_specialOf ZK slice_no_index ?_);simp only [Option.isNone_none,if_true];refine wpAny_pure ?_;show wpAny _ _ (typeOf (.ref sl)>>=_) _ _ s;refine wpAny_bind (wpAny_typeOf ZK ?_);rw [if_neg (by decide)];rw [listSliceParts_eq];refine wpAny_bind (wpAny_bind (wpAny_field Rm U4 (x:=.none) rfl (wpAny_bind (wpAny_listPart .none ?_))));rw [if_neg (show¬((rawPart none==rawInt 0)=true) from Bool.false_ne_true)];refine wpAny_bind (wpAny_field Rm U4 (x:=.int i u) rfl (wpAny_bind (wpAny_listPart (.int i u) ?_)));refine wpAny_bind (wpAny_field Rm U4 (x:=.none) rfl (wpAny_bind (wpAny_listPart .none (wpAny_pure ?_))));refine wpAny_bind (m:=Builtin.List.listItems (.ref l)) ?_;unfold Builtin.List.listItems;refine wpAny_bind (wpAny_seqItems hl rfl (wpAny_pure ?_));refine wpAny_bind (wpAny_of_eq (sliceIndices_raw (some i) none none items.size (by decide)) ?_);have hb:sliceBounds (some i) none none items.size=(i,(items.size:Int),1):=by unfold sliceBounds;simp only [Option.getD_none,show(1:Int)>0 by decide,if_true];rw [if_neg (by lia)];congr 1;lia
 rw [hb];refine wpAny_bind (wpAny_rule ?_);have key:∀sel:Nat->Bool,(∀k,sel k=(decide (i<=(k:Int))&&decide ((k:Int)<items.size)&&((k:Int) -i) %1==0))->(items.toList.zipIdx.filterMap λ(x,k)=>if sel k then none else some x).toArray=(items.toList.take i.toNat).toArray:=by
  intro sel aap;rw [N2 items.size sel i.toNat items.toList 0 (by simp) (λ k hk=>?_) (Nat.zero_le _)]
  ·rfl
  ·rw [aap,Int.emod_one];have e1:decide ((k:Int)<items.size)=true:=by simpa using hk
   rw [e1];simp only [Bool.and_true,BEq.rfl];by_cases ZL:i<=k
   ·rw [decide_eq_true ZL,decide_eq_true (by lia)]
   ·exact ae (decide_eq_false ZL)<|ae (decide_eq_false (by lia)) rfl
 have hz:(items.toList.take i.toNat).toArray.size<=items.size:=by simp only [List.size_toArray,List.length_take,Array.length_toList];exact Nat.min_le_right _ _
 refine wpAny_bind (listUpdate_at hl rfl ?_ fV ?_)
 ·exact wpAny_bind (wpAny_letGo (wpAny_pure ⟨_,rfl,wpAny_pure (h _ (key _ λ k=>rfl))⟩))
 ·refine Nat.le_trans (Nat.le_of_eq (congrArg Array.size (key _ λ k=>rfl))) (nc (Nat.le_trans hz fV) rfl)
end
section
variable{Γ:cZ}
inductive m_(σ:U)(P:U->Prop):AV->AV->Prop
 |mk {l k:Nat} {xs:List AV}:σ[l]?=some (.list xs)->k<=xs.length->P (σ.set l (.list (xs.take k)))->m_ σ P (.ref l) (.int k)
def oS(o i:AE):AS:=λ F ρ σ P=>o F ρ σ λ ov σ=>i F ρ σ λ iv σ=>m_ σ (λ σ=>P .next ρ σ) ov iv
theorem nH{e i:Expr}{p p' pos:Pos}{c ci:AE}(ho:aZ Γ e c)(hi:aZ Γ i ci):iL Γ (.Delete [.Subscript e (.Slice (some i) none none p') p] pos) (oS c ci):=λ K P Q hc k=>
 wpAny_Delete (wpAny_deleteEach_cons (delete_Subscript (ho K.r hc λ v ov w S p0 hv=>wpAny_Slice (hi (K.up w S).r p0 λ u iv dx dC p hu=>by
  rw [evalPart_none];refine wpAny_pure (wpAny_pure ?_);have hv:=hv.up dC;revert hv hu;induction p with
  |@mk l i xs hx hi p=>intro hu hv;apply hv.kr;intro b hl;apply hu.ki;intro t;have hz:=dx.lz hl hx;have h5:=dx.H.grow (s':={dx.s with heap:=dx.s.heap.push {cls:=.type "slice",data:=.fields #[.int i t,.none,.none]}}) (λ b o e=>Heap.get?_push_of_some _ e) rfl rfl;let U5:=(K.up ⟨_,_,_,h5.1⟩ (Step.trans (S.tr dC) h5.2)).r;refine U5.w.dv hl hx λ items n g1 g2 hlen=>Av (G:=Γ.G) (s:=U5.w.s) g1 (Heap.IsSliceOf.new ..) (Int.natCast_nonneg i) (by refine cA hlen ?_;exact Int.ofNat_le.mpr hi) (d9 hz hlen) λ f hf=>wpAny_deleteEach_nil ?_;have hs:Heap.SameBut b U5.w.s.heap (U5.w.s.heap.update b (Obj.mapSeq f)):=Heap.SameBut.update ..;refine U5.qB (Q:=λ aa s=>Q .next s) (tk:=dx.s.toks) (λ abX abY p=>K.kS k abX (Step.trans (Step.trans (S.tr dC) h5.2) abY) p .next) hl hs p λ kc=>.list (n:=if(f items).size=items.size then n else n+1) (items:=f items) ?_ (bq.mono kc (by refine ae hf ?_;simpa using bq.take g2 _)) (by simp;exact Nat.le_trans (Nat.min_le_right (i) (xs.length)) hz);refine (?_:Heap.get? _ _=_);refine ae (Heap.get?_update_self _ g1 rfl) ?_;simp [Obj.mapSeq]))))
end
section
variable{Γ:cZ}
inductive HF(σ:U)(P:PV):List AV->Prop
 |mk {n:Int}:0<=n->n<1000->P (.str (toString n)) σ->HF σ P [.int n]
theorem N3:iM Γ (.type "str") HF:=by
 intro K x v P Q hc;induction hc with
 |mk h0 h1 p=>intro hv k;apply hv.k1;intro u hu;apply hu.ki;intro t;exact str_of_int_fit (N:=1000) (by refine ae (if_neg (by lia)) ?_;exact h1) (by decide) λ aa=>K.k1 k p (.str _ _ rfl) _
end
section
variable{G:Places} {d:Nat} {sc:Scope}
theorem nf{A:Around}{E:Value->Shared->Prop}{s:Shared}{v:Value}{ns:List Int}{Q:Value->Shared->Prop}
  (aaq:wpAny (model G.prog G.w) A.in1 (collect v) (λ vs fA=>∃ms h' tk dr,fA={s with heap:=h',toks:=tk,drawn:=dr}/\(∀b o,s.heap.get? b=some o->h'.get? b=some o)/\IntsAre vs ms/\ms.Perm ns/\vs.length<64) E s)
  (h:∀a h' tk dr out n,(∀b o,s.heap.get? b=some o->h'.get? b=some o)->s.heap.get? a=none->IsL h' a out n->IntsAre out.toList (hU ns)->Q (.ref a) {s with heap:=h',toks:=tk,drawn:=dr}):
  wpAny (model G.prog G.w) A (call (.builtin "sorted") [v]) Q E s:=by
 refine Calls.call_function_entry kind_sorted plain_sorted entry_sorted (args_sorted1 _) ?_;unfold Builtin.«sorted»;refine wpAny_bind (m:=checkCount "sorted" 1 1 _) (wpAny_pure ?_);refine wpAny_bind (wpAny_mono aaq (λ vs fA ⟨ms,h',tk,dr,e,hk,hi,hp,hl⟩=>?_) λ aa aa e=>e);subst e;have my:=cN;refine wpAny_bind (wpAny_newList ?_ (cI my hl (by simp+arith only)));have U6:(h'.push (seqObj "list" vs.toArray 0)).get? h'.objs.size=some (seqObj "list" vs.toArray 0):=Heap.get?_push_size _ rfl;refine wpAny_bind (wpAny_holding (wpAny_call_entry slot_list_sort ⟨_,U6,rfl⟩ entry_list_sort (list_sort_tree U6 hi hl λ out vz a1 a2 a3=>⟨_,rfl,?_⟩) (args_list_sort _)));have e:vz=hU ns:=pR (a2.trans (hp.trans (iA ns).symm)) a3 (mB ns);subst e;refine dM (sortedHeap_at (vs:=vs) (out:=out) U6) λ k eB=>?_;refine wpAny_pure ⟨_,rfl,h _ _ tk dr out k (λ b o e=>?_) ?_ eB a1⟩
 ·have hb:=hk b o e;have dP:b<h'.objs.size:=Heap.lt_size hb;refine ae (sortedHeap_old (Nat.ne_of_lt dP) (by rw [size_push'];exact Nat.lt_succ_of_lt dP)) ?_;exact Heap.get?_push_of_some _ hb
 ·cases e:s.heap.get? h'.objs.size with
  |none=>rfl
  |some o=>have:=Heap.lt_size (hk _ _ e);exact absurd this (Nat.lt_irrefl _)
theorem ItemsOf.ints{P:Nat->Value->Prop}{acc:Array Value}{n:Nat}{ns:List Int}(x:ItemsOf P acc n)(hn:ns.length=n)(hp:∀i v,P i v->∃t,ns[i]?.map (λ k=>Value.int k t)=some v):IntsAre acc.toList ns:=by
 have key:∀(l:List Value)(ns:List Int),l.length=ns.length->(∀(i:Nat)(v:Value),l[i]?=some v->∃t,ns[i]?.map (λ k=>Value.int k t)=some v)->IntsAre l ns:=by
  intro l;induction l with
  |nil=>intro ns h1 _;cases ns with|nil=>exact .nil|cons _ _=>simp at h1
  |cons v r ih=>
   intro ns h1 h2;cases ns with
   |nil=>simp at h1
   |cons k ks=>refine dM (h2 0 v rfl) λ t e=>?_;simp at e;subst e;exact .cons k t (ih ks (by simpa using h1) λ i v h=>by simpa using h2 (i+1) v (by simpa using h))
 refine key _ _ (ae Array.length_toList<|ae x.1<|ae hn rfl) λ i v h=>hp i v (x.2 i v (by refine cA Array.getElem?_toList ?_;exact h))
theorem KR.strs{h:Heap}{lam:List Addr}{kvs:List (String×AV)}{kvs':List (Str×Value)}(g:KR Str.ofString h lam kvs kvs'):∀(l:List Value),l.length=kvs'.length->(∀(i:Nat)(v:Value),l[i]?=some v->∃k x,kvs'[i]?=some (k,x)/\(dw G.prog G.w).is k v=true)->bq h lam (kvs.map λ p=>.str p.1) l:=by
 induction g with
 |nil=>intro l h1 _;cases l with|nil=>exact .nil|cons _ _=>simp at h1
 |@cons k av v r r' hv _ ih=>
  intro l h1 h2;cases l with
  |nil=>simp at h1
  |cons y ys=>refine xm (h2 0 y rfl) λ k' x e1 e2=>?_;simp at e1;obtain ⟨rfl,rfl⟩:=e1;obtain ⟨t,rfl⟩:=Value.isStrOf_shape e2;exact .cons (.str k t rfl) (ih ys (by simpa using h1) λ i v h=>by simpa using h2 (i+1) v (by simpa using h))
end
section
variable{Γ:cZ}
inductive oT(σ:U)(P:PV):List AV->Prop
 |l {vs:List AV}:xB σ P vs->oT σ P vs
 |d {l:Nat} {kvs:List (Int×AV)}:σ[l]?=some (.dI kvs)->kvs.length<64->P (.ref σ.length) (σ++[.list ((hU (kvs.map (·.1))).map .int)])->oT σ P [.ref l]
theorem HG(W:Wd Γ.G):iM Γ (.builtin "sorted") oT:=by
 intro K x v P Q hc;induction hc with
 |l h=>exact Ko K h
 |@d l kvs hx hz p=>
  intro hv k;apply hv.k1;intro u hu;apply hu.kr;intro a hl;refine K.w.dI hl hx λ kvs' g1 g2 hlen=>dM g1.dictAt λ ep U7=>nf (G:=Γ.G) (ns:=kvs.map (·.1)) (kdu_collect (A:=K.A.in1) (kdl_dict (knd:=intKind Γ.G.prog Γ.G.w) (kvs:=kvs') (ep:=ep) (K.w.fG W hl)) (by simp [K.R.h]) U7 (d9 (Nat.le_trans (Nat.le_of_lt hz) (by decide)) hlen) λ h' tk acc hk gZ=>?_)
   λ b h' tk dr out n hk hb hL hi=>K.kn k (K.w.H.new (s':={K.w.s with heap:=h',toks:=tk,drawn:=dr}) (ao:=.list _) hk hb rfl rfl (.list hL (bq.ofInts hi) (by rw [List.length_map,(iA _).length_eq,List.length_map];exact nc (Nat.le_of_lt hz) rfl))) p (.ref (by refine cA K.w.H.len ?_;exact List.getElem?_concat_length ..))
  refine ⟨_,_,_,_,rfl,hk,ItemsOf.ints (ns:=kvs.map (·.1)) gZ (by simp [hlen]) (λ i v ⟨k,x,e1,e2⟩=>?_),.refl _,by refine ae Array.length_toList<|ae gZ.1 ?_;exact Nat.lt_of_le_of_lt (bP hlen) hz⟩;obtain ⟨t,rfl⟩:=Value.isInt_shape e2;have:(kvs'.map (·.1))[i]?=some k:=by refine ae List.getElem?_map<|ae e1 ?_;rfl
  rw [g2.keys]at this;exact ⟨t,congrArg _ this⟩
inductive jH(σ:U)(P:PV):List AV->Prop
 |l {vs:List AV}:Hs σ P vs->jH σ P vs
 |d {l:Nat} {kvs:List (String×AV)}:σ[l]?=some (.dS kvs)->kvs.length<=10000->P (.ref σ.length) (σ++[.list (kvs.map λ p=>.str p.1)])->jH σ P [.ref l]
theorem uz(W:Wd Γ.G):iM Γ (.type "list") jH:=by
 intro K x v P Q hc;induction hc with
 |l h=>exact Kn K h
 |d hx hz p=>
  intro hv k;apply hv.k1;intro u hu;apply hu.kr;intro a hl;exact K.w.dS hl hx λ kvs' g1 g2 hlen=>dM g1.dictAt λ ep U7=>kdl_call (A:=K.A) (kdl_dict (knd:=dw Γ.G.prog Γ.G.w) (kvs:=kvs') (ep:=ep) (K.w.fG W hl)) K.R.h U7 (d9 hz hlen) λ h' tk gB c' hk hL gZ=>K.kl (tk:=tk) k p hk (Heap.get?_none_of_le (Nat.le_refl _)) hL (KR.strs (G:=Γ.G) g2 _ (gZ.1) λ i v h=>gZ.2 i v (by refine cA Array.getElem?_toList ?_;exact h)) (by simpa using hz)
def iV:AS:=λ aa aa aa aa=>False
theorem fI{st:Stmt}:iL Γ st iV:=λ aa aa aa h=>h.elim
def U8:AE:=λ aa aa aa aa=>False
theorem aar{e:Expr}:aZ Γ e U8:=λ aa aa aa h=>h.elim
def uA(i:Int):AE:=λ _ _ σ P=>P (.int (-i)) σ
theorem n9{i:Int}{k:Nat}{p pos:Pos}:aZ Γ (.UnaryOp .USub (.Constant (.int i) k p) pos) (uA i):=λ K aa aa p k=>wpAny_UnaryOp (wpAny_Constant_int (PyProof.Rows.neg_int (K.k1 k p (.int _ _) (K.w.s.toks+1+1))))
inductive HH(σ:U)(P:aL->Prop):List AV->Prop
 |mk {l:Nat} {xs:List AV}:σ[l]?=some (.list xs)->P (.enum l 0)->HH σ P [.ref l]
def Rn(cs:List AE):AI:=λ F ρ σ P=>i' cs F ρ σ λ vs σ=>HH σ (λ x=>P x σ) vs
theorem N4(W:Wd Γ.G){np pos:Pos}{es:List Expr}{cs:List AE}(g:b7 Γ.G "enumerate" (.type "enumerate"))(hk:Γ.sc.names.lookup (Str.ofString "enumerate")=some .globalImplicit)(a:eY Γ es cs):
  mA Γ (λ aa=>True) (.Call (.Name (Str.ofString "enumerate") np) es [] pos) (Rn cs):=λ K P Q hc k=>
 wpAny_Call_ofName (oH W K g hk (by decide) (f3 W K (cF _) a hc λ us vs w S p hv=>by
  revert hv;induction p with
  |mk hx p=>
   intro hv;apply hv.k1;intro u hu;apply hu.kr;intro b hl;refine w.dv hl hx λ items n g1 g2 aa=>call_enumerate_1 g1 λ h' he hi fV hk=>wpAny_pyIter_enum he ?_;have h:=w.H.grow (s':={w.s with heap:=h'}) hk rfl rfl;have ij:∀k,w.s.heap.get? (w.s.heap.objs.size+k)=none:=λ k=>Heap.get?_none_of_le (Nat.le_add_right _ _);refine k _ _ ⟨_,_,_,h.1⟩ _ (Step.trans S h.2) p trivial ⟨⟨b,_,_,he,hi,hl,λ e=>absurd e (Nat.succ_ne_self _),rfl⟩,λ b hb hm=>w.H.ui hm λ o ho aa=>?_⟩ λ b hb=>S.none ?_
   ·rcases List.mem_cons.mp hb with rfl|hb
    ·exact nomatch(ij 1).symm.trans ho
    ·cases List.mem_singleton.mp hb;exact nomatch(ij 0).symm.trans ho
   ·rcases List.mem_cons.mp hb with rfl|hb
    ·exact ij 1
    ·cases List.mem_singleton.mp hb;exact ij 0))
end
inductive F8:List AV->List AV->Bool->Prop
 |nil:F8 [] [] true
 |cons {x y:AV} {xs ys:List AV} {a b:Bool}:gm 20 x y a->F8 xs ys b->F8 (x::xs) (y::ys) (a&&b)
section
variable{G:Places} {d:Nat}
theorem U9{A:Around}{s:Shared}{lam:List Addr}(R:iK d A){xs ys:List AV}{b:Bool}(h:F8 xs ys b):∀{vs us:List Value},bq s.heap lam xs vs->bq s.heap lam ys us->
  ∃e:Nat->Bool,(∀(j:Nat)(v u:Value),vs[j]?=some v->us[j]?=some u->SeqAt.EqAt A.in1 s v u (e j))/\(List.range vs.length).all e=b:=by
 induction h with
 |nil=>intro vs us hx hy;cases hx;exact ⟨λ aa=>true,⟨λ aa aa aa h=>(nomatch h),rfl⟩⟩
 |@cons _ _ _ _ a _ e1 _ ih=>
  intro vs us hx hy;cases hx with|cons h1 h2=>cases hy with|cons h3 h4=>
  refine bp (ih h2 h4) λ e k1 k2=>?_;refine ⟨λ j=>Nat.casesOn j a e,⟨λ j=>?_,?_⟩⟩
  ·cases j with
   |succ j=>exact k1 j
   |zero=>
   intro v' u' hv hu;cases Option.some.inj hv;cases Option.some.inj hu;exact λ prog w E Q hq=>lO 20 e1 h1 h3 (by have:=R.un;refine (?_:A.units+1+20+1<cLine);exact bG this (by simp+arith only)) hq
  ·refine ae List.length_cons<|ae List.range_succ_eq_map<|ae List.all_cons<|ae List.all_map<|cA k2 ?_;rfl
end
section
variable{Γ:cZ}
inductive uB(σ:U)(P:PV):AV->AV->Prop
 |eq {l m:Nat} {xs ys:List AV} {b:Bool}:σ[l]?=some (.list xs)->σ[m]?=some (.list ys)->xs.length=ys.length->F8 xs ys b->P (.bool b) σ->uB σ P (.ref l) (.ref m)
 |ne {l m:Nat} {xs ys:List AV}:σ[l]?=some (.list xs)->σ[m]?=some (.list ys)->xs.length≠ys.length->P (.bool false) σ->uB σ P (.ref l) (.ref m)
inductive uC(σ:U)(P:PV):AV->AV->Prop
 |mk {l m:Nat} {xs ys:List AV} {ns ms:List Int}:σ[l]?=some (.list xs)->σ[m]?=some (.list ys)->intsOf xs=some ns->intsOf ys=some ms->P (.bool !decide (ns=ms)) σ->uC σ P (.ref l) (.ref m)
theorem Ro:hO Γ (compareOp .Eq) uB:=by
 intro K x y v u P Q hc;have Rp:=K.R.un;induction hc with
 |eq e1 e2 hl e3 p=>
  intro hx hy k;apply hx.kr;intro a h1;apply hy.kr;intro b h2;have hz:=K.w.lz h1 e1;refine K.w.dv h1 e1 λ items n g1 g2 l1=>K.w.dv h2 e2 λ vK m k1 k2 l2=>bp (U9 K.R e3 g2 k2) λ e q1 q2=>?_;rw [Array.length_toList]at q2;exact SeqAt.eq_listAt (e:=e) (IsL.il g1) (IsL.il k1) (by lia) (bG Rp (by simp+arith only)) (λ j h1 h2=>q1 j _ _ (List.getElem?_eq_getElem (by assumption)) (List.getElem?_eq_getElem (by assumption))) (q2▸K.k0 k p (.bool _))
 |ne e1 e2 b_ p=>intro hx hy k;apply hx.kr;intro a h1;apply hy.kr;intro b h2;exact K.w.dv h1 e1 λ items n g1 g2 l1=>K.w.dv h2 e2 λ vK m k1 k2 l2=>SeqAt.eq_list_lengthsAt (IsL.il g1) (IsL.il k1) (by simpa usingλ e=>b_ (by lia)) (bG Rp (by simp+arith only)) (K.k0 k p (.bool false))
theorem Rq:hO Γ (compareOp .NotEq) uC:=by
 intro K x y v u P Q hc;have Rp:=K.R.un;induction hc with
 |@mk _ _ xs ys ns ms e1 e2 n1 n2 p=>
  intro hx hy k;apply hx.kr;intro a h1;apply hy.kr;intro b h2;exact K.w.dv h1 e1 λ items n g1 g2 l1=>K.w.dv h2 e2 λ vK m k1 k2 l2=>bp (uq g2 n1) λ ps p1 p2=>bp (uq k2 n2) λ qs q1 q2=>PySem.W.ke_ne_ints (xs:=items.toList) (ys:=vK.toList) (ns:=ns) (ms:=ms) (IsL.il g1) (IsL.il k1) (by refine ae p1<|cA p2 ?_;exact intsAre_of ps) (by refine ae q1<|cA q2 ?_;exact intsAre_of qs) (bG Rp (by simp+arith only)) (K.k0 k p (.bool _))
def B2(o:AE):AE:=λ F ρ σ P=>o F ρ σ λ v σ=>yo v λ x=>ef x=true/\P (.bool false) σ
theorem B3{x:String}{f:Str->Bool}(h:ef x=true)(h5:(["a","b","c","f","g"].all λ y=>!f (Str.ofString y))=true):f (Str.ofString x)=false:=by unfold ef at h;simpa using List.all_eq_true.mp h5 x (by simpa using h)
set_option maxRecDepth 10000 in
theorem HI(W:Wd Γ.G){o:Expr}{apos pos:Pos}{c:AE}(ho:aZ Γ o c)(hf:fX o "isspace" apos pos []):aZ Γ (.Call (.Attribute o (Str.ofString "isspace") apos) [] [] pos) (B2 c):=λ K P Q hc k=>
 dM hf λ pl hf=>MethodCall_ (pl:=pl K.env) (ho K.r hc λ ov v w S p hv=>by obtain ⟨x,rfl,hx,p⟩:=p.k;apply hv.ks;intro t;refine (?_:wpAny (model Γ.G.prog Γ.G.w) K.A _ _ K.E w.s);refine PySem.GM.isspace (x:=Str.ofString x) (t:=t) ?_;refine (f3 W (K.up w S) (cs:=[]) (P:=λ vs σ=>vs=[]/\P (.bool false) σ) (aJ "str.isspace") .nil ⟨rfl,p⟩ λ us vs dx dC p dQ=>?_);cases p.1;have p:=p.2;cases dQ;exact PySem.SC.isspace ((B3 (f:=Txt.isspace) hx (by decide+kernel)).symm▸(K.up dx (S.tr dC)).k0 k p (.bool false))) (congrFun hf _)
inductive so(y:String)(σ:U)(P:PV):AV->AV->Prop
 |mk {x:String}:ef x=true->P (.bool false) σ->so y σ P (.str x) (.str y)
theorem N5:hO Γ (compareOp .In) (so "()[]{},:"):=by
 intro K x y v u P Q hc;induction hc with
 |mk hx p=>intro hv hu k;apply hv.ks;intro t;apply hu.ks;intro t';exact SB.contains ((B3 (f:=λ s=>Txt.contains (Str.ofString "()[]{},:") s) hx (by decide+kernel)).symm▸K.k0 k p (.bool false))
end
end
section
set_option genInjectivity false
set_option genSizeOf false
section
variable{G:Places}
theorem HS.U_{s:Shared}{lam:List Addr}{σ:U}{as:List Addr}{KC:List AO}{h':Heap}{tk:Nat}(H:HS G s lam σ)(hk:∀b o,s.heap.get? b=some o->h'.get? b=some o)(ha:∀a∈as,s.heap.get? a=none)(hn:as.Nodup)(hl:as.length=KC.length)
  (hr:∀i a ao,as[i]?=some a->KC[i]?=some ao->OR G h' (lam++as) (lam.length+i) a ao):HS G {s with heap:=h',toks:=tk} (lam++as) (σ++KC)/\Step s lam {s with heap:=h',toks:=tk} (lam++as):=by
 have Us:∀a∈as,a∉lam:=λ a hm B0=>H.ui B0 λ o ho aa=>nomatch(ha a hm).symm.trans ho
 have U':k8 lam (lam++as):=λ l v h=>by rw [List.getElem?_append_left (List.getElem?_eq_some_iff.mp h).1];exact h
 have kc:Kx s.heap lam h' (lam++as):=⟨U',λ a o aa aa aa aa aa e=>hk a o e,λ b hb=>(List.mem_append.mp hb).elim .inl λ h=>.inr (ha b h)⟩
 refine ⟨⟨λ b o e=>hk b o (H.base b o e),H.gens,H.os,by simp [H.len,hl],?_,?_,?_⟩,U',λ a o aa e=>hk a o e,λ b hb=>(List.mem_append.mp hb).elim .inl λ h=>.inr (ha b h)⟩
 ·rw [List.nodup_append];exact ⟨H.nodup,hn,λ x hx y hy e=>Us y hy (e▸hx)⟩
 ·intro b hb;rcases List.mem_append.mp hb with h|h
  ·exact H.above b h
  ·cases e:G.h₀.get? b with
   |none=>rfl
   |some o=>have:=H.base _ _ e;rw [ha b h]at this;cases this
 ·intro l b vi h1 h2;by_cases eH:l<lam.length
  ·rw [List.getElem?_append_left eH]at h1;rw [List.getElem?_append_left (H.len▸eH)]at h2;exact (H.obj l b vi h1 h2).keep (λ o e=>hk b o e) kc
  ·have f6:lam.length<=l:=Nat.not_lt.mp eH;rw [List.getElem?_append_right f6]at h1;rw [List.getElem?_append_right (H.len▸f6),<-H.len]at h2;have:=hr _ _ _ h1 h2
   rwa [show lam.length+(l -lam.length)=l by exact Nat.le_antisymm (bG (bI (Nat.sub_add_cancel ((Nat.le_of_not_lt eH):(lam.length)<=(l)))) (by simp+arith only)) (bG (bP (Nat.sub_add_cancel ((Nat.le_of_not_lt eH):(lam.length)<=(l)))) (by simp+arith only))]at this
theorem HS.many{s:Shared}{lam:List Addr}{σ σ':U}{C:List Addr}{h':Heap}{tk:Nat}(H:HS G s lam σ)(hlen:σ'.length=σ.length)(hC:∀c∈C,c∈lam)(hk:∀a o,a∉C->s.heap.get? a=some o->h'.get? a=some o)
  (aas:∀l a ao,lam[l]?=some a->σ'[l]?=some ao->(a∉C/\σ[l]?=some ao)\/OR G h' lam l a ao):HS G {s with heap:=h',toks:=tk} lam σ'/\Step s lam {s with heap:=h',toks:=tk} lam:=by
 have kc:Kx s.heap lam h' lam:=⟨.refl _,λ a o aa aa hn aa aa e=>hk a o (λ h=>hn (hC _ h)) e,λ aa h=>.inl h⟩
 refine ⟨⟨λ b o e=>hk b o (λ h=>?_) (H.base b o e),H.gens,H.os,ae H.len<|ae hlen rfl,H.nodup,H.above,λ l a ao h1 h2=>?_⟩,.refl _,λ a o hn e=>hk a o (λ h=>hn (hC _ h)) e,λ aa h=>.inl h⟩
 ·have:=H.above b (hC _ h);rw [e]at this;cases this
 ·rcases aas l a ao h1 h2 with⟨h3,h4⟩|h3
  ·exact (H.obj l a ao h1 h4).keep (λ o e=>hk a o h3 e) kc
  ·exact h3
end
section
variable{prog:Program} {w:World} {A:Around} {E:Value->Shared->Prop} {s:Shared}
theorem ng{it t:Addr}{i:Nat}{items:Array Value}{x:Value}{Q:Value->Shared->Prop}(hit:s.heap.IsTupleIter it t i)(ht:s.heap.IsTuple t items)(hx:items[i]?=some x)
  (hQ:∀h',h'.IsTupleIter it t (i+1)->Heap.SameBut it s.heap h'->Q x {s with heap:=h'}):wpAny (model prog w) A (Builtin.SmallTypes.nextOf (.ref it)) Q E s:=by
 refine fO (id hit) λ o ho hc hd=>?_;obtain ⟨ol,F9,_,nl,F_⟩:=ht;have hT:s.TypeIs (.ref it) "tuple_iterator":=⟨o,ho,hc⟩
 unfold Builtin.SmallTypes.nextOf;refine wpAny_bind (wpAny_callSpecial?_slot (name:=Str.ofString "__next__") hT F.slot_tuple_iterator_next
  (wpAny_call_entry F.slot_tuple_iterator_next hT F.entry_tuple_iterator_next ?_ (F.args_tuple_iterator_next_1 _)))
 refine (?_:wpAny _ _ (field (.ref it) 0>>=_) _ _ s);refine wpAny_bind (wpAny_field ho hd (x:=.ref t) rfl ?_);refine (?_:wpAny _ _ (if(Value.ref t==Value.none)=true then _ else _) _ _ s);refine ae (if_neg (show¬((Value.ref t==Value.none)=true) from Bool.false_ne_true)) ?_;refine (?_:wpAny _ _ (field (.ref it) 1>>=_) _ _ s);refine wpAny_bind (wpAny_field ho hd (x:=.int i 0) rfl ?_);refine (?_:wpAny _ _ (seqItems? (.ref t)>>=_) _ _ s);refine wpAny_bind (wpAny_seqItems F9 F_ ?_);simp only [Int.toNat_natCast,hx];refine wpAny_bind (wpAny_setField ho hd (Nat.le_refl _) (wpAny_pure ⟨x,rfl,wpAny_pure (hQ _ ?_ (Heap.SameBut.update ..))⟩));exact ⟨_,Heap.get?_update_self _ ho (Obj.isFreed_of_fields (Obj.data_mapFields hd _)),(Obj.cls_mapFields ..).trans hc,by rw [Obj.data_mapFields hd];exact rfl⟩
theorem xI{it t:Addr}{i:Nat}{items:Array Value}{Q:Value->Shared->Prop}(hh:A.handled=none)(hit:s.heap.IsTupleIter it t i)(ht:s.heap.IsTuple t items)(hx:items[i]?=none)
  (hE:∀h' e,Heap.ExtBut it s.heap h'->(∃o,h'.get? it=some o/\∀v,o.data≠.cell v)->(∃o,h'.get? e=some o/\o.cls=.type "StopIteration")->E (.ref e) {s with heap:=h'}):wpAny (model prog w) A (Builtin.SmallTypes.nextOf (.ref it)) Q E s:=by
 refine fO (id hit) λ o ho hc hd=>?_;obtain ⟨ol,F9,_,nl,F_⟩:=ht;have hT:s.TypeIs (.ref it) "tuple_iterator":=⟨o,ho,hc⟩
 unfold Builtin.SmallTypes.nextOf;refine wpAny_bind (wpAny_callSpecial?_slot (name:=Str.ofString "__next__") hT F.slot_tuple_iterator_next
  (wpAny_call_entry F.slot_tuple_iterator_next hT F.entry_tuple_iterator_next ?_ (F.args_tuple_iterator_next_1 _)))
 refine (?_:wpAny _ _ (field (.ref it) 0>>=_) _ _ s);refine wpAny_bind (wpAny_field ho hd (x:=.ref t) rfl ?_);refine (?_:wpAny _ _ (if(Value.ref t==Value.none)=true then _ else _) _ _ s);refine ae (if_neg (show¬((Value.ref t==Value.none)=true) from Bool.false_ne_true)) ?_;refine (?_:wpAny _ _ (field (.ref it) 1>>=_) _ _ s);refine wpAny_bind (wpAny_field ho hd (x:=.int i 0) rfl ?_);refine (?_:wpAny _ _ (seqItems? (.ref t)>>=_) _ _ s);refine wpAny_bind (wpAny_seqItems F9 F_ ?_);simp only [Int.toNat_natCast,hx];refine wpAny_bind (wpAny_rule (wpAny_bind (wpAny_setField ho hd (Nat.succ_pos _) ?_)));refine (?_:wpAny _ _ (newExc (.type "StopIteration") []>>=_) _ _ _);refine wpAny_bind ?_;simp only [newExc,newTuple];refine wpAny_bind (wpAny_newObj_type ?_ (Nat.zero_le _));refine wpAny_bind (m:=firstArgMember _ _) (wpAny_of_eq (a:=Value.none) (by first|rfl|(simp only [firstArgMember];rfl)) ?_);refine wpAny_newObj_type ?_ (by size_fits);unfold raiseNew;refine wpAny_bind (wpAny_handled ?_)
 first|refine ae (show A.in1.handled=none from hh) ?_|refine ae hh ?_
 refine wpAny_bind (wpAny_pure (wpAny_throw ?_));refine hE _ _ (((Heap.SameBut.update ..).extBut.push _).push _) ⟨_,Heap.get?_push_of_some _ (Heap.get?_push_of_some _ (Heap.get?_update_self _ ho (Obj.isFreed_of_fields (Obj.data_mapFields hd _)))),?_⟩ ⟨_,Heap.get?_push_size _ rfl,rfl⟩;rw [Obj.data_mapFields hd];simp
structure ZA(z TI TO i1 i2 t1 t2:Addr):Prop where
 TIz:TI≠z
 TOz:TO≠z
 i1z:i1≠z
 i2z:i2≠z
 TITO:TI≠TO
 TIi1:TI≠i1
 TIi2:TI≠i2
 TOi1:TO≠i1
 TOi2:TO≠i2
 i12:i1≠i2
 ZM:t1≠z
 abZ:t1≠TO
 ab0:t1≠i1
 ab1:t1≠i2
 t2z:t2≠z
 aat:t2≠TO
 aau:t2≠i1
 ab2:t2≠i2
theorem KD{z TI TO i1 i2 t1 t2:Addr}{k1 k2:Nat}{xs ys:Array Value}{x y a b:Value}{Q:Option Value->Shared->Prop}(D:ZA z TI TO i1 i2 t1 t2)
  (hz:IsZip s.heap z TI TO .none)(qW:IsPair s.heap TI (.ref i1) (.ref i2))(Ga:IsPair s.heap TO a b)
  (h1:s.heap.IsTupleIter i1 t1 k1)(h2:s.heap.IsTupleIter i2 t2 k2)(jq:s.heap.IsTuple t1 xs)(f6:s.heap.IsTuple t2 ys)(hx:xs[k1]?=some x)(hy:ys[k2]?=some y)
  (hQ:∀h',IsZip h' z TI TO (rawInt s.heap.objs.size)->IsPair h' TO x y->h'.IsTupleIter i1 t1 (k1+1)->h'.IsTupleIter i2 t2 (k2+1)->IsPair h' s.heap.objs.size x y->
   (∀c o,c≠z->c≠TO->c≠i1->c≠i2->s.heap.get? c=some o->h'.get? c=some o)->Q (some (.ref s.heap.objs.size)) {s with heap:=h'}):
  wpAny (model prog w) A (pyNext (.ref z)) Q E s:=by
 have hT:s.TypeIs (.ref z) "zip":=⟨_,hz,rfl⟩
 unfold pyNext;refine wpAny_bind (wpAny_attempt (wpAny_callSpecial?_slot (name:=Str.ofString "__next__") hT F.slot_zip_next
  (wpAny_call_entry F.slot_zip_next hT F.entry_zip_next ?_ (F.args_zip_next_1 _))))
 show wpAny _ _ (field (.ref z) 2>>=_) _ _ _;refine wpAny_bind (wpAny_field hz rfl (x:=.bool false) rfl ?_);show wpAny _ _ (field (.ref z) 3>>=_) _ _ _;refine wpAny_bind (wpAny_field hz rfl (x:=.ref TI) rfl ?_);refine wpAny_bind (wpAny_seqItems qW rfl ?_);show wpAny _ _ (Builtin.SmallTypes.ownedTupleIsFree (.ref z)>>=_) _ _ _;refine wpAny_bind ?_;unfold Builtin.SmallTypes.ownedTupleIsFree;refine wpAny_bind (wpAny_field hz rfl (x:=.none) rfl (wpAny_pure ?_));simp only [if_true];refine wpAny_bind (wpAny_rule ?_);refine wpAny_bind (wpAny_field hz rfl (x:=.ref TO) rfl ?_);refine wpAny_bind (wpAny_setField_rec hz (Nat.succ_pos _) λ gj B4 eI=>?_);replace B4:IsZip gj z TI TO .ellipsis:=B4;refine wpAny_bind ?_;simp only [List.zipIdx_cons,List.zipIdx_nil,List.forIn_cons,List.forIn_nil];have mC:∀{h:Heap}{b c t:Addr}{k:Nat},h.IsTupleIter b t k->∀{h':Heap},Heap.SameBut c h h'->b≠c->h'.IsTupleIter b t k:=λ ⟨o,ho,r⟩ h' hs hn=>⟨o,by rw [hs.2 _ hn];exact ho,r⟩
 refine wpAny_bind (wpAny_bind (wpAny_onRaise ?_));show wpAny _ _ (Builtin.SmallTypes.nextOf (.ref i1)>>=_) _ _ _;refine wpAny_bind (ng (mC h1 eI D.i1z) (jq.extBut eI.extBut D.ZM) hx λ j5 abn gO=>wpAny_pure ?_);have Va:IsPair j5 TO a b:=gO.extBut _ _ D.TOi1 (eI.extBut _ _ D.TOz Ga);refine wpAny_bind (wpAny_seqItems Va rfl ?_);refine wpAny_bind (wpAny_updateSeq_pair Va λ n5 N6 lH=>?_);replace N6:IsPair n5 TO x b:=N6;refine wpAny_bind (wpAny_letGo (wpAny_pure ?_));refine wpAny_bind (wpAny_bind (wpAny_onRaise ?_));show wpAny _ _ (Builtin.SmallTypes.nextOf (.ref i2)>>=_) _ _ _;refine wpAny_bind (ng (mC (mC (mC h2 eI D.i2z) gO D.i12.symm) lH D.TOi2.symm)
  (((f6.extBut eI.extBut D.t2z).extBut gO.extBut D.aau).extBut lH.extBut D.aat) hy λ NZ abo qX=>wpAny_pure ?_)
 have Vb:IsPair NZ TO x b:=qX.extBut _ _ D.TOi2 N6;refine wpAny_bind (wpAny_seqItems Vb rfl ?_);refine wpAny_bind (wpAny_updateSeq_pair Vb λ qO HJ KG=>?_);replace HJ:IsPair qO TO x y:=HJ;refine wpAny_bind (wpAny_letGo (wpAny_pure (wpAny_pure ?_)));refine wpAny_bind (wpAny_seqItems HJ rfl ?_);refine wpAny_bind (wpAny_newTuple ?_);have fV:qO.objs.size=s.heap.objs.size:=ae KG.1<|ae qX.1<|ae lH.1<|ae gO.1<|ae eI.1 rfl;have ZN:IsZip qO z TI TO .ellipsis:=KG.extBut _ _ D.TOz.symm (qX.extBut _ _ D.i2z.symm (lH.extBut _ _ D.TOz.symm (gO.extBut _ _ D.i1z.symm B4)));have abp:∀c o,c≠z->c≠TO->c≠i1->c≠i2->s.heap.get? c=some o->qO.get? c=some o:=λ c o c1 c2 c3 c4 e=>KG.extBut _ _ c2 (qX.extBut _ _ c4 (lH.extBut _ _ c2 (gO.extBut _ _ c3 (eI.extBut _ _ c1 e))))
 have abq:qO.IsTupleIter i1 t1 (k1+1):=mC (mC (mC abn lH D.TOi1.symm) qX D.i12) KG D.TOi1.symm;have abr:qO.IsTupleIter i2 t2 (k2+1):=mC abo KG D.TOi2.symm;have Vc:z<qO.objs.size:=Heap.lt_size ZN;refine (?_:wpAny _ _ (Builtin.SmallTypes.ownedTupleHandOut (.ref z) (.ref qO.objs.size)>>=_) _ _ _);refine wpAny_bind ?_;unfold Builtin.SmallTypes.ownedTupleHandOut;have abt:IsZip (qO.push {cls:=.type "tuple",data:=.seq #[x,y]}) z TI TO .ellipsis:=Heap.get?_push_of_some _ ZN;refine wpAny_bind (wpAny_setField_rec abt (Nat.succ_pos _) λ ab3 Vd ZO=>?_);replace Vd:IsZip ab3 z TI TO (rawInt qO.objs.size):=Vd;refine wpAny_setField_rec Vd (by simp) λ Ve Rr ZP=>?_;replace Rr:IsZip Ve z TI TO (rawInt qO.objs.size):=Rr;have up:∀c o,c≠z->qO.get? c=some o->Ve.get? c=some o:=λ c o c1 e=>ZP.extBut _ _ c1 (ZO.extBut _ _ c1 (Heap.get?_push_of_some _ e));have ZQ:IsPair Ve qO.objs.size x y:=ZP.extBut _ _ (Nat.ne_of_gt Vc) (ZO.extBut _ _ (Nat.ne_of_gt Vc) (Heap.get?_push_size _ rfl));rw [fV]at Rr ZQ;refine wpAny_pure ⟨_,rfl,wpAny_pure ?_⟩;refine (?_:Q (some (.ref qO.objs.size)) _);refine ae fV ?_;have ZR:∀{b t:Addr}{k:Nat},qO.IsTupleIter b t k->b≠z->Ve.IsTupleIter b t k:=λ ⟨o,ho,r⟩ hn=>⟨o,up _ _ hn ho,r⟩
 exact hQ Ve Rr (up _ _ D.TOz HJ) (ZR abq D.i1z) (ZR abr D.i2z) ZQ λ c o c1 c2 c3 c4 e=>up c o c1 (abp c o c1 c2 c3 c4 e)
theorem N7{z TI TO i1 i2 t1 t2:Addr}{k1:Nat}{xs:Array Value}{a b:Value}{Q:Option Value->Shared->Prop}(hh:A.handled=none)(D:ZA z TI TO i1 i2 t1 t2)
  (hz:IsZip s.heap z TI TO .none)(qW:IsPair s.heap TI (.ref i1) (.ref i2))(Ga:IsPair s.heap TO a b)
  (h1:s.heap.IsTupleIter i1 t1 k1)(jq:s.heap.IsTuple t1 xs)(aav:xs[k1]?=none)
  (hQ:∀h',IsZip h' z TI TO .none->(∃o,h'.get? i1=some o/\∀v,o.data≠.cell v)->(∀c o,c≠z->c≠i1->s.heap.get? c=some o->h'.get? c=some o)->Q none {s with heap:=h'}):wpAny (model prog w) A (pyNext (.ref z)) Q E s:=by
 have hT:s.TypeIs (.ref z) "zip":=⟨_,hz,rfl⟩
 unfold pyNext;refine wpAny_bind (wpAny_attempt (wpAny_callSpecial?_slot (name:=Str.ofString "__next__") hT F.slot_zip_next
  (wpAny_call_entry F.slot_zip_next hT F.entry_zip_next ?_ (F.args_zip_next_1 _))))
 refine (?_:wpAny _ _ (field (.ref z) 2>>=_) _ _ _);refine wpAny_bind (wpAny_field hz rfl (x:=.bool false) rfl ?_);refine (?_:wpAny _ _ (field (.ref z) 3>>=_) _ _ _);refine wpAny_bind (wpAny_field hz rfl (x:=.ref TI) rfl ?_);refine wpAny_bind (wpAny_seqItems qW rfl ?_);refine (?_:wpAny _ _ (Builtin.SmallTypes.ownedTupleIsFree (.ref z)>>=_) _ _ _);refine wpAny_bind ?_;unfold Builtin.SmallTypes.ownedTupleIsFree;refine wpAny_bind (wpAny_field hz rfl (x:=.none) rfl (wpAny_pure ?_));refine ae (if_pos rfl) ?_;refine wpAny_bind (wpAny_rule ?_);refine wpAny_bind (wpAny_field hz rfl (x:=.ref TO) rfl ?_);refine wpAny_bind (wpAny_setField_rec hz (Nat.succ_pos _) λ gj B4 eI=>?_);replace B4:IsZip gj z TI TO .ellipsis:=B4;refine wpAny_bind ?_;simp only [List.zipIdx_cons,List.zipIdx_nil,List.forIn_cons,List.forIn_nil];have mC:∀{h:Heap}{b c t:Addr}{k:Nat},h.IsTupleIter b t k->∀{h':Heap},Heap.SameBut c h h'->b≠c->h'.IsTupleIter b t k:=λ ⟨o,ho,r⟩ h' hs hn=>⟨o,by refine ae (hs.2 _ hn) ?_;exact ho,r⟩
 refine wpAny_bind (wpAny_bind (wpAny_onRaise ?_));refine (?_:wpAny _ _ (Builtin.SmallTypes.nextOf (.ref i1)>>=_) _ _ _);refine wpAny_bind (xI (by simp [hh]) (mC h1 eI D.i1z) (jq.extBut eI.extBut D.ZM) aav λ j5 e gO ha he=>?_);refine bp he λ oe Vf ZS=>?_;refine bp ha λ oa FP Vg=>?_;have ZT:IsZip j5 z TI TO .ellipsis:=gO _ _ D.i1z.symm B4;have hez:e≠z:=λ x=>by subst x;rw [ZT]at Vf;cases Vf;simp at ZS
 refine wpAny_setField_rec ZT (Nat.succ_pos _) λ n5 abu lH=>?_;refine wpAny_bind (wpAny_isInstance (T:="StopIteration") (b:=true) ⟨oe,lH.extBut _ _ hez Vf,ZS⟩ isSubtype_stop ?_);refine wpAny_pure (hQ n5 abu ⟨oa,lH.extBut _ _ D.i1z FP,Vg⟩ λ c o c1 c3 x=>lH.extBut _ _ c1 (gO _ _ c3 (eI.extBut _ _ c1 x)))
end
noncomputable abbrev Rt(h:Heap)(l1:Addr):Heap:=h.push {cls:=.type "tuple_iterator",data:=.fields #[.ref l1,.int 0 0]}
noncomputable abbrev Ru(h:Heap)(l1 l2:Addr):Heap:=(Rt h l1).push {cls:=.type "tuple_iterator",data:=.fields #[.ref l2,.int 0 0]}
noncomputable abbrev Rv(h:Heap)(l1 l2:Addr):Heap:=(Ru h l1 l2).push {cls:=.type "tuple",data:=.seq #[.ref h.objs.size,.ref (Rt h l1).objs.size]}
noncomputable abbrev Rw(h:Heap)(l1 l2:Addr):Heap:=(Rv h l1 l2).push {cls:=.type "tuple",data:=.seq #[.none,.none]}
noncomputable abbrev yB(h:Heap)(l1 l2:Addr):Heap:=(Rw h l1 l2).push {cls:=.type "zip",data:=.fields #[.none,.bool false,.bool false,.ref (Ru h l1 l2).objs.size,.ref (Rv h l1 l2).objs.size]}
theorem HK(l1 l2:Addr)(xs ys:Array Value):
  Meets (Builtin.«zip.__new__» ⟨[.type "zip",.ref l1,.ref l2],[]⟩) (λ aa R s=>s.heap.IsTuple l1 xs/\s.heap.IsTuple l2 ys/\
   R (.ok (.ret (.ref (Rw s.heap l1 l2).objs.size))) {s with heap:=yB s.heap l1 l2}):=
 .of_wp λ prog w A R s h=>by
  obtain ⟨hp,g,d,tk,os⟩:=s;obtain ⟨jq,f6,h⟩:=h;have xu:=sub_zip;have ZU:Heap.IsTuple (Shared.heap ⟨hp,g,d,tk,os⟩) l1 xs:=jq;have hL2:Heap.IsTuple (Shared.heap ⟨hp.push {cls:=.type "tuple_iterator",data:=.fields #[.ref l1,.int 0 0]},g,d,tk,os⟩) l2 ys:=
   let⟨o,ho,r⟩:=f6;⟨o,Heap.get?_push_of_some _ ho,r⟩
  wp_walk using wpAny_pyIter_tuple ZU,wpAny_pyIter_tuple hL2
  exact ⟨_,rfl,h⟩
section
variable{Γ:cZ}
theorem B5{lam as:List Addr}{j:Nat}{v:Addr}(h:as[j]?=some v):(lam++as)[lam.length+j]?=some v:=by rw [List.getElem?_append_right (Nat.le_add_right _ _),Nat.add_sub_cancel_left];exact h
inductive B6(σ:U)(P:PV):List AV->Prop
 |mk {xs ys:List AV}:xs.length=ys.length->P (.ref σ.length) (σ++[.zip,.bY xs 0,.bY ys 0,.fD])->B6 σ P [.tup xs,.tup ys]
theorem Vh:iM Γ (.type "zip") B6:=by
 intro K x v P Q hc;induction hc with
 |@mk xs ys hl p=>
  intro hv k;apply hv.k2;intro v u h1 h2;apply h1.kt;intro a items n ht dQ;apply h2.kt;intro b vK m hu Ut;refine callType_new F.called_zip (by decide) (F.typeCall_zip_2 _ _) (F.newCall_zip_2 _ _) (λ obj=>F.args_object_init_3 obj _ _) F.entry_zip_new (HK a b items vK) ⟨ht.it,hu.it,?_⟩;generalize hH:K.w.s.heap=H at*;have kH:∀c o,K.w.s.heap.get? c=some o->H.get? c=some o:=λ c o e=>hH▸e;have z1:(Rt H a).objs.size=H.objs.size+1:=Heap.size_push ..;have z2:(Ru H a b).objs.size=H.objs.size+2:=by rw [Heap.size_push,z1]
  have z3:(Rv H a b).objs.size=H.objs.size+3:=by rw [Heap.size_push,z2]
  have z4:(Rw H a b).objs.size=H.objs.size+4:=by rw [Heap.size_push,z3]
  have g5:(yB H a b).get? (Rw H a b).objs.size=some _:=Heap.get?_push_size _ rfl;have g4:(yB H a b).get? (Rv H a b).objs.size=some _:=Heap.get?_push_of_some _ (Heap.get?_push_size _ rfl);have g3:(yB H a b).get? (Ru H a b).objs.size=some _:=Heap.get?_push_of_some _ (Heap.get?_push_of_some _ (Heap.get?_push_size _ rfl));have g2:(yB H a b).get? (Rt H a).objs.size=some _:=Heap.get?_push_of_some _ (Heap.get?_push_of_some _ (Heap.get?_push_of_some _ (Heap.get?_push_size _ rfl)));have g1:(yB H a b).get? H.objs.size=some _:=Heap.get?_push_of_some _ (Heap.get?_push_of_some _ (Heap.get?_push_of_some _ (Heap.get?_push_of_some _ (Heap.get?_push_size _ rfl))));have hk:∀c o,H.get? c=some o->(yB H a b).get? c=some o:=λ c o x=>Heap.get?_push_of_some _ (Heap.get?_push_of_some _ (Heap.get?_push_of_some _ (Heap.get?_push_of_some _ (Heap.get?_push_of_some _ x))));refine (?_:_/\_);refine ⟨⟨_,g5,rfl⟩,?_⟩;rw [z2,z3,z4]at g5;rw [z1,z2]at g3;rw [z3]at g4;rw [z1]at g2;refine ae z4 ?_;clear z1 z2 z3 z4;generalize yB H a b=H' at*;have ij:∀k,H.get? (H.objs.size+k)=none:=λ k=>Heap.get?_none_of_le (Nat.le_add_right _ _);have has:∀c∈[H.objs.size+4,H.objs.size,H.objs.size+1,H.objs.size+3],∃k,c=H.objs.size+k:=λ c h=>by
   simp only [List.mem_cons,List.not_mem_nil,or_false]at h;rcases h with rfl|rfl|rfl|rfl
   ·exact ⟨4,rfl⟩
   ·exact ⟨0,rfl⟩
   ·exact ⟨1,rfl⟩
   ·exact ⟨3,rfl⟩
  have sX:∀c∈[H.objs.size+4,H.objs.size,H.objs.size+1,H.objs.size+3],H.get? c=none:=λ c h=>dM (has c h) λ k e=>e▸ij k;have qC:[H.objs.size+4,H.objs.size,H.objs.size+1,H.objs.size+3].Nodup:=by simp
  have qW:H.objs.size+2∉K.w.lam++[H.objs.size+4,H.objs.size,H.objs.size+1,H.objs.size+3]:=λ hm=>by
   rcases List.mem_append.mp hm with h|h
   ·exact K.w.H.ui h λ o ho aa=>nomatch(ij 2).symm.trans (kH _ _ ho)
   ·simp at h
  have Rx:∀(j:Nat)(v:Addr),[H.objs.size+4,H.objs.size,H.objs.size+1,H.objs.size+3][j]?=some v->(K.w.lam++[H.objs.size+4,H.objs.size,H.objs.size+1,H.objs.size+3])[K.w.lam.length+j]?=some v:=λ j v h=>B5 h;have h0:=Rx 0 _ rfl;have h1:=Rx 1 _ rfl;have h2:=Rx 2 _ rfl;have h3:=Rx 3 _ rfl;have a0:[H.objs.size+4,H.objs.size,H.objs.size+1,H.objs.size+3].length=[AO.zip,.bY xs 0,.bY ys 0,.fD].length:=rfl;have hi:∀i c ao,[H.objs.size+4,H.objs.size,H.objs.size+1,H.objs.size+3][i]?=some c->[AO.zip,.bY xs 0,.bY ys 0,.fD][i]?=some ao->
   (i=0/\c=H.objs.size+4/\ao=.zip)\/(i=1/\c=H.objs.size/\ao=.bY xs 0)\/(i=2/\c=H.objs.size+1/\ao=.bY ys 0)\/(i=3/\c=H.objs.size+3/\ao=.fD):=λ i c ao h1 h2=>by
   match i,h1,h2 with
   |0,h1,h2=>cases h1;cases h2;exact .inl ⟨rfl,rfl,rfl⟩
   |1,h1,h2=>cases h1;cases h2;exact .inr (.inl ⟨rfl,rfl,rfl⟩)
   |2,h1,h2=>cases h1;cases h2;exact .inr (.inr (.inl ⟨rfl,rfl,rfl⟩))
   |3,h1,h2=>cases h1;cases h2;exact .inr (.inr (.inr ⟨rfl,rfl,rfl⟩))
   |i+4,h1,h2=>simp at h1
  generalize [H.objs.size+4,H.objs.size,H.objs.size+1,H.objs.size+3]=as at*;have kc:Kx H K.w.lam H' (K.w.lam++as):=⟨λ l v h=>(List.getElem?_append_left (List.getElem?_eq_some_iff.mp h).1).trans h,λ c o aa aa aa aa aa e=>hk c o e,λ c hc=>(List.mem_append.mp hc).elim .inl λ h=>.inr (sX c h)⟩
  refine K.kn (s:={K.w.s with heap:=H'}) k (K.w.H.U_ (as:=as) (KC:=[.zip,.bY xs 0,.bY ys 0,.fD]) (h':=H') (tk:=K.w.s.toks) (hH▸hk) (hH▸sX) qC a0 (λ i c ao e1 e2=>?_)) p (.ref (K.w.H.len▸h0));rcases hi i c ao e1 e2 with⟨rfl,rfl,rfl⟩|⟨rfl,rfl,rfl⟩|⟨rfl,rfl,rfl⟩|⟨rfl,rfl,rfl⟩
  ·exact .zip g5 qW g3 h1 h2 h3
  ·exact .bY ⟨_,g1,rfl,rfl⟩ (kc.tt ht) (bq.mono kc dQ)
  ·exact .bY ⟨_,g2,rfl,rfl⟩ (kc.tt hu) (bq.mono kc Ut)
  ·exact .fD g4
end
end
section
set_option genInjectivity false
set_option genSizeOf false
section
variable{Γ:cZ}
theorem St.Ry(w:St Γ){l i j:Nat}{z:Addr}{xs ys:List AV}(hl:w.lam[l]?=some z)(e0:w.σ[l]?=some .zip)(e1:w.σ[l+1]?=some (.bY xs i))(e2:w.σ[l+2]?=some (.bY ys j))(e3:w.σ[l+3]?=some .fD){C:Prop}
  (k:∀TI TO i1 i2 t1 t2 yq Rz n m a b,w.lam[l+1]?=some i1->w.lam[l+2]?=some i2->w.lam[l+3]?=some TO->TI∉w.lam->ZA z TI TO i1 i2 t1 t2->IsZip w.s.heap z TI TO .none->IsPair w.s.heap TI (.ref i1) (.ref i2)->IsPair w.s.heap TO a b->
   w.s.heap.IsTupleIter i1 t1 i->w.s.heap.IsTupleIter i2 t2 j->TT w.s.heap w.lam t1 yq n->TT w.s.heap w.lam t2 Rz m->w.Rs xs yq.toList->w.Rs ys Rz.toList->C):C:=by
 cases w.H.obj _ _ _ hl e0 with
 |zip g0 g1 g2 g3 g4 g5=>
  cases w.H.obj _ _ _ g3 e1 with
  |bY k1 k2 k3=>
   cases w.H.obj _ _ _ g4 e2 with
   |bY m1 m2 m3=>
    cases w.H.obj _ _ _ g5 e3 with
    |fD n1=>
     have ne:∀{p q:Nat}{x y:Addr},w.lam[p]?=some x->w.lam[q]?=some y->p≠q->x≠y:=λ h1 h2 hn e=>hn (jl w.H.nodup h1 (e▸h2));have nm:∀{p:Nat}{x y:Addr},w.lam[p]?=some x->y∉w.lam->y≠x:=λ h1 h2 e=>h2 (e▸List.mem_of_getElem? h1);exact k _ _ _ _ _ _ _ _ _ _ _ _ g3 g4 g5 g1 ⟨nm hl g1,ne g5 hl (Nat.ne_of_gt (Nat.lt_add_of_pos_right (Nat.succ_pos _))),ne g3 hl (Nat.ne_of_gt (Nat.lt_succ_self _)),ne g4 hl (Nat.ne_of_gt (Nat.le_succ _)),nm g5 g1,nm g3 g1,nm g4 g1,ne g5 g3 (Nat.ne_of_gt (Nat.le_succ _)),ne g5 g4 (Nat.ne_of_gt (Nat.lt_succ_self _)),ne g3 g4 (Nat.ne_of_lt (Nat.lt_succ_self _)),
      nm hl k2.1,nm g5 k2.1,nm g3 k2.1,nm g4 k2.1,nm hl m2.1,nm g5 m2.1,nm g3 m2.1,nm g4 m2.1⟩ g0 g2 n1 k1 m1 k2 m2 k3 m3
inductive sq(σ:U)(l:Nat)(Pe:U->Prop)(Ps:AV->U->Prop):Prop
 |e {xs ys:List AV} {i j:Nat}:σ[l]?=some .zip->σ[l+1]?=some (.bY xs i)->σ[l+2]?=some (.bY ys j)->σ[l+3]?=some .fD->xs[i]?=none->Pe (σ.set (l+1) .dead)->sq σ l Pe Ps
 |s {xs ys:List AV} {i j:Nat} {x y:AV}:σ[l]?=some .zip->σ[l+1]?=some (.bY xs i)->σ[l+2]?=some (.bY ys j)->σ[l+3]?=some .fD->xs[i]?=some x->ys[j]?=some y->Ps (.tup [x,y]) ((σ.set (l+1) (.bY xs (i+1))).set (l+2) (.bY ys (j+1)))->sq σ l Pe Ps
theorem B7{σ:U}{lam:List Addr}(hn:lam.Nodup){q p:Nat}{c d:Addr}{ao vi:AO}(g1:lam[q]?=some c)(g2:(σ.set p vi)[q]?=some ao)(hp:lam[p]?=some d)(hl:p<σ.length){C:Prop}(k1:q=p->c=d->ao=vi->C)(k2:q≠p->c≠d->σ[q]?=some ao->C):C:=by
 by_cases e:q=p
 ·subst e;rw [List.getElem?_set_self hl]at g2;exact k1 rfl (Option.some.inj (g1.symm.trans hp)) (Option.some.inj g2).symm
 ·rw [List.getElem?_set_ne (Ne.symm e)]at g2;exact k2 e (λ e'=>e (jl hn g1 (e'▸hp))) g2
theorem N8(K:Cx Γ){l:Nat}{z:Addr}{elts:List Expr}{k:Nat}{pos:Pos}{Pe:U->Prop}{Ps:AV->U->Prop}{Qn:Shared->Prop}{Qs:Value->Shared->Prop}{Q:Option Value->Shared->Prop}(hn:∀s,Qn s->Q none s)
  (hs:∀v s,wpAny Γ.M K.A (letOwnedTupleGo (.Tuple elts k pos) (.ref z) v) (λ aa nT=>Qs v nT) K.E s->Q (some v) s)(hl:K.w.lam[l]?=some z)(p:sq K.w.σ l Pe Ps)
  (kn:∀w:St Γ,K.w.Le w->Pe w.σ->Qn w.s)(ks:∀u v(w:St Γ),K.w.Le w->Ps v w.σ->w.R v u->Qs u w.s):K.wp (pyNext (.ref z)) Q:=by
 have lt:∀{q:Nat}{ao:AO},K.w.σ[q]?=some ao->q<K.w.σ.length:=λ h=>(List.getElem?_eq_some_iff.mp h).1;have nd:=K.w.H.nodup;have mm:∀{q:Nat}{c:Addr},K.w.lam[q]?=some c->c∈K.w.lam:=λ h=>List.mem_of_getElem? h;cases p with
 |@e xs ys i j e0 e1 e2 e3 hx p=>
  refine K.w.Ry hl e0 e1 e2 e3 λ TI TO i1 i2 t1 t2 yq Rz n m a b jq f6 B8 N9 D hz qW Ga h1 h2 mD vL sR sS=>?_;have aaw:=bq.size sR;refine N7 K.R.h D hz qW Ga h1 mD.it (by refine cA Array.getElem?_toList ?_;rw [List.getElem?_eq_none_iff]at hx⊢;simp;exact Nat.le_trans (bP aaw) hx) λ h' UU ha hk=>hn _ ?_;refine bp ha λ oa FP Vg=>?_;have eB:∀c o,c∉[z,i1]->K.w.s.heap.get? c=some o->h'.get? c=some o:=λ c o hc e=>hk c o (λ q=>hc (q▸.head _)) (λ q=>hc (q▸.tail _ (.head _))) e;have h:=K.w.H.many (σ':=K.w.σ.set (l+1) .dead) (C:=[z,i1]) (h':=h') (tk:=K.w.s.toks) (List.length_set ..) (λ c hc=>by
    rcases List.mem_cons.mp hc with rfl|hc
    ·exact mm hl
    ·cases List.mem_singleton.mp hc;exact mm jq) eB (λ q c ao g1 g2=>B7 nd g1 g2 jq (lt e1) (λ aa a2 a3=>by subst a2 a3;exact .inr (.dead FP Vg)) λ aa b2 b3=>by
   by_cases q0:q=l
   ·subst q0;cases hl.symm.trans g1;cases e0.symm.trans b3;exact .inr (.zip UU N9 (hk TI _ D.TIz D.TIi1 qW) jq f6 B8)
   ·refine .inl ⟨λ hm=>?_,b3⟩;rcases List.mem_cons.mp hm with rfl|hm
    ·exact q0 (jl nd g1 hl)
    ·exact b2 (List.mem_singleton.mp hm))
  exact kn ⟨_,_,_,h.1⟩ h.2 p
 |@s xs ys i j x y e0 e1 e2 e3 hx hy p=>
  refine K.w.Ry hl e0 e1 e2 e3 λ TI TO i1 i2 t1 t2 yq Rz n m a b jq f6 B8 N9 D hz qW Ga h1 h2 mD vL sR sS=>bp (bq.get sR i hx) λ v gv rv=>bp (bq.get sS j hy) λ u gu ru=>?_;refine KD D hz qW Ga h1 h2 mD.it vL.it (x:=v) (y:=u) (by refine cA Array.getElem?_toList ?_;exact gv) (by refine cA Array.getElem?_toList ?_;exact gu) λ h' b1 b2 b3 b4 b5 hk=>hs _ _ ?_;refine wpAny_letOwnedTupleGo_zip (s:={K.w.s with heap:=h'}) b1 λ mY c1 c2=>?_;have up:∀c o,c≠z->h'.get? c=some o->mY.get? c=some o:=λ c o hn e=>c2.extBut _ _ hn e;have eB:∀c o,c∉[z,TO,i1,i2]->K.w.s.heap.get? c=some o->mY.get? c=some o:=λ c o hc e=>up c o (λ q=>hc (q▸.head _)) (hk c o (λ q=>hc (q▸.head _)) (λ q=>hc (q▸.tail _ (.head _))) (λ q=>hc (q▸.tail _ (.tail _ (.head _)))) (λ q=>hc (q▸.tail _ (.tail _ (.tail _ (.head _))))) e);have hC:∀c∈[z,TO,i1,i2],∃q,(q=l\/q=l+3\/q=l+1\/q=l+2)/\K.w.lam[q]?=some c:=λ c hc=>by
   simp only [List.mem_cons,List.not_mem_nil,or_false]at hc;rcases hc with rfl|rfl|rfl|rfl
   ·exact ⟨l,.inl rfl,hl⟩
   ·exact ⟨_,.inr (.inl rfl),B8⟩
   ·exact ⟨_,.inr (.inr (.inl rfl)),jq⟩
   ·exact ⟨_,.inr (.inr (.inr rfl)),f6⟩
  have ZV:∀c∈[z,TO,i1,i2],c∈K.w.lam:=λ c hc=>bp (hC c hc) λ q aa h=>mm h;have kc:Kx K.w.s.heap K.w.lam mY K.w.lam:=⟨.refl _,λ c o aa aa hn aa aa e=>eB c o (λ h=>hn (ZV c h)) e,λ aa h=>.inl h⟩
  have h:=K.w.H.many (σ':=(K.w.σ.set (l+1) (.bY xs (i+1))).set (l+2) (.bY ys (j+1))) (C:=[z,TO,i1,i2]) (h':=mY) (tk:=K.w.s.toks) (by simp) ZV eB (λ q c ao g1 g2=>
   B7 nd g1 g2 f6 (by simpa using lt e2) (λ aa a2 a3=>by subst a2 a3;exact bp b4 λ o ho r=>.inr (.bY ⟨o,up _ _ D.i2z ho,r⟩ (kc.tt vL) (bq.mono kc sS))) λ q2 aa g2=>
   B7 nd g1 g2 jq (lt e1) (λ aa a2 a3=>by subst a2 a3;exact bp b3 λ o ho r=>.inr (.bY ⟨o,up _ _ D.i1z ho,r⟩ (kc.tt mD) (bq.mono kc sR))) λ q1 aa g3=>by
    by_cases q0:q=l
    ·subst q0;cases hl.symm.trans g1;cases e0.symm.trans g3;exact .inr (.zip c1 N9 (up _ _ D.TIz (hk TI _ D.TIz D.TITO D.TIi1 D.TIi2 qW)) jq f6 B8)
    ·by_cases q3:q=l+3
     ·subst q3;cases B8.symm.trans g1;cases e3.symm.trans g3;exact .inr (.fD (up _ _ D.TOz b2))
     ·refine .inl ⟨λ hm=>bp (hC c hm) λ q' h' e'=>?_,g3⟩;cases jl nd g1 e';rcases h' with h'|h'|h'|h'
      ·exact q0 h'
      ·exact q3 h'
      ·exact q1 h'
      ·exact q2 h')
  exact ks _ _ ⟨_,_,_,h.1⟩ h.2 p (.tup (items:=#[v,u]) (n:=0) ⟨K.w.mu,up _ _ (Nat.ne_of_gt (Heap.lt_size hz)) b5⟩ (.cons (VR.mono h.2.kx rv) (.cons (VR.mono h.2.kx ru) .nil)) (Nat.le_of_ble_eq_true rfl))
def HL(x:aL):Prop:=∃l,x=.zip l
inductive HM(σ:U)(P:aL->Prop):AV->Prop
 |mk {l:Nat}:σ[l]?=some .zip->P (.zip l)->HM σ P (.ref l)
def N_(a:AE):AI:=λ F ρ σ P=>a F ρ σ λ v σ=>HM σ (λ x=>P x σ) v
theorem Sp{e:Expr}{a:AE}(ha:aZ Γ e a):mA Γ HL e (N_ a):=λ K P Q hc k=>ha K.r hc λ u v w S p hv=>by
 revert hv;induction p with
 |mk hx p=>
  intro hv;apply hv.kr;intro z hl;cases w.H.obj _ _ _ hl hx with
  |zip g0=>exact wpAny_pyIter_zip g0 (k z _ w [] S p ⟨_,rfl⟩ ⟨⟨hl,rfl⟩,λ b hb=>nomatch hb⟩ λ b hb=>nomatch hb)
def ZW(x:aL)(k:Nat->Prop):Prop:=match x with
 |.zip l=>k l
 |_=>False
noncomputable def oU(ns:List String)(g:AG)(c:AE):Nat->AR
 |0,_,_,_,_,_,_=>False
 |n+1,x,la,F,ρ,σ,P=>ZW x λ l=>sq σ l P λ v σ=>g F v ρ σ λ ρ σ=>c F ρ σ λ u σ=>bO u σ (λ σ=>oU ns g c n x la F (pick ns ρ) σ P) la
inductive ZI(env:Env)(f:St Γ)(x:aL)(it:Addr)(la:Nat)(acc:Addr)(ns:List String)(g:AG)(c:AE)(P:U->Prop)(k:Nat):Shared->Prop
 |mk (ρ:Loc) (w:St Γ):w.FR env ρ->f.nS env w->IR w.s.heap w.lam x it []->w.lam[la]?=some acc->oU ns g c k x la Γ.F ρ w.σ P->ZI env f x it la acc ns g c P k w.s
theorem Yq{ns:List String}(n:Nat){elt iter:Expr}{elts:List Expr}{k:Nat}{tp:Pos}{scope:Scope}{pos:Pos}{g:AG}{c:AE}(hg:ig Γ (.Tuple elts k tp) g)(hc:aZ Γ elt c):n7 Γ HL elt (.Tuple elts k tp) iter [] scope pos (oU ns g c n):=by
 rintro K _ it fp la acc P R he ⟨l,rfl⟩ r ap hl fin;refine yx (I:=ZI K.env K.f (.zip l) it la acc ns g c P) (λ m s hI=>?_) n ⟨K.ρ,K.w,K.F,K.T,⟨r.1.1,rfl⟩,hl,he⟩;induction hI with
 |mk ρ w F T r hl p=>
  cases m with
  |zero=>exact p.elim
  |succ m=>
   refine N8 ((K.jB ρ w F T).at K.A _ K.R) (λ aa h=>h) (λ aa aa h=>h) r.1 p (λ dx S p=>?_) λ u v dx S p hv=>?_
   ·exact fin ρ dx (FR.step F w.H S) (cG.trans T (Step.toF S dx.H)) p (S.ext _ _ hl)
   ·refine hg (((K.jB ρ w F T).yr dx S).at K.A _ K.R).rf p hv λ Yj mw Sh Ar p=>?_;have Kk:=cG.trans (cG.trans T (Step.toF S dx.H)) Ar;have KH:=Ar.kx.ext _ _ (S.ext _ _ hl);exact ux (N:=λ σ=>oU ns g c m (.zip l) la Γ.F (pick ns Yj) σ P) (K.jB Yj mw Sh Kk) hc KH p λ abv Yr p=>⟨m,Nat.lt_succ_self _,_,abv,(FR.step Sh mw.H Yr).weaken λ aa aa h=>(gW h).2,cG.trans Kk (Step.toF Yr abv.H),⟨Yr.ext _ _ (Ar.kx.ext _ _ (S.ext _ _ r.1)),rfl⟩,Yr.ext _ _ KH,p⟩
theorem Sq{ns:List String}{g:AG}{c:AE}{n:Nat}:qS Γ HL (oU ns g c n):=by
 rintro A E w _ it fp Q la F ρ P ⟨l,rfl⟩ p r h;cases n with
 |zero=>exact p.elim
 |succ n=>
  have e0:w.σ[l]?=some .zip:=by have p:sq _ _ _ _:=p;cases p<;>assumption
  cases w.H.obj _ _ _ r.1.1 e0 with
  |zip g0=>exact wpAny_pyIter_zip g0 h
theorem Ys{elt iter:Expr}{elts:List Expr}{k:Nat}{tp:Pos}{scope:Scope}{pos:Pos}{a:AE}{g:AG}{c:AE}{ns fs:List String}(ck:l8 Γ.sc scope ns fs=true)(ha:aZ Γ iter a)(hf:∀env x,foldedSetIterable iter env x=pure x)
  (hg:ig (Γ.sub (hW Γ.sc scope)) (.Tuple elts k tp) g)(hc:aZ (Γ.sub (hW Γ.sc scope)) elt c):aZ Γ (.ListComp elt [⟨.Tuple elts k tp,iter,[],0⟩] scope pos) (dE (N_ a) ns (oU ns g c)):=
 uy (fH ck).2 (fH ck).1 (Sp ha) hf (λ n=>Yq n hg hc) (λ aa=>Sq)
end
end
section
set_option genInjectivity false
set_option genSizeOf false
theorem w_mk(C:Addr)(rest:List Value)(kw:List (Str×Value)):(Code.builtin "type.__call__" ⟨.ref C::rest,kw⟩).weight=1/\(Code.builtin "type.__call__" ⟨.ref C::rest,kw⟩).cUnits=1:=by constructor<;>kernel_rfl
section
variable{Γ:cZ}
def RA(c:dN)(F:bS)(cB:List AV)(σ:U)(P:PV):Prop:=F.call (qp c) (.ref σ.length::cB) (σ++[.inst c,.dS []]) λ v σ'=>v=.none/\P (.ref σ.length) σ'
theorem B9{prog:Program}{w:World}{h:Heap}{a:Addr}(ha:h.get? a=some emptyDict):h.DictOf (PySem.strKind prog w) a []:=
 ⟨_,_,_,ha,⟨rfl,rfl,rfl⟩,rfl,λ aa he=>by simp at he,Pairs.nil,List.nodup_nil⟩
def xJ(Γ:cZ):Prop:=∀c:dN,qy Γ (.ref c.addr) (Γ.F.make c)
theorem Sr{G:Places}{d:Nat}{F:bS}{sc:Scope}(W:Wd G)(O:mv ⟨G,d,F,sc⟩)(c:dN)(hg:Γ.G=G)(hd:Γ.d=d+1):qy Γ (.ref c.addr) (RA c F):=by
 subst hg;intro A E w x v P Q R hv hc k;obtain ⟨s,lam,σ,H⟩:=w;obtain ⟨hh,g,dr,t,os⟩:=s;have X:Γ.G.K.In hh:=λ b o e=>H.base b o (W.X b o e);refine make_core (makes_of X (W.makes c)) (looks_findIn X (W.init c)) (λ self=>bind_fn X self (W.vf _)) (.inl rfl) ?_;have hk:∀b o,hh.get? b=some o->((hh.push emptyDict).push (instObj c.addr hh.objs.size)).get? b=some o:=λ b o e=>Heap.get?_push_of_some _ (Heap.get?_push_of_some _ e);have hx:((hh.push emptyDict).push (instObj c.addr hh.objs.size)).get? (hh.objs.size+1)=some (instObj c.addr hh.objs.size):=by
  have:((hh.push emptyDict).push (instObj c.addr hh.objs.size)).get? (hh.push emptyDict).objs.size=some (instObj c.addr hh.objs.size):=Heap.get?_push_size _ rfl
  rwa [Heap.size_push]at this
 have hdx:((hh.push emptyDict).push (instObj c.addr hh.objs.size)).get? hh.objs.size=some emptyDict:=Heap.get?_push_of_some _ (Heap.get?_push_size _ rfl);have hn:=H.U_ (as:=[hh.objs.size+1,hh.objs.size]) (KC:=[.inst c,.dS []]) (h':=(hh.push emptyDict).push (instObj c.addr hh.objs.size)) (tk:=t) hk (λ b hb=>by
   rcases List.mem_cons.mp hb with rfl|hb
   ·exact Heap.get?_none_of_le (Nat.le_succ _)
   ·cases List.mem_singleton.mp hb;exact Heap.get?_none_of_le (Nat.le_refl _)) (by simp) rfl (λ i b ao h1 h2=>by
  match i,h1,h2 with
  |0,h1,h2=>cases h1;cases h2;exact .inst hx (B5 rfl)
  |1,h1,h2=>cases h1;cases h2;exact .dS (B9 hdx) .nil
  |i+2,h1,h2=>simp at h1)
 have l0:(lam++[hh.objs.size+1,hh.objs.size])[σ.length]?=some (hh.objs.size+1):=H.len▸B5 (j:=0) rfl;have dep:=R.dep;have un:=R.un;rw [hd]at dep un;refine Bs (w_mk c.addr v []) λ w1 w2=>?_;have R':iK d (A.under (.builtin "type.__call__" ⟨.ref c.addr::v,[]⟩)):=⟨R.h,by refine (?_:A.depth+_+_<_);refine ae w1 ?_;exact bG dep (by simp+arith only),by refine (?_:A.units+_+_+_<_);refine ae w2 ?_;exact bG un (by simp+arith only)⟩
 refine codeAny_mono (O (qp c) _ E ⟨_,_,_,hn.1⟩ (Q:=λ v s=>v=.none/\Q (.ref (hh.objs.size+1)) s) R' (.cons (.ref l0) (bq.mono hn.2.kx hv)) hc λ u y w' S p hy=>?_) λ r s' hr=>?_
 ·obtain ⟨rfl,p⟩:=p;exact ⟨VR.none_ hy,k _ _ ⟨w'.s,w'.lam,w'.σ,w'.H⟩ (Step.trans hn.2 S) p (.ref (S.ext _ _ l0))⟩
 ·cases r with
  |error e=>exact hr
  |ok fl=>
   cases fl with
   |ret v=>exact ⟨hr.1,hr.2⟩
   |next=>exact hr
   |brk=>exact hr
   |cont=>exact hr
def KJ(c:dN)(cs:List AE):AE:=λ F ρ σ P=>i' cs F ρ σ λ vs σ=>F.make c vs σ P
theorem vM(W:Wd Γ.G)(O:xJ Γ){x:String}{c:dN}{np pos:Pos}{es:List Expr}{cs:List AE}(g:b7 Γ.G x (.ref c.addr))(hk:Γ.sc.names.lookup (Str.ofString x)=some .globalImplicit)(hd:(Str.ofString x==("__debug__":Str))=false)
  (kp:Kept Γ.G (.ref c.addr))(a:eY Γ es cs):aZ Γ (.Call (.Name (Str.ofString x) np) es [] pos) (KJ c cs):=aX (f:=λ σ P x=>Γ.F.make c x σ P) W g hk hd kp a (O c).v
def xK(k v:AE):AE:=λ F ρ σ P=>k F ρ (σ++[.dI []]) λ n aax=>pM n λ i=>v F ρ aax λ u Vi=>Vi[σ.length]?=some (.dI [])/\P (.ref σ.length) (Vi.set σ.length (.dI [(i,u)]))
theorem St.RB(w:St Γ){ao:AO}(hr:∀h lam l a,h.get? a=some {cls:=.type "dict",data:=.dict #[]}->OR Γ.G h lam l a ao):
  HS Γ.G {w.s with heap:=w.s.heap.push {cls:=.type "dict",data:=.dict #[]}} (w.lam++[w.s.heap.objs.size]) (w.σ++[ao])/\Step w.s w.lam {w.s with heap:=w.s.heap.push {cls:=.type "dict",data:=.dict #[]}} (w.lam++[w.s.heap.objs.size]):=
 w.H.new (s':={w.s with heap:=w.s.heap.push {cls:=.type "dict",data:=.dict #[]}}) (a:=w.s.heap.objs.size) (ao:=ao) (λ b o e=>Heap.get?_push_of_some _ e) (Heap.get?_none_of_le (Nat.le_refl _)) rfl rfl (hr _ _ _ _ (Heap.get?_push_size _ rfl))
theorem yC{ke ve:Expr}{pos:Pos}{kk v:AE}(hk:aZ Γ ke kk)(hv:aZ Γ ve v):aZ Γ (.Dict [some ke] [ve] pos) (xK kk v):=λ K P Q hc k=>by
 refine wpAny_Dict_walk (knd:=intKind Γ.G.prog Γ.G.w) rfl rfl (by simp) (Nat.succ_pos _) ?_;have h0:=K.w.RB (ao:=.dI []) λ h lam l a e=>.dI (kvs':=[]) ⟨_,_,_,e,⟨rfl,rfl,rfl⟩,rfl,λ aa h=>by simp at h,.nil,.nil⟩ .nil;have Vj:(K.w.lam++[K.w.s.heap.objs.size])[K.w.σ.length]?=some K.w.s.heap.objs.size:=by refine cA K.w.H.len ?_;exact List.getElem?_concat_length ..
 refine wpAny_bind (hk (K.up ⟨_,_,_,h0.1⟩ h0.2).r hc λ kv n xv kO p hkv=>?_);obtain ⟨i,rfl,p⟩:=p.k;apply hkv.ki;intro t;refine wpAny_bind (wpAny_holding (wpAny_bind (hv (K.up xv (Step.trans h0.2 kO)).r p λ vv u dx dC p Gb=>?_)));refine wpAny_bind (wpAny_standAt (wpAny_pure (wpAny_bind (wpAny_holding (wpAny_pure (wpAny_pure ?_))))));have f6:=dC.ext _ _ (kO.ext _ _ Vj);refine dx.dI f6 p.1 λ kvs' g1 g2 aa=>?_;cases g2;exact ⟨[(i,vv)],⟨intKind_is _ _ _ _,rfl,trivial⟩,g1,λ h' hd hs=>(K.up dx (Step.trans (Step.trans h0.2 kO) dC)).sj (tk:=dx.s.toks+1) k f6 hs p.2 (λ kc=>.dI (kvs':=[(i,vv)]) hd (.cons (f:=id) (VR.mono kc Gb) .nil)) (.ref f6)⟩
def Gd(x y:String)(v w:AE):AE:=λ F ρ σ P=>v F ρ (σ++[.dS []]) λ a aax=>w F ρ aax λ b Vi=>Vi[σ.length]?=some (.dS [])/\P (.ref σ.length) (Vi.set σ.length (.dS [(x,a),(y,b)]))
theorem KN{x y:String}{k1 k2:Nat}{p1 p2:Pos}{ve we:Expr}{pos:Pos}{v u:AE}(iH:(Str.ofString x=Str.ofString y)=False)(hv:aZ Γ ve v)(hw:aZ Γ we u):
  aZ Γ (.Dict [some (.Constant (.str (Str.ofString x)) k1 p1),some (.Constant (.str (Str.ofString y)) k2 p2)] [ve,we] pos) (Gd x y v u):=λ K P Q hc k=>by
 refine wpAny_Dict_walk (knd:=dw Γ.G.prog Γ.G.w) rfl rfl (by simp) (by simp) ?_;have h0:=K.w.RB (ao:=.dS []) λ h lam l a e=>.dS (kvs':=[]) ⟨_,_,_,e,⟨rfl,rfl,rfl⟩,rfl,λ aa h=>by simp at h,.nil,.nil⟩ .nil;have Vj:(K.w.lam++[K.w.s.heap.objs.size])[K.w.σ.length]?=some K.w.s.heap.objs.size:=by refine cA K.w.H.len ?_;exact List.getElem?_concat_length ..
 refine wpAny_bind (Constant_str ?_);have h1:=h0.1.toks (K.w.s.toks+1);have S1:=Step.trans h0.2 h1.2;refine wpAny_bind (wpAny_holding (wpAny_bind (hv (K.up ⟨_,_,_,h1.1⟩ S1).r hc λ vv a dx dC p Gb=>?_)));refine wpAny_bind (wpAny_standAt (wpAny_pure (wpAny_bind (wpAny_holding (wpAny_bind (Constant_str ?_))))));have h3:=dx.H.toks (dx.s.toks+1);have S3:=Step.trans (Step.trans S1 dC) h3.2;refine wpAny_bind (wpAny_holding (wpAny_bind (hw (K.up ⟨_,_,_,h3.1⟩ S3).r p λ ww b nF HC p Vk=>?_)));refine wpAny_bind (wpAny_standAt (wpAny_pure (wpAny_bind (wpAny_holding (wpAny_pure (wpAny_pure (wpAny_pure ?_)))))));have f6:=HC.ext _ _ (h3.2.ext _ _ (dC.ext _ _ (h1.2.ext _ _ Vj)));refine nF.dS f6 p.1 λ kvs' g1 g2 aa=>?_;cases g2;refine ⟨[(Str.ofString x,vv),(Str.ofString y,ww)],⟨if_pos rfl,rfl,if_pos rfl,rfl,trivial⟩,g1,λ h' hd hs=>?_⟩;rw [show merged ([]:List (Str×Value)) [(Str.ofString x,vv),(Str.ofString y,ww)]=[(Str.ofString x,vv),(Str.ofString y,ww)] by simp [merged,stored,iH]]at hd;exact (K.up nF (Step.trans S3 HC)).sj (tk:=nF.s.toks+2) k f6 hs p.2 (λ kc=>.dS hd (.cons (VR.mono kc (VR.mono (Step.trans h3.2 HC).kx Gb)) (.cons (VR.mono kc Vk) .nil))) (.ref f6)
end
end
section
set_option genInjectivity false
set_option genSizeOf false
noncomputable def Vl:List (String×Fn):=[("__init__",.ug),("look_at",.l6),("join",.u6)]
noncomputable def HN(m:String):Option Fn:=Uq Vl m
structure sY(G:Places):Prop where
 cell:∃cl ZX ZY,G.K.lookup 513=some ⟨cl,ZX,.cell (some (.ref 577)),ZY⟩
 cls:∃cd,clsIn G.K 577=some cd
 sub:mroIn G.K 577 (.ref 577)=some true
 Ge:nsIn G.K mainGlobals "super"=some none
 B_:nsIn G.K cStatics "thirdparty.any"=some none
 top:(G.prog.main.scope.names.lookup ("super":Str)).isSome=false
 BA:∀m f,HN m=some f->ks_superIn G.K 577 577 (Str.ofString m)=some (some (.ref f.addr))
structure iB(G:Places)(a:Addr)(ns:List String)(sc:Scope)(body:List Stmt):Prop where
 at_:∃oc od fd gp sZ yD yE vs yF file tf ar,G.K.lookup a=some ⟨oc,od,.func fd,gp⟩/\fd.code=.ref sZ/\codeIn G.K fd.code fd.qualname=true/\fd.body=.stmts body/\fd.scope=sc/\fd.closure=[(("__class__":Str),513)]/\fd.globals=mainGlobals/\fd.builtins=builtinsNs/\
  (∀vs:List Value,vs.length=ns.length->bindArgs fd ⟨vs,[]⟩=pure ((ns.map Str.ofString).zip vs))/\(fd.params.posonlyargs++fd.params.args).head?=some ar/\ar.arg=Str.ofString "self"/\
  G.K.lookup sZ=some ⟨yD,yE,.fields vs,yF⟩/\vs[2]?=some (.str file tf)/\((G.prog.main.file:Str)==file)=true
 kinds:∀n∈ns,sc.names.lookup (Str.ofString n)=some .local
 qQ:∀x∈sc.names,x.2≠.cell
 BP:∀x,sc.names.lookup (Str.ofString x)=some .free->x="__class__"
 sup:sc.names.lookup ("super":Str)=some .globalImplicit
 aay:sc.names.lookup ("__class__":Str)=some .free
 Yt:sc.names.lookup (Str.ofString "self")=some .local
 kind:sc.kind=.function
 co:sc.isCoroutine=false
 gen:sc.isGenerator=false
section
variable{Γ:cZ}
structure vN(a:Addr)(fd:FuncData)(env:Env):Prop where
 func:env.func=some a
 code:env.code=fd.code
 cell:env.cells.lookup ("__class__":Str)=some 513
theorem callWith_bound(W:Wd Γ.G)(K:Cx Γ){pos:Pos}{q g:Addr}{self:Value}{es:List Expr}{cs:List AE}{P:List AV->U->Prop}{Q:Value->Shared->Prop}
  (hg:fnIn Γ.G.K g=true)(hq:K.w.s.heap.get? q=some (methodObj (.ref g) self))(ZZ:q∉K.w.lam)(x:eY Γ es cs)(he:i' cs Γ.F K.ρ K.w.σ P)
  (h:∀us vs(w:St Γ),K.w.Le w->P vs w.σ->w.Rs vs us->w.s.heap.get? q=some (methodObj (.ref g) self)->wpAny Γ.M K.A (call (.ref q) us) Q K.E w.s):K.wp (callWith pos (.ref q) [] (backTo pos (starEach es K.env)) []) Q:=by
 have run:K.wp (spliced (backTo pos (starEach es K.env))) λ us s=>MethP Γ.G.K q g self s.heap/\wpAny Γ.M K.A (call (.ref q) ([]++us)) Q K.E s:=x.run pos K.r he λ us vs w S aa p hv=>⟨⟨S.keep _ _ ZZ hq,w.X W⟩,h us vs w S p hv (S.keep _ _ ZZ hq)⟩
 refine callWith_of (P:=λ h=>MethP Γ.G.K q g self h) (by rw [x.plain];rfl) (λ h X=>keeps_M hg h X) ?_;cases x with
 |nil=>exact evalArgs_nil3 ⟨⟨hq,K.w.X W⟩,h [] _ K.w (.refl _ _) he .nil hq⟩
 |cons h1 hn _=>rw [hn.s]at run⊢;exact evalArgs_plain run
inductive Ca(m:String)(σ:U)(P:Nat->Fn->Prop):AV->Prop
 |mk {l:Nat} {kvs:List (String×AV)} {f:Fn}:σ[l]?=some (.inst .levels)->σ[l+1]?=some (.dS kvs)->HN m=some f->P l f->Ca m σ P (.ref l)
def xM(m:String)(cs:List AE):AE:=λ F ρ σ P=>need (ρ "self") λ v=>Ca m σ (λ l f=>i' cs F ρ σ λ vs σ=>F.call f (.ref l::vs) σ P) v
def xN(m:String)(p0 p1 apos pos:Pos)(es:List Expr):Prop:=∀env,∃pl:Sem Bool,eval (.Call (.Attribute (.Call (.Name "super" p0) [] [] p1) (Str.ofString m) apos) es [] pos) env=(do
   let ov<-attributeBase (.Call (.Name "super" p0) [] [] p1) (Str.ofString m) env (eval (.Call (.Name "super" p0) [] [] p1) env)
   standAt apos.atName
   let(f,first)<-holding [ov] (getMethod ov (Str.ofString m) pl)
   callWith pos f first (backTo pos (starEach es env)) [])
theorem iB.k{G:Places}{a:Addr}{ns:List String}{sc:Scope}{body:List Stmt}{C:Prop}(K:iB G a ns sc body)(k:∀oc od fd gp sZ yD yE vs yF file tf ar,G.K.lookup a=some ⟨oc,od,.func fd,gp⟩->fd.code=.ref sZ->codeIn G.K fd.code fd.qualname=true->fd.body=.stmts body->fd.scope=sc->fd.closure=[(("__class__":Str),513)]->fd.globals=mainGlobals->fd.builtins=builtinsNs->
  (∀vs:List Value,vs.length=ns.length->bindArgs fd ⟨vs,[]⟩=pure ((ns.map Str.ofString).zip vs))->(fd.params.posonlyargs++fd.params.args).head?=some ar->ar.arg=Str.ofString "self"->
  G.K.lookup sZ=some ⟨yD,yE,.fields vs,yF⟩->vs[2]?=some (.str file tf)->((G.prog.main.file:Str)==file)=true->C):C:=by
 obtain ⟨oc,od,fd,gp,sZ,yD,yE,vs,yF,file,tf,ar,g1,g2,g3,g4,g5,g6,g7,g8,g9,RC,Gf,RD,RE,RF⟩:=K.at_;exact k oc od fd gp sZ yD yE vs yF file tf ar g1 g2 g3 g4 g5 g6 g7 g8 g9 RC Gf RD RE RF
theorem Gg(W:Wd Γ.G)(WS:sY Γ.G)(O:mv Γ){a:Addr}{ns:List String}{body:List Stmt}(FS:iB Γ.G a ns Γ.sc body){fd:FuncData}{oc:Value}{od:Option Addr}{gp:Array (Option Value)}(pS:Γ.G.K.lookup a=some ⟨oc,od,.func fd,gp⟩)
  {m:String}{p0 p1 apos pos:Pos}{es:List Expr}{cs:List AE}(al:eY Γ es cs)(hm:(Str.ofString m==("__class__":Str))=false)(he:xN m p0 p1 apos pos es)(K:Cx Γ){P:PV}{Q:Value->Shared->Prop}(pN:vN a fd K.env)(hc:xM m cs Γ.F K.ρ K.w.σ P)(k:K.KV P Q):
  PySem.wpAt Γ.M K.A (.func body K.env) (eval (.Call (.Attribute (.Call (.Name "super" p0) [] [] p1) (Str.ofString m) apos) es [] pos) K.env) Q K.E K.w.s:=by
 refine dM (he K.env) λ pl he=>hc.k λ v HO p=>?_;revert HO;induction p with
 |@mk l kvs f h1 h2 hf p=>
  intro HO;refine FS.k λ oc' od' fd' ab4 sZ yD yE Z0 yF file tf ar g1 g2 g3 g4 g5 g6 g7 g8 g9 RC Gf RD RE RF=>?_;rw [pS]at g1;cases g1;refine Um WS.cell λ cl ZX ZY HP=>dM WS.cls λ Z1 hD=>?_;have X:=K.w.X W;obtain ⟨oD,Vm,Vn⟩:∃oD,K.w.s.heap.get? 577=some oD/\oD.data=.cls Z1:=by
   have yG:=hD;unfold clsIn at yG;split at yG
   ·rename_i c d' cd' sl ho;cases yG;exact ⟨_,X _ _ ho,rfl⟩
   ·cases yG
  have n_:K.env.kindOf "super"=some .globalImplicit:=K.kind FS.sup;have Z2:K.env.kindOf "__class__"=some .free:=K.kind FS.aay;have lI:K.env.kindOf ar.arg=some .local:=K.kind (Gf▸FS.Yt);refine bp K.F.loc λ ab5 iR aaz=>bp (aaz "self" _ (Gf▸lI) HO) λ sv Vo hsr=>?_;revert Vo;apply hsr.kr;intro x Cb Vo;induction K.w.inst Cb h1 h2 with
  |mk b kvs' es2 n hb sP hd hp ZC I=>
   obtain ⟨hx,-,-,-⟩:=I;refine ks_wpAt_MethodCall (pl:=pl) ?_ he;refine ks_wpAt_super_base (env:=K.env) (f:=a) (of:=⟨oc,od,.func fd,gp⟩) (fd:=fd) (ar:=ar) (cc:=sZ) (oc:=⟨yD,yE,.fields Z0,yF⟩) n_ Z2 hm pN.func (X _ _ pS) rfl RC (pN.code.trans g2) (X _ _ RD) rfl RE RF WS.top ?_;refine ks_loadName_global K.fn n_ ?_;refine bp W.b λ mb aaA hmb=>?_;have lg:∀{Q:Value->Shared->Prop},Q (.type "super") K.w.s->wpAny Γ.M K.A (loadGlobal K.env "super") Q K.E K.w.s:=λ hq=>by unfold loadGlobal;refine ae K.ok.globals<|ae K.ok.builtins ?_;refine wpAny_bind ((looks_nsIn X WS.Ge).here (wpAny_bind (wpAny_nsGet (aaA.keeps K.w.H.base) ?_)));refine ae (hmb _ (by decide))<|ae (show bootBuiltins "super"=some (.type "super") by kernel_rfl) ?_;exact wpAny_pure hq
   refine lg ⟨rfl,?_⟩;refine wpAny_loadName_free K.fn Z2 pN.cell ⟨_,X _ _ HP,rfl⟩ ?_;refine wpAny_loadName_local K.fn lI iR (Gf▸Vo) ?_;obtain ⟨A,E,env,kf,ko,⟨⟨hh,gg,dd,tt,oo⟩,lam,σ,H⟩,ρ,R,ok,Fr,S,T⟩:=K;refine ks_wpAny_isType_cls Vm Vn ⟨rfl,?_⟩;refine ks_wpAny_call_super (C:=577) Vm Vn hx rfl (λ c e=>by cases e) (looks_mroIn X WS.sub) (λ h' e kk=>?_);have h1:=H.grow (s':=⟨h',gg,dd,tt,oo⟩) kk rfl rfl;have X':Γ.G.K.In h':=λ b o e=>h1.1.base b o (W.X b o e);obtain ⟨of,hof,aaB⟩:∃of,h'.get? f.addr=some of/\of.cls=.type "function":=by
    have mZ:(Γ.G.K.lookup f.addr).map (·.cls)=some (.type "function"):=W.vf f;cases z:Γ.G.K.lookup f.addr with
    |none=>rw [z]at mZ;cases mZ
    |some of=>rw [z]at mZ;exact ⟨of,X' _ _ z,Option.some.inj mZ⟩
   have hxC:x≠577:=λ e=>by subst e;cases Vm.symm.trans hx;cases Vn
   have HQ:=WS.BA m f hf;unfold ks_superIn at HQ;rw [hD]at HQ;refine ks_wpAny_getMethod_super e (looks_opaque X' WS.B_) (l₀:=Z1.mro) (λ A Q E s k' q=>wpAny_bind ((looks_clsIn X' hD) A _ E s k' (wpAny_pure q))) rfl X' HQ hof aaB hxC hm ?_;have h2:=h1.1.grow (s':=⟨h'.push {cls:=.type "method",data:=.fields #[.ref f.addr,.ref x]},gg,dd,tt+1,oo⟩) (λ b o e=>Heap.get?_push_of_some _ e) rfl rfl;have Vp:=Step.trans h1.2 h2.2;let K:Cx Γ:=⟨A,E,env,kf,ko,⟨⟨hh,gg,dd,tt,oo⟩,lam,σ,H⟩,ρ,R,ok,Fr,S,T⟩
   exact callWith_bound W (K.up ⟨_,_,_,h2.1⟩ Vp) (W.fn f) (Heap.get?_push_size _ rfl) (St.mu (Γ:=Γ) ⟨_,_,_,h1.1⟩) al p λ us vs w oI p hws hq=>wpAny_call (ks_codeAny_call_bound hq (O f A E w R (.cons (.ref (oI.ext _ _ (Vp.ext _ _ Cb))) hws) p λ u y w' S' p hy=>k u y w' (Step.trans S (Step.trans Vp (Step.trans oI S'))) p hy))
def i7(Γ:cZ)(a:Addr)(fd:FuncData)(body b:List Stmt)(c:AS):Prop:=∀(K:Cx Γ){P:PF}{Q:Flow->Shared->Prop},vN a fd K.env->c Γ.F K.ρ K.w.σ P->K.KS P Q->PySem.wpAt Γ.M K.A (.func body K.env) (execs b K.env) Q K.E K.w.s
theorem qY{a:Addr}{fd:FuncData}{body:List Stmt}:i7 Γ a fd body [] aG:=λ K aa aa aa hc k=>wpAt_of_wpAny (aw K hc k)
theorem HR{a:Addr}{fd:FuncData}{body rest:List Stmt}{b:AS}(K:Cx Γ){P:PF}{Q:Flow->Shared->Prop}(hb:i7 Γ a fd body rest b)(es:vN a fd K.env)(k:K.KS P Q):K.KS (λ f ρ σ=>f.seq P (λ ρ σ=>b Γ.F ρ σ P) ρ σ) λ fl s=>match fl with
  |.next=>PySem.wpAt Γ.M K.A (.func body K.env) (execs rest K.env) Q K.E s
  |fl=>Q fl s:=λ fl f ρ w F T p hf=>by
 cases hf with
 |next=>exact hb (K.jB ρ w F T) es p k
 |cont=>exact k _ _ ρ w F T p .cont
 |ret hv=>exact k _ _ ρ w F T p (.ret hv)
theorem fJ{a:Addr}{fd:FuncData}{body rest:List Stmt}{st:Stmt}{c b:AS}(hs:iL Γ st c)(hb:i7 Γ a fd body rest b):i7 Γ a fd body (st::rest) (aq c b):=λ K aa aa es hc k=>ks_wpAt_execs_cons (wpAt_of_wpAny (hs K hc (HR K hb es k)))
theorem pT(W:Wd Γ.G)(WS:sY Γ.G)(O:mv Γ){a:Addr}{ns:List String}{body rest:List Stmt}(FS:iB Γ.G a ns Γ.sc body){fd:FuncData}{oc:Value}{od:Option Addr}{gp:Array (Option Value)}(pS:Γ.G.K.lookup a=some ⟨oc,od,.func fd,gp⟩)
  {m:String}{p0 p1 apos pos p2:Pos}{es:List Expr}{cs:List AE}{b:AS}(al:eY Γ es cs)(hm:(Str.ofString m==("__class__":Str))=false)(he:xN m p0 p1 apos pos es)
  (hi:∀env:Env,env.scope=Γ.sc->interactive env=false)(h1:∀env:Env,swapsWith (.Call (.Attribute (.Call (.Name "super" p0) [] [] p1) (Str.ofString m) apos) es [] pos) none p2.line env=pure false)
  (hb:i7 Γ a fd body rest b):i7 Γ a fd body (.Expr (.Call (.Attribute (.Call (.Name "super" p0) [] [] p1) (Str.ofString m) apos) es [] pos) p2::rest) (aq (bN (xM m cs)) b):=λ K aa aa pN hc k=>
 ks_wpAt_execs_cons (ks_wpAt_Expr_any (Gg W WS O FS pS al hm he K.r pN hc λ u v w S p hv=>K.kS (HR K hb pN k) w S p .next) (hi K.env K.ok.scope) (h1 K.env))
theorem Cc(W:Wd Γ.G)(WS:sY Γ.G)(O:mv Γ){a:Addr}{ns:List String}{body rest:List Stmt}(FS:iB Γ.G a ns Γ.sc body){fd:FuncData}{oc:Value}{od:Option Addr}{gp:Array (Option Value)}(pS:Γ.G.K.lookup a=some ⟨oc,od,.func fd,gp⟩)
  {m:String}{p0 p1 apos pos p2:Pos}{es:List Expr}{cs:List AE}{b:AS}(al:eY Γ es cs)(hm:(Str.ofString m==("__class__":Str))=false)(he:xN m p0 p1 apos pos es)
  (hb:i7 Γ a fd body rest b):i7 Γ a fd body (.Return (some (.Call (.Attribute (.Call (.Name "super" p0) [] [] p1) (Str.ofString m) apos) es [] pos)) p2::rest) (aq (cH (xM m cs)) b):=λ K aa aa pN hc k=>
 ks_wpAt_execs_cons (ks_wpAt_Return_some (Gg W WS O FS pS al hm he K.r pN hc λ u v w S p hv=>K.kS (HR K hb pN k) w S p (.ret hv)))
theorem KO{h:Heap}{lam:List Addr}{ns:List String}{cB:List AV}{vs:List Value}{ρ:Loc}{acc:List (Str×Value)}(hl:ns.length=cB.length)(hv:bq h lam cB vs)(h1:∀x av,ρ x=some av->∃v,acc.lookup (Str.ofString x)=some v/\VR h lam av v):
  ∀x av,bindR ns cB ρ x=some av->∃v,(((ns.map Str.ofString).zip vs).reverse++acc).lookup (Str.ofString x)=some v/\VR h lam av v:=by
 induction ns generalizing cB vs ρ acc with
 |nil=>cases cB with
  |nil=>apply hv.kn;exact h1
  |cons=>cases hl
 |cons n ns ih=>cases cB with
  |nil=>cases hl
  |cons a cB=>
   apply hv.kc;intro v vs hv dQ x av e;rw [FY]at e;have:=ih (acc:=(Str.ofString n,v)::acc) (ρ:=ja ρ n a) (by simpa using hl) dQ (λ y w hy=>?_) x av e
   ·simpa using this
   ·by_cases Vq:y=n
    ·subst Vq;simp only [ja,if_true,Option.some.injEq]at hy;subst hy;exact ⟨v,by simp,hv⟩
    ·simp only [ja,Vq,if_false]at hy;refine bp (h1 y w hy) λ u e1 e2=>?_;refine ⟨u,?_,e2⟩;refine ae List.lookup_cons ?_;have:(Str.ofString y==Str.ofString n)=false:=by simpa usingλ q=>Vq (cq q)
     refine ae this ?_;exact e1
theorem uD{G:Places}{d:Nat}{F:bS}{a:Addr}{ns:List String}{sc:Scope}{body:List Stmt}{c:AS}(W:Wd G)(WS:sY G)(K:iB G a ns sc body)(hb:∀fd oc od gp,G.K.lookup a=some ⟨oc,od,.func fd,gp⟩->i7 ⟨G,d,F,sc⟩ a fd body body c)(hg:Γ.G=G)(hd:Γ.d=d+1):
  qy Γ (.ref a) (FZ ns c F):=by
 subst hg;rintro A E w x v P Q R hv ⟨hl,hc⟩ k;refine K.k λ oc od fd gp sZ yD yE Z0 yF file tf ar ho g2 F0 vD Kq BQ F1 jU vE RC Gf RD RE RF=>?_;have hb:=hb fd oc od gp ho;have hX:=w.X W;have UN:v.length=ns.length:=by rw [<-bq.length hv];exact hl
 have dep:=R.dep;have un:=R.un;rw [hd]at dep un;subst Kq;refine Um WS.cell λ ab6 ab7 ab8 HP=>?_;refine ks_codeAny_call_defAt (o:=⟨oc,od,.func fd,gp⟩) (fd:=fd) (body:=body) (binds:=(ns.map Str.ofString).zip v) (ml dep) (hX _ _ ho) rfl (W.nolimit.keeps w.H.base) (codeRec_of hX F0) vD (λ{α}B Q E h=>by rw [vE v UN];exact wpAny_pure h) K.qQ (λ x hx=>?_) (λ h₀ iR hk=>?_) K.co K.gen K.kind
 ·obtain ⟨n,hn,e⟩:=List.mem_map.mp (List.of_mem_zip (show(x.1,x.2)∈_ from hx)).1;rw [<-e];exact K.kinds n hn
 ·generalize jc:callEnv fd w.s.heap.objs.size a=env at*;have e1:env.locals=w.s.heap.objs.size:=by rw [<-jc];rfl
  have e2:env.scope=fd.scope:=by rw [<-jc];rfl
  have e3:env.cells=[(("__class__":Str),513)]:=by rw [<-jc];exact BQ
  have ek:∀x,env.kindOf x=fd.scope.names.lookup x:=λ x=>by unfold Env.kindOf;exact ae e2 rfl
  have hg:=w.H.grow (s':={w.s with heap:=h₀,toks:=w.s.toks+((ns.map Str.ofString).zip v).length}) hk rfl rfl;have hL:w.s.heap.get? env.locals=none:=e1▸Heap.get?_none_of_le (Nat.le_refl _);have N':=W.X _ _ HP;have eS:vN a fd env:=⟨by refine cA jc ?_;rfl,by refine cA jc ?_;rfl,congrArg _ e3⟩
  have UQ:FR Γ.G h₀ w.lam env (bindR ns x λ aa=>none):=by
   refine ⟨⟨_,e1▸iR,λ x UR aa e=>?_⟩,λ x hx=>?_,e3▸List.pairwise_singleton _ _,λ hm=>w.mu (e1▸hm),w.H.xA hL,λ p hp=>?_⟩
   ·have:=KO (h:=h₀) (lam:=w.lam) (acc:=[]) (ρ:=λ aa=>none) hl.symm (bq.mono hg.2.kx hv) (λ aa aa e=>nomatch e) x UR e;simpa using this
   ·rcases hx with hx|⟨hx,b_⟩
    ·exact absurd rfl (K.qQ _ (fQ (ek _▸hx)))
    ·exact absurd (K.BP x (ek _▸hx)) b_
   ·rw [e3]at hp;cases List.mem_singleton.mp hp;exact ⟨_,_,hg.1.base _ _ N',rfl⟩
  have fin:∀{w':St ⟨Γ.G,d,F,fd.scope⟩},cG env {w.s with heap:=h₀,toks:=w.s.toks+((ns.map Str.ofString).zip v).length} w.lam w'.s w'.lam->Step w.s w.lam w'.s w'.lam:=λ{w'}S=>by
   refine ⟨S.kx.ext,λ b o' hn e=>?_,λ b hb=>(S.kx.fresh b hb).imp id λ hn=>?_⟩
   ·by_cases Vr:b=513
    ·subst Vr;cases (w.H.base _ _ N').symm.trans e;exact w'.H.base _ _ N'
    ·refine S.keep b o' hn (λ hw=>?_) (hk b o' e);rcases hw with rfl|hw
     ·exact nomatch hL.symm.trans e
     ·rw [e3]at hw;exact Vr (by simpa using hw.2)
   ·cases e:w.s.heap.get? b with
    |none=>rfl
    |some o'=>exact nomatch(hn:h₀.get? b=none).symm.trans (hk b o' e)
  refine hb ⟨A.deeper env,_,env,⟨_,w.lam,w.σ,hg.1⟩,⟨_,w.lam,w.σ,hg.1⟩,⟨_,w.lam,w.σ,hg.1⟩,_,⟨R.h,by refine (?_:A.depth+1+3*d<_);exact bG dep (by simp+arith only),by refine (?_:A.units+3+40*d+100<_);exact bG un (by simp+arith only)⟩,
   ⟨e2,K.kind,by refine cA jc ?_;exact F1,by refine cA jc ?_;exact jU,λ aa=>by refine cA jc ?_;rfl⟩,UQ,.refl _ _,.refl _ _ _⟩ eS hc λ fl f ρ w' F' T p hf=>?_
  cases hf with
  |ret hv=>exact k _ _ ⟨w'.s,w'.lam,w'.σ,w'.H⟩ (fin T) p hv
  |next=>exact k _ _ ⟨w'.s,w'.lam,w'.σ,w'.H⟩ (fin T) p .none
  |cont=>exact k _ _ ⟨w'.s,w'.lam,w'.σ,w'.H⟩ (fin T) p .none
end
end
section
noncomputable def dedup:List Int->List Int
 |[]=>[]
 |x::r=>if(dedup r).contains x then dedup r else x::dedup r
theorem Oa(t:SetTable)(hp:t.place=#[])(hd:t.dummies=#[])(j:Nat):t.slot j=.empty:=by unfold SetTable.slot SetTable.has;refine ae hp<|ae hd ?_;rfl
theorem jr(p j:Nat):SetTable.below #[p] j=if p<j then 1 else 0:=by kernel_rfl
theorem Ob(t:SetTable)(p:Nat)(hp:t.place=#[p])(hd:t.dummies=#[])(j:Nat):t.slot j=if p=j then .live 0 else .empty:=by
 unfold SetTable.slot SetTable.has;rw [hp,hd,jr];by_cases h:p<j
 ·have b_:p≠j:=Nat.ne_of_lt h;simp [h,b_]
 ·by_cases e:p=j
  ·subst e;simp
  ·simp [h,e]
theorem Cd{t:SetTable}{g:Nat->Int}{h:Int}{n:Nat}{p:SetTable.Probe}{s:SetTable.Slot}(e:t.slot p.j=s):SetTable.probe.go t g h (n+1) p=(match(generalizing:=false) s with|.empty=>some (.empty p.j p.dummy)|.dummy=>SetTable.probe.go t g h n (t.advance {p with dummy:=some p.j})|.live i=>if g i==h then some (.candidate p.j i (t.advance p))else SetTable.probe.go t g h n (t.advance p)):=by subst e;rfl
theorem KP(t:SetTable)(p:Nat)(hp:t.place=#[p])(hd:t.dummies=#[])(h:Int):∀(n:Nat)(pr:SetTable.Probe),pr.dummy=none->
  SetTable.probe.go t (λ aa=>h+1) h n pr=none\/∃j,SetTable.probe.go t (λ aa=>h+1) h n pr=some (.empty j none)/\p≠j:=by
 intro bD;induction bD with
 |zero=>
  intro pr zz;exact .inl rfl
 |succ n ih=>
  intro pr hn;rw [Cd (Ob t p hp hd _)];by_cases e:p=pr.j
  ·rw [if_pos e];dsimp only;have b_:((h+1:Int)==h)=false:=by
    have:¬(h+1=h):=by lia
    simpa using this
   rw [b_];simp only [Bool.false_eq_true,if_false];refine ih _ ?_;unfold SetTable.advance;split
   ·exact hn
   ·exact hn
  ·rw [if_neg e];exact .inr ⟨pr.j,ae hn rfl,e⟩
structure Tab(led:Bool)(t:SetTable):Prop where
 mask:t.mask=7
 dummies:t.dummies=#[]
 led:t.led=led
theorem lay0{led:Bool}{t:SetTable}(T:Tab led t)(hp:t.place=#[])(h:Int)(x:Value):∃t' p,layNew t #[] h x=(#[(h,x)],t',false,false)/\Tab led t'/\t'.place=#[p]/\t'.fits 1=true:=by
 have hs:t.freeSlot h=some ((t.probeStart h).j,false):=by
  unfold SetTable.freeSlot SetTable.probe;have:SetTable.probe.go t (λ aa=>h+1) h (10*SetTable.turns t.mask) (t.probeStart h)=some (.empty (t.probeStart h).j none):=by refine ae T.mask ?_;refine (?_:SetTable.probe.go t (λ aa=>h+1) h (219+1) (t.probeStart h)=_);refine ae (Cd (Oa t hp T.dummies _)) ?_;rfl
  refine ae this ?_;rfl
 refine ⟨(t.put (t.probeStart h).j).1,(t.probeStart h).j,?_,⟨T.mask,?_,T.led⟩,?_,?_⟩
 ·have hf:(t.put (t.probeStart h).j).1.fits 1=true:=by unfold SetTable.put SetTable.fits SetTable.fill SetTable.has SetTable.insertAt;simp [hp,T.dummies,T.mask]
  unfold layNew;refine ae hs ?_;dsimp only;have e2:SetTable.insertAt (#[]:Array (Int×Value)) (t.put (t.probeStart h).j).2 (h,x)=#[(h,x)]:=by unfold SetTable.insertAt SetTable.put;simp [hp]
  refine ae e2 ?_;unfold SetTable.orStandIn;simp only [List.size_toArray,List.length_cons,List.length_nil,Nat.zero_add,hf,if_true,Bool.not_true]
 ·unfold SetTable.put SetTable.has;simp [T.dummies]
 ·unfold SetTable.put SetTable.insertAt;simp [hp]
 ·unfold SetTable.put SetTable.fits SetTable.fill SetTable.has SetTable.insertAt;simp [hp,T.dummies,T.mask]
theorem aaC{led:Bool}{t:SetTable}{p:Nat}(T:Tab led t)(hp:t.place=#[p])(h g:Int)(x v:Value):∃es t' HT,layNew t #[(g,v)] h x=(es,t',false,HT)/\t'.fits 2=true/\t'.led=led/\(es=#[(g,v),(h,x)]\/es=#[(h,x),(g,v)])/\
  (t'.plain=true->∃a b,t'.place=#[a,b]/\a<b)/\t'.tooFull=false:=by
 rcases KP t p hp T.dummies h (10*SetTable.turns t.mask) (t.probeStart h) rfl with hn|⟨j,hj,b_⟩
 ·have hs:t.freeSlot h=none:=by unfold SetTable.freeSlot SetTable.probe;exact ae hn rfl
  refine ⟨#[(g,v),(h,x)],t.standIn 2,true,?_,by simpa using SetTable.standIn_fits t 2,T.led,.inl rfl,(λ h=>Ui h),?_⟩
  ·unfold layNew;refine ae hs ?_;rfl
  ·exact rfl
 ·have hs:t.freeSlot h=some (j,false):=by unfold SetTable.freeSlot SetTable.probe;refine ae hj ?_;rfl
  have hd:(t.put j).1.dummies=#[]:=by unfold SetTable.put SetTable.has;simp [T.dummies]
  by_cases dP:p<j
  ·have fK:(t.put j).1.place=#[p,j]:=by unfold SetTable.put SetTable.insertAt;simp [hp,jr,dP]
   have hf:(t.put j).1.fits 2=true:=by unfold SetTable.fits SetTable.fill;refine ae fK<|ae hd ?_;refine (?_:((2:Nat)==2&&decide (2+0<=t.mask))=true);refine ae T.mask ?_;rfl
   have e2:SetTable.insertAt (#[(g,v)]:Array (Int×Value)) (t.put j).2 (h,x)=#[(g,v),(h,x)]:=by unfold SetTable.insertAt SetTable.put;simp [hp,jr,dP]
   refine ⟨#[(g,v),(h,x)],(t.put j).1,false,?_,hf,T.led,.inl rfl,λ aa=>⟨p,j,fK,dP⟩,?_⟩
   ·unfold layNew;refine ae hs ?_;dsimp only;refine ae e2 ?_;unfold SetTable.orStandIn;simp only [List.size_toArray,List.length_cons,List.length_nil,Nat.zero_add,hf,if_true,Bool.not_true]
   ·unfold SetTable.tooFull SetTable.fill;refine ae fK<|ae hd ?_;refine (?_:decide (2*5>=t.mask*3)=false);refine ae T.mask ?_;rfl
  ·have aaD:j<p:=(Nat.lt_of_le_of_ne (Nat.le_of_not_lt dP) (Ne.symm b_))
   have fK:(t.put j).1.place=#[j,p]:=by unfold SetTable.put SetTable.insertAt;simp [hp,jr,dP]
   have hf:(t.put j).1.fits 2=true:=by unfold SetTable.fits SetTable.fill;refine ae fK<|ae hd ?_;refine (?_:((2:Nat)==2&&decide (2+0<=t.mask))=true);refine ae T.mask ?_;rfl
   have e2:SetTable.insertAt (#[(g,v)]:Array (Int×Value)) (t.put j).2 (h,x)=#[(h,x),(g,v)]:=by unfold SetTable.insertAt SetTable.put;simp [hp,jr,dP]
   refine ⟨#[(h,x),(g,v)],(t.put j).1,false,?_,hf,T.led,.inr rfl,λ aa=>⟨j,p,fK,aaD⟩,?_⟩
   ·unfold layNew;refine ae hs ?_;dsimp only;refine ae e2 ?_;unfold SetTable.orStandIn;simp only [List.size_toArray,List.length_cons,List.length_nil,Nat.zero_add,hf,if_true,Bool.not_true]
   ·unfold SetTable.tooFull SetTable.fill;refine ae fK<|ae hd ?_;refine (?_:decide (2*5>=t.mask*3)=false);refine ae T.mask ?_;rfl
end
section
abbrev fS(es:Array (Int×Value))(ep:Nat)(t:SetTable):Obj:={cls:=.type "set",dict:=none,data:=.set es ep t,slots:=#[]}
theorem KQ(prog:Program)(w:World){n:Int}{tk:Tok}{l:List (Int×Value)}(h:ElemsOf (intKind prog w) l):ElemsOf (intKind prog w) ((hashInt n,.int n tk)::l):=by
 intro e he;rcases List.mem_cons.mp he with rfl|he
 ·exact ⟨⟨n,intKind_is _ _ _ _,rfl⟩,rfl⟩
 ·exact h e he
section
variable{prog:Program} {w:World} {A:Around} {E:Value->Shared->Prop} {s:Shared} {led:Bool}
theorem Oc{S:Addr}{n:Int}{tk:Tok}{ep:Nat}{t:SetTable}{Q:Bool->Shared->Prop}(hs:s.heap.get? S=some (fS #[] ep t))(T:Tab led t)(hp:t.place=#[])
  (h:∀h' KW t' p,h'.get? S=some (fS #[(hashInt n,.int n tk)] KW t')->Tab led t'->t'.place=#[p]->t'.fits 1=true->Heap.SameBut S s.heap h'->Q true {s with heap:=h',toks:=s.toks+1}):
  wpAny (model prog w) A (setAdd S (.int n tk)) Q E s:=by
 have hf:t.fits 0=true:=by unfold SetTable.fits SetTable.fill;refine ae hp<|ae T.dummies<|ae T.mask ?_;rfl
 have jV:ElemsOf (intKind prog w) (#[]:Array (Int×Value)).toList:=λ e he=>by simp at he
 unfold setAdd;refine wpAny_holding (wpAny_bind ((intKind prog w).pyHash (k:=n) (intKind_is _ _ _ _) ?_));unfold setAddHashed setAddHashedIn;refine wpAny_holding (wpAny_bind (wpAny_setState_of (s:={s with toks:=s.toks+1}) hs rfl hf ?_));dsimp only;refine ae (byScan_of (knd:=intKind prog w) rfl (by decide) jV) ?_;refine ae (if_pos rfl) ?_;unfold setAddByScan;refine wpAny_bind ?_;refine wpAny_bind (wpAny_rule ?_);refine wpAny_bind (wpAny_setScan_of (knd:=intKind prog w) (k:=n) (s:={s with toks:=s.toks+1}) (intKind_is _ _ _ _) hs rfl hf jV ?_);refine ae (show List.findIdx? (λ e:Int×Value=>(intKind prog w).is n e.2) (#[]:Array (Int×Value)).toList=none from rfl) ?_;dsimp only;refine nD (lay0 T hp (hashInt n) (.int n tk)) λ t' p e1 T' iW vO=>?_;refine ae (show layNew t #[] ((intKind prog w).hash n) (Value.int n tk)=(#[(hashInt n,Value.int n tk)],t',false,false) from e1) ?_;dsimp only;refine wpAny_bind (m:=pure ()) (wpAny_pure ?_);have oV:t'.tooFull=false:=by unfold SetTable.tooFull SetTable.fill;refine ae iW<|ae T'.dummies<|ae T'.mask ?_;rfl
 have key:s.heap.get? S=some (fS #[] ep t)->(s.heap.update S (Obj.putSet #[(hashInt n,Value.int n tk)] t')).get? S=some (fS #[(hashInt n,Value.int n tk)] (ep+1) t'):=λ hs=>by have:=Heap.get?_update_self (Obj.putSet #[(hashInt n,Value.int n tk)] t') hs (rfl);rw [putSet_of _ t' rfl]at this;exact this
 have fin:=h _ (ep+1) t' p (key hs) T' iW vO (Heap.SameBut.update ..);have hz:(#[(hashInt n,Value.int n tk)]:Array (Int×Value)).size<=sizeLine:=by have:=cN;refine (?_:1<=sizeLine);exact ji this
 split
 ·refine wpAny_bind ?_;refine ae (hashByValue_scannable 8 rfl) ?_;refine wpAny_pure ?_;simp only [plainKind,if_true];refine wpAny_bind (wpAny_storeSet_of (s:={s with toks:=s.toks+1}) hs rfl ?_ hz);refine ae oV ?_;exact wpAny_pure (wpAny_pure fin)
 ·refine wpAny_bind (wpAny_pure ?_);refine ae (if_pos rfl) ?_;refine wpAny_bind (wpAny_storeSet_of (s:={s with toks:=s.toks+1}) hs rfl ?_ hz);refine ae oV ?_;exact wpAny_pure (wpAny_pure fin)
theorem Od{S:Addr}{n m:Int}{tk tm:Tok}{ep:Nat}{t:SetTable}{p:Nat}{Q:Bool->Shared->Prop}(hs:s.heap.get? S=some (fS #[(hashInt m,.int m tm)] ep t))(T:Tab led t)(hp:t.place=#[p])(hf:t.fits 1=true)
  (h1:n=m->Q false {s with toks:=s.toks+1})
  (h2:n≠m->∀h' KW t' es,h'.get? S=some (fS es KW t')->t'.fits es.size=true->t'.led=led->(es=#[(hashInt m,.int m tm),(hashInt n,.int n tk)]\/es=#[(hashInt n,.int n tk),(hashInt m,.int m tm)])->
   (t'.plain=true->∃a b,t'.place=#[a,b]/\a<b)->Heap.SameBut S s.heap h'->Q true {s with heap:=h',toks:=s.toks+1}):
  wpAny (model prog w) A (setAdd S (.int n tk)) Q E s:=by
 have jV:ElemsOf (intKind prog w) (#[(hashInt m,Value.int m tm)]:Array (Int×Value)).toList:=KQ prog w λ e he=>by simp at he
 unfold setAdd;refine wpAny_holding (wpAny_bind ((intKind prog w).pyHash (k:=n) (intKind_is _ _ _ _) ?_));unfold setAddHashed setAddHashedIn;refine wpAny_holding (wpAny_bind (wpAny_setState_of (s:={s with toks:=s.toks+1}) hs rfl hf ?_));dsimp only;refine ae (byScan_of (knd:=intKind prog w) rfl (by show 1<scanBound;decide) jV) ?_;refine ae (if_pos rfl) ?_;unfold setAddByScan;refine wpAny_bind ?_;refine wpAny_bind (wpAny_rule ?_);refine wpAny_bind (wpAny_setScan_of (knd:=intKind prog w) (k:=n) (s:={s with toks:=s.toks+1}) (intKind_is _ _ _ _) hs rfl hf jV ?_);by_cases e:n=m
 ·subst e;refine ae (show List.findIdx? (λ e:Int×Value=>(intKind prog w).is n e.2) (#[(hashInt n,Value.int n tm)]:Array (Int×Value)).toList=some 0 from by simp [List.findIdx?_cons,intKind_is]) ?_
  exact wpAny_pure (wpAny_pure (h1 rfl))
 ·have ij:(intKind prog w).is n (Value.int m tm)=false:=by
   cases hq:(intKind prog w).is n (Value.int m tm)with
   |false=>rfl
   |true=>exact absurd ((intKind prog w).inj _ _ _ hq (intKind_is _ _ m tm)) e
  refine ae (show List.findIdx? (λ e:Int×Value=>(intKind prog w).is n e.2) (#[(hashInt m,Value.int m tm)]:Array (Int×Value)).toList=none from by simp [List.findIdx?_cons,ij]) ?_
  dsimp only;refine Bu (aaC T hp (hashInt n) (hashInt m) (.int n tk) (.int m tm)) λ es t' HT e1 vO qZ F6 fK oV=>?_;refine ae (show layNew t #[(hashInt m,Value.int m tm)] ((intKind prog w).hash n) (Value.int n tk)=(es,t',false,HT) from e1) ?_;dsimp only;have fV:es.size=2:=by rcases F6 with rfl|rfl<;>rfl
  have key:s.heap.get? S=some (fS #[(hashInt m,.int m tm)] ep t)->(s.heap.update S (Obj.putSet es t')).get? S=some (fS es (ep+1) t'):=λ hs=>by have:=Heap.get?_update_self (Obj.putSet es t') hs (rfl);rw [putSet_of _ t' rfl]at this;exact this
  have fin:=h2 e _ (ep+1) t' es (key hs) (by refine ae fV ?_;exact vO) qZ F6 fK (Heap.SameBut.update ..);have hz:es.size<=sizeLine:=by have:=cN;exact cI (bI fV) this (by simp+arith only)
  cases HT with
  |false=>
   refine wpAny_bind (m:=pure ()) (wpAny_pure ?_);split
   ·refine wpAny_bind ?_;refine ae (hashByValue_scannable 8 rfl) ?_;refine wpAny_pure ?_;simp only [plainKind,if_true];refine wpAny_bind (wpAny_storeSet_of (s:={s with toks:=s.toks+1}) hs rfl ?_ hz);refine ae oV ?_;exact wpAny_pure (wpAny_pure fin)
   ·refine wpAny_bind (wpAny_pure ?_);simp only [if_true];refine wpAny_bind (wpAny_storeSet_of (s:={s with toks:=s.toks+1}) hs rfl ?_ hz);refine ae oV ?_;exact wpAny_pure (wpAny_pure fin)
  |true=>
   refine wpAny_bind (m:=rule "set.scan.the-table-gave-way") (wpAny_rule ?_);split
   ·refine wpAny_bind ?_;refine ae (hashByValue_scannable 8 rfl) ?_;refine wpAny_pure ?_;simp only [plainKind,if_true];refine wpAny_bind (wpAny_storeSet_of (s:={s with toks:=s.toks+1}) hs rfl ?_ hz);refine ae oV ?_;exact wpAny_pure (wpAny_pure fin)
   ·refine wpAny_bind (wpAny_pure ?_);simp only [if_true];refine wpAny_bind (wpAny_storeSet_of (s:={s with toks:=s.toks+1}) hs rfl ?_ hz);refine ae oV ?_;exact wpAny_pure (wpAny_pure fin)
end
end
section
section
variable{prog:Program} {w:World} {A:Around} {E:Value->Shared->Prop} {s:Shared} {led:Bool}
theorem yH{R:Result->Shared->Prop}{S I l:Addr}{i:Nat}{items:Array Value}{x:Value}(hI:s.heap.IsListIter I l i)(hl:s.heap.IsList l items)(hx:items[i]?=some x)
  (h:∀h',h'.IsListIter I l (i+1)->Heap.SameBut I s.heap h'->wpAny (model prog w) A.in1 (setAdd S x) (λ aa ym=>codeAny (model prog w) A (.builtin "set.update.loop" ⟨[.ref S,.ref I],[]⟩) R ym) (λ e s'=>R (.error e) s') {s with heap:=h'}):
  codeAny (model prog w) A (.builtin "set.update.loop" ⟨[.ref S,.ref I],[]⟩) R s:=by
 refine codeAny_builtin PyProof.Rows.F.entry_set_update_loop ?_;refine ae (Around.under_plainId PyProof.Rows.F.plain_set_update_loop _) ?_;refine (?_:wpAny _ A.in1 (pyNext (.ref I)>>=_) _ _ s);refine wpAny_bind (wpAny_pyNext_list_item hI hl hx λ h' hi hs=>?_);refine (?_:wpAny _ A.in1 (holding [x] (setAdd S x)>>=_) _ _ _);exact wpAny_bind (wpAny_holding (wpAny_mono (h h' hi hs) (λ aa ym k=>wpAny_pure ⟨plainId_quiet PyProof.Rows.F.plain_set_update_loop _,k⟩) λ aa aa e=>e))
theorem oW{R:Result->Shared->Prop}{S I l:Addr}{i:Nat}{items:Array Value}(hh:A.handled=none)(hI:s.heap.IsListIter I l i)(hl:s.heap.IsList l items)(hx:items[i]?=none)
  (h:∀h',Heap.ExtBut I s.heap h'->R (.ok (.ret .none)) {s with heap:=h'}):
  codeAny (model prog w) A (.builtin "set.update.loop" ⟨[.ref S,.ref I],[]⟩) R s:=by
 refine codeAny_builtin PyProof.Rows.F.entry_set_update_loop ?_;refine ae (Around.under_plainId PyProof.Rows.F.plain_set_update_loop _) ?_;refine (?_:wpAny _ A.in1 (pyNext (.ref I)>>=_) _ _ s);refine wpAny_bind (wpAny_pyNext_list_end (hh) hI hl hx λ h' hs=>?_);refine (?_:wpAny _ A.in1 (ret Value.none) _ _ _);exact wpAny_pure (h h' hs)
def HU(led:Bool)(h:Heap)(S:Addr)(ns:List Int):Prop:=∃es ep t ms,h.get? S=some (fS es ep t)/\t.fits es.size=true/\t.led=led/\(es.size=2->t.plain=true->∃a b,t.place=#[a,b]/\a<b)/\
 IntsAre (es.toList.map (·.2)) ms/\ms.Perm ns
theorem Oe{R:Result->Shared->Prop}{S I l:Addr}{ep:Nat}{t:SetTable}{items:Array Value}{ns:List Int}(hh:A.handled=none)(hs:s.heap.get? S=some (fS #[] ep t))(T:Tab led t)(hp:t.place=#[])
  (hI:s.heap.IsListIter I l 0)(hl:s.heap.IsList l items)(hi:IntsAre items.toList ns)(hn:ns.length<=2)(vP:S≠I)(Z3:S≠l)(Z4:l≠I)
  (h:∀h' tk,HU led h' S (dedup ns)->(∀b o,b≠S->b≠I->s.heap.get? b=some o->h'.get? b=some o)->R (.ok (.ret .none)) {s with heap:=h',toks:=tk}):
  codeAny (model prog w) A (.builtin "set.update.loop" ⟨[.ref S,.ref I],[]⟩) R s:=by
 have gP:t.fits 0=true:=by unfold SetTable.fits SetTable.fill;rw [hp,T.dummies,T.mask];rfl
 obtain ⟨l0⟩:=items;have mC:∀{h h':Heap}{b c:Addr}{yq:Array Value},h.IsList b yq->Heap.SameBut c h h'->b≠c->h'.IsList b yq:=λ ⟨o,ho,r⟩ hs hn=>⟨o,by rw [hs.2 _ hn];exact ho,r⟩
 have at2:∀{h h':Heap}{b c d:Addr}{k:Nat},h.IsListIter b d k->Heap.SameBut c h h'->b≠c->h'.IsListIter b d k:=λ ⟨o,ho,r⟩ hs hn=>⟨o,by rw [hs.2 _ hn];exact ho,r⟩
 cases hi with
 |nil=>
  refine oW hh hI hl rfl λ h' hx=>h h' s.toks ⟨#[],ep,t,[],hx _ _ vP hs,gP,T.led,λ e=>by simp at e,.nil,.refl _⟩ λ b o aa hb e=>hx b o hb e
 |@cons n tk vs vz hr=>
  refine yH hI hl (x:=.int n tk) rfl λ gj s_ eI=>?_;refine Oc (s:={s with heap:=gj}) (hs:=by show gj.get? S=_;rw [eI.2 _ vP];exact hs) T hp λ j5 Vs Yu p KX nZ abw Vt gO=>?_;have Vu:=mC (mC hl eI Z4) gO Z3.symm;have Gi:=at2 s_ gO vP.symm;cases hr with
  |nil=>
   refine oW (s:={s with heap:=j5,toks:=s.toks+1}) hh Gi Vu rfl λ h' hx=>h h' _ ⟨#[(hashInt n,.int n tk)],Vs,Yu,[n],hx _ _ vP KX,Vt,nZ.led,λ e=>by simp at e,.cons n tk .nil,?_⟩ λ b o tc hb e=>?_
   ·exact List.Perm.refl _
   ·exact hx b o hb (gO.extBut b o tc (eI.extBut b o hb e))
  |@cons m tm vs' aaE hr'=>
   have HV:vs'=[]/\aaE=[]:=by
    cases hr' with
    |nil=>exact ⟨rfl,rfl⟩
    |cons=>simp at hn
   obtain ⟨rfl,rfl⟩:=HV;refine yH (s:={s with heap:=j5,toks:=s.toks+1}) Gi Vu (x:=.int m tm) rfl λ n5 Z5 lH=>?_;have Z6:n5.get? S=some (fS #[(hashInt n,.int n tk)] Vs Yu):=by rw [lH.2 _ vP];exact KX
   have KH:=mC Vu lH Z4;have Z7:∀b o,b≠S->b≠I->s.heap.get? b=some o->n5.get? b=some o:=λ b o tc hb e=>lH.extBut b o hb (gO.extBut b o tc (eI.extBut b o hb e));refine Od (s:={s with heap:=n5,toks:=s.toks+1}) Z6 nZ abw Vt (λ e=>?_) λ b_ NZ Z8 abx acf Z9 Z_ RG aaF Vv qX=>?_
   ·subst e;refine oW (s:={s with heap:=n5,toks:=s.toks+1+1}) hh Z5 KH rfl λ h' hx=>h h' _ ⟨#[(hashInt m,.int m tk)],Vs,Yu,[m],hx _ _ vP Z6,Vt,nZ.led,λ e=>by simp at e,.cons m tk .nil,?_⟩ λ b o tc hb e=>hx b o hb (Z7 b o tc hb e);simp [dedup]
   ·have aby:=mC KH qX Z3.symm;have abz:=at2 Z5 qX vP.symm;have hd:dedup [n,m]=[n,m]:=by have:¬n=m:=λ e=>b_ e.symm;simp [dedup,this]
    refine oW (s:={s with heap:=NZ,toks:=s.toks+1+1}) hh abz aby rfl λ h' hx=>?_;have Z':∀b o,b≠S->b≠I->s.heap.get? b=some o->h'.get? b=some o:=λ b o tc hb e=>hx b o hb (qX.extBut b o tc (Z7 b o tc hb e));rcases aaF with rfl|rfl
    ·exact h h' _ ⟨_,Z8,abx,[n,m],hx _ _ vP Z9,Z_,RG,λ aa=>Vv,.cons n tk (.cons m tm .nil),by rw [hd]⟩ Z'
    ·exact h h' _ ⟨_,Z8,abx,[m,n],hx _ _ vP Z9,Z_,RG,λ aa=>Vv,.cons m tm (.cons n tk .nil),by refine ae hd ?_;exact .swap _ _ _⟩ Z'
end
end
section
section
variable{prog:Program} {w:World} {A:Around} {E:Value->Shared->Prop} {s:Shared}
theorem EP(a:Value){Q₁:Value->Shared->Prop}
  (h:Q₁ (.ref s.heap.objs.size) {s with heap:=s.heap.push {cls:=.type "set",dict:=none,data:=.set #[] 0 (.fresh 0 0 (!w.params.followText "set-order"))}}):
  codeAny (model prog w) A (.call (.builtin "set.__new__") ⟨[.type "set",a],[]⟩) (wants Q₁ E) s:=by
 refine codeAny_of_tree ?_;refine (?_:wpAny _ A.in1 (do checkBuiltinCall "set.__new__" ⟨[.type "set",a],[]⟩;again (.builtin "set.__new__" ⟨[.type "set",a],[]⟩)) _ _ s);refine wpAny_bind (wpAny_of_eq (PySem.F.newCall_set_1 a) (wpAny_pure ⟨plainId_quiet PySem.F.plain_set_new _,codeAny_builtin PySem.F.entry_set_new ?_⟩));refine ae (Around.under_plainId PySem.F.plain_set_new _) ?_;unfold Builtin.«set.__new__» Builtin.Frozenset.newClass;have xu:=sub_set_self;obtain ⟨hp,g,d,tk,os⟩:=s;dsimp only
 wp_walk
 refine wpAny_askSetting (wpAny_pure ?_);dsimp only;simp only [newObj];refine wpAny_bind (wpAny_alloc (wpAny_pure ?_));exact wpAny_pure h
set_option maxHeartbeats 3200000 in
theorem xO{l:Addr}{items:Array Value}{ns:List Int}{Q:Value->Shared->Prop}(hh:A.handled=none)(hl:s.heap.IsList l items)(hi:IntsAre items.toList ns)(hn:ns.length<=2)
  (h:∀(h':Heap)(tk:Nat),HU (!w.params.followText "set-order") h' s.heap.objs.size (dedup ns)->(∀b o,s.heap.get? b=some o->h'.get? b=some o)->Q (.ref s.heap.objs.size) {s with heap:=h',toks:=tk}):
  wpAny (model prog w) A (call (.type "set") [.ref l]) Q E s:=by
 refine Ul PySem.F.called_set.mro λ c tl ab9=>?_;have abL:=PySem.F.called_set.made;have xu:=PySem.F.called_set.sub;refine wpAny_call (codeAny_of_tree ?_);refine (?_:wpAny _ _ (callAny (.type "set") _) _ _ _);refine wpAny_pure ⟨Code.quiet_builtin _ (by decide+kernel),codeAny_builtin PySem.F.entry_type_call ?_⟩;refine ae (Around.under_plain (weight_type_call_type "set" [.ref l] []) rfl) ?_;have h1:=PySem.F.called_set.notType;have h2:=PySem.F.called_set.canCreate;have hct:=PySem.F.typeCall_set_1 (.ref l)
 repeat(any_goals (first|assumption|wp_step))
 refine codeAny_mono (EP (.ref l) (E:=E) (Q₁:=λ obj fA=>obj=.ref s.heap.objs.size/\fA={s with heap:=s.heap.push {cls:=.type "set",dict:=none,data:=.set #[] 0 (.fresh 0 0 (!w.params.followText "set-order"))}}) ⟨rfl,rfl⟩) λ r fA hr=>?_;cases r with
 |error e=>exact hr
 |ok fl=>
  cases fl with
  |ret obj=>
   obtain ⟨rfl,rfl⟩:=hr;have hS:(s.heap.push {cls:=.type "set",dict:=none,data:=.set #[] 0 (.fresh 0 0 (!w.params.followText "set-order"))}).get? s.heap.objs.size=some (fS #[] 0 (.fresh 0 0 (!w.params.followText "set-order"))):=Heap.get?_push_size _ rfl;have hT:Shared.TypeIs {s with heap:=s.heap.push {cls:=.type "set",dict:=none,data:=.set #[] 0 (.fresh 0 0 (!w.params.followText "set-order"))}} (.ref s.heap.objs.size) "set":=⟨_,hS,rfl⟩
   have hli:=PySem.F.called_set.init.lookup;have hbi:=PySem.F.called_set.init.bind (.ref s.heap.objs.size)
   repeat(any_goals (first|assumption|wp_step))
   refine codeAny_mono (codeAny_call_builtin (R:=wants (λ r nT=>r=.none/\∃h' tk,nT={s with heap:=h',toks:=tk}/\
     HU (!w.params.followText "set-order") h' s.heap.objs.size (dedup ns)/\(∀b o,s.heap.get? b=some o->h'.get? b=some o)) E) PySem.F.called_set.init.plain PySem.F.entry_set_init (check_set_init_1 hT ?_)) λ Yk nT Vw=>?_
   ·obtain ⟨ol,F9,n6,nl,F_⟩:=hl;obtain ⟨ab_,Yv,abM,Vx⟩:=ol;simp only at n6 F_;subst n6;subst F_;have Vy:(s.heap.push {cls:=.type "set",dict:=none,data:=.set #[] 0 (.fresh 0 0 (!w.params.followText "set-order"))}).get? l=some {cls:=.type "list",dict:=Yv,data:=.seq items nl,slots:=Vx}:=Heap.get?_push_of_some _ F9;have ab':=PySem.F.sub_list_set;have aca:=PySem.F.sub_list_frozenset;have b_:(Value.type "list"==Value.type "dict")=false:=by decide
    have jq:(s.heap.push {cls:=.type "set",dict:=none,data:=.set #[] 0 (.fresh 0 0 (!w.params.followText "set-order"))}).IsList l items:=⟨_,Vy,rfl,nl,rfl⟩
    unfold Builtin.«set.__init__» noKeywords Builtin.Frozenset.updateFrom;generalize hPI:pyIter=PI
    wp_walk
    subst hPI;refine wpAny_pyIter_list jq ?_;refine wpAny_bind (wpAny_runValue ?_);have hlS:l<s.heap.objs.size:=Heap.lt_size F9;have z1:(s.heap.push {cls:=.type "set",dict:=none,data:=.set #[] 0 (.fresh 0 0 (!w.params.followText "set-order"))}).objs.size=s.heap.objs.size+1:=Heap.size_push ..;refine Oe (led:=!w.params.followText "set-order") (ep:=0) (t:=.fresh 0 0 (!w.params.followText "set-order")) (ns:=ns) (by simp [hh]) (Heap.get?_push_of_some _ hS) ⟨rfl,rfl,rfl⟩ rfl ⟨_,Heap.get?_push_size _ rfl,rfl,rfl⟩ ⟨_,Heap.get?_push_of_some _ Vy,rfl,nl,rfl⟩ hi hn
     (by refine ae z1 ?_;exact Nat.ne_of_lt (Nat.lt_succ_self _)) (Nat.ne_of_gt hlS) (by refine ae z1 ?_;exact Nat.ne_of_lt (Nat.lt_succ_of_lt hlS)) λ h' tk Of hk=>?_
    refine (?_:wpAny _ _ _ _ _ _);refine wpAny_pure ?_;refine (?_:wpAny _ _ (ret Value.none) _ _ _);refine wpAny_pure ⟨rfl,h',tk,rfl,Of,λ b o e=>?_⟩;have hb:b<s.heap.objs.size:=Heap.lt_size e;refine hk b o (Nat.ne_of_lt hb) ?_ (Heap.get?_push_of_some _ (Heap.get?_push_of_some _ e));refine ae z1 ?_;exact Nat.ne_of_lt (Nat.lt_succ_of_lt hb)
   ·cases Yk with
    |error e=>exact Vw
    |ok abA=>
     cases abA with
     |ret r=>
      obtain ⟨rfl,h',tk,rfl,hS',eB⟩:=Vw
      repeat(any_goals (first|assumption|wp_step))
      exact h _ _ hS' eB
     |_=>exact Vw.elim
  |_=>exact hr.elim
end
end
section
namespace SF
theorem aaG:Manifest.owners.lookup (String.ofList ['r','o','t','a','r','e','t','i','_','t','e','s'].reverse)=some Manifest.sig_set_iterator:=by kernel_rfl
theorem fx:Slot "set_iterator" "__next__" "set_iterator.__next__":=
 .of (owner:="set_iterator") (n:="__next__") (rfl) (rfl) (by decide+kernel) (by decide+kernel)
  (Or.inl rfl) (rfl)
theorem lu:entryFor table "set_iterator.__next__"=some Builtin.«set_iterator.__next__»:=entryFor_of_tree (by kernel_rfl)
theorem mE(a:Value):argsOk "set_iterator.__next__" ⟨[a],[]⟩:=by exact rfl
theorem xP:entryFor table "set.__iter__"=some Builtin.«frozenset.__iter__»:=
 entryFor_alias (id':="frozenset.__iter__") (by kernel_rfl) rfl (by decide+kernel) (by kernel_rfl)
end SF
section
variable{prog:Program} {w:World} {A:Around} {E:Value->Shared->Prop} {s:Shared}
theorem vQ{src:Source}{n:Nat}{Q:Nat->Shared->Prop}(hn:n≠0)(h:∀i dr,i<n->Q i {s with drawn:=dr}):wpAny (model prog w) A (choose src n) Q E s:=λ Γ p hΓ=>by unfold choose;rw [Sem.wp_choose];refine ⟨hn,?_⟩;rw [show(Sem.pure ((model prog w).w.draws src (s.drawn.get src) %n):Sem Nat)=pure _ from rfl,Sem.wp_pure'];exact h _ _ (Nat.mod_lt _ (Nat.pos_of_ne_zero hn))
abbrev KY(first:Value)(i:Nat)(S:Value)(n ep:Nat):Obj:={cls:=.type "set_iterator",dict:=none,data:=.fields #[first,.int i 0,S,.int n 0,.int ep 0],slots:=#[]}
inductive f9(w:World)(S:Addr)(es:Array (Int×Value))(ep:Nat)(t:SetTable)(h:Heap)(I:Addr):List Value->Prop
 |text {i:Nat}:w.params.followText "set-order"=true->h.get? I=some (KY (.int 0 0) i (.ref S) es.size ep)->f9 w S es ep t h I (((pickOrder (w.params.setOrder S ep) es).toList.map (·.2)).drop i)
 |plain {i slot:Nat}:w.params.followText "set-order"=false->t.led=true->(!t.plain&&decide (es.size>1))=false->h.get? I=some (KY (.int slot 0) i (.ref S) es.size ep)->SetTable.below t.place slot=i->
   (∀j,i<=j->j<es.size->∃a,t.place[j]?=some a/\SetTable.below t.place (a+1)=j+1)->f9 w S es ep t h I ((es.toList.map (·.2)).drop i)
 |drawn {i:Nat} {P:Addr} {ps:List Nat}:w.params.followText "set-order"=false->h.get? I=some (KY (.ref P) i (.ref S) es.size ep)->h.get? P=some {cls:=.type "tuple",data:=.seq (ps.map λ(k:Nat)=>rawInt k).toArray}->I≠P->(∀k∈ps,k<es.size)->
   f9 w S es ep t h I ((ps.map λ k=>((es[k]?).map (·.2)).getD .none).drop i)
theorem Og{t:SetTable}{slot i:Nat}(h:SetTable.below t.place slot=i):SetTable.below t.place ((slot:Int).toNat)=i:=by simpa using h
theorem uE{A:Around}{E:Value->Shared->Prop}{s:Shared}{Q:Fin->Shared->Prop}(hh:A.handled=none)(h:∀h' e,(∀b o,s.heap.get? b=some o->h'.get? b=some o)->(∃o,h'.get? e=some o/\o.cls=.type "StopIteration")->E (.ref e) {s with heap:=h'}):
  wpAny (model prog w) A (newExc (.type "StopIteration") []>>=λ e=>(raiseNew e:Sem Fin)) Q E s:=by
 refine wpAny_bind ?_;simp only [newExc,newTuple];refine wpAny_bind (wpAny_newObj_type ?_ (Nat.zero_le _));refine wpAny_bind (m:=firstArgMember _ _) (wpAny_of_eq (a:=Value.none) (by first|rfl|(simp only [firstArgMember];rfl)) ?_);refine wpAny_newObj_type ?_ (by size_fits);unfold raiseNew;refine wpAny_bind (wpAny_handled ?_);rw [hh];refine wpAny_bind (wpAny_pure (wpAny_throw ?_));exact h _ _ (λ b o e=>Heap.get?_push_of_some _ (Heap.get?_push_of_some _ e)) ⟨_,Heap.get?_push_size _ rfl,rfl⟩
theorem Oh{α β:Type}{f:α->β}{L:List α}{i:Nat}{e:α}(h:L[i]?=some e):(L.map f).drop i=f e::(L.map f).drop (i+1):=by obtain ⟨hl,rfl⟩:=List.getElem?_eq_some_iff.mp h;rw [List.drop_eq_getElem_cons (by simpa using hl),List.getElem_map]
theorem Oi{α β:Type}{f:α->β}{L:List α}{i:Nat}(h:L[i]?=none):(L.map f).drop i=[]:=List.drop_eq_nil_of_le (by rw [List.length_map];exact List.getElem?_eq_none_iff.mp h)
theorem Gj{S I:Addr}{es:Array (Int×Value)}{ep:Nat}{t:SetTable}{l:List Value}{Q:Option Value->Shared->Prop}(hS:s.heap.get? S=some (fS es ep t))(hf:t.fits es.size=true)(b:f9 w S es ep t s.heap I l)
  (hi:∀v rest,l=v::rest->∀h',f9 w S es ep t h' I rest->Heap.SameBut I s.heap h'->Q (some v) {s with heap:=h'})
  (he:l=[]->A.handled=none/\∀h',(∀b o,b≠I->s.heap.get? b=some o->h'.get? b=some o)->Q none {s with heap:=h'}):wpAny (model prog w) A (pyNext (.ref I)) Q E s:=by
 have hE:∀{A'}{E':Value->Shared->Prop}{Q':Array (Int×Value)->Shared->Prop},Q' es s->wpAny (model prog w) A' (setEntries S) Q' E' s:=λ hq=>wpAny_setEntries_of hS rfl hf hq;have fin:∀{gj:Heap}{e:Addr},l=[]->(∀b o,b≠I->s.heap.get? b=some o->gj.get? b=some o)->(∃o,gj.get? e=some o/\o.cls=.type "StopIteration")->
   wpAny (model prog w) A (do if<-isInstance (.ref e) (.type "StopIteration")then pure none else throw (.ref e)) Q E {s with heap:=gj}:=λ hl hk ⟨o,ho,hc⟩=>by
  refine wpAny_bind (wpAny_isInstance (T:="StopIteration") (b:=true) ⟨o,ho,hc⟩ isSubtype_stop ?_);exact wpAny_pure ((he hl).2 _ hk)
 unfold pyNext;cases b with
 |@text i mF hI=>
  have hT:s.TypeIs (.ref I) "set_iterator":=⟨_,hI,rfl⟩
  refine wpAny_bind (wpAny_attempt (wpAny_callSpecial?_slot (name:=Str.ofString "__next__") hT SF.fx (wpAny_call_entry SF.fx hT SF.lu ?_ (SF.mE _))));show wpAny _ _ (fieldsOf (.ref I)>>=_) _ _ _;refine wpAny_bind (wpAny_fieldsOf hI rfl ?_);show wpAny _ _ (setEntries S>>=_) _ _ _;refine wpAny_bind (hE ?_);rw [if_neg (by simp)];show wpAny _ _ (setNext S _ _ _>>=_) _ _ _;refine wpAny_bind ?_;unfold setNext;refine wpAny_bind (wpAny_setState_of hS rfl hf ?_);dsimp only;refine wpAny_bind ?_;unfold setsByText;refine wpAny_bind (wpAny_askSetting (wpAny_pure ?_));rw [if_pos (show(model prog w).w.params.followText "set-order"=true from mF)];rw [if_neg (by simp)];refine wpAny_bind ?_;unfold setWalk;refine wpAny_bind (wpAny_setState_of hS rfl hf ?_);dsimp only;refine wpAny_bind ?_;unfold setsByText;refine wpAny_bind (wpAny_askSetting (wpAny_pure ?_));rw [if_pos (show(model prog w).w.params.followText "set-order"=true from mF)];refine wpAny_bind (wpAny_askSetting (wpAny_pure ?_));refine wpAny_pure ?_;cases ho:(pickOrder (w.params.setOrder S ep) es)[i]?with
  |none=>
   have hl:=Oi (f:=λ e:Int×Value=>e.2) (Array.getElem?_toList.trans ho);rw [show(pickOrder ((model prog w).w.params.setOrder S ep) es)[(i:Int).toNat]?=none from ho];dsimp only [Option.map_none];refine wpAny_bind (wpAny_setField_rec hI (by simp) λ gj s_ eI=>?_);refine uE (s:={s with heap:=gj}) (by simp [(he hl).1]) λ j5 e hk he=>?_;exact fin hl (λ b o hb q=>hk b o (eI.extBut b o hb q)) he
  |some e=>
   rw [show(pickOrder ((model prog w).w.params.setOrder S ep) es)[(i:Int).toNat]?=some e from ho];dsimp only [Option.map_some];refine wpAny_bind (wpAny_setField_rec hI (by simp) λ gj s_ eI=>?_);refine wpAny_bind (wpAny_setField_rec s_ (by simp) λ j5 Gi gO=>?_);exact wpAny_pure ⟨_,rfl,wpAny_pure (hi _ _ (Oh (f:=λ e:Int×Value=>e.2) (Array.getElem?_toList.trans ho)) j5 (.text mF Gi) (eI.trans gO))⟩
 |@plain i slot mF qZ hdr hI hb hj=>
  have hT:s.TypeIs (.ref I) "set_iterator":=⟨_,hI,rfl⟩
  refine wpAny_bind (wpAny_attempt (wpAny_callSpecial?_slot (name:=Str.ofString "__next__") hT SF.fx (wpAny_call_entry SF.fx hT SF.lu ?_ (SF.mE _))));show wpAny _ _ (fieldsOf (.ref I)>>=_) _ _ _;refine wpAny_bind (wpAny_fieldsOf hI rfl ?_);show wpAny _ _ (setEntries S>>=_) _ _ _;refine wpAny_bind (hE ?_);rw [if_neg (by simp)];show wpAny _ _ (setNext S _ _ _>>=_) _ _ _;refine wpAny_bind ?_;unfold setNext;refine wpAny_bind (wpAny_setState_of hS rfl hf ?_);dsimp only;refine wpAny_bind ?_;unfold setsByText;refine wpAny_bind (wpAny_askSetting (wpAny_pure ?_));rw [if_neg (show¬(model prog w).w.params.followText "set-order"=true by show¬w.params.followText "set-order"=true;rw [mF];exact Bool.false_ne_true)];refine wpAny_ite_split (λ fB=>by have Vz:(!t.plain&&decide (es.size>1))=true:=fB;rw [hdr]at Vz;exact Ui Vz) (λ aa=>?_)
  refine wpAny_bind ?_;refine wpAny_ite_split (λ fB=>absurd fB (by rw [qZ];simp)) (λ aa=>wpAny_pure ?_);rw [Og hb];cases ho:es[i]?with
  |none=>
   have hl:=Oi (f:=λ e:Int×Value=>e.2) (Array.getElem?_toList.trans ho);dsimp only;refine wpAny_pure ?_;dsimp only;refine wpAny_bind (wpAny_setField_rec hI (by simp) λ gj s_ eI=>?_);refine uE (s:={s with heap:=gj}) (by simp [(he hl).1]) λ j5 e hk he=>?_;exact fin hl (λ b o hb q=>hk b o (eI.extBut b o hb q)) he
  |some e=>
   refine bp (hj i (Nat.le_refl _) (Array.getElem?_eq_some_iff.mp ho).1) λ a ha FW=>?_;rw [ha];dsimp only;refine wpAny_pure ?_;dsimp only;refine wpAny_bind (wpAny_setField_rec hI (by simp) λ gj s_ eI=>?_);refine wpAny_bind (wpAny_setField_rec s_ (by simp) λ j5 Gi gO=>?_);exact wpAny_pure ⟨_,rfl,wpAny_pure (hi _ _ (Oh (f:=λ e:Int×Value=>e.2) (Array.getElem?_toList.trans ho)) j5 (.plain (slot:=a+1) mF qZ hdr Gi FW λ j h1 h2=>hj j (Nat.le_of_lt h1) h2) (eI.trans gO))⟩
 |@drawn i P ps mF hI hP b_ mG=>
  have hT:s.TypeIs (.ref I) "set_iterator":=⟨_,hI,rfl⟩
  refine wpAny_bind (wpAny_attempt (wpAny_callSpecial?_slot (name:=Str.ofString "__next__") hT SF.fx (wpAny_call_entry SF.fx hT SF.lu ?_ (SF.mE _))));show wpAny _ _ (fieldsOf (.ref I)>>=_) _ _ _;refine wpAny_bind (wpAny_fieldsOf hI rfl ?_);show wpAny _ _ (setEntries S>>=_) _ _ _;refine wpAny_bind (hE ?_);rw [if_neg (by simp)];show wpAny _ _ (seqItems? (.ref P)>>=_) _ _ _;refine wpAny_bind (wpAny_seqItems hP rfl ?_);have hg:(ps.map λ(k:Nat)=>rawInt k).toArray[(i:Int).toNat]?=ps[i]?.map λ(k:Nat)=>rawInt k:=by rw [Int.toNat_natCast,List.getElem?_toArray,List.getElem?_map]
  dsimp only;rw [hg];cases ho:ps[i]?with
  |none=>
   have hl:=Oi (f:=λ k=>((es[k]?).map (·.2)).getD .none) ho;dsimp only [Option.map_none];refine wpAny_bind (wpAny_setField_rec hI (by simp) λ h₀ abB abC=>?_);refine wpAny_bind (wpAny_setField_rec abB (by simp) λ gj s_ eI=>?_);refine uE (s:={s with heap:=gj}) (by simp [(he hl).1]) λ j5 e hk he=>?_;exact fin hl (λ b o hb q=>hk b o (eI.extBut b o hb (abC.extBut b o hb q))) he
  |some k=>
   have hk:k<es.size:=mG k (List.mem_of_getElem? ho);dsimp only [Option.map_some];show wpAny _ _ (setNextDrawn S _ _>>=_) _ _ _;refine wpAny_bind ?_;unfold setNextDrawn;refine wpAny_bind (wpAny_setState_of hS rfl hf ?_);dsimp only;rw [if_neg (by simp)];rw [show es[(k:Int).toNat]?=some es[k] from by rw [Int.toNat_natCast];exact Array.getElem?_eq_getElem hk];refine wpAny_pure ?_;refine wpAny_bind (wpAny_setField_rec hI (by simp) λ gj s_ eI=>?_);refine wpAny_pure ⟨_,rfl,wpAny_pure ?_⟩;have e2:((es[k]?).map (·.2)).getD .none=(es[k]).2:=by rw [Array.getElem?_eq_getElem hk];rfl
   rw [show(es.toList.get ⟨k,hk⟩).snd=(es[k]).2 from rfl,<-e2];exact hi _ _ (Oh (f:=λ k=>((es[k]?).map (·.2)).getD .none) ho) gj (.drawn mF s_ (by rw [eI.2 _ b_.symm];exact hP) b_ mG) eI
theorem Ss{S I:Addr}{es:Array (Int×Value)}{ep:Nat}{t:SetTable}{l:List Value}{v:Value}{rest:List Value}{Q:Option Value->Shared->Prop}(hS:s.heap.get? S=some (fS es ep t))(hf:t.fits es.size=true)(b:f9 w S es ep t s.heap I l)(hl:l=v::rest)
  (h:∀h',f9 w S es ep t h' I rest->Heap.SameBut I s.heap h'->Q (some v) {s with heap:=h'}):wpAny (model prog w) A (pyNext (.ref I)) Q E s:=
 Gj hS hf b (λ v' r' e=>(List.cons.inj (hl.symm.trans e)).1▸(List.cons.inj (hl.symm.trans e)).2▸h) λ e=>nomatch hl.symm.trans e
theorem VA{S I:Addr}{es:Array (Int×Value)}{ep:Nat}{t:SetTable}{l:List Value}{Q:Option Value->Shared->Prop}(hh:A.handled=none)(hS:s.heap.get? S=some (fS es ep t))(hf:t.fits es.size=true)(b:f9 w S es ep t s.heap I l)(hl:l=[])
  (h:∀h',(∀b o,b≠I->s.heap.get? b=some o->h'.get? b=some o)->Q none {s with heap:=h'}):wpAny (model prog w) A (pyNext (.ref I)) Q E s:=
 Gj hS hf b (λ v' r' e=>nomatch hl.symm.trans e) λ aa=>⟨hh,h⟩
end
end
section
section
variable{prog:Program} {w:World} {A:Around} {E:Value->Shared->Prop} {s:Shared}
theorem ob{α:Type}(next:Nat->Nat)(f k:Nat)(l:List α)(out:Array α){x:α}{i:Nat}(hi:next k %l.length=i)(hx:l[i]?=some x):pickOrder.go next (f+1) k l out=pickOrder.go next f (k+1) (l.eraseIdx i) (out.push x):=by subst hi;show(match l[next k %l.length]?with|some x=>pickOrder.go next f (k+1) (l.eraseIdx (next k %l.length)) (out.push x)|none=>out)=_;exact ae hx rfl
theorem yI{α:Type}(next:Nat->Nat):∀(l:List α),l.length<=2->((pickOrder next l.toArray).toList.Perm l)
 |[],_=>.refl _
 |[a],_=>by
  refine (?_:((pickOrder.go next 1 0 [a] #[]).toList).Perm [a]);refine ae (ob next 0 0 [a] #[] (Nat.mod_one _) rfl) ?_;exact .refl _
 |[a,b],_=>by
  refine (?_:((pickOrder.go next 2 0 [a,b] #[]).toList).Perm [a,b]);rcases Nat.mod_two_eq_zero_or_one (next 0)with e|e
  ·refine ae (ob next 1 0 [a,b] #[] e rfl) ?_;refine (?_:((pickOrder.go next (0+1) 1 [b] #[a]).toList).Perm [a,b]);refine ae (ob next 0 1 [b] #[a] (Nat.mod_one _) rfl) ?_;exact .refl _
  ·refine ae (ob next 1 0 [a,b] #[] e rfl) ?_;refine (?_:((pickOrder.go next (0+1) 1 [a] #[b]).toList).Perm [a,b]);refine ae (ob next 0 1 [a] #[b] (Nat.mod_one _) rfl) ?_;exact .swap _ _ _
 |_::_::_::_,h=>absurd h (by simp)
theorem Yw{Q:List Nat->Shared->Prop}(h:∀l dr,l.Perm [0,1]->Q l {s with drawn:=dr}):wpAny (model prog w) A (drawOrder 2 [0,1]) Q E s:=by
 have one:∀(x y:Nat)(s:Shared)(Q:List Nat->Shared->Prop),(∀dr,Q [x,y] {s with drawn:=dr})->wpAny (model prog w) A (drawOrder 1 [y]>>=λ r=>pure (x::r)) Q E s:=λ x y s Q h=>by
  refine wpAny_bind ?_;refine (?_:wpAny _ _ (choose _ _>>=_) _ _ _);refine wpAny_bind (vQ (by simp) λ i dr hi=>?_);have:i=0:=by simp at hi;exact hi
  subst this;refine (?_:wpAny _ _ (drawOrder 0 _>>=_) _ _ _);refine wpAny_bind (wpAny_pure (wpAny_pure (wpAny_pure (h dr))))
 refine (?_:wpAny _ _ (choose _ _>>=_) _ _ _);refine wpAny_bind (vQ (by decide) λ i dr hi=>?_);have:i=0\/i=1:=by simp at hi;lia
 rcases this with rfl|rfl
 ·exact one 0 1 _ _ λ VB=>h [0,1] VB (.refl _)
 ·exact one 1 0 _ _ λ VB=>h [1,0] VB (.swap _ _ _)
theorem yJ(a b k:Nat):SetTable.below #[a,b] k=if b<k then 2 else if a<k then 1 else 0:=by kernel_rfl
theorem yK{es:Array (Int×Value)}{t:SetTable}(hf:t.fits es.size=true)(hz:es.size<=2)(fK:es.size=2->t.plain=true->∃a b,t.place=#[a,b]/\a<b)(hd:(!t.plain&&decide (es.size>1))=false):
  SetTable.below t.place 0=0/\∀j,j<es.size->∃a,t.place[j]?=some a/\SetTable.below t.place (a+1)=j+1:=by
 have mG:t.place.size=es.size:=by unfold SetTable.fits at hf;simp only [Bool.and_eq_true,beq_iff_eq]at hf;exact hf.1
 by_cases h2:es.size=2
 ·have hp:t.plain=true:=by
   cases h:t.plain with
   |true=>rfl
   |false=>rw [h,h2]at hd;exact tf_ hd
  refine xm (fK h2 hp) λ a b e dP=>?_;refine ae e ?_;refine ⟨by kernel_rfl,λ j hj=>?_⟩;have:j=0\/j=1:=by lia
  rcases this with rfl|rfl
  ·refine ⟨a,rfl,?_⟩;rw [yJ,if_neg (Nat.not_lt_of_le dP),if_pos (Nat.lt_succ_self _)]
  ·refine ⟨b,rfl,?_⟩;rw [yJ,if_pos (Nat.lt_succ_self _)]
 ·clear hf fK hd;revert mG;generalize t.place=plc;obtain ⟨pl⟩:=plc;intro mG
  match pl,mG with
  |[],mG=>exact ⟨rfl,λ j hj=>by simp at mG;lia⟩
  |[p],mG=>
   refine ⟨rfl,λ j hj=>?_⟩;have h1:es.size=1:=mG.symm;have:j=0:=Nat.le_antisymm (cI hj (bI h1) (by simp+arith only)) (Nat.zero_le _);subst this;exact ⟨p,rfl,by rw [jr];simp⟩
  |_::_::_,mG=>simp at mG;lia
theorem Oj{es:Array (Int×Value)}(h:es.size=2):(List.map (λ k=>(Option.map (λ x=>x.snd) es[k]?).getD Value.none) [0,1]).Perm (es.toList.map (·.2)):=by
 obtain ⟨l⟩:=es;rcases l with _|⟨a,_|⟨b,_|⟨c,r⟩⟩⟩
 ·exact nomatch h
 ·exact nomatch h
 ·exact .refl _
 ·exact nomatch Nat.succ.inj (Nat.succ.inj h)
theorem Ol{S:Addr}{es:Array (Int×Value)}{ep:Nat}{t:SetTable}{Q:Value->Shared->Prop}(hS:s.heap.get? S=some (fS es ep t))(hf:t.fits es.size=true)(hz:es.size<=2)(qZ:t.led=true\/w.params.followText "set-order"=true)
  (fK:es.size=2->t.plain=true->∃a b,t.place=#[a,b]/\a<b)
  (h:∀h' dr I l,(∀b o,s.heap.get? b=some o->h'.get? b=some o)->s.heap.get? I=none->f9 w S es ep t h' I l->l.Perm (es.toList.map (·.2))->Q (.ref I) {s with heap:=h',drawn:=dr}):
  wpAny (model prog w) A (pyIter (.ref S)) Q E s:=by
 have hT:s.TypeIs (.ref S) "set":=⟨_,hS,rfl⟩
 have ZF:s.heap.get? s.heap.objs.size=none:=Heap.get?_none_of_le (Nat.le_refl _);refine wpAny_pyIter_slot hT PySem.F.slot_set_iter (wpAny_call_entry PySem.F.slot_set_iter hT SF.xP ?_ (PySem.F.args_set_iter_1 _));refine (?_:wpAny _ _ (Builtin.Frozenset.addrOf (.ref S)>>=_) _ _ _);refine wpAny_bind (wpAny_pure ?_);refine (?_:wpAny _ _ (Builtin.Frozenset.sizeOf S>>=_) _ _ _);refine wpAny_bind (wpAny_bind (wpAny_setEntries_of hS rfl hf (wpAny_pure ?_)));refine (?_:wpAny _ _ (setDrawn S>>=_) _ _ _);refine wpAny_bind ?_;unfold setDrawn;refine wpAny_bind (wpAny_setState_of hS rfl hf ?_);dsimp only;refine wpAny_bind ?_;unfold setsByText;refine wpAny_bind (wpAny_askSetting (wpAny_pure (wpAny_pure ?_)));have KW:∀{s':Shared}{A':Around}{Q':Nat->Shared->Prop},s'.heap.get? S=some (fS es ep t)->Q' ep s'->wpAny (model prog w) A' (setEpoch S) Q' (λ e s'=>E e s') s':=λ hs hq=>by unfold setEpoch;exact wpAny_bind (wpAny_setState_of hs rfl hf (wpAny_pure hq))
 have tl:∀(first:Value)(s':Shared)(hs:s'.heap.get? S=some (fS es ep t))(l:List Value),(∀b o,s.heap.get? b=some o->s'.heap.get? b=some o)->s'.gens=s.gens->s'.toks=s.toks->s'.os=s.os->
   f9 w S es ep t (s'.heap.push (KY first 0 (.ref S) es.size ep)) s'.heap.objs.size l->l.Perm (es.toList.map (·.2))->
   wpAny (model prog w) A.in1 (do ret (<-newFields "set_iterator" [first,rawInt 0,.ref S,rawInt es.size,rawInt (<-setEpoch S)])) (λ fin s'=>∃v,fin=.done (.ret v)/\∃T nx,s'.TypeIs v T/\typeLookup (.type T) "__next__"=pure (some nx)/\Q v s') (λ e s'=>E e s') s':=λ first s' hs l hk hg ht ho hb hp=>by
  refine wpAny_bind (KW hs ?_);refine wpAny_bind (wpAny_newObj_type (wpAny_pure ⟨_,rfl,"set_iterator",_,⟨_,Heap.get?_push_size _ rfl,rfl⟩,SF.fx.lookup,?_⟩));have:=h (s'.heap.push (KY first 0 (.ref S) es.size ep)) s'.drawn s'.heap.objs.size l (λ b o e=>Heap.get?_push_of_some _ (hk b o e)) (by
   cases e:s.heap.get? s'.heap.objs.size with
   |none=>rfl
   |some o=>exact absurd (Heap.lt_size (hk _ _ e)) (Nat.lt_irrefl _)) hb hp
  obtain ⟨hh,g,dr,tk,os⟩:=s';simp only at hg ht ho;subst hg;subst ht;subst ho;exact this
 cases mF:w.params.followText "set-order"with
 |true=>
  refine ae (if_neg (by show¬((!w.params.followText "set-order")&&_)=true;rw [mF];exact Bool.false_ne_true)) ?_;refine wpAny_bind (wpAny_pure ?_);refine tl _ s hS _ (λ aa aa e=>e) rfl rfl rfl (.text mF (Heap.get?_push_size _ rfl)) ?_;refine ae List.drop_zero ?_;have:=yI (w.params.setOrder S ep) es.toList (by simpa using hz);exact (by simpa using this:(pickOrder (w.params.setOrder S ep) es).toList.Perm es.toList).map _
 |false=>
  have Yx:t.led=true:=by
   rcases qZ with h|h
   ·exact h
   ·rw [mF]at h;exact Ui h
  cases hd:(!t.plain&&decide (es.size>1))with
  |true=>
   refine ae (if_pos (by show((!w.params.followText "set-order")&&(!t.plain&&decide (es.size>1)))=true;rw [mF,hd];rfl)) ?_;have h2:es.size=2:=by simp at hd;exact Nat.le_antisymm hz hd.2
   refine wpAny_bind ?_;have e2:drawOrder es.size (List.range es.size)=drawOrder 2 [0,1]:=by refine ae h2 ?_;rfl
   refine ae e2 ?_;refine Yw λ l dr hl=>?_;refine wpAny_bind (wpAny_newTuple ?_ (by have h3:=hl.length_eq;have h4:=cN;rw [List.length_map,h3];simp;exact ji h4));have dP:S<s.heap.objs.size:=Heap.lt_size hS;refine tl (.ref s.heap.objs.size) {s with heap:=s.heap.push {cls:=.type "tuple",data:=.seq (l.map λ(i:Nat)=>rawInt i).toArray},drawn:=dr} (Heap.get?_push_of_some _ hS) _ (λ aa aa e=>Heap.get?_push_of_some _ e) rfl rfl rfl
    (.drawn (ps:=l) mF (Heap.get?_push_size _ rfl) (Heap.get?_push_of_some _ (Heap.get?_push_size _ rfl)) ?_ ?_) ?_
   ·rw [Heap.size_push];exact Nat.succ_ne_self _
   ·intro k hk;have:=hl.mem_iff.mp hk;simp at this;lia
   ·refine ae List.drop_zero ?_;exact (hl.map _).trans (Oj h2)
  |false=>
   refine ae (if_neg (by show¬((!w.params.followText "set-order")&&(!t.plain&&decide (es.size>1)))=true;rw [hd];simp)) ?_;refine wpAny_bind (wpAny_pure ?_);refine tl _ s hS _ (λ aa aa e=>e) rfl rfl rfl (.plain (slot:=0) (i:=0) mF Yx hd (Heap.get?_push_size _ rfl) ?_ λ j aa hj=>?_) (List.Perm.refl _)
   ·exact (yK hf hz fK hd).1
   ·exact (yK hf hz fK hd).2 j hj
end
end
section
section
variable{prog:Program} {w:World} {A:Around} {E:Value->Shared->Prop} {s:Shared}
theorem Om{r:Addr}{Q:Bool->Shared->Prop}(hT:s.TypeIs (.ref r) "set")(h:Q false s):wpAny (model prog w) A (Builtin.List.listLengthHint (.ref r)) Q E s:=by
 unfold Builtin.List.listLengthHint;refine wpAny_bind (wpAny_specialOf hT PySem.F.slot_set_len.lookup ?_);generalize hid:("set.__len__":String)=id0
 wp_delta
 refine ae (show splitId id0=some ("set","__len__") from by subst hid;decide+kernel) ?_;subst hid;refine wpAny_bind (wpAny_isInstance (T:="set") (b:=true) hT (by rw [isSubtype_type];kernel_rfl) ?_);refine wpAny_ite_split (λ fB=>absurd fB (by decide)) (λ aa=>?_);refine wpAny_ite_split (λ aa=>?_) (λ fB=>absurd (by decide+kernel) fB);refine wpAny_bind (wpAny_typeOf hT ?_);exact wpAny_pure h
theorem Oo{R:Result->Shared->Prop}{S I D:Addr}{es:Array (Int×Value)}{ep:Nat}{t:SetTable}{res:Value}(hh:A.handled=none)(hf:t.fits es.size=true)(hz:es.size<=2)(VC:I≠S)(td:D≠I)(hDS:D≠S)(hpk:(pickOrder (w.params.setOrder S ep) es).size=es.size):
  ∀(l:List Value)(s:Shared)(acc:Array Value)(c:Nat),l.length+acc.size<=10->s.heap.get? S=some (fS es ep t)->f9 w S es ep t s.heap I l->(∀P ps,s.heap.get? P=some {cls:=.type "tuple",data:=.seq ps}->P≠D)->s.heap.get? D=some {cls:=.type "list",dict:=none,data:=.seq acc c,slots:=#[]}->
   (∀h' c',(∀b o,b≠I->b≠D->s.heap.get? b=some o->h'.get? b=some o)->h'.get? D=some {cls:=.type "list",dict:=none,data:=.seq (acc++l.toArray) c',slots:=#[]}->R (.ok (.ret res)) {s with heap:=h'})->
   codeAny (model prog w) A (.builtin "list.extend.loop" ⟨[.ref D,.ref I,res],[]⟩) R s:=by
 intro l;have my:=cN;induction l with
 |nil=>
  intro s acc c hlen hS b hP hD h;refine codeAny_builtin PySem.F.entry_extend_loop ?_;refine ae (Around.under_plainId PySem.F.plain_extend_loop _) ?_;refine (?_:wpAny _ A.in1 (pyNext (.ref I)>>=_) _ _ s);refine wpAny_bind (VA (by simp [hh]) hS hf b rfl λ h' hk=>?_);refine wpAny_pure (h h' c (λ b o hb aa e=>hk b o hb e) ?_);refine ae (show acc++([]:List Value).toArray=acc by exact rfl) ?_;exact hk _ _ td hD
 |cons v rest ih=>
  intro s acc c hlen hS b hP hD h;refine codeAny_builtin PySem.F.entry_extend_loop ?_;refine ae (Around.under_plainId PySem.F.plain_extend_loop _) ?_;refine (?_:wpAny _ A.in1 (pyNext (.ref I)>>=_) _ _ s);refine wpAny_bind (Ss hS hf b rfl λ gj acb eI=>?_);have aaa:gj.get? D=some {cls:=.type "list",dict:=none,data:=.seq acc c,slots:=#[]}:=by refine ae (eI.2 _ td) ?_;exact hD
  refine (?_:wpAny _ _ (updateSeq D (·.push v)>>=_) _ _ _);simp only [List.length_cons]at hlen;refine wpAny_bind (wpAny_updateSeq (s:={s with heap:=gj}) aaa rfl ?_ (cI my hlen (by simp+arith only)) (by simp;exact cI my hlen (by simp+arith only)));have Gk:=Heap.get?_update_self (Obj.mapSeq (·.push v)) aaa rfl;have gO:Heap.SameBut D gj (gj.update D (Obj.mapSeq (·.push v))):=Heap.SameBut.update ..;have abD:f9 w S es ep t (gj.update D (Obj.mapSeq (·.push v))) I rest:=by
   cases acb with
   |text g1 g2=>exact .text g1 (by refine ae (gO.2 _ td.symm) ?_;exact g2)
   |plain g1 g2 g3 g4 g5 g6=>exact .plain g1 g2 g3 (by refine ae (gO.2 _ td.symm) ?_;exact g4) g5 g6
   |@drawn i P ps g1 g2 g3 g4 g5=>
    have VD:P≠D:=by rw [eI.2 _ g4.symm]at g3;exact hP P _ g3
    exact .drawn g1 (by refine ae (gO.2 _ td.symm) ?_;exact g2) (by refine ae (gO.2 _ VD) ?_;exact g3) g4 g5
  refine wpAny_pure ⟨plainId_quiet PySem.F.plain_extend_loop _,?_⟩;refine ih {s with heap:=gj.update D (Obj.mapSeq (·.push v))} (acc.push v) _ (by simp;exact bG hlen (by simp+arith only)) (by show Heap.get? _ _=_;refine ae (gO.2 _ hDS.symm)<|ae (eI.2 _ VC.symm) ?_;exact hS) abD (λ P ps hp e=>?_) Gk λ h' c' hk yG=>?_
  ·subst e;rw [show({s with heap:=gj.update P (Obj.mapSeq (·.push v))}:Shared).heap.get? P=_ from Gk]at hp;simp [Obj.mapSeq]at hp
  ·refine h h' c' (λ b o hb FW e=>hk b o hb FW ?_) ?_
   ·refine (?_:Heap.get? _ _=_);refine ae (gO.2 _ FW)<|ae (eI.2 _ hb) ?_;exact e
   ·refine ae yG ?_;simp
theorem ER{S:Addr}{es:Array (Int×Value)}{ep:Nat}{t:SetTable}{Q:List Value->Shared->Prop}(hh:A.handled=none)(hS:s.heap.get? S=some (fS es ep t))(hf:t.fits es.size=true)(hz:es.size<=2)(qZ:t.led=true\/w.params.followText "set-order"=true)
  (fK:es.size=2->t.plain=true->∃a b,t.place=#[a,b]/\a<b)
  (h:∀h' dr l,(∀b o,s.heap.get? b=some o->h'.get? b=some o)->l.Perm (es.toList.map (·.2))->Q l {s with heap:=h',drawn:=dr}):
  wpAny (model prog w) A (collect (.ref S)) Q E s:=by
 have dP:S<s.heap.objs.size:=Heap.lt_size hS;have hpk:(pickOrder (w.params.setOrder S ep) es).size=es.size:=by have:=(yI (w.params.setOrder S ep) es.toList (by simpa using hz)).length_eq;simpa using this
 unfold collect;refine wpAny_bind (wpAny_runValue (codeAny_builtin entry_proto_collect' ?_));refine ae (Around.under_plainId PySem.F.plain_proto_collect _) ?_;refine (?_:wpAny _ A.in1 (newList []>>=λ l=>again (.builtin "list.__iadd__" ⟨[l,.ref S],[]⟩)) _ _ s);refine wpAny_bind (wpAny_newObj_type ?_);refine wpAny_pure ⟨plainId_quiet PySem.F.plain_list_iadd _,codeAny_builtin entry_list_iadd' ?_⟩;refine ae (Around.under_plainId PySem.F.plain_list_iadd _) ?_;have hD:(s.heap.push {cls:=.type "list",data:=.seq ([]:List Value).toArray}).get? s.heap.objs.size=some {cls:=.type "list",data:=.seq #[]}:=Heap.get?_push_size _ rfl;have RH:(s.heap.push {cls:=.type "list",data:=.seq ([]:List Value).toArray}).get? S=some (fS es ep t):=Heap.get?_push_of_some _ hS;have VE:s.heap.objs.size≠S:=Nat.ne_of_gt dP;refine (?_:wpAny _ A.in1 (Builtin.List.listExtendWith (.ref s.heap.objs.size) (.ref S) (.ref s.heap.objs.size)) _ _ _);unfold Builtin.List.listExtendWith;refine wpAny_bind (wpAny_typeOf (T:="set") ⟨_,RH,rfl⟩ ?_);have h1:Builtin.List.listSameRef (.ref s.heap.objs.size) (.ref S)=false:=decide_eq_false VE;simp only [h1,show(Value.type "set"==Value.type "list")=false by decide,show(Value.type "set"==Value.type "tuple")=false by decide,Bool.or_false,Bool.false_eq_true,if_false];refine wpAny_bind (Ol (s:={s with heap:=s.heap.push {cls:=.type "list",data:=.seq ([]:List Value).toArray}}) RH hf hz qZ fK λ j5 dr I l VF hI b hl=>?_);have KX:=VF _ _ RH;have Gk:=VF _ _ hD;have td:s.heap.objs.size≠I:=λ e=>by subst e;rw [hD]at hI;exact sN hI
 have VC:I≠S:=λ e=>by subst e;rw [RH]at hI;exact sN hI
 refine wpAny_bind (wpAny_holding (Om ⟨_,KX,rfl⟩ ?_));refine wpAny_ite_split (λ aa=>?_) (λ fB=>absurd (by decide:(false||_)=true) fB);refine wpAny_bind (wpAny_rule ?_);refine wpAny_bind ?_;refine (?_:wpAny _ _ (updateSeq s.heap.objs.size (·.push .none)>>=λ aa=>updateSeq s.heap.objs.size (·.pop)) _ _ _);refine wpAny_bind (wpAny_updateSeq Gk rfl ?_);have aab:=Heap.get?_update_self (Obj.mapSeq (·.push Value.none)) Gk rfl;refine wpAny_updateSeq (hz:=Nat.succ_pos _) aab rfl ?_;have aac:=Heap.get?_update_self (Obj.mapSeq (·.pop)) aab rfl;have lH:Heap.SameBut s.heap.objs.size j5 (j5.update s.heap.objs.size (Obj.mapSeq (·.push Value.none))):=Heap.SameBut.update ..;have qX:Heap.SameBut s.heap.objs.size (j5.update s.heap.objs.size (Obj.mapSeq (·.push Value.none))) ((j5.update s.heap.objs.size (Obj.mapSeq (·.push Value.none))).update s.heap.objs.size (Obj.mapSeq (·.pop))):=Heap.SameBut.update ..;have hs:=lH.trans qX;have abE:f9 w S es ep t ((j5.update s.heap.objs.size (Obj.mapSeq (·.push Value.none))).update s.heap.objs.size (Obj.mapSeq (·.pop))) I l:=by
  cases b with
  |text g1 g2=>exact .text g1 (by refine ae (hs.2 _ td.symm) ?_;exact g2)
  |plain g1 g2 g3 g4 g5 g6=>exact .plain g1 g2 g3 (by refine ae (hs.2 _ td.symm) ?_;exact g4) g5 g6
  |@drawn i P ps g1 g2 g3 g4 g5=>
   have VD:P≠s.heap.objs.size:=λ e=>by subst e;rw [Gk]at g3;simp at g3
   exact .drawn g1 (by refine ae (hs.2 _ td.symm) ?_;exact g2) (by refine ae (hs.2 _ VD) ?_;exact g3) g4 g5
 have tg:l.length=es.size:=by refine ae hl.length_eq ?_;exact List.length_map ..
 refine wpAny_pure ⟨plainId_quiet PySem.F.plain_extend_loop _,Oo (A:=A) hh hf hz VC td VE hpk l _ #[] _ (by simp;exact nc (Nat.le_trans (bI tg) hz) rfl) (by show Heap.get? _ _=_;refine ae (hs.2 _ VE.symm) ?_;exact KX) abE (λ P ps hp e=>?_) aac λ h' c' hk yG=>?_⟩
 ·subst e;rw [show Heap.get? _ _=_ from aac]at hp;simp [Obj.mapSeq]at hp
 ·refine (?_:wpAny _ A (load s.heap.objs.size>>=_) _ _ _);refine wpAny_bind (wpAny_load yG ?_);have:=h h' dr l (λ b o e=>?_) hl
  ·refine wpAny_pure ?_;simpa using this
  ·have b_:b≠s.heap.objs.size:=Nat.ne_of_lt (Heap.lt_size e);have e1:=Heap.get?_push_of_some {cls:=.type "list",data:=.seq ([]:List Value).toArray} e;refine hk b o (λ q=>by subst q;rw [e1]at hI;exact sN hI) b_ ?_;refine (?_:Heap.get? _ _=_);refine ae (hs.2 _ b_) ?_;exact VF _ _ e1
end
end
section
set_option genInjectivity false
set_option genSizeOf false
theorem KZ:∀ns:List Int,(dedup ns).length<=ns.length:=by
 intro bD;induction bD with
 |nil=>
  skip;exact Nat.le_refl _
 |cons x r ih=>
  skip;have:=ih;unfold dedup;split
  ·simp;exact Nat.le_succ_of_le this
  ·simp;exact this
theorem IntsAre.perm{l:List Value}{vs:List Value}{ms:List Int}(hp:l.Perm vs)(h:IntsAre vs ms):∃ns,IntsAre l ns/\ns.Perm ms:=by
 induction hp generalizing ms with
 |nil=>cases h;exact ⟨[],.nil,.refl _⟩
 |cons x _ ih=>
  cases h with
  |cons n t hr=>refine bp (ih hr) λ ns h1 h2=>?_;exact ⟨n::ns,.cons n t h1,h2.cons _⟩
 |swap x y l=>
  cases h with
  |cons n t hr=>cases hr with
   |cons m u hr=>exact ⟨_,.cons m u (.cons n t hr),.swap _ _ _⟩
 |trans _ _ vR qu=>refine bp (qu h) λ ns h1 h2=>?_;refine bp (vR h1) λ vz h3 h4=>?_;exact ⟨vz,h3,h4.trans h2⟩
section
variable{Γ:cZ}
inductive uF(σ:U)(P:PV):List AV->Prop
 |mk {l:Nat} {xs:List AV} {ns:List Int}:σ[l]?=some (.list xs)->intsOf xs=some ns->ns.length<=2->P (.ref σ.length) (σ++[.set (dedup ns)])->uF σ P [.ref l]
theorem Ce:iM Γ (.type "set") uF:=by
 intro K x v P Q hc;induction hc with
 |@mk l xs ns hx iR hz p=>
  intro hv k;apply hv.k1;intro u hu;apply hu.kr;intro a hl;refine K.w.Ba hl hx iR λ ps n g1 e2=>xO (items:=intItems ps.toArray) (ns:=ns) K.R.h (IsL.il g1) (by refine cA e2 ?_;simpa [intItems]using intsAre_of ps) hz λ h' tk Of hk=>?_;obtain ⟨es,ep,t,ms,q1,q2,q3,q4,q5,q6⟩:=Of;refine K.kn k (K.w.H.new (s':={K.w.s with heap:=h',toks:=tk}) (a:=K.w.s.heap.objs.size) (ao:=.set (dedup ns)) hk (Heap.get?_none_of_le (Nat.le_refl _)) rfl rfl (.set ⟨es,ep,t,ms,q1,q2,?_,q4,q5,q6,Nat.le_trans (KZ ns) hz⟩)) p (.ref (by refine cA K.w.H.len ?_;exact List.getElem?_concat_length ..));refine ae q3 ?_;cases Γ.G.w.params.followText "set-order"
  ·exact .inl rfl
  ·exact .inr rfl
inductive dA(σ:U)(P:PV):List AV->Prop
 |x {vs:List AV}:oT σ P vs->dA σ P vs
 |s {l:Nat} {ns:List Int}:σ[l]?=some (.set ns)->P (.ref σ.length) (σ++[.list ((hU ns).map .int)])->dA σ P [.ref l]
theorem iC(W:Wd Γ.G):iM Γ (.builtin "sorted") dA:=by
 intro K x v P Q hc;induction hc with
 |x h=>exact HG W K h
 |@s l ns hx p=>
  intro hv k;apply hv.k1;intro u hu;apply hu.kr;intro a hl;cases K.w.H.obj _ _ _ hl hx with
  |set hs=>
   obtain ⟨es,ep,t,ms,q1,q2,q3,q4,q5,q6,q7⟩:=hs;have hz:es.size<=2:=by have h1:(es.toList.map (·.2)).length=ms.length:=q5.length;have h2:=q6.length_eq;simp at h1;exact e_ q7 (bI h2) (bI h1) (by simp+arith only)
   refine nf (G:=Γ.G) (ns:=ns) (ER (A:=K.A.in1) (by simp [K.R.h]) q1 q2 hz q3 q4 λ h' dr l hk hp=>bp (IntsAre.perm hp q5) λ ks k1 k2=>⟨ks,h',_,dr,rfl,hk,k1,k2.trans q6,by rw [hp.length_eq];simp;exact eG hz rfl⟩)
    λ b h' tk dr out n hk hb hL hi=>K.kn k (K.w.H.new (s':={K.w.s with heap:=h',toks:=tk,drawn:=dr}) (a:=b) (ao:=.list ((hU ns).map .int)) hk hb rfl rfl (.list hL (bq.ofInts hi) (by rw [List.length_map,(iA _).length_eq];exact nc q7 rfl))) p (.ref (by refine cA K.w.H.len ?_;exact List.getElem?_concat_length ..))
end
structure Gl(G:Places):Prop where
 keep:∀c:dN,keepIn G.K (.ref c.addr)=true
 Gm:b7 G "mark_of" (.ref Fn.nQ.addr)
 yL:b7 G "told_term" (.ref Fn.j0.addr)
 pU:b7 G "paper_of_edge" (.ref Fn.gV.addr)
 vT:b7 G "joined_row" (.ref Fn.jj.addr)
 RI:b7 G "is_op" (.ref Fn.xq.addr)
 iu:b7 G "_law_pick" (.ref Fn.pick.addr)
 j':b7 G "_law_term" (.ref Fn.gr.addr)
 uG:b7 G "_law_more" (.ref Fn.more.addr)
 q8:b7 G "_law_sides" (.ref Fn.lN.addr)
 oX:b7 G "_law_labels" (.ref Fn.kM.addr)
 lx:b7 G "_law_are_right" (.ref Fn.gw.addr)
 VG:b7 G "Whys" (.ref dN.dO.addr)
 Bank:b7 G "Bank" (.ref dN.bank.addr)
 K0:b7 G "Unions" (.ref dN.fY.addr)
 K1:b7 G "Levels" (.ref dN.levels.addr)
 vU:∃t,b7 G "MOST_NODES" (.int 100000 t)
 vV:∃t,b7 G "MOST_PARTS" (.int 20000 t)
 th:∃t,b7 G "MOST_LEVELS" (.int 100 t)
 len:b7 G "len" (.builtin "len")
 max:b7 G "max" (.builtin "max")
 min:b7 G "min" (.builtin "min")
 sum:b7 G "sum" (.builtin "sum")
 sorted:b7 G "sorted" (.builtin "sorted")
 tuple:b7 G "tuple" (.type "tuple")
 list:b7 G "list" (.type "list")
 int:b7 G "int" (.type "int")
 str:b7 G "str" (.type "str")
 set:b7 G "set" (.type "set")
 zip:b7 G "zip" (.type "zip")
 range:b7 G "range" (.type "range")
 enumerate:b7 G "enumerate" (.type "enumerate")
theorem HW{Γ:cZ}(W:Wd Γ.G){x:String}{i:Int}{pos:Pos}(g:∃t,b7 Γ.G x (.int i t))(hk:Γ.sc.names.lookup (Str.ofString x)=some .globalImplicit)(hd:(Str.ofString x==("__debug__":Str))=false):
  aZ Γ (.Name (Str.ofString x) pos) (aT i):=let⟨_,h⟩:=g;Hj W h hk hd
end
end Mine
end
section
open PySem PySem.W PySem.Calls PyProof.Rows
namespace Mine
section
set_option maxRecDepth 100000
noncomputable def xQ(st:SharedT->Thread->Option (SharedT×Thread))(ok:Thread->Bool):Nat->SharedT->Thread->Option SharedT
  |0,_,_=>none
  |n+1,s,t=>match through t with
    |true=>some s
    |false=>match ok t with
      |false=>none
      |true=>match st s t with
        |some (s',t')=>xQ st ok n s' t'
        |none=>none
theorem Su{tb:String->Option Builtin}{p:Program}{w:World}{aaH:Nat}{ann:Option Value}:
    ∀{n:Nat}{s s':SharedT}{t:Thread},xQ (stepT (denote tb) p w) (stepOk aaH ann) n s t=some s'->topRun tb p w aaH ann n s.abs t=some s'.abs:=by
  intro bD;induction bD with
  |zero=>
    intro zz zz zz h;cases h
  |succ n ih=>
    intro s s' t h;unfold xQ at h;unfold topRun;cases he:through t with
    |true=>rw [he]at h;cases h;rfl
    |false=>
      rw [he]at h;cases hk:stepOk aaH ann t with
      |false=>rw [hk]at h;cases h
      |true=>
        rw [hk]at h;cases hs:stepT (denote tb) p w s t with
        |none=>rw [hs]at h;cases h
        |some r=>obtain ⟨nT,Yu⟩:=r;rw [hs]at h;dsimp only;rw [stepT_spec hs];exact ih h
noncomputable def K2:List Obj->Nat->BT->BT
  |[],_,t=>t
  |o::r,i,t=>K2 r (i+1) (t.ins i o)
noncomputable def T0(P:Params):BT:=K2 (boot_heap P).objs.toList 0 .nil
theorem Yy(P:Params):absHeap (T0 P) 11 {}=boot_heap P:=by kernel_rfl
noncomputable def K3(w:World)(os:OsState):SharedT:=⟨T0 w.params,11,{},#[],boot_drawn,boot_toks,os⟩
theorem Sv(w:World)(os:OsState):(K3 w os).abs=⟨boot_heap w.params,#[],boot_drawn,boot_toks,os⟩:=by unfold K3 SharedT.abs;rw [Yy]
noncomputable def Cf{α:Type}(mods:List Str)(p q:Program)(loose:List Str)(Xt:Shared->Bool)(Yf:Shared->α)(h₀:Heap)(s:Shared):=
  ((staticsOk mods h₀ s.heap&&namesBound p s.heap&&gensDone s&&laidKept h₀ s.heap),openSeen q loose mods Xt true s,Yf s)
theorem Sw{p q:Program}{loose:List Str}{Xt:Shared->Bool}{α:Type}{Yf:Shared->α}{Ya:World->α}{N:Nat}
    (e:opening p=plainProg p.main.scope.names)(hN:Nat.ble 600 N=true)(f:∀s,fenceModules? p s=some s)
    (size:∀P,((boot_heap P).isNs mainGlobals,(boot_heap P).objs.size,(boot_heap P).nsMap mainGlobals "__annotations__")=(true,11,some (.ref 6)))
    (run:∀(w:World),(λ os=>(xQ (stepT (denote treeTable) p w) (stepOk 11 (some (.ref 6))) N (K3 w os) (topStub p)).map λ s=>Cf (importedModules p.main.body) p q loose Xt Yf (boot_heap w.params) s.abs)
       =λ aa=>some (true,openGood q loose,Ya w)):LeftO p q loose Xt Yf Ya N:=λ w=>by
  obtain ⟨⟨h,gs,d,k,os⟩,e1,e'⟩:=Option.map_eq_some_iff.mp (boot_open e hN f w);obtain ⟨rfl,rfl,rfl,rfl⟩:h=boot_heap w.params/\gs=#[]/\d=boot_drawn/\k=boot_toks:=by simpa using e'
  obtain ⟨z1,z2,z3⟩:_/\_/\_:=by simpa only [Prod.mk.injEq]using size w.params
  obtain ⟨s,r,l⟩:=Option.map_eq_some_iff.mp (congrFun (run w) os);obtain ⟨l1,l2,l3⟩:_/\_/\_:=by simpa only [Cf,Prod.mk.injEq]using l
  have r:=Su r;rw [Sv]at r;have t:topFrom treeTable p w N ⟨boot_heap w.params,#[],boot_drawn,boot_toks,os⟩=some s.abs:=by unfold topFrom;dsimp only;rw [z1,z2,z3,r];refine (?_:(match staticsOk (importedModules p.main.body) (boot_heap w.params) s.abs.heap&&namesBound p s.abs.heap&&gensDone s.abs&&laidKept (boot_heap w.params) s.abs.heap with|true=>_|false=>_)=_);rw [l1]
  unfold openEnds;rw [e1];refine (?_:(topFrom treeTable p w N _).map _=_);rw [t];exact congrArg some (Prod.ext l2 l3)
theorem Yz(P:Params):((boot_heap P).isNs mainGlobals,(boot_heap P).objs.size,(boot_heap P).nsMap mainGlobals "__annotations__")=(true,11,some (.ref 6)):=by kernel_rfl
end
section
set_option maxRecDepth 100000
set_option maxHeartbeats 0
noncomputable def oY(p:Program):Program:={p with main:={p.main with body:=(p.main.body.drop 31).take 1}}
noncomputable def kR:List Str:=["HeapError","TermFault","PaperFault","LimitFault","MOST_NODES","MOST_PARTS","MOST_LEVELS","mark_of","told_term","paper_of_edge","joined_row","Whys","is_op","Bank","Unions","Heap","Levels",
 "_law_pick","_law_term","_law_more","_law_sides","_law_labels","_law_are_right","_wall"]
end
section
set_option maxRecDepth 1000000
set_option maxHeartbeats 0
noncomputable def aO(p:Program):List Nat->Stmt
 |[i]=>((p.main.body.drop i).head?).getD (.Pass default)
 |[i,j]=>match(p.main.body.drop i).head? with
  |some (.ClassDef _ _ _ b _ _ _ _ _ _ _)=>((b.drop j).head?).getD (.Pass default)
  |_=>.Pass default
 |_=>.Pass default
noncomputable def mH:Stmt->Arguments
 |.FunctionDef _ a _ _ _ _ _ _ _ _=>a
 |_=>default
noncomputable def bj:Stmt->List Stmt
 |.FunctionDef _ _ b _ _ _ _ _ _ _=>b
 |_=>[]
noncomputable def aY:Stmt->Scope
 |.FunctionDef _ _ _ _ _ _ s _ _ _=>s
 |_=>default
noncomputable def fnK(st:Stmt)(name qual:Str)(VH:List (Str×Addr))(dV kV doc pm:Value)(an:Option Addr)(cdv ct:Value):Obj:=
 {cls:=.type "function",data:=.func {name,qualname:=qual,params:=mH st,body:=.stmts (bj st),scope:=aY st,globals:=mainGlobals,closure:=VH,defaults:=dV,kwdefaults:=kV,doc,pyModule:=pm,annotations:=an,code:=cdv,closureTuple:=ct,builtins:=builtinsNs}}
noncomputable def vS(x:String)(t:Tok):Value:=.str (Str.ofString x) t
noncomputable def fR(p:Program)(A:Addr)(iw:List Nat)(n q m:String)(t:Tok):Addr×Obj:=(A,fnK (aO p iw) (Str.ofString n) (Str.ofString q) [] .none .none .none (vS m t) none (.ref (A -1)) .none)
noncomputable def fC(p:Program)(A:Addr)(iw:List Nat)(n q m:String)(t:Tok)(c:Addr):Addr×Obj:=(A,fnK (aO p iw) (Str.ofString n) (Str.ofString q) [(Str.ofString "__class__",513)] .none .none .none (vS m t) none (.ref (A -1)) (.ref c))
noncomputable def cV(A r:Addr)(a b:Value)(n q:String)(t:Tok)(ln ac:Int)(u:Nat):Array Value:=#[vS n t,vS q (t+1),vS "/claim/cut.py" (t+2),.int ln 0,.int ac 0,.int 0 0,.int 0 0,.int 3 0,.ref r,.bool true,.int 181 0,.ref (r+1),.none,a,b,.ref (A -1),.int u 0,.int ln 0,vS "/claim/cut.py" (u+1)]
noncomputable def cK(A r:Addr)(a b:Value)(n q:String)(t:Tok)(ln ac:Int)(u:Nat):Addr×Obj:=(A,{cls:=.type "code",data:=.fields (cV A r a b n q t ln ac u)})
noncomputable def cR(A:Addr):String->String->Tok->Int->Int->Nat->Addr×Obj:=cK A (A -3) .none .none
noncomputable def cS(A:Addr):String->String->Tok->Int->Int->Nat->Addr×Obj:=cK A (A -5) (.ref (A -3)) (.ref (A -2))
noncomputable def en(P:Params)(k:String)(t:Tok)(v:Value):DictEntry:={hash:=PyData.keyHash P (Str.ofString k),key:=vS k t,val:=v}
noncomputable def tR(A:Addr)(n:String)(t u:Tok):Addr×Obj:=(A,{cls:=.type "type",data:=.cls {name:=Str.ofString n,bases:=[.type "object"],mro:=[.ref A,.type "object"],ns:=A -1,qualname:=Str.ofString n},slots:=#[none,none,some (vS n t),some (vS n u),some (.builtin "object.__new__"),some (.bool true)]})
noncomputable def KA(p:Program)(P:Params):Frag:=[
fR p 109 [10] "mark_of" "mark_of" "alikeheap.whys" 301,
fR p 116 [11] "told_term" "told_term" "alikeheap.whys" 301,
fR p 121 [12] "paper_of_edge" "paper_of_edge" "alikeheap.whys" 301,
fR p 126 [13] "joined_row" "joined_row" "alikeheap.whys" 301,
fR p 140 [14,0] "__init__" "Whys.__init__" "alikeheap.whys" 301,
fR p 147 [14,1] "renewed" "Whys.renewed" "alikeheap.whys" 301,
fR p 154 [14,2] "path" "Whys.path" "alikeheap.whys" 301,
fR p 168 [14,4] "between" "Whys.between" "alikeheap.whys" 301,
fR p 173 [14,5] "of_edge" "Whys.of_edge" "alikeheap.whys" 301,
fR p 185 [16] "is_op" "is_op" "alikeheap.terms" 427,
fR p 199 [17,0] "__init__" "Bank.__init__" "alikeheap.terms" 427,
fR p 206 [17,1] "size" "Bank.size" "alikeheap.terms" 427,
fR p 211 [17,2] "take" "Bank.take" "alikeheap.terms" 427,
fR p 218 [17,3] "require" "Bank.require" "alikeheap.terms" 427,
fR p 239 [17,6] "cut" "Bank.cut" "alikeheap.terms" 427,
fR p 246 [17,7] "op" "Bank.op" "alikeheap.terms" 427,
fR p 253 [17,8] "kids" "Bank.kids" "alikeheap.terms" 427,
fR p 265 [17,10] "term" "Bank.term" "alikeheap.terms" 427,
fR p 272 [17,11] "weight" "Bank.weight" "alikeheap.terms" 427,
fR p 307 [19,0] "__init__" "Unions.__init__" "alikeheap.unions" 566,
fR p 314 [19,1] "make" "Unions.make" "alikeheap.unions" 566,
fR p 321 [19,2] "size" "Unions.size" "alikeheap.unions" 566,
fR p 328 [19,3] "find" "Unions.find" "alikeheap.unions" 566,
fR p 335 [19,4] "merge" "Unions.merge" "alikeheap.unions" 566,
fR p 342 [19,5] "members" "Unions.members" "alikeheap.unions" 566,
fR p 361 [19,8] "back" "Unions.back" "alikeheap.unions" 566,
fR p 368 [19,9] "cut" "Unions.cut" "alikeheap.unions" 566,
fR p 389 [21,0] "__init__" "Heap.__init__" "alikeheap.heap" 671,
fR p 396 [21,1] "size" "Heap.size" "alikeheap.heap" 671,
fR p 401 [21,2] "node" "Heap.node" "alikeheap.heap" 671,
fR p 406 [21,3] "add" "Heap.add" "alikeheap.heap" 671,
fR p 420 [21,5] "look_at" "Heap.look_at" "alikeheap.heap" 671,
fR p 427 [21,6] "find" "Heap.find" "alikeheap.heap" 671,
fR p 441 [21,8] "merge" "Heap.merge" "alikeheap.heap" 671,
fR p 448 [21,9] "join" "Heap.join" "alikeheap.heap" 671,
fR p 455 [21,10] "settle" "Heap.settle" "alikeheap.heap" 671,
fC p 525 [23,0] "__init__" "Levels.__init__" "alikeheap.levels" 842 518,
fR p 539 [23,2] "push" "Levels.push" "alikeheap.levels" 842,
fR p 546 [23,3] "pop" "Levels.pop" "alikeheap.levels" 842,
fC p 554 [23,4] "look_at" "Levels.look_at" "alikeheap.levels" 842 547,
fC p 562 [23,5] "join" "Levels.join" "alikeheap.levels" 842 555,
fR p 567 [23,6] "unmake" "Levels.unmake" "alikeheap.levels" 842,
fR p 574 [23,7] "unjoin" "Levels.unjoin" "alikeheap.levels" 842,
fR p 586 [25] "_law_pick" "_law_pick" "law_rh0019_01" 940,
fR p 591 [26] "_law_term" "_law_term" "law_rh0019_01" 940,
fR p 596 [27] "_law_more" "_law_more" "law_rh0019_01" 940,
fR p 601 [28] "_law_sides" "_law_sides" "law_rh0019_01" 940,
fR p 608 [29] "_law_labels" "_law_labels" "law_rh0019_01" 940,
fR p 613 [30] "_law_are_right" "_law_are_right" "law_rh0019_01" 940,
fR p 618 [31] "law" "law" "law_rh0019_01" 940,
(3,({cls:=.type "dict",data:=Data.dict #[en P "__name__" 165 (vS "law_rh0019_01" 940),en P "__doc__" 166 .none,en P "__package__" 167 .none,en P "__loader__" 168 (.builtin "__main__.__loader__#opaque"),en P "__spec__" 169 .none,en P "__annotations__" 170 (.ref 6),en P "__builtins__" 171 (.ref 4),en P "__file__" 173 (vS "/claim/cut.py" 172),en P "__cached__" 174 .none,en P "_wall" 193 (.ref 21),en P "HeapError" 233 (.ref 47),en P "TermFault" 249 (.ref 60),en P "PaperFault" 284 (.ref 88),en P "LimitFault" 300 (.ref 100),en P "MOST_NODES" 304 (.int 100000 303),en P "MOST_PARTS" 306 (.int 20000 305),en P "MOST_LEVELS" 308 (.int 100 307),en P "mark_of" 315 (.ref 109),en P "told_term" 323 (.ref 116),en P "paper_of_edge" 329 (.ref 121),en P "joined_row" 335 (.ref 126),en P "Whys" 426 (.ref 176),en P "is_op" 434 (.ref 185),en P "Bank" 565 (.ref 289),en P "Unions" 670 (.ref 371),en P "Heap" 841 (.ref 505),en P "Levels" 939 (.ref 577),en P "_law_pick" 950 (.ref 586),en P "_law_term" 956 (.ref 591),en P "_law_more" 962 (.ref 596),en P "_law_sides" 968 (.ref 601),en P "_law_labels" 977 (.ref 608),en P "_law_are_right" 983 (.ref 613),en P "law" 989 (.ref 618)] 34}:Obj)),
cS 108 "mark_of" "mark_of" 309 29 1 313,
cS 115 "told_term" "told_term" 316 31 2 321,
cR 120 "paper_of_edge" "paper_of_edge" 324 35 2 327,
cR 125 "joined_row" "joined_row" 330 40 3 333,
cS 139 "__init__" "Whys.__init__" 348 48 2 353,
cS 146 "renewed" "Whys.renewed" 356 55 1 365,
cS 153 "path" "Whys.path" 368 64 4 382,
cS 167 "between" "Whys.between" 394 86 4 405,
cR 172 "of_edge" "Whys.of_edge" 408 93 2 411,
(175,({cls:=.type "dict",data:=Data.dict #[en P "__module__" 343 (vS "alikeheap.whys" 301),en P "__firstlineno__" 347 (.int 46 346),en P "__init__" 355 (.ref 140),en P "renewed" 367 (.ref 147),en P "path" 384 (.ref 154),en P "paper" 393 (.ref 161),en P "between" 407 (.ref 168),en P "of_edge" 413 (.ref 173),en P "__static_attributes__" 419 (.ref 174),en P "__dict__" 421 (.ref 177),en P "__weakref__" 423 (.ref 178),en P "__doc__" 424 .none] 4}:Obj)),
tR 176 "Whys" 336 344,
cR 184 "is_op" "is_op" 429 108 1 432,
cS 198 "__init__" "Bank.__init__" 447 112 1 451,
cS 205 "size" "Bank.size" 454 118 1 458,
cR 210 "take" "Bank.take" 461 121 3 464,
cS 217 "require" "Bank.require" 467 135 2 472,
cS 238 "cut" "Bank.cut" 491 145 2 496,
cS 245 "op" "Bank.op" 499 151 2 504,
cS 252 "kids" "Bank.kids" 507 154 2 512,
cR 264 "term" "Bank.term" 523 160 2 526,
cS 271 "weight" "Bank.weight" 529 172 2 534,
(288,({cls:=.type "dict",data:=Data.dict #[en P "__module__" 442 (vS "alikeheap.terms" 427),en P "__firstlineno__" 446 (.int 110 445),en P "__init__" 453 (.ref 199),en P "size" 460 (.ref 206),en P "take" 466 (.ref 211),en P "require" 474 (.ref 218),en P "put" 482 (.ref 225),en P "put_all" 490 (.ref 232),en P "cut" 498 (.ref 239),en P "op" 506 (.ref 246),en P "kids" 514 (.ref 253),en P "node" 522 (.ref 260),en P "term" 528 (.ref 265),en P "weight" 536 (.ref 272),en P "depth" 544 (.ref 279),en P "seek" 553 (.ref 286),en P "__static_attributes__" 558 (.ref 287),en P "__dict__" 560 (.ref 290),en P "__weakref__" 562 (.ref 291),en P "__doc__" 563 .none] 4}:Obj)),
tR 289 "Bank" 435 443,
cS 306 "__init__" "Unions.__init__" 580 183 1 584,
cS 313 "make" "Unions.make" 587 188 1 591,
cS 320 "size" "Unions.size" 594 193 1 598,
cS 327 "find" "Unions.find" 601 196 2 606,
cS 334 "merge" "Unions.merge" 609 201 3 617,
cS 341 "members" "Unions.members" 620 210 2 625,
cS 360 "back" "Unions.back" 641 219 2 648,
cS 367 "cut" "Unions.cut" 651 225 2 657,
(370,({cls:=.type "dict",data:=Data.dict #[en P "__module__" 575 (vS "alikeheap.unions" 566),en P "__firstlineno__" 579 (.int 181 578),en P "__init__" 586 (.ref 307),en P "make" 593 (.ref 314),en P "size" 600 (.ref 321),en P "find" 608 (.ref 328),en P "merge" 619 (.ref 335),en P "members" 627 (.ref 342),en P "classes" 633 (.ref 347),en P "log" 640 (.ref 354),en P "back" 650 (.ref 361),en P "cut" 659 (.ref 368),en P "__static_attributes__" 663 (.ref 369),en P "__dict__" 665 (.ref 372),en P "__weakref__" 667 (.ref 373),en P "__doc__" 668 .none] 4}:Obj)),
tR 371 "Unions" 568 576,
cS 388 "__init__" "Heap.__init__" 685 235 1 689,
cS 395 "size" "Heap.size" 692 245 1 696,
cR 400 "node" "Heap.node" 699 248 2 702,
cR 405 "add" "Heap.add" 705 251 3 708,
cS 419 "look_at" "Heap.look_at" 719 265 2 725,
cS 426 "find" "Heap.find" 728 270 2 733,
cS 440 "merge" "Heap.merge" 745 276 4 752,
cS 447 "join" "Heap.join" 755 279 4 765,
cS 454 "settle" "Heap.settle" 768 290 1 772,
(504,({cls:=.type "dict",data:=Data.dict #[en P "__module__" 680 (vS "alikeheap.heap" 671),en P "__firstlineno__" 684 (.int 233 683),en P "__init__" 691 (.ref 389),en P "size" 698 (.ref 396),en P "node" 704 (.ref 401),en P "add" 710 (.ref 406),en P "put" 718 (.ref 413),en P "look_at" 727 (.ref 420),en P "find" 735 (.ref 427),en P "are_like" 744 (.ref 434),en P "merge" 754 (.ref 441),en P "join" 767 (.ref 448),en P "settle" 774 (.ref 455),en P "is_settled" 781 (.ref 462),en P "classes" 788 (.ref 469),en P "members" 796 (.ref 476),en P "nodes_of" 804 (.ref 483),en P "many_nodes" 811 (.ref 490),en P "seek" 817 (.ref 495),en P "users" 825 (.ref 502),en P "__static_attributes__" 834 (.ref 503),en P "__dict__" 836 (.ref 506),en P "__weakref__" 838 (.ref 507),en P "__doc__" 839 .none] 4}:Obj)),
(505,({cls:=.type "type",data:=Data.cls {name:=Str.ofString "Heap",bases:=[.type "object"],mro:=[.ref 505,.type "object"],ns:=504,qualname:=Str.ofString "Heap",subclasses:=[.ref 577]},slots:=#[none,none,Option.some (vS "Heap" 673),Option.some (vS "Heap" 681),Option.some (.builtin "object.__new__"),Option.some (.bool Bool.true)]}:Obj)),
(513,({cls:=.type "cell",data:=Data.cell (Option.some (.ref 577))}:Obj)),
cS 524 "__init__" "Levels.__init__" 856 318 1 861,
cS 538 "push" "Levels.push" 871 327 1 875,
cS 545 "pop" "Levels.pop" 878 330 1 885,
cS 553 "look_at" "Levels.look_at" 888 345 2 895,
cS 561 "join" "Levels.join" 898 354 4 908,
cR 566 "unmake" "Levels.unmake" 911 359 2 914,
cS 573 "unjoin" "Levels.unjoin" 917 367 2 927,
(576,({cls:=.type "dict",data:=Data.dict #[en P "__module__" 851 (vS "alikeheap.levels" 842),en P "__firstlineno__" 855 (.int 316 854),en P "__init__" 863 (.ref 525),en P "depth" 870 (.ref 532),en P "push" 877 (.ref 539),en P "pop" 887 (.ref 546),en P "look_at" 897 (.ref 554),en P "join" 910 (.ref 562),en P "unmake" 916 (.ref 567),en P "unjoin" 929 (.ref 574),en P "__static_attributes__" 935 (.ref 575),en P "__doc__" 937 .none] 3}:Obj)),
(577,({cls:=.type "type",data:=Data.cls {name:=Str.ofString "Levels",bases:=[.ref 505],mro:=[.ref 577,.ref 505,.type "object"],ns:=576,qualname:=Str.ofString "Levels"},slots:=#[Option.some (.ref 510),none,Option.some (vS "Levels" 844),Option.some (vS "Levels" 852),Option.some (.builtin "object.__new__"),Option.some (.bool Bool.true)]}:Obj)),
cS 585 "_law_pick" "_law_pick" 942 376 2 948,
cR 590 "_law_term" "_law_term" 951 380 2 954,
cR 595 "_law_more" "_law_more" 957 382 3 960,
cR 600 "_law_sides" "_law_sides" 963 387 3 966,
cS 607 "_law_labels" "_law_labels" 969 402 1 975,
cR 612 "_law_are_right" "_law_are_right" 978 409 4 981,
cR 617 "law" "law" 984 425 1 987,
(1,boot_o_1 P),
(2,({cls:=.none,data:=Data.dict #[en P "type.__subclasses__.Exception.0" 230 (.int 47 0),en P "type.__subclasses__.Exception.n" 231 (.int 1 0)] 2}:Obj))
]
noncomputable def ti:List Nat:=[109,116,121,126,140,147,154,168,173,185,199,206,211,218,239,246,253,265,272,307,314,321,328,335,342,361,368,389,396,401,406,420,427,441,448,455,525,539,546,554,562,567,574,586,591,596,601,608,613,618,3,108,115,120,125,139,146,153,167,172,175,176,184,198,205,210,217,238,245,252,264,271,288,289,306,313,320,327,334,341,360,367,370,371,388,395,400,405,419,426,440,447,454,504,505,513,524,538,545,553,561,566,573,576,577,585,590,595,600,607,612,617,1,2]
noncomputable abbrev pw:=PySem.Challenge.pw_rh0019_01
end
end Mine
end
section
open PySem PySem.W PyProof.Rows PySem.Calls
namespace Mine
section
abbrev SB(G:Places)(d:Nat)(F:bS)(l:List Nat)(c:AS):Prop:=nE ⟨G,d,F,aY (aO pw l)⟩ (bj (aO pw l)) c
section
variable{G:Places} {d:Nat} {F:bS}
variable(W:Wd G) (V:Gl G) (O:∀sc,mv ⟨G,d,F,sc⟩) (OM:∀sc,xJ ⟨G,d,F,sc⟩)
include W V O OM
def Cg:AS:=aq (cH (cn [bJ (af "heap") "size" [],aCall [aU (af "heap") (ai "edges")] bx,aU (af "heap") (ai "backs")])) aG
noncomputable def yM:List String:=["heap"]
theorem Oq:SB G d F [10] Cg:=
 ag (bC (bA (.cons (bk W (O _) (ab rfl rfl) .nil (.mk _ rfl)) rfl (.cons (aX W V.len rfl rfl (aJ _) (.cons (ax W (ab rfl rfl) rfl) rfl .nil) cv) rfl (.cons (ax W (ab rfl rfl) rfl) rfl .nil))) rfl)) aw
def vW:AS:=aq (ed (bL (ay (bJ (aU (af "heap") (ai "bank")) "weight" [af "n"]) (aT 100000) fZ)) (aq iV aG) aG) (aq (cH (bJ (aU (af "heap") (ai "bank")) "term" [af "n"])) aG)
noncomputable def tj:List String:=["heap","n"]
theorem HX:SB G d F [11] vW:=
 ag (cf (a_ (bk W (O _) (ax W (ab rfl rfl) rfl) (.cons (ab rfl rfl) rfl .nil) (.mk _ rfl)) (HW W V.vU rfl rfl) k9 rfl) (ag fI aw) aw) (ag (bC (bk W (O _) (ax W (ab rfl rfl) rfl) (.cons (ab rfl rfl) rfl .nil) (.mk _ rfl))) aw)
def pV:AS:=aq (aF (ay (ay (aU (af "heap") (ai "edges")) (af "index") ah) (aT 2) ah) (aW "reason")) (aq (ed (bL (ay (ay (af "reason") (aT 0) ah) (de "told") oEq)) (aq (cH (cn [de "told",ay (af "reason") (aT 1) ah])) aG) aG) (aq iV aG))
noncomputable def og:List String:=["heap","index"]
theorem Aw:SB G d F [12] pV:=
 ag (az (aC (aC (ax W (aP rfl rfl) rfl) (ab rfl rfl)) aA) (aD rfl) rfl rfl rfl) (ag (cf (a_ (aC (ab rfl rfl) aA) bT fq rfl) (ag (bC (bA (.cons bT rfl (.cons (aC (ab rfl rfl) aA) rfl .nil)) rfl)) aw) aw) (ag fI aw))
def pW:Nat->AR:=dk ["row"] (aW "k") (jG (cn [de "join",ay (af "row") (af "k") ah,ay (af "row") (ay (af "k") (aT 1) bW) ah]))
def oh:AT:=bL (ay (aCall [af "row"] bx) (aT 1) fZ)
def oi:AS:=aq (aF (dE (xC [aT 0,ay (aCall [af "row"] bx) (aT 1) fk,aT 2]) ["row"] pW) (aW "late")) (aq (aF (ay (af "late") (f7 (af "row") (some (ay (aCall [af "row"] bx) (ay (aCall [af "row"] bx) (aT 2) oMod) fk)) none none) bW) (aW "row")) aG)
def oj:AS:=aq (cH (pP (bL (ay (aCall [af "row"] bx) (aT 1) oEq)) (ay (af "row") (aT 0) ah) (cn [de "same",gn .j0 [af "heap",af "a"]]))) aG
def tq:AS:=aq (aF (aCall [af "papers"] jH) (aW "row")) (aq (iS ["a","heap","row"] oh oi) oj)
noncomputable def q9:List String:=["heap","a","papers"]
theorem ES:SB G d F [13] tq:=
 ag (az (aX W V.list rfl rfl (cF _) (.cons (ab rfl rfl) rfl .nil) (uz W)) (oK rfl rfl) rfl rfl rfl) (ag (fF (a_ (aX W V.len rfl rfl (aJ _) (.cons (aP rfl rfl) rfl .nil) cv) aA k9 rfl) (ag (Ky (ns:=["row"]) (fs:=["row"]) rfl (n0 W V.range rfl (cF _) (.cons aA rfl (.cons (bQ (aX W V.len rfl rfl (aJ _) (.cons (aP rfl rfl) rfl .nil) cv) aA kC) rfl (.cons aA rfl .nil)))) (λ env x=>rfl) (aD rfl) (bA (.cons bT rfl (.cons (aC (aP rfl rfl) (ab rfl rfl)) rfl (.cons (aC (aP rfl rfl) (bQ (ab rfl rfl) aA d3)) rfl .nil))) rfl) rfl (λ env he=>by cases env;cases he;kernel_rfl)) (ag (az (bQ (ab rfl rfl) (e6 (aP rfl rfl) (.some (bQ (aX W V.len rfl rfl (aJ _) (.cons (aP rfl rfl) rfl .nil) cv) (bQ (aX W V.len rfl rfl (aJ _) (.cons (aP rfl rfl) rfl .nil) cv) aA Hg) kC)) .none .none) d3) (oK rfl rfl) rfl rfl rfl) aw))) (ag (bC (ft (a_ (aX W V.len rfl rfl (aJ _) (.cons (aP rfl rfl) rfl .nil) cv) aA fq rfl) (aC (aP rfl rfl) aA) (bA (.cons bT rfl (.cons (dp W (O _) V.yL rfl rfl (.cons (ab rfl rfl) rfl (.cons (ab rfl rfl) rfl .nil))) rfl .nil)) rfl))) aw))
def vX:AS:=aq (aF (af "heap") (dh (af "self") "heap")) (aq (aF (aT 0) (dh (af "self") "parts")) (aq (aF (aT 0) (dh (af "self") "level")) (aq (aF lP (dh (af "self") "mark")) (aq (aF (gN (.dI [])) (dh (af "self") "beside")) aG))))
noncomputable def tv:List String:=["self","heap"]
theorem HY:SB G d F [14,0] vX:=
 ag (az (ab rfl rfl) (bR W (ab rfl rfl)) rfl rfl rfl) (ag (az aA (bR W (ab rfl rfl)) rfl rfl rfl) (ag (az aA (bR W (ab rfl rfl)) rfl rfl rfl) (ag (az jm (bR W (ab rfl rfl)) rfl rfl rfl) (ag (az m9 (bR W (ab rfl rfl)) rfl rfl rfl) aw))))
def q_:AG:=aW "index"
def rb:AS:=aq (aF (ay (aU (aU (af "self") (ai "heap")) (ai "edges")) (af "index") ah) (fP [aW "a",aW "b",aW "reason"])) (aq (bN (dy (sW (aU (af "self") (ai "beside")) lj [af "a",da []] gA) (cn [af "index",af "b"]))) (aq (bN (dy (sW (aU (af "self") (ai "beside")) lj [af "b",da []] gA) (cn [af "index",af "a"]))) aG))
def yN:AS:=aq (aF (gn .nQ [aU (af "self") (ai "heap")]) (aW "mark")) (aq (ed (bL (ay (af "mark") (aU (af "self") (ai "mark")) fm)) (aq (aF (cn [af "mark",gN (.dI [])]) (fP [dh (af "self") "mark",dh (af "self") "beside"])) (aq (iO ["self"] (eP (aU (aU (af "self") (ai "heap")) (ai "forest"))) q_ rb) aG)) aG) aG)
noncomputable def vY:List String:=["self"]
theorem K4:SB G d F [14,1] yN:=
 ag (az (dp W (O _) V.Gm rfl rfl (.cons (ax W (ab rfl rfl) rfl) rfl .nil)) (aD rfl) rfl rfl rfl) (ag (cf (a_ (ab rfl rfl) (ax W (ab rfl rfl) rfl) j4 rfl) (ag (oL (bA (.cons (ab rfl rfl) rfl (.cons m9 rfl .nil)) rfl) (dJ (.cons (bR W (ab rfl rfl)) rfl (.cons (bR W (ab rfl rfl)) rfl .nil))) rfl (λ env he=>rfl) (λ env he=>by cases env;cases he;kernel_rfl)) (ag (eL (c_ (ax W (ax W (ab rfl rfl) rfl) rfl)) (aD rfl) (ag (az (aC (ax W (ax W (ab rfl rfl) rfl) rfl) (ab rfl rfl)) (dJ (.cons (aD rfl) rfl (.cons (aD rfl) rfl (.cons (aD rfl) rfl .nil)))) rfl rfl rfl) (ag (bh (cQ (vF W (ax W (ab rfl rfl) rfl) (.cons (ab rfl rfl) rfl (.cons (b0 .nil rfl) rfl .nil)) (.mk _ rfl)) (bA (.cons (ab rfl rfl) rfl (.cons (ab rfl rfl) rfl .nil)) rfl) rfl (.mk _ rfl)) rfl) (ag (bh (cQ (vF W (ax W (ab rfl rfl) rfl) (.cons (ab rfl rfl) rfl (.cons (b0 .nil rfl) rfl .nil)) (.mk _ rfl)) (bA (.cons (ab rfl rfl) rfl (.cons (ab rfl rfl) rfl .nil)) rfl) rfl (.mk _ rfl)) rfl) aw))) (λ env x=>rfl) (λ aa h=>.inl h)) aw)) aw) aw)
def yO:AG:=fP [aW "index",aW "other"]
def yP:AS:=aq (ed (um (bL (ay (af "index") (af "before") oLt)) (um (bL (ay (af "other") (af "came") fc)) A9)) (aq (aF (cn [af "here",af "index"]) (iN (af "came") (af "other"))) (aq (bN (dy (af "row") (af "other"))) aG)) aG) aG
def rd:AT:=um (bL (ay (af "spot") (aCall [af "row"] bx) oLt)) (um (bL (ay (af "b") (af "came") fc)) A9)
def rg:AS:=aq (oM (cn [ay (af "row") (af "spot") ah,ay (af "spot") (aT 1) bW]) [aW "spot",aW "here"]) (aq (iO ["a","b","before","came","here","row","self","spot"] (eP (Rc (aU (af "self") (ai "beside")) (af "here") (da []))) yO yP) aG)
def yQ:AT:=bL (ay (af "b") (af "a") fm)
def yR:AS:=aq (aF (ay (af "came") (af "b") ah) (fP [aW "here",aW "index"])) (aq (bN (dy (af "found") (cn [af "index",ay (ay (ay (aU (aU (af "self") (ai "heap")) (ai "edges")) (af "index") ah) (aT 0) ah) (af "here") fm]))) (aq (aF (af "here") (aW "b")) aG))
def yS:AS:=aq (cH (f7 (af "found") none none (some (uA 1)))) aG
def rh:AS:=aq (ed (bL (ay (af "b") (af "came") fc)) (aq iV aG) aG) (aq (aF (da []) (aW "found")) (aq (iS ["a","b","came","found","self"] yQ yR) yS))
def K5:AS:=aq (bN (bJ (af "self") "renewed" [])) (aq (oM (cn [xK (af "a") (cn []),da [af "a"],aT 0]) [aW "spot",aW "row",aW "came"]) (aq (iS ["a","b","before","came","row","self","spot"] rd rg) rh))
noncomputable def Gn:List String:=["self","a","b","before"]
theorem VI:SB G d F [14,2] K5:=
 ag (bh (bk W (O _) (ab rfl rfl) .nil (.mk _ rfl)) rfl) (ag (j6 (names:=[Str.ofString "came",Str.ofString "row",Str.ofString "spot"]) (bA (.cons (yC (ab rfl rfl) (bA .nil rfl)) rfl (.cons (b0 (.cons (ab rfl rfl) rfl .nil) rfl) rfl (.cons aA rfl .nil))) rfl) (.cons rfl (.cons rfl (.cons rfl .nil))) (λ env he=>rfl) (λ env he=>by cases env;cases he;kernel_rfl)) (ag (fF (xx (.cons (a_ (ab rfl rfl) (aX W V.len rfl rfl (aJ _) (.cons (ab rfl rfl) rfl .nil) cv) Hd rfl) (.cons (a_ (ab rfl rfl) (ab rfl rfl) (l7 W) rfl) .nil))) (ag (j6 (names:=[Str.ofString "here",Str.ofString "spot"]) (bA (.cons (aC (ab rfl rfl) (ab rfl rfl)) rfl (.cons (bQ (ab rfl rfl) aA d3) rfl .nil)) rfl) (.cons rfl (.cons rfl .nil)) (λ env he=>rfl) (λ env he=>by cases env;cases he;kernel_rfl)) (ag (eL (c_ (Sl W (ax W (ab rfl rfl) rfl) (ab rfl rfl) (b0 .nil rfl) rfl rfl (.mk _ rfl))) (dJ (.cons (aD rfl) rfl (.cons (aD rfl) rfl .nil))) (ag (cf (xx (.cons (a_ (ab rfl rfl) (ab rfl rfl) Hd rfl) (.cons (a_ (ab rfl rfl) (ab rfl rfl) (l7 W) rfl) .nil))) (ag (az (bA (.cons (ab rfl rfl) rfl (.cons (ab rfl rfl) rfl .nil)) rfl) (eJ (ab rfl rfl) (ab rfl rfl)) rfl rfl rfl) (ag (bh (cQ (ab rfl rfl) (ab rfl rfl) rfl (.mk _ rfl)) rfl) aw)) aw) aw) (λ env x=>rfl) (λ aa h=>.inl h)) aw))) (ag (cf (a_ (ab rfl rfl) (ab rfl rfl) (l7 W) rfl) (ag fI aw) aw) (ag (az (b0 .nil rfl) (aD rfl) rfl rfl rfl) (ag (fF (a_ (ab rfl rfl) (ab rfl rfl) j4 rfl) (ag (az (aC (ab rfl rfl) (ab rfl rfl)) (dJ (.cons (aD rfl) rfl (.cons (aD rfl) rfl .nil))) rfl rfl rfl) (ag (bh (cQ (ab rfl rfl) (bA (.cons (ab rfl rfl) rfl (.cons (qx (aC (aC (ax W (ax W (ab rfl rfl) rfl) rfl) (ab rfl rfl)) aA) (ab rfl rfl) j4 rfl) rfl .nil)) rfl) rfl (.mk _ rfl)) rfl) (ag (az (ab rfl rfl) (aD rfl) rfl rfl rfl) aw)))) (ag (bC (e6 (ab rfl rfl) .none .none (.some n9))) aw))))))
def ri:AG:=fP [aW "index",aW "is_back"]
def rj:AS:=aq (aF (bJ (af "self") "of_edge" [af "index"]) (aW "paper")) (aq (bN (dy (af "found") (pP (bL (af "is_back")) (cn [de "turn",af "paper"]) (af "paper")))) aG)
def rk:AS:=aq (cH (gn .jj [aU (af "self") (ai "heap"),af "a",af "found"])) aG
def yT:AS:=aq (aF (da []) (aW "found")) (aq (iO ["a","found","self"] (eP (bJ (af "self") "path" [af "a",af "b",af "before"])) ri rj) rk)
noncomputable def vZ:List String:=["self","a","b","before"]
theorem K6:SB G d F [14,4] yT:=
 ag (az (b0 .nil rfl) (aD rfl) rfl rfl rfl) (ag (eL (c_ (bk W (O _) (ab rfl rfl) (.cons (ab rfl rfl) rfl (.cons (ab rfl rfl) rfl (.cons (ab rfl rfl) rfl .nil))) (.mk _ rfl))) (dJ (.cons (aD rfl) rfl (.cons (aD rfl) rfl .nil))) (ag (az (bk W (O _) (ab rfl rfl) (.cons (ab rfl rfl) rfl .nil) (.mk _ rfl)) (aD rfl) rfl rfl rfl) (ag (bh (cQ (ab rfl rfl) (ft (se (ab rfl rfl) (λ env whole=>rfl)) (bA (.cons bT rfl (.cons (ab rfl rfl) rfl .nil)) rfl) (ab rfl rfl)) rfl (.mk _ rfl)) rfl) aw)) (λ env x=>rfl) (λ aa h=>.inl h)) (ag (bC (dp W (O _) V.vT rfl rfl (.cons (ax W (ab rfl rfl) rfl) rfl (.cons (ab rfl rfl) rfl (.cons (ab rfl rfl) rfl .nil))))) aw))
def v5:Nat->AR:=oU ["index","self"] (fP [aW "x",aW "y"]) (bJ (af "self") "between" [af "x",af "y",af "index"])
def Ci:AS:=aq (aF (ay (aU (af "self") (ai "parts")) (aT 1) bW) (dh (af "self") "parts")) (aq (ed (bL (ay (aU (af "self") (ai "parts")) (aT 20000) fZ)) (aq iV aG) aG) (aq (aF (ay (aU (aU (af "self") (ai "heap")) (ai "edges")) (af "index") ah) (fP [aW "a",aW "b",aW "reason"])) (aq (ed (bL (ay (ay (af "reason") (aT 0) ah) (de "like") fm)) (aq (cH (gn .gV [aU (af "self") (ai "heap"),af "index"])) aG) aG) (aq (aF (ay (aU (af "self") (ai "level")) (aT 1) bW) (dh (af "self") "level")) (aq (ed (bL (ay (aU (af "self") (ai "level")) (aT 100) fZ)) (aq iV aG) aG) (aq (aF (aCall [bJ (aU (aU (af "self") (ai "heap")) (ai "bank")) "kids" [af "a"],bJ (aU (aU (af "self") (ai "heap")) (ai "bank")) "kids" [af "b"]] B6) (aW "pairs")) (aq (aF (cn [de "under",bJ (aU (aU (af "self") (ai "heap")) (ai "bank")) "op" [af "a"],aCall [dE (N_ (af "pairs")) ["index","self"] (v5)] d8]) (aW "found")) (aq (aF (ay (aU (af "self") (ai "level")) (aT 1) fk) (dh (af "self") "level")) (aq (cH (af "found")) aG)))))))))
noncomputable def yU:List String:=["self","index"]
theorem Ot:SB G d F [14,5] Ci:=
 ag (az (bQ (ax W (aP rfl rfl) rfl) aA d3) (bR W (aP rfl rfl)) rfl rfl rfl) (ag (cf (a_ (ax W (aP rfl rfl) rfl) (HW W V.vV rfl rfl) k9 rfl) (ag fI aw) aw) (ag (az (aC (ax W (ax W (aP rfl rfl) rfl) rfl) (aP rfl rfl)) (dJ (.cons (aD rfl) rfl (.cons (aD rfl) rfl (.cons (aD rfl) rfl .nil)))) rfl rfl rfl) (ag (cf (a_ (aC (ab rfl rfl) aA) bT j4 rfl) (ag (bC (dp W (O _) V.pU rfl rfl (.cons (ax W (aP rfl rfl) rfl) rfl (.cons (aP rfl rfl) rfl .nil)))) aw) aw) (ag (az (bQ (ax W (aP rfl rfl) rfl) aA d3) (bR W (aP rfl rfl)) rfl rfl rfl) (ag (cf (a_ (ax W (aP rfl rfl) rfl) (HW W V.th rfl rfl) k9 rfl) (ag fI aw) aw) (ag (az (aX W V.zip rfl rfl (cF _) (.cons (bk W (O _) (ax W (ax W (aP rfl rfl) rfl) rfl) (.cons (ab rfl rfl) rfl .nil) (.mk _ rfl)) rfl (.cons (bk W (O _) (ax W (ax W (aP rfl rfl) rfl) rfl) (.cons (ab rfl rfl) rfl .nil) (.mk _ rfl)) rfl .nil)) Vh) (aD rfl) rfl rfl rfl) (ag (az (bA (.cons bT rfl (.cons (bk W (O _) (ax W (ax W (aP rfl rfl) rfl) rfl) (.cons (ab rfl rfl) rfl .nil) (.mk _ rfl)) rfl (.cons (aX W V.tuple rfl rfl (cF _) (.cons (Ys (ns:=["index","self"]) (fs:=["index","self"]) rfl (ab rfl rfl) (λ env x=>rfl) (dJ (.cons (aD rfl) rfl (.cons (aD rfl) rfl .nil))) (bk W (O _) (aP rfl rfl) (.cons (ab rfl rfl) rfl (.cons (ab rfl rfl) rfl (.cons (aP rfl rfl) rfl .nil))) (.mk _ rfl))) rfl .nil) ip) rfl .nil))) rfl) (aD rfl) rfl rfl rfl) (ag (az (bQ (ax W (aP rfl rfl) rfl) aA kC) (bR W (aP rfl rfl)) rfl rfl rfl) (ag (bC (ab rfl rfl)) aw)))))))))
def Cj:Nat->AR:=dk [] (aW "sign") (F4 (pO (bL (B2 (af "sign"))) (pO (bL (ay (af "sign") (de "()[]{},:") (so "()[]{},:"))) nW)) (af "sign"))
def K7:AS:=aq (cH (NM (ay (af "text") (de "") fm) (ay (dE (eP (af "text")) [] Cj) (da []) uB))) aG
noncomputable def Gp:List String:=["text"]
theorem VJ:SB G d F [16] K7:=
 ag (bC (FU (qx (ab rfl rfl) bT j4 rfl) (qx (Rl (ns:=[]) (fs:=[]) rfl (c_ (ab rfl rfl)) (λ env x=>rfl) (aD rfl) (qz (.cons (se (HI W (ab rfl rfl) (.mk _ rfl)) (λ env whole=>rfl)) (.cons (a_ (ab rfl rfl) bT N5 rfl) .nil))) (ab rfl rfl)) (b0 .nil rfl) Ro rfl))) aw
def v7:AS:=aq (aF (da []) (dh (af "self") "nodes")) (aq (aF (gN (.dT [])) (dh (af "self") "numbers")) (aq (aF (da []) (dh (af "self") "weights")) (aq (aF (da []) (dh (af "self") "depths")) aG)))
noncomputable def tw:List String:=["self"]
theorem HZ:SB G d F [17,0] v7:=
 ag (az (b0 .nil rfl) (bR W (ab rfl rfl)) rfl rfl rfl) (ag (az yv (bR W (ab rfl rfl)) rfl rfl rfl) (ag (az (b0 .nil rfl) (bR W (ab rfl rfl)) rfl rfl rfl) (ag (az (b0 .nil rfl) (bR W (ab rfl rfl)) rfl rfl rfl) aw)))
def v8:AS:=aq (cH (aCall [aU (af "self") (ai "nodes")] bx)) aG
noncomputable def tx:List String:=["self"]
theorem H2:SB G d F [17,1] v8:=
 ag (bC (aX W V.len rfl rfl (aJ _) (.cons (ax W (ab rfl rfl) rfl) rfl .nil) cv)) aw
def yV:AG:=aW "kid"
def yW:AS:=aq (ed (Hk (BF (aT 0) (af "kid") (aCall [aU (af "self") (ai "nodes")] bx))) (aq iV aG) aG) aG
def Ck:Nat->AR:=dk ["self"] (aW "kid") (jG (ay (aU (af "self") (ai "weights")) (af "kid") ah))
def Cm:Nat->AR:=dk ["self"] (aW "kid") (jG (ay (aU (af "self") (ai "depths")) (af "kid") ah))
def yX:AS:=aq (aF (aCall [aU (af "self") (ai "nodes")] bx) (iN (aU (af "self") (ai "numbers")) (af "node"))) (aq (bN (dy (aU (af "self") (ai "nodes")) (af "node"))) (aq (bN (dy (aU (af "self") (ai "weights")) (ay (aT 1) (aCall [dE (eP (f7 (af "node") (some (aT 1)) none none)) ["self"] (Ck)] BL) bW))) (aq (bN (dy (aU (af "self") (ai "depths")) (ay (aT 1) (aCall [ay (dE (eP (f7 (af "node") (some (aT 1)) none none)) ["self"] Cm) (da [aT 0]) bW] j7) bW))) (aq (cH (ay (aCall [aU (af "self") (ai "nodes")] bx) (aT 1) fk)) aG))))
def K8:AS:=aq (aF (ay (cn [af "op"]) (aCall [af "kids"] d8) bW) (aW "node")) (aq (ed (bL (ay (af "node") (aU (af "self") (ai "numbers")) n4)) (aq (cH (ay (aU (af "self") (ai "numbers")) (af "node") ah)) aG) aG) (aq (bN (bJ (af "self") "require" [af "op"])) (aq (iO ["node","self"] (eP (f7 (af "node") (some (aT 1)) none none)) yV yW) yX)))
noncomputable def Gq:List String:=["self","op","kids"]
theorem VK:SB G d F [17,2] K8:=
 ag (az (bQ (bA (.cons (ab rfl rfl) rfl .nil) rfl) (aX W V.tuple rfl rfl (cF _) (.cons (ab rfl rfl) rfl .nil) ip) d3) (aD rfl) rfl rfl rfl) (ag (cf (a_ (ab rfl rfl) (ax W (aP rfl rfl) rfl) (Hv W) rfl) (ag (bC (aC (ax W (aP rfl rfl) rfl) (ab rfl rfl))) aw) aw) (ag (bh (bk W (O _) (aP rfl rfl) (.cons (ab rfl rfl) rfl .nil) (.mk _ rfl)) rfl) (ag (eL (c_ (e6 (ab rfl rfl) (.some aA) .none .none)) (aD rfl) (ag (cf (xw (EK aA (ab rfl rfl) (aX W V.len rfl rfl (aJ _) (.cons (ax W (aP rfl rfl) rfl) rfl .nil) cv) rfl)) (ag fI aw) aw) aw) (λ env x=>rfl) (λ aa h=>.inl h)) (ag (az (aX W V.len rfl rfl (aJ _) (.cons (ax W (aP rfl rfl) rfl) rfl .nil) cv) (eJ (ax W (aP rfl rfl) rfl) (ab rfl rfl)) rfl rfl rfl) (ag (bh (cQ (ax W (aP rfl rfl) rfl) (ab rfl rfl) rfl (.mk _ rfl)) rfl) (ag (bh (cQ (ax W (aP rfl rfl) rfl) (bQ aA (aX W V.sum rfl rfl (aJ _) (.cons (i6 (ns:=["self"]) (fs:=["self"]) rfl (c_ (e6 (ab rfl rfl) (.some aA) .none .none)) (λ env x=>rfl) (aD rfl) (aC (ax W (aP rfl rfl) rfl) (ab rfl rfl))) rfl .nil) UI) d3) rfl (.mk _ rfl)) rfl) (ag (bh (cQ (ax W (aP rfl rfl) rfl) (bQ aA (aX W V.max rfl rfl (aJ _) (.cons (bQ (i6 (ns:=["self"]) (fs:=["self"]) rfl (c_ (e6 (ab rfl rfl) (.some aA) .none .none)) (λ env x=>rfl) (aD rfl) (aC (ax W (aP rfl rfl) rfl) (ab rfl rfl))) (b0 (.cons aA rfl .nil) rfl) d3) rfl .nil) vA) d3) rfl (.mk _ rfl)) rfl) (ag (bC (bQ (aX W V.len rfl rfl (aJ _) (.cons (ax W (aP rfl rfl) rfl) rfl .nil) cv) aA kC)) aw))))))))
def yY:AS:=aq (ed (pO (Hk (bL (gn .xq [af "op"]))) (pO (bL (ay (ay (af "op") (aT 0) ah) (de "?") oEq)) nW)) (aq iV aG) aG) aG
noncomputable def v9:List String:=["self","op"]
theorem K9:SB G d F [17,3] yY:=
 ag (cf (qz (.cons (xw (se (dp W (O _) V.RI rfl rfl (.cons (ab rfl rfl) rfl .nil)) (λ env whole=>rfl))) (.cons (a_ (aC (ab rfl rfl) aA) bT fq rfl) .nil))) (ag fI aw) aw) aw
def rl:AT:=bL (ay (aCall [aU (af "self") (ai "nodes")] bx) (aCall [af "many",aT 0] j7) fZ)
def rm:AS:=aq (bN (sW (aU (af "self") (ai "numbers")) uw [j9 (aU (af "self") (ai "nodes"))] vJ)) (aq (bN (j9 (aU (af "self") (ai "weights")))) (aq (bN (j9 (aU (af "self") (ai "depths")))) aG))
def yZ:AS:=aq (iS ["many","self"] rl rm) aG
noncomputable def v_:List String:=["self","many"]
theorem K_:SB G d F [17,6] yZ:=
 ag (fF (a_ (aX W V.len rfl rfl (aJ _) (.cons (ax W (ab rfl rfl) rfl) rfl .nil) cv) (aX W V.max rfl rfl (aJ _) (.cons (ab rfl rfl) rfl (.cons aA rfl .nil)) vA) k9 rfl) (ag (bh (So W (ax W (ab rfl rfl) rfl) (.cons (gM (ax W (ab rfl rfl) rfl) (.mk _ rfl)) rfl .nil) (.mk _ rfl)) rfl) (ag (bh (gM (ax W (ab rfl rfl) rfl) (.mk _ rfl)) rfl) (ag (bh (gM (ax W (ab rfl rfl) rfl) (.mk _ rfl)) rfl) aw)))) aw
def VL:AS:=aq (cH (ay (ay (aU (af "self") (ai "nodes")) (af "n") ah) (aT 0) ah)) aG
noncomputable def RJ:List String:=["self","n"]
theorem aaI:SB G d F [17,7] VL:=
 ag (bC (aC (aC (ax W (ab rfl rfl) rfl) (ab rfl rfl)) aA)) aw
def La:AS:=aq (cH (f7 (ay (aU (af "self") (ai "nodes")) (af "n") ah) (some (aT 1)) none none)) aG
noncomputable def Gr:List String:=["self","n"]
theorem VM:SB G d F [17,8] La:=
 ag (bC (e6 (aC (ax W (ab rfl rfl) rfl) (ab rfl rfl)) (.some aA) .none .none)) aw
def y0:AG:=aW "kid"
def y1:AS:=aq (ed (bL (ay (af "kid") (af "below") fc)) (aq (aF (lQ true) (iN (af "below") (af "kid"))) (aq (bN (dy (af "stack") (af "kid"))) aG)) aG) aG
def rn:AT:=bL (ay (aCall [af "stack"] bx) (aT 0) fZ)
def ro:AS:=aq (iO ["below","n","self","stack"] (eP (bJ (af "self") "kids" [j9 (af "stack")])) y0 y1) aG
def Cn:Nat->AR:=dk ["made"] (aW "kid") (jG (ay (af "made") (af "kid") ah))
def y2:AG:=aW "k"
def y3:AS:=aq (aF (ay (cn [bJ (af "self") "op" [af "k"]]) (aCall [dE (eP (bJ (af "self") "kids" [af "k"])) ["made"] (Cn)] d8) bW) (iN (af "made") (af "k"))) aG
def y4:AS:=aq (cH (ay (af "made") (af "n") ah)) aG
def rp:AS:=aq (aF (gN (.dI [])) (aW "made")) (aq (iO ["made","n","self"] (eP (aCall [af "below"] dA)) y2 y3) y4)
def Lb:AS:=aq (oM (cn [xK (af "n") (lQ true),da [af "n"]]) [aW "stack",aW "below"]) (aq (iS ["below","n","self","stack"] rn ro) rp)
noncomputable def Gs:List String:=["self","n"]
theorem VN:SB G d F [17,10] Lb:=
 ag (j6 (names:=[Str.ofString "below",Str.ofString "stack"]) (bA (.cons (yC (ab rfl rfl) jn) rfl (.cons (b0 (.cons (ab rfl rfl) rfl .nil) rfl) rfl .nil)) rfl) (.cons rfl (.cons rfl .nil)) (λ env he=>rfl) (λ env he=>by cases env;cases he;kernel_rfl)) (ag (fF (a_ (aX W V.len rfl rfl (aJ _) (.cons (ab rfl rfl) rfl .nil) cv) aA k9 rfl) (ag (eL (c_ (bk W (O _) (ab rfl rfl) (.cons (gM (ab rfl rfl) (.mk _ rfl)) rfl .nil) (.mk _ rfl))) (aD rfl) (ag (cf (a_ (ab rfl rfl) (ab rfl rfl) (l7 W) rfl) (ag (az jn (eJ (ab rfl rfl) (ab rfl rfl)) rfl rfl rfl) (ag (bh (cQ (ab rfl rfl) (ab rfl rfl) rfl (.mk _ rfl)) rfl) aw)) aw) aw) (λ env x=>rfl) (λ aa h=>.inl h)) aw)) (ag (az m9 (oK rfl rfl) rfl rfl rfl) (ag (eL (c_ (aX W V.sorted rfl rfl (aJ _) (.cons (ab rfl rfl) rfl .nil) (iC W))) (aD rfl) (ag (az (bQ (bA (.cons (bk W (O _) (ab rfl rfl) (.cons (ab rfl rfl) rfl .nil) (.mk _ rfl)) rfl .nil) rfl) (aX W V.tuple rfl rfl (cF _) (.cons (i6 (ns:=["made"]) (fs:=["made"]) rfl (c_ (bk W (O _) (ab rfl rfl) (.cons (ab rfl rfl) rfl .nil) (.mk _ rfl))) (λ env x=>rfl) (aD rfl) (aC (aP rfl rfl) (ab rfl rfl))) rfl .nil) ip) d3) (eJ (aP rfl rfl) (ab rfl rfl)) rfl rfl rfl) aw) (λ env x=>rfl) (λ aa h=>.inl h)) (ag (bC (aC (aP rfl rfl) (ab rfl rfl))) aw))))
def Cp:AS:=aq (cH (ay (aU (af "self") (ai "weights")) (af "n") ah)) aG
noncomputable def y5:List String:=["self","n"]
theorem Ou:SB G d F [17,11] Cp:=
 ag (bC (aC (ax W (ab rfl rfl) rfl) (ab rfl rfl))) aw
def rq:AS:=aq (aF (da []) (dh (af "self") "above")) (aq (aF (da []) (dh (af "self") "lots")) (aq (aF (da []) (dh (af "self") "merged")) aG))
noncomputable def pX:List String:=["self"]
theorem Cq:SB G d F [19,0] rq:=
 ag (az (b0 .nil rfl) (bR W (ab rfl rfl)) rfl rfl rfl) (ag (az (b0 .nil rfl) (bR W (ab rfl rfl)) rfl rfl rfl) (ag (az (b0 .nil rfl) (bR W (ab rfl rfl)) rfl rfl rfl) aw))
def Lc:AS:=aq (bN (dy (aU (af "self") (ai "above")) (aCall [aU (af "self") (ai "above")] bx))) (aq (bN (dy (aU (af "self") (ai "lots")) (da [aCall [aU (af "self") (ai "lots")] bx]))) (aq (cH (ay (aCall [aU (af "self") (ai "above")] bx) (aT 1) fk)) aG))
noncomputable def Gu:List String:=["self"]
theorem VO:SB G d F [19,1] Lc:=
 ag (bh (cQ (ax W (ab rfl rfl) rfl) (aX W V.len rfl rfl (aJ _) (.cons (ax W (ab rfl rfl) rfl) rfl .nil) cv) rfl (.mk _ rfl)) rfl) (ag (bh (cQ (ax W (ab rfl rfl) rfl) (b0 (.cons (aX W V.len rfl rfl (aJ _) (.cons (ax W (ab rfl rfl) rfl) rfl .nil) cv) rfl .nil) rfl) rfl (.mk _ rfl)) rfl) (ag (bC (bQ (aX W V.len rfl rfl (aJ _) (.cons (ax W (ab rfl rfl) rfl) rfl .nil) cv) aA kC)) aw))
def rr:AS:=aq (cH (aCall [aU (af "self") (ai "above")] bx)) aG
noncomputable def pY:List String:=["self"]
theorem Cr:SB G d F [19,2] rr:=
 ag (bC (aX W V.len rfl rfl (aJ _) (.cons (ax W (ab rfl rfl) rfl) rfl .nil) cv)) aw
def wa:AT:=bL (ay (ay (aU (af "self") (ai "above")) (af "a") ah) (af "a") fm)
def wb:AS:=aq (aF (ay (aU (af "self") (ai "above")) (af "a") ah) (aW "a")) aG
def wc:AS:=aq (cH (af "a")) aG
def Gv:AS:=aq (iS ["a","self"] wa wb) wc
noncomputable def Cs:List String:=["self","a"]
theorem Sx:SB G d F [19,3] Gv:=
 ag (fF (a_ (aC (ax W (ab rfl rfl) rfl) (ab rfl rfl)) (ab rfl rfl) j4 rfl) (ag (az (aC (ax W (ab rfl rfl) rfl) (ab rfl rfl)) (aD rfl) rfl rfl rfl) aw)) (ag (bC (ab rfl rfl)) aw)
def Ct:AS:=aq (aF (aCall [da [bJ (af "self") "find" [af "a"],bJ (af "self") "find" [af "b"]]] dA) (fP [aW "kept",aW "gone"])) (aq (ed (bL (ay (af "kept") (af "gone") oEq)) (aq (cH lP) aG) aG) (aq (aF (af "kept") (iN (aU (af "self") (ai "above")) (af "gone"))) (aq (bN (sh (ay (aU (af "self") (ai "lots")) (af "kept") ah) (ay (aU (af "self") (ai "lots")) (af "gone") ah))) (aq (bN (dy (aU (af "self") (ai "merged")) (cn [af "kept",af "gone"]))) (aq (cH (cn [af "kept",af "gone"])) aG)))))
noncomputable def y6:List String:=["self","a","b"]
theorem Ov:SB G d F [19,4] Ct:=
 ag (az (aX W V.sorted rfl rfl (aJ _) (.cons (b0 (.cons (bk W (O _) (ab rfl rfl) (.cons (ab rfl rfl) rfl .nil) (.mk _ rfl)) rfl (.cons (bk W (O _) (ab rfl rfl) (.cons (ab rfl rfl) rfl .nil) (.mk _ rfl)) rfl .nil)) rfl) rfl .nil) (iC W)) (dJ (.cons (aD rfl) rfl (.cons (aD rfl) rfl .nil))) rfl rfl rfl) (ag (cf (a_ (ab rfl rfl) (ab rfl rfl) fq rfl) (ag (bC jm) aw) aw) (ag (az (ab rfl rfl) (eJ (ax W (ab rfl rfl) rfl) (ab rfl rfl)) rfl rfl rfl) (ag (bh (qM (aC (ax W (ab rfl rfl) rfl) (ab rfl rfl)) (aC (ax W (ab rfl rfl) rfl) (ab rfl rfl)) rfl (.mk _ rfl)) rfl) (ag (bh (cQ (ax W (ab rfl rfl) rfl) (bA (.cons (ab rfl rfl) rfl (.cons (ab rfl rfl) rfl .nil)) rfl) rfl (.mk _ rfl)) rfl) (ag (bC (bA (.cons (ab rfl rfl) rfl (.cons (ab rfl rfl) rfl .nil)) rfl)) aw)))))
def y7:AS:=aq (cH (aCall [ay (aU (af "self") (ai "lots")) (bJ (af "self") "find" [af "a"]) ah] dA)) aG
noncomputable def wd:List String:=["self","a"]
theorem Ld:SB G d F [19,5] y7:=
 ag (bC (aX W V.sorted rfl rfl (aJ _) (.cons (aC (ax W (ab rfl rfl) rfl) (bk W (O _) (ab rfl rfl) (.cons (ab rfl rfl) rfl .nil) (.mk _ rfl))) rfl .nil) (iC W))) aw
def y8:AT:=bL (ay (aCall [aU (af "self") (ai "merged")] bx) (aCall [af "many",aT 0] j7) fZ)
def y9:AS:=aq (aF (j9 (aU (af "self") (ai "merged"))) (fP [aW "kept",aW "gone"])) (aq (aF (af "gone") (iN (aU (af "self") (ai "above")) (af "gone"))) (aq (oS (ay (aU (af "self") (ai "lots")) (af "kept") ah) (ay (aCall [ay (aU (af "self") (ai "lots")) (af "kept") ah] bx) (aCall [ay (aU (af "self") (ai "lots")) (af "gone") ah] bx) fk)) aG))
def Lf:AS:=aq (iS ["many","self"] y8 y9) aG
noncomputable def Gw:List String:=["self","many"]
theorem VP:SB G d F [19,8] Lf:=
 ag (fF (a_ (aX W V.len rfl rfl (aJ _) (.cons (ax W (ab rfl rfl) rfl) rfl .nil) cv) (aX W V.max rfl rfl (aJ _) (.cons (ab rfl rfl) rfl (.cons aA rfl .nil)) vA) k9 rfl) (ag (az (gM (ax W (ab rfl rfl) rfl) (.mk _ rfl)) (dJ (.cons (aD rfl) rfl (.cons (aD rfl) rfl .nil))) rfl rfl rfl) (ag (az (ab rfl rfl) (eJ (ax W (ab rfl rfl) rfl) (ab rfl rfl)) rfl rfl rfl) (ag (nH (aC (ax W (ab rfl rfl) rfl) (ab rfl rfl)) (bQ (aX W V.len rfl rfl (aJ _) (.cons (aC (ax W (ab rfl rfl) rfl) (ab rfl rfl)) rfl .nil) cv) (aX W V.len rfl rfl (aJ _) (.cons (aC (ax W (ab rfl rfl) rfl) (ab rfl rfl)) rfl .nil) cv) kC)) aw)))) aw
def y_:AG:=aW "a"
def y':AS:=aq (ed (bL (ay (bJ (af "self") "members" [af "a"]) (da [af "a"]) uC)) (aq iV aG) aG) aG
def za:AS:=aq (oS (aU (af "self") (ai "above")) (af "many")) (aq (oS (aU (af "self") (ai "lots")) (af "many")) aG)
def Lh:AS:=aq (aF (aCall [af "many",aT 0] j7) (aW "many")) (aq (iO ["many","self"] (xC [af "many",aCall [aU (af "self") (ai "above")] bx]) y_ y') za)
noncomputable def Gx:List String:=["self","many"]
theorem VQ:SB G d F [19,9] Lh:=
 ag (az (aX W V.max rfl rfl (aJ _) (.cons (ab rfl rfl) rfl (.cons aA rfl .nil)) vA) (aD rfl) rfl rfl rfl) (ag (eL (n0 W V.range rfl (cF _) (.cons (ab rfl rfl) rfl (.cons (aX W V.len rfl rfl (aJ _) (.cons (ax W (ab rfl rfl) rfl) rfl .nil) cv) rfl .nil))) (aD rfl) (ag (cf (a_ (bk W (O _) (ab rfl rfl) (.cons (ab rfl rfl) rfl .nil) (.mk _ rfl)) (b0 (.cons (ab rfl rfl) rfl .nil) rfl) Rq rfl) (ag fI aw) aw) aw) (λ env x=>rfl) (λ aa h=>.inl h)) (ag (nH (ax W (ab rfl rfl) rfl) (ab rfl rfl)) (ag (nH (ax W (ab rfl rfl) rfl) (ab rfl rfl)) aw)))
def wg:AS:=aq (aF (KJ .bank []) (dh (af "self") "bank")) (aq (aF (KJ .fY []) (dh (af "self") "unions")) (aq (aF (da []) (dh (af "self") "edges")) (aq (aF (da []) (dh (af "self") "forest")) (aq (aF (gN (.dT [])) (dh (af "self") "known")) (aq (aF (gN (.dI [])) (dh (af "self") "above")) (aq (aF (da []) (dh (af "self") "waiting")) (aq (aF (aT 0) (dh (af "self") "backs")) aG)))))))
noncomputable def tA:List String:=["self"]
theorem H3:SB G d F [21,0] wg:=
 ag (az (vM W (OM _) V.Bank rfl rfl (nV (V.keep .bank)) .nil) (bR W (ab rfl rfl)) rfl rfl rfl) (ag (az (vM W (OM _) V.K0 rfl rfl (nV (V.keep .fY)) .nil) (bR W (ab rfl rfl)) rfl rfl rfl) (ag (az (b0 .nil rfl) (bR W (ab rfl rfl)) rfl rfl rfl) (ag (az (b0 .nil rfl) (bR W (ab rfl rfl)) rfl rfl rfl) (ag (az yv (bR W (ab rfl rfl)) rfl rfl rfl) (ag (az m9 (bR W (ab rfl rfl)) rfl rfl rfl) (ag (az (b0 .nil rfl) (bR W (ab rfl rfl)) rfl rfl rfl) (ag (az aA (bR W (ab rfl rfl)) rfl rfl rfl) aw)))))))
def wh:AS:=aq (cH (bJ (aU (af "self") (ai "bank")) "size" [])) aG
noncomputable def tB:List String:=["self"]
theorem H4:SB G d F [21,1] wh:=
 ag (bC (bk W (O _) (ax W (ab rfl rfl) rfl) .nil (.mk _ rfl))) aw
def Cu:Nat->AR:=dk ["self"] (aW "kid") (jG (bJ (af "self") "find" [af "kid"]))
def Li:AS:=aq (cH (ay (cn [bJ (aU (af "self") (ai "bank")) "op" [af "n"]]) (aCall [dE (eP (bJ (aU (af "self") (ai "bank")) "kids" [af "n"])) ["self"] (Cu)] d8) bW)) aG
noncomputable def Gy:List String:=["self","n"]
theorem VS:SB G d F [21,2] Li:=
 ag (bC (bQ (bA (.cons (bk W (O _) (ax W (aP rfl rfl) rfl) (.cons (ab rfl rfl) rfl .nil) (.mk _ rfl)) rfl .nil) rfl) (aX W V.tuple rfl rfl (cF _) (.cons (i6 (ns:=["self"]) (fs:=["self"]) rfl (c_ (bk W (O _) (ax W (aP rfl rfl) rfl) (.cons (ab rfl rfl) rfl .nil) (.mk _ rfl))) (λ env x=>rfl) (aD rfl) (bk W (O _) (aP rfl rfl) (.cons (ab rfl rfl) rfl .nil) (.mk _ rfl))) rfl .nil) ip) d3)) aw
def Gz:Nat->AR:=dk ["self"] (aW "kid") (jG (bJ (af "self") "find" [af "kid"]))
def Cv:AG:=aW "c"
def Cw:AS:=aq (bN (dy (ay (aU (af "self") (ai "above")) (af "c") ah) (af "n"))) aG
def Cy:AS:=aq (bN (bJ (af "self") "look_at" [af "n"])) (aq (cH (af "n")) aG)
def RK:AS:=aq (aF (bJ (aU (af "self") (ai "bank")) "take" [af "op",af "numbers"]) (aW "n")) (aq (ed (bL (ay (af "n") (bJ (aU (af "self") (ai "unions")) "size" []) oLt)) (aq (cH (af "n")) aG) aG) (aq (bN (bJ (aU (af "self") (ai "unions")) "make" [])) (aq (aF (da []) (iN (aU (af "self") (ai "above")) (af "n"))) (aq (iO ["n","self"] (eP (aCall [aCall [dE (eP (af "numbers")) ["self"] (Gz)] uF] dA)) Cv Cw) Cy))))
noncomputable def Lj:List String:=["self","op","numbers"]
theorem YA:SB G d F [21,3] RK:=
 ag (az (bk W (O _) (ax W (aP rfl rfl) rfl) (.cons (ab rfl rfl) rfl (.cons (ab rfl rfl) rfl .nil)) (.mk _ rfl)) (aD rfl) rfl rfl rfl) (ag (cf (a_ (ab rfl rfl) (bk W (O _) (ax W (aP rfl rfl) rfl) .nil (.mk _ rfl)) Hd rfl) (ag (bC (ab rfl rfl)) aw) aw) (ag (bh (bk W (O _) (ax W (aP rfl rfl) rfl) .nil (.mk _ rfl)) rfl) (ag (az (b0 .nil rfl) (eJ (ax W (aP rfl rfl) rfl) (ab rfl rfl)) rfl rfl rfl) (ag (eL (c_ (aX W V.sorted rfl rfl (aJ _) (.cons (aX W V.set rfl rfl (cF _) (.cons (i6 (ns:=["self"]) (fs:=["self"]) rfl (c_ (ab rfl rfl)) (λ env x=>rfl) (aD rfl) (bk W (O _) (aP rfl rfl) (.cons (ab rfl rfl) rfl .nil) (.mk _ rfl))) rfl .nil) Ce) rfl .nil) (iC W))) (aD rfl) (ag (bh (cQ (aC (ax W (aP rfl rfl) rfl) (ab rfl rfl)) (ab rfl rfl) rfl (.mk _ rfl)) rfl) aw) (λ env x=>rfl) (λ aa h=>.inl h)) (ag (bh (bk W (O _) (aP rfl rfl) (.cons (ab rfl rfl) rfl .nil) (.mk _ rfl)) rfl) (ag (bC (ab rfl rfl)) aw))))))
def zb:AS:=aq (aF (sW (aU (af "self") (ai "known")) uw [bJ (af "self") "node" [af "n"],af "n"] iq) (aW "other")) (aq (ed (bL (ay (bJ (af "self") "find" [af "other"]) (bJ (af "self") "find" [af "n"]) fm)) (aq (bN (bJ (af "self") "join" [af "other",af "n",cn [de "like"]])) aG) aG) aG)
noncomputable def wi:List String:=["self","n"]
theorem Ll:SB G d F [21,5] zb:=
 ag (az (HE W (ax W (ab rfl rfl) rfl) (.cons (bk W (O _) (ab rfl rfl) (.cons (ab rfl rfl) rfl .nil) (.mk _ rfl)) rfl (.cons (ab rfl rfl) rfl .nil)) (.mk _ rfl)) (aD rfl) rfl rfl rfl) (ag (cf (a_ (bk W (O _) (ab rfl rfl) (.cons (ab rfl rfl) rfl .nil) (.mk _ rfl)) (bk W (O _) (ab rfl rfl) (.cons (ab rfl rfl) rfl .nil) (.mk _ rfl)) j4 rfl) (ag (bh (bk W (O _) (ab rfl rfl) (.cons (ab rfl rfl) rfl (.cons (ab rfl rfl) rfl (.cons (bA (.cons bT rfl .nil) rfl) rfl .nil))) (.mk _ rfl)) rfl) aw) aw) aw)
def Lm:AS:=aq (cH (bJ (aU (af "self") (ai "unions")) "find" [af "n"])) aG
noncomputable def GA:List String:=["self","n"]
theorem VT:SB G d F [21,6] Lm:=
 ag (bC (bk W (O _) (ax W (ab rfl rfl) rfl) (.cons (ab rfl rfl) rfl .nil) (.mk _ rfl))) aw
def GB:AS:=aq (cH (bJ (af "self") "join" [af "a",af "b",af "reason"])) aG
noncomputable def Cz:List String:=["self","a","b","reason"]
theorem Sy:SB G d F [21,8] GB:=
 ag (bC (bk W (O _) (ab rfl rfl) (.cons (ab rfl rfl) rfl (.cons (ab rfl rfl) rfl (.cons (ab rfl rfl) rfl .nil))) (.mk _ rfl))) aw
def GC:AS:=aq (bN (dy (aU (af "self") (ai "edges")) (cn [af "a",af "b",af "reason"]))) (aq (aF (bJ (aU (af "self") (ai "unions")) "merge" [af "a",af "b"]) (aW "merged")) (aq (ed (bL (ay (af "merged") lP BC)) (aq (cH (lQ false)) aG) aG) (aq (aF (af "merged") (fP [aW "kept",aW "gone"])) (aq (bN (dy (aU (af "self") (ai "forest")) (ay (aCall [aU (af "self") (ai "edges")] bx) (aT 1) fk))) (aq (bN (sh (aU (af "self") (ai "waiting")) (ay (aU (af "self") (ai "above")) (af "gone") ah))) (aq (aF (ay (ay (aU (af "self") (ai "above")) (af "kept") ah) (sW (aU (af "self") (ai "above")) lj [af "gone"] sk) bW) (iN (aU (af "self") (ai "above")) (af "kept"))) (aq (cH (lQ true)) aG)))))))
noncomputable def CA:List String:=["self","a","b","reason"]
theorem Sz:SB G d F [21,9] GC:=
 ag (bh (cQ (ax W (ab rfl rfl) rfl) (bA (.cons (ab rfl rfl) rfl (.cons (ab rfl rfl) rfl (.cons (ab rfl rfl) rfl .nil))) rfl) rfl (.mk _ rfl)) rfl) (ag (az (bk W (O _) (ax W (ab rfl rfl) rfl) (.cons (ab rfl rfl) rfl (.cons (ab rfl rfl) rfl .nil)) (.mk _ rfl)) (aD rfl) rfl rfl rfl) (ag (cf (a_ (ab rfl rfl) jm Uu rfl) (ag (bC jn) aw) aw) (ag (az (ab rfl rfl) (dJ (.cons (aD rfl) rfl (.cons (aD rfl) rfl .nil))) rfl rfl rfl) (ag (bh (cQ (ax W (ab rfl rfl) rfl) (bQ (aX W V.len rfl rfl (aJ _) (.cons (ax W (ab rfl rfl) rfl) rfl .nil) cv) aA kC) rfl (.mk _ rfl)) rfl) (ag (bh (qM (ax W (ab rfl rfl) rfl) (aC (ax W (ab rfl rfl) rfl) (ab rfl rfl)) rfl (.mk _ rfl)) rfl) (ag (az (bQ (aC (ax W (ab rfl rfl) rfl) (ab rfl rfl)) (Sn W (ax W (ab rfl rfl) rfl) (.cons (ab rfl rfl) rfl .nil) (.mk _ rfl)) d3) (eJ (ax W (ab rfl rfl) rfl) (ab rfl rfl)) rfl rfl rfl) (ag (bC jn) aw)))))))
def tC:AT:=bL (ay (aCall [aU (af "self") (ai "waiting")] bx) (aT 0) fZ)
def tD:AS:=aq (bN (bJ (af "self") "look_at" [j9 (aU (af "self") (ai "waiting"))])) aG
def CB:AS:=aq (iS ["self"] tC tD) aG
noncomputable def zc:List String:=["self"]
theorem Ow:SB G d F [21,10] CB:=
 ag (fF (a_ (aX W V.len rfl rfl (aJ _) (.cons (ax W (ab rfl rfl) rfl) rfl .nil) cv) aA k9 rfl) (ag (bh (bk W (O _) (ab rfl rfl) (.cons (gM (ax W (ab rfl rfl) rfl) (.mk _ rfl)) rfl .nil) (.mk _ rfl)) rfl) aw)) aw
def rx:AS:=aq (bN (xM "__init__" [])) (aq (aF (da []) (dh (af "self") "changes")) (aq (aF (da []) (dh (af "self") "marks")) (aq (aF (aT 0) (dh (af "self") "made")) aG)))
noncomputable def ly:List String:=["self"]
theorem CC(WS:sY G){fd:FuncData}{oc:Value}{od:Option Addr}{gp:Array (Option Value)}{a:Addr}(pS:G.K.lookup a=some ⟨oc,od,.func fd,gp⟩)(FS:iB G a ly (aY (aO pw [23,0])) (bj (aO pw [23,0]))):
  i7 ⟨G,d,F,aY (aO pw [23,0])⟩ a fd (bj (aO pw [23,0])) (bj (aO pw [23,0])) rx:=
 pT W WS (O _) FS pS .nil rfl (λ env=>⟨_,rfl⟩) (λ env he=>by cases env;cases he;kernel_rfl) (λ env=>rfl) (fJ (az (b0 .nil rfl) (bR W (ab rfl rfl)) rfl rfl rfl) (fJ (az (b0 .nil rfl) (bR W (ab rfl rfl)) rfl rfl rfl) (fJ (az aA (bR W (ab rfl rfl)) rfl rfl rfl) qY)))
def Ln:AS:=aq (bN (dy (aU (af "self") (ai "marks")) (cn [aCall [aU (af "self") (ai "changes")] bx,aCall [aU (af "self") (ai "waiting")] jH]))) aG
noncomputable def GD:List String:=["self"]
theorem VU:SB G d F [23,2] Ln:=
 ag (bh (cQ (ax W (ab rfl rfl) rfl) (bA (.cons (aX W V.len rfl rfl (aJ _) (.cons (ax W (ab rfl rfl) rfl) rfl .nil) cv) rfl (.cons (aX W V.list rfl rfl (cF _) (.cons (ax W (ab rfl rfl) rfl) rfl .nil) (uz W)) rfl .nil)) rfl) rfl (.mk _ rfl)) rfl) aw
def CD:AT:=bL (ay (aCall [aU (af "self") (ai "changes")] bx) (af "many") fZ)
def CE:AS:=aq (aF (j9 (aU (af "self") (ai "changes"))) (aW "change")) (aq (ed (bL (ay (ay (af "change") (aT 0) ah) (de "made") oEq)) (aq (bN (bJ (af "self") "unmake" [ay (af "change") (aT 1) ah])) aG) (aq (ed (bL (ay (ay (af "change") (aT 0) ah) (de "known") oEq)) (aq (N1 (aU (af "self") (ai "known")) (ay (af "change") (aT 1) ah)) aG) (aq (bN (bJ (af "self") "unjoin" [af "change"])) aG)) aG)) aG)
def CF:AS:=aq (aF (af "waiting") (dh (af "self") "waiting")) aG
def RL:AS:=aq (ed (bL (ay (aCall [aU (af "self") (ai "marks")] bx) (aT 0) oEq)) (aq iV aG) aG) (aq (aF (j9 (aU (af "self") (ai "marks"))) (fP [aW "many",aW "waiting"])) (aq (aF (ay (aU (af "self") (ai "backs")) (aT 1) bW) (dh (af "self") "backs")) (aq (iS ["many","self","waiting"] CD CE) CF)))
noncomputable def Lo:List String:=["self"]
theorem s_pop:SB G d F [23,3] RL:=
 ag (cf (a_ (aX W V.len rfl rfl (aJ _) (.cons (ax W (ab rfl rfl) rfl) rfl .nil) cv) aA fq rfl) (ag fI aw) aw) (ag (az (gM (ax W (ab rfl rfl) rfl) (.mk _ rfl)) (dJ (.cons (aD rfl) rfl (.cons (aD rfl) rfl .nil))) rfl rfl rfl) (ag (az (bQ (ax W (ab rfl rfl) rfl) aA d3) (bR W (ab rfl rfl)) rfl rfl rfl) (ag (fF (a_ (aX W V.len rfl rfl (aJ _) (.cons (ax W (ab rfl rfl) rfl) rfl .nil) cv) (ab rfl rfl) k9 rfl) (ag (az (gM (ax W (ab rfl rfl) rfl) (.mk _ rfl)) (aD rfl) rfl rfl rfl) (ag (cf (a_ (aC (ab rfl rfl) aA) bT fq rfl) (ag (bh (bk W (O _) (ab rfl rfl) (.cons (aC (ab rfl rfl) aA) rfl .nil) (.mk _ rfl)) rfl) aw) (ag (cf (a_ (aC (ab rfl rfl) aA) bT fq rfl) (ag (F7 (ax W (ab rfl rfl) rfl) (aC (ab rfl rfl) aA)) aw) (ag (bh (bk W (O _) (ab rfl rfl) (.cons (ab rfl rfl) rfl .nil) (.mk _ rfl)) rfl) aw)) aw)) aw))) (ag (az (ab rfl rfl) (bR W (ab rfl rfl)) rfl rfl rfl) aw))))
def CG:AS:=aq (ed (bL (ay (af "n") (aU (af "self") (ai "made")) oEq)) (aq (bN (dy (aU (af "self") (ai "changes")) (cn [de "made",af "n"]))) (aq (aF (ay (af "n") (aT 1) bW) (dh (af "self") "made")) aG)) aG) (aq (aF (bJ (af "self") "node" [af "n"]) (aW "node")) (aq (ed (bL (ay (af "node") (aU (af "self") (ai "known")) fc)) (aq (bN (dy (aU (af "self") (ai "changes")) (cn [de "known",af "node"]))) aG) aG) (aq (bN (xM "look_at" [af "n"])) aG)))
noncomputable def ry:List String:=["self","n"]
theorem Ox(WS:sY G){fd:FuncData}{oc:Value}{od:Option Addr}{gp:Array (Option Value)}{a:Addr}(pS:G.K.lookup a=some ⟨oc,od,.func fd,gp⟩)(FS:iB G a ry (aY (aO pw [23,4])) (bj (aO pw [23,4]))):
  i7 ⟨G,d,F,aY (aO pw [23,4])⟩ a fd (bj (aO pw [23,4])) (bj (aO pw [23,4])) CG:=
 fJ (cf (a_ (ab rfl rfl) (ax W (ab rfl rfl) rfl) fq rfl) (ag (bh (cQ (ax W (ab rfl rfl) rfl) (bA (.cons bT rfl (.cons (ab rfl rfl) rfl .nil)) rfl) rfl (.mk _ rfl)) rfl) (ag (az (bQ (ab rfl rfl) aA d3) (bR W (ab rfl rfl)) rfl rfl rfl) aw)) aw) (fJ (az (bk W (O _) (ab rfl rfl) (.cons (ab rfl rfl) rfl .nil) (.mk _ rfl)) (aD rfl) rfl rfl rfl) (fJ (cf (a_ (ab rfl rfl) (ax W (ab rfl rfl) rfl) (l7 W) rfl) (ag (bh (cQ (ax W (ab rfl rfl) rfl) (bA (.cons bT rfl (.cons (ab rfl rfl) rfl .nil)) rfl) rfl (.mk _ rfl)) rfl) aw) aw) (pT W WS (O _) FS pS (.cons (ab rfl rfl) rfl .nil) rfl (λ env=>⟨_,rfl⟩) (λ env he=>by cases env;cases he;kernel_rfl) (λ env=>rfl) qY)))
def Lp:AS:=aq (aF (aCall [da [bJ (af "self") "find" [af "a"],bJ (af "self") "find" [af "b"]]] dA) (fP [aW "kept",aW "gone"])) (aq (bN (dy (aU (af "self") (ai "changes")) (cn [de "edge",af "kept",aCall [ay (aU (af "self") (ai "above")) (af "kept") ah] bx,af "gone",ay (aU (af "self") (ai "above")) (af "gone") ah]))) (aq (cH (xM "join" [af "a",af "b",af "reason"])) aG))
noncomputable def xR:List String:=["self","a","b","reason"]
theorem VV(WS:sY G){fd:FuncData}{oc:Value}{od:Option Addr}{gp:Array (Option Value)}{a:Addr}(pS:G.K.lookup a=some ⟨oc,od,.func fd,gp⟩)(FS:iB G a xR (aY (aO pw [23,5])) (bj (aO pw [23,5]))):
  i7 ⟨G,d,F,aY (aO pw [23,5])⟩ a fd (bj (aO pw [23,5])) (bj (aO pw [23,5])) Lp:=
 fJ (az (aX W V.sorted rfl rfl (aJ _) (.cons (b0 (.cons (bk W (O _) (ab rfl rfl) (.cons (ab rfl rfl) rfl .nil) (.mk _ rfl)) rfl (.cons (bk W (O _) (ab rfl rfl) (.cons (ab rfl rfl) rfl .nil) (.mk _ rfl)) rfl .nil)) rfl) rfl .nil) (iC W)) (dJ (.cons (aD rfl) rfl (.cons (aD rfl) rfl .nil))) rfl rfl rfl) (fJ (bh (cQ (ax W (ab rfl rfl) rfl) (bA (.cons bT rfl (.cons (ab rfl rfl) rfl (.cons (aX W V.len rfl rfl (aJ _) (.cons (aC (ax W (ab rfl rfl) rfl) (ab rfl rfl)) rfl .nil) cv) rfl (.cons (ab rfl rfl) rfl (.cons (aC (ax W (ab rfl rfl) rfl) (ab rfl rfl)) rfl .nil))))) rfl) rfl (.mk _ rfl)) rfl) (Cc W WS (O _) FS pS (.cons (ab rfl rfl) rfl (.cons (ab rfl rfl) rfl (.cons (ab rfl rfl) rfl .nil))) rfl (λ env=>⟨_,rfl⟩) qY))
def wj:Nat->AR:=dk ["self"] (aW "kid") (jG (bJ (af "self") "find" [af "kid"]))
def tE:AG:=aW "c"
def tF:AS:=aq (bN (j9 (ay (aU (af "self") (ai "above")) (af "c") ah))) aG
def tG:AS:=aq (N1 (aU (af "self") (ai "above")) (af "n")) (aq (bN (bJ (aU (af "self") (ai "unions")) "cut" [af "n"])) (aq (bN (bJ (aU (af "self") (ai "bank")) "cut" [af "n"])) (aq (aF (af "n") (dh (af "self") "made")) aG)))
def CH:AS:=aq (iO ["n","self"] (eP (aCall [aCall [dE (eP (bJ (aU (af "self") (ai "bank")) "kids" [af "n"])) ["self"] (wj)] uF] dA)) tE tF) tG
noncomputable def zd:List String:=["self","n"]
theorem Oy:SB G d F [23,6] CH:=
 ag (eL (c_ (aX W V.sorted rfl rfl (aJ _) (.cons (aX W V.set rfl rfl (cF _) (.cons (i6 (ns:=["self"]) (fs:=["self"]) rfl (c_ (bk W (O _) (ax W (aP rfl rfl) rfl) (.cons (ab rfl rfl) rfl .nil) (.mk _ rfl))) (λ env x=>rfl) (aD rfl) (bk W (O _) (aP rfl rfl) (.cons (ab rfl rfl) rfl .nil) (.mk _ rfl))) rfl .nil) Ce) rfl .nil) (iC W))) (aD rfl) (ag (bh (gM (aC (ax W (aP rfl rfl) rfl) (ab rfl rfl)) (.mk _ rfl)) rfl) aw) (λ env x=>rfl) (λ aa h=>.inl h)) (ag (F7 (ax W (aP rfl rfl) rfl) (ab rfl rfl)) (ag (bh (bk W (O _) (ax W (aP rfl rfl) rfl) (.cons (ab rfl rfl) rfl .nil) (.mk _ rfl)) rfl) (ag (bh (bk W (O _) (ax W (aP rfl rfl) rfl) (.cons (ab rfl rfl) rfl .nil) (.mk _ rfl)) rfl) (ag (az (ab rfl rfl) (bR W (aP rfl rfl)) rfl rfl rfl) aw))))
def CI:AS:=aq (aF (af "change") (fP [aW "kind",aW "kept",aW "many",aW "gone",aW "users"])) (aq (bN (j9 (aU (af "self") (ai "edges")))) (aq (ed (bL (ay (af "kept") (af "gone") fm)) (aq (bN (j9 (aU (af "self") (ai "forest")))) (aq (bN (bJ (aU (af "self") (ai "unions")) "back" [ay (aCall [aU (aU (af "self") (ai "unions")) (ai "merged")] bx) (aT 1) fk])) (aq (aF (f7 (ay (aU (af "self") (ai "above")) (af "kept") ah) none (some (af "many")) none) (iN (aU (af "self") (ai "above")) (af "kept"))) (aq (aF (af "users") (iN (aU (af "self") (ai "above")) (af "gone"))) aG)))) aG) aG))
noncomputable def ze:List String:=["self","change"]
theorem Oz:SB G d F [23,7] CI:=
 ag (az (ab rfl rfl) (dJ (.cons (aD rfl) rfl (.cons (aD rfl) rfl (.cons (aD rfl) rfl (.cons (aD rfl) rfl (.cons (aD rfl) rfl .nil)))))) rfl rfl rfl) (ag (bh (gM (ax W (ab rfl rfl) rfl) (.mk _ rfl)) rfl) (ag (cf (a_ (ab rfl rfl) (ab rfl rfl) j4 rfl) (ag (bh (gM (ax W (ab rfl rfl) rfl) (.mk _ rfl)) rfl) (ag (bh (bk W (O _) (ax W (ab rfl rfl) rfl) (.cons (bQ (aX W V.len rfl rfl (aJ _) (.cons (ax W (ax W (ab rfl rfl) rfl) rfl) rfl .nil) cv) aA kC) rfl .nil) (.mk _ rfl)) rfl) (ag (az (e6 (aC (ax W (ab rfl rfl) rfl) (ab rfl rfl)) .none (.some (ab rfl rfl)) .none) (eJ (ax W (ab rfl rfl) rfl) (ab rfl rfl)) rfl rfl rfl) (ag (az (ab rfl rfl) (eJ (ax W (ab rfl rfl) rfl) (ab rfl rfl)) rfl rfl rfl) aw)))) aw) aw))
def Lq:AS:=aq (aF (ay (af "feed") (de "at") ah) (aW "at")) (aq (aF (ay (af "at") (aT 1) bW) (iN (af "feed") (de "at"))) (aq (cH (ay (pP (bL (ay (af "at") (aCall [ay (af "feed") (de "row") ah] bx) oLt)) (ay (ay (af "feed") (de "row") ah) (af "at") ah) (ay (ay (ay (ay (ay (aT 5) (af "at") uj) (af "at") uj) (ay (aT 8) (af "at") uj) bW) (ay (af "at") (aT 3) oDiv) bW) (aT 2) bW)) (af "many") oMod)) aG))
noncomputable def GF:List String:=["feed","many"]
theorem VX:SB G d F [25] Lq:=
 ag (az (aC (ab rfl rfl) bT) (aD rfl) rfl rfl rfl) (ag (az (bQ (ab rfl rfl) aA d3) (eJ (ab rfl rfl) bT) rfl rfl rfl) (ag (bC (bQ (ft (a_ (ab rfl rfl) (aX W V.len rfl rfl (aJ _) (.cons (aC (ab rfl rfl) bT) rfl .nil) cv) Hd rfl) (aC (aC (ab rfl rfl) bT) (ab rfl rfl)) (bQ (bQ (bQ (bQ (bQ aA (ab rfl rfl) Hf) (ab rfl rfl) Hf) (bQ aA (ab rfl rfl) Hf) d3) (bQ (ab rfl rfl) aA Yh) d3) aA d3)) (ab rfl rfl) Hg)) aw))
def zf:Nat->AR:=dk ["nodes"] (aW "kid") (jG (gn .gr [af "nodes",af "kid"]))
def GG:AS:=aq (cH (ay (cn [ay (ay (af "nodes") (af "n") ah) (aT 0) ah]) (aCall [dE (eP (f7 (ay (af "nodes") (af "n") ah) (some (aT 1)) none none)) ["nodes"] (zf)] d8) bW)) aG
noncomputable def CJ:List String:=["nodes","n"]
theorem SA:SB G d F [26] GG:=
 ag (bC (bQ (bA (.cons (aC (aC (aP rfl rfl) (ab rfl rfl)) aA) rfl .nil) rfl) (aX W V.tuple rfl rfl (cF _) (.cons (i6 (ns:=["nodes"]) (fs:=["nodes"]) rfl (c_ (e6 (aC (aP rfl rfl) (ab rfl rfl)) (.some aA) .none .none)) (λ env x=>rfl) (aD rfl) (dp W (O _) V.j' rfl rfl (.cons (aP rfl rfl) rfl (.cons (ab rfl rfl) rfl .nil)))) rfl .nil) ip) d3)) aw
def CK:Nat->AR:=dk ["feed","nodes"] (aW "turn") (jG (gn .pick [af "feed",aCall [aCall [af "nodes"] bx,aT 4] BK]))
def Lr:AS:=aq (aF (ay (de "fg") (gn .pick [af "feed",aT 2]) ah) (aW "op")) (aq (aF (ay (cn [af "op"]) (aCall [dE (xC [pP (bL (ay (af "op") (de "f") oEq)) (aT 1) (aT 2)]) ["feed","nodes"] (CK)] d8) bW) (aW "node")) (aq (bN (bJ (af "heap") "add" [af "op",f7 (af "node") (some (aT 1)) none none])) (aq (cH (pP (bL (ay (af "node") (af "nodes") n4)) (af "nodes") (ay (af "nodes") (da [af "node"]) bW))) aG)))
noncomputable def GH:List String:=["feed","heap","nodes"]
theorem VY:SB G d F [27] Lr:=
 ag (az (aC bT (dp W (O _) V.iu rfl rfl (.cons (aP rfl rfl) rfl (.cons aA rfl .nil)))) (aD rfl) rfl rfl rfl) (ag (az (bQ (bA (.cons (ab rfl rfl) rfl .nil) rfl) (aX W V.tuple rfl rfl (cF _) (.cons (i6 (ns:=["feed","nodes"]) (fs:=["feed","nodes"]) rfl (n0 W V.range rfl (cF _) (.cons (ft (a_ (ab rfl rfl) bT fq rfl) aA aA) rfl .nil)) (λ env x=>rfl) (aD rfl) (dp W (O _) V.iu rfl rfl (.cons (aP rfl rfl) rfl (.cons (aX W V.min rfl rfl (aJ _) (.cons (aX W V.len rfl rfl (aJ _) (.cons (aP rfl rfl) rfl .nil) cv) rfl (.cons aA rfl .nil)) UG) rfl .nil)))) rfl .nil) ip) d3) (aD rfl) rfl rfl rfl) (ag (bh (bk W (O _) (ab rfl rfl) (.cons (ab rfl rfl) rfl (.cons (e6 (ab rfl rfl) (.some aA) .none .none) rfl .nil)) (.mk _ rfl)) rfl) (ag (bC (ft (a_ (ab rfl rfl) (aP rfl rfl) (Hv W) rfl) (aP rfl rfl) (bQ (aP rfl rfl) (b0 (.cons (ab rfl rfl) rfl .nil) rfl) d3))) aw)))
def zg:Nat->AR:=dk ["nodes","told"] (aW "one") (jG (gn .lN [af "one",af "nodes",af "told"]))
def zh:Nat->AR:=dk [] (aW "one") (jG (ay (af "one") (aT 0) ah))
def zi:Nat->AR:=dk [] (aW "one") (jG (ay (af "one") (aT 1) ah))
def GI:AS:=aq (aF (ay (af "paper") (aT 0) ah) (aW "kind")) (aq (ed (bL (ay (af "kind") (de "same") oEq)) (aq (cH (cn [ay (af "paper") (aT 1) ah,ay (af "paper") (aT 1) ah])) aG) aG) (aq (ed (bL (ay (af "kind") (de "told") oEq)) (aq (aF (Hz (af "told") (ay (af "paper") (aT 1) ah)) (aW "pair")) (aq (cH (pP (bL (ay (af "pair") lP BC)) lP (cn [gn .gr [af "nodes",ay (af "pair") (aT 0) ah],gn .gr [af "nodes",ay (af "pair") (aT 1) ah]]))) aG)) aG) (aq (aF (dE (eP (pP (bL (ay (af "kind") (de "under") oEq)) (ay (af "paper") (aT 2) ah) (f7 (af "paper") (some (aT 1)) none none))) ["nodes","told"] zg) (aW "some")) (aq (ed (pO (bL (ay lP (af "some") n4)) (pO (bL (ay (af "kind") (de "rule") oEq)) nW)) (aq (cH lP) aG) aG) (aq (ed (bL (ay (af "kind") (de "turn") oEq)) (aq (cH (cn [ay (ay (af "some") (aT 0) ah) (aT 1) ah,ay (ay (af "some") (aT 0) ah) (aT 0) ah])) aG) aG) (aq (ed (bL (ay (af "kind") (de "join") oEq)) (aq (cH (pP (bL (ay (ay (ay (af "some") (aT 0) ah) (aT 1) ah) (ay (ay (af "some") (aT 1) ah) (aT 0) ah) oEq)) (cn [ay (ay (af "some") (aT 0) ah) (aT 0) ah,ay (ay (af "some") (aT 1) ah) (aT 1) ah]) lP)) aG) aG) (aq (cH (cn [ay (cn [ay (af "paper") (aT 1) ah]) (aCall [dE (eP (af "some")) [] (zh)] d8) bW,ay (cn [ay (af "paper") (aT 1) ah]) (aCall [dE (eP (af "some")) [] (zi)] d8) bW])) aG)))))))
noncomputable def CL:List String:=["paper","nodes","told"]
theorem SD:SB G d F [28] GI:=
 ag (az (aC (ab rfl rfl) aA) (aD rfl) rfl rfl rfl) (ag (cf (a_ (ab rfl rfl) bT fq rfl) (ag (bC (bA (.cons (aC (ab rfl rfl) aA) rfl (.cons (aC (ab rfl rfl) aA) rfl .nil)) rfl)) aw) aw) (ag (cf (a_ (ab rfl rfl) bT fq rfl) (ag (az (F2 W (aP rfl rfl) (aC (ab rfl rfl) aA) rfl (.mk _ rfl)) (aD rfl) rfl rfl rfl) (ag (bC (ft (a_ (ab rfl rfl) jm Uu rfl) jm (bA (.cons (dp W (O _) V.j' rfl rfl (.cons (aP rfl rfl) rfl (.cons (aC (ab rfl rfl) aA) rfl .nil))) rfl (.cons (dp W (O _) V.j' rfl rfl (.cons (aP rfl rfl) rfl (.cons (aC (ab rfl rfl) aA) rfl .nil))) rfl .nil)) rfl))) aw)) aw) (ag (Ky (ns:=["nodes","told"]) (fs:=["nodes","told"]) rfl (c_ (ft (a_ (ab rfl rfl) bT fq rfl) (aC (ab rfl rfl) aA) (e6 (ab rfl rfl) (.some aA) .none .none))) (λ env x=>rfl) (aD rfl) (dp W (O _) V.q8 rfl rfl (.cons (ab rfl rfl) rfl (.cons (aP rfl rfl) rfl (.cons (aP rfl rfl) rfl .nil)))) rfl (λ env he=>by cases env;cases he;kernel_rfl)) (ag (cf (qz (.cons (a_ jm (ab rfl rfl) (Hv W) rfl) (.cons (a_ (ab rfl rfl) bT fq rfl) .nil))) (ag (bC jm) aw) aw) (ag (cf (a_ (ab rfl rfl) bT fq rfl) (ag (bC (bA (.cons (aC (aC (ab rfl rfl) aA) aA) rfl (.cons (aC (aC (ab rfl rfl) aA) aA) rfl .nil)) rfl)) aw) aw) (ag (cf (a_ (ab rfl rfl) bT fq rfl) (ag (bC (ft (a_ (aC (aC (ab rfl rfl) aA) aA) (aC (aC (ab rfl rfl) aA) aA) fq rfl) (bA (.cons (aC (aC (ab rfl rfl) aA) aA) rfl (.cons (aC (aC (ab rfl rfl) aA) aA) rfl .nil)) rfl) jm)) aw) aw) (ag (bC (bA (.cons (bQ (bA (.cons (aC (ab rfl rfl) aA) rfl .nil) rfl) (aX W V.tuple rfl rfl (cF _) (.cons (i6 (ns:=[]) (fs:=[]) rfl (c_ (ab rfl rfl)) (λ env x=>rfl) (aD rfl) (aC (ab rfl rfl) aA)) rfl .nil) ip) d3) rfl (.cons (bQ (bA (.cons (aC (ab rfl rfl) aA) rfl .nil) rfl) (aX W V.tuple rfl rfl (cF _) (.cons (i6 (ns:=[]) (fs:=[]) rfl (c_ (ab rfl rfl)) (λ env x=>rfl) (aD rfl) (aC (ab rfl rfl) aA)) rfl .nil) ip) d3) rfl .nil)) rfl)) aw)))))))
def tH:AG:=aW "one"
def tI:AS:=aq (bN (sh (af "found") (gn .kM [af "one"]))) aG
def tJ:AS:=aq (cH (af "found")) aG
def CM:AS:=aq (ed (bL (ay (ay (af "paper") (aT 0) ah) (cn [de "same",de "told"]) n4)) (aq (cH (pP (bL (ay (ay (af "paper") (aT 0) ah) (de "told") oEq)) (da [ay (af "paper") (aT 1) ah]) (da []))) aG) aG) (aq (aF (da []) (aW "found")) (aq (iO ["found"] (eP (pP (bL (ay (ay (af "paper") (aT 0) ah) (de "under") oEq)) (ay (af "paper") (aT 2) ah) (f7 (af "paper") (some (aT 1)) none none))) tH tI) tJ))
noncomputable def zj:List String:=["paper"]
theorem OA:SB G d F [29] CM:=
 ag (cf (a_ (aC (ab rfl rfl) aA) (bA (.cons bT rfl (.cons bT rfl .nil)) rfl) (Hv W) rfl) (ag (bC (ft (a_ (aC (ab rfl rfl) aA) bT fq rfl) (b0 (.cons (aC (ab rfl rfl) aA) rfl .nil) rfl) (b0 .nil rfl))) aw) aw) (ag (az (b0 .nil rfl) (aD rfl) rfl rfl rfl) (ag (eL (c_ (ft (a_ (aC (ab rfl rfl) aA) bT fq rfl) (aC (ab rfl rfl) aA) (e6 (ab rfl rfl) (.some aA) .none .none))) (aD rfl) (ag (bh (qM (ab rfl rfl) (dp W (O _) V.oX rfl rfl (.cons (ab rfl rfl) rfl .nil)) rfl (.mk _ rfl)) rfl) aw) (λ env x=>rfl) (λ aa h=>.inl h)) (ag (bC (ab rfl rfl)) aw)))
def pZ:AG:=fP [aW "label",aW "a",aW "b"]
def p6:AS:=aq (aF (cn [af "a",af "b"]) (iN (af "told") (af "label"))) aG
def rz:Nat->AR:=dk ["places"] (aW "one") (F4 (bL (ay (af "one") (af "places") fc)) (af "one"))
def p7:AG:=fP [aW "index",fP [aW "a",aW "b",aW "reason"]]
def p8:AS:=aq (aF (bJ (af "whys") "of_edge" [af "index"]) (aW "paper")) (aq (ed (bL (ay (ay (af "reason") (aT 0) ah) (de "told") oEq)) (aq (aF (af "index") (iN (af "places") (ay (af "reason") (aT 1) ah))) (aq (ed (pO (bL (ay (af "paper") (cn [de "told",ay (af "reason") (aT 1) ah]) fm)) (pO (bL (ay (Hz (af "told") (ay (af "reason") (aT 1) ah)) (cn [af "a",af "b"]) fm)) nW)) (aq (cH (lQ false)) aG) aG) (aq Q6 aG))) aG) (aq (ed (pO (bL (ay (ay (af "paper") (aT 0) ah) (de "under") fm)) (pO (bL (ay (aCall [ay (af "paper") (aT 2) ah] bx) (ay (aCall [ay (af "nodes") (af "a") ah] bx) (aT 1) fk) fm)) (pO (bL (ay (dE (eP (gn .kM [af "paper"])) ["places"] rz) (da []) uC)) nW))) (aq (cH (lQ false)) aG) aG) (aq (ed (bL (ay (gn .lN [af "paper",af "nodes",af "told"]) (cn [gn .gr [af "nodes",af "a"],gn .gr [af "nodes",af "b"]]) fm)) (aq (cH (lQ false)) aG) aG) aG)))
def rA:Nat->AR:=dk [] (fP [aW "label",aW "a",aW "b"]) (jG (af "label"))
def p9:AS:=aq (cH (NM (ay (aCall [af "places"] jH) (dE (eP (af "events")) [] rA) uB) (ay (bJ (af "heap") "size" []) (aCall [af "nodes"] bx) oEq))) aG
def p_:AS:=aq (iO ["events","heap","nodes","places","told","whys"] (Rn [aU (af "heap") (ai "edges")]) p7 p8) p9
def wk:AS:=aq (aF (cn [gN (.dS []),gN (.dS [])]) (fP [aW "told",aW "places"])) (aq (iO ["events","heap","nodes","places","told","whys"] (eP (af "events")) pZ p6) p_)
noncomputable def tK:List String:=["heap","whys","nodes","events"]
theorem H5:SB G d F [30] wk:=
 ag (oL (bA (.cons yu rfl (.cons yu rfl .nil)) rfl) (dJ (.cons (aD rfl) rfl (.cons (oK rfl rfl) rfl .nil))) rfl (λ env he=>rfl) (λ env he=>by cases env;cases he;kernel_rfl)) (ag (eL (c_ (ab rfl rfl)) (dJ (.cons (aD rfl) rfl (.cons (aD rfl) rfl (.cons (aD rfl) rfl .nil)))) (ag (az (bA (.cons (ab rfl rfl) rfl (.cons (ab rfl rfl) rfl .nil)) rfl) (eJ (ab rfl rfl) (ab rfl rfl)) rfl rfl rfl) aw) (λ env x=>rfl) (λ aa h=>.inl h)) (ag (eL (N4 W V.enumerate rfl (.cons (ax W (ab rfl rfl) rfl) rfl .nil)) (dJ (.cons (aD rfl) rfl (.cons (dJ (.cons (aD rfl) rfl (.cons (aD rfl) rfl (.cons (aD rfl) rfl .nil)))) rfl .nil))) (ag (az (bk W (O _) (ab rfl rfl) (.cons (ab rfl rfl) rfl .nil) (.mk _ rfl)) (aD rfl) rfl rfl rfl) (ag (cf (a_ (aC (ab rfl rfl) aA) bT fq rfl) (ag (az (ab rfl rfl) (eJ (aP rfl rfl) (aC (ab rfl rfl) aA)) rfl rfl rfl) (ag (cf (qz (.cons (a_ (ab rfl rfl) (bA (.cons bT rfl (.cons (aC (ab rfl rfl) aA) rfl .nil)) rfl) j4 rfl) (.cons (a_ (F2 W (ab rfl rfl) (aC (ab rfl rfl) aA) rfl (.mk _ rfl)) (bA (.cons (ab rfl rfl) rfl (.cons (ab rfl rfl) rfl .nil)) rfl) j4 rfl) .nil))) (ag (bC jn) aw) aw) (ag NR aw))) aw) (ag (cf (qz (.cons (a_ (aC (ab rfl rfl) aA) bT j4 rfl) (.cons (a_ (aX W V.len rfl rfl (aJ _) (.cons (aC (ab rfl rfl) aA) rfl .nil) cv) (bQ (aX W V.len rfl rfl (aJ _) (.cons (aC (ab rfl rfl) (ab rfl rfl)) rfl .nil) cv) aA kC) j4 rfl) (.cons (a_ (Rl (ns:=["places"]) (fs:=["places"]) rfl (c_ (dp W (O _) V.oX rfl rfl (.cons (ab rfl rfl) rfl .nil))) (λ env x=>rfl) (aD rfl) (a_ (ab rfl rfl) (aP rfl rfl) (l7 W) rfl) (ab rfl rfl)) (b0 .nil rfl) Rq rfl) .nil)))) (ag (bC jn) aw) aw) (ag (cf (a_ (dp W (O _) V.q8 rfl rfl (.cons (ab rfl rfl) rfl (.cons (ab rfl rfl) rfl (.cons (ab rfl rfl) rfl .nil)))) (bA (.cons (dp W (O _) V.j' rfl rfl (.cons (ab rfl rfl) rfl (.cons (ab rfl rfl) rfl .nil))) rfl (.cons (dp W (O _) V.j' rfl rfl (.cons (ab rfl rfl) rfl (.cons (ab rfl rfl) rfl .nil))) rfl .nil)) rfl) j4 rfl) (ag (bC jn) aw) aw) aw)))) (λ env x=>rfl) (λ aa aa=>.inr ⟨_,_,_,rfl⟩)) (ag (bC (FU (qx (aX W V.list rfl rfl (cF _) (.cons (aP rfl rfl) rfl .nil) (uz W)) (i6 (ns:=[]) (fs:=[]) rfl (c_ (ab rfl rfl)) (λ env x=>rfl) (dJ (.cons (aD rfl) rfl (.cons (aD rfl) rfl (.cons (aD rfl) rfl .nil)))) (ab rfl rfl)) Ro rfl) (qx (bk W (O _) (ab rfl rfl) .nil (.mk _ rfl)) (aX W V.len rfl rfl (aJ _) (.cons (ab rfl rfl) rfl .nil) cv) fq rfl))) aw)))
end
end
end Mine
end
section
namespace Mine
section
open PySem
noncomputable def aaJ:List (Nat×List String×AS):=[(109,yM,Cg),(116,tj,vW),(121,og,pV),(126,q9,tq),(140,tv,vX),(147,vY,yN),(154,Gn,K5),(168,vZ,yT),(173,yU,Ci),(185,Gp,K7),(199,tw,v7),(206,tx,v8),(211,Gq,K8),(218,v9,yY),(239,v_,yZ),(246,RJ,VL),(253,Gr,La),(265,Gs,Lb),(272,y5,Cp),(307,pX,rq),(314,Gu,Lc),(321,pY,rr),(328,Cs,Gv),(335,y6,Ct),(342,wd,y7),(361,Gw,Lf),(368,Gx,Lh),(389,tA,wg),(396,tB,wh),(401,Gy,Li),(406,Lj,RK),(420,wi,zb),(427,GA,Lm),(441,Cz,GB),(448,CA,GC),(455,zc,CB),(525,ly,rx),(539,GD,Ln),(546,Lo,RL),(554,ry,CG),(562,xR,Lp),(567,zd,CH),(574,ze,CI),(586,GF,Lq),(591,CJ,GG),(596,GH,Lr),(601,CL,GI),(608,zj,CM),(613,tK,wk)]
noncomputable def RM(n:Nat):List String×AS:=(aaJ.lookup n).getD ([],aG)
noncomputable def aaK(f:Fn):List String:=(RM f.addr).1
noncomputable def cOf(f:Fn):AS:=(RM f.addr).2
noncomputable def O:Nat->bS
 |0=>⟨λ aa aa aa aa=>False,λ aa aa aa aa=>False⟩
 |d+1=>⟨λ f=>FZ (aaK f) (cOf f) (O d),λ c=>RA c (O d)⟩
def cT(ao:AO)(s:U)(K:PV):Prop:=K (.ref s.length) (s++[ao])
def bU(A B:U->Prop):PV:=λ v s=>vm v λ b=>if b then A s else B s
def tsn(A B:U->Prop):PV:=λ v s=>vm v λ b=>if !b then A s else B s
def d7(s:U)(K:PV)(run:Nat->Nat->U->(U->Prop)->Prop):Prop:=∃n,run n s.length (s++[.list []]) λ s'=>K (.ref s.length) s'
def e7(P:PV):PF:=λ f aa s=>f.out P s
def eM(Q:PF)(F:bS)(c:AS):PF:=λ f r s=>f.seq Q (λ r s=>c F r s Q) r s
def Ls(Q:PF)(F:bS)(ns:List String)(t:AT)(b:AS)(n:Nat):PF:=λ f r s=>f.turn Q (λ r s=>f5 ns t b n F (pick ns r) s Q) r s
def kFor(Q:PF)(F:bS)(ns:List String)(g:AG)(b:AS)(n:Nat)(x:aL):PF:=λ f r s=>f.turn Q (λ r s=>gy ns g b n x F (pick ns r) s Q) r s
end
end Mine
end
section
open PySem PySem.W PyProof.Rows PySem.Calls
namespace Mine
section
section
variable{G:Places} {d:Nat} {F:bS}
def zk:AG:=aW "node"
def zl:AS:=aq (bN (bJ (af "heap") "add" [ay (af "node") (aT 0) ah,f7 (af "node") (some (aT 1)) none none])) aG
def zm:AG:=aW "lap"
def zo:AS:=aq (aF (cn [pP (bL (ay (af "lap") (aT 0) fZ)) (gn .pick [af "feed",aT 6]) (aT 0),ay (af "states") (uA 1) ah]) (fP [aW "way",fP [aW "nodes",aW "events"]])) (aq (ed (bL (ay (af "way") (aT 5) oEq)) (aq (bN (bJ (af "heap") "push" [])) (aq (bN (dy (af "states") (cn [af "nodes",af "events"]))) aG)) (aq (ed (um (bL (ay (af "way") (aT 4) oEq)) (um (bL (ay (aCall [af "states"] bx) (aT 1) fZ)) A9)) (aq (bN (bJ (af "heap") "pop" [])) (aq (bN (j9 (af "states"))) aG)) (aq (ed (bL (ay (af "way") (aT 3) oEq)) (aq (aF (cn [gn .more [af "feed",af "heap",af "nodes"],af "events"]) (iN (af "states") (uA 1))) aG) (aq (oM (cn [gn .pick [af "feed",aCall [af "nodes"] bx],gn .pick [af "feed",aCall [af "nodes"] bx],ay (de "t") (aCall [af "lap"] HF) bW]) [aW "label",aW "b",aW "a"]) (aq (bN (bJ (af "heap") "merge" [af "a",af "b",cn [de "told",af "label"]])) (aq (aF (cn [af "nodes",ay (af "events") (da [cn [af "label",af "a",af "b"]]) bW]) (iN (af "states") (uA 1))) aG)))) aG)) aG)) (aq (ed (bL (ay (gn .pick [af "feed",aT 3]) (aT 0) fZ)) (aq (bN (bJ (af "heap") "settle" [])) aG) aG) aG))
def zp:AG:=aW "lap"
def zq:AS:=aq (bN (bJ (af "heap") "pop" [])) aG
def zr:AS:=aq (bN (bJ (af "heap") "settle" [])) (aq (cH (gn .gw [af "heap",af "whys",ay (ay (af "states") (aT 0) ah) (aT 0) ah,ay (ay (af "states") (aT 0) ah) (aT 1) ah])) aG)
def zt:AS:=aq (bN (bJ (af "heap") "settle" [])) (aq (ed (Hk (bL (gn .gw [af "heap",af "whys",ay (ay (af "states") (uA 1) ah) (aT 0) ah,ay (ay (af "states") (uA 1) ah) (aT 1) ah]))) (aq (cH (lQ false)) aG) aG) (aq (iO ["heap","states","whys"] (xC [ay (aCall [af "states"] bx) (aT 1) fk]) zp zq) zr))
def zu:AS:=aq (aF (gn .more [af "feed",af "heap",af "nodes"]) (aW "nodes")) (aq (oM (cn [KJ .dO [af "heap"],da [cn [af "nodes",da []]]]) [aW "states",aW "whys"]) (aq (iO ["feed","heap","nodes","states","whys"] (xC [ay (aT 4) (gn .pick [af "feed",aT 3]) bW]) zm zo) zt))
def CN:AS:=aq (oM (cn [KJ .levels [],da [cn [de "a"],cn [de "b"],cn [de "c"],cn [de "f",aT 0],cn [de "f",aT 1]]]) [aW "nodes",aW "heap"]) (aq (iO ["feed","heap","nodes"] (eP (af "nodes")) zk zl) zu)
end
end
section
section
variable{G:Places} {d:Nat} {F:bS}
theorem VZ(W:Wd G)(V:Gl G)(O:∀sc,mv ⟨G,d,F,sc⟩)(OM:∀sc,xJ ⟨G,d,F,sc⟩):nE ⟨G,d,F,aY (aO pw [31])⟩ ((bj (aO pw [31])).drop 1) CN:=
 ag (j6 (names:=[Str.ofString "heap",Str.ofString "nodes"]) (bA (.cons (vM W (OM _) V.K1 rfl rfl (nV (V.keep .levels)) .nil) rfl (.cons (b0 (.cons (bA (.cons bT rfl .nil) rfl) rfl (.cons (bA (.cons bT rfl .nil) rfl) rfl (.cons (bA (.cons bT rfl .nil) rfl) rfl (.cons (bA (.cons bT rfl (.cons aA rfl .nil)) rfl) rfl (.cons (bA (.cons bT rfl (.cons aA rfl .nil)) rfl) rfl .nil))))) rfl) rfl .nil)) rfl) (.cons rfl (.cons rfl .nil)) (λ env he=>rfl) (λ env he=>by cases env;cases he;kernel_rfl)) (ag (eL (c_ (ab rfl rfl)) (aD rfl) (ag (bh (bk W (O _) (ab rfl rfl) (.cons (aC (ab rfl rfl) aA) rfl (.cons (e6 (ab rfl rfl) (.some aA) .none .none) rfl .nil)) (.mk _ rfl)) rfl) aw) (λ env x=>rfl) (λ aa h=>.inl h)) (ag (az (dp W (O _) V.uG rfl rfl (.cons (ab rfl rfl) rfl (.cons (ab rfl rfl) rfl (.cons (ab rfl rfl) rfl .nil)))) (aD rfl) rfl rfl rfl) (ag (j6 (names:=[Str.ofString "whys",Str.ofString "states"]) (bA (.cons (vM W (OM _) V.VG rfl rfl (nV (V.keep .dO)) (.cons (ab rfl rfl) rfl .nil)) rfl (.cons (b0 (.cons (bA (.cons (ab rfl rfl) rfl (.cons (b0 .nil rfl) rfl .nil)) rfl) rfl .nil) rfl) rfl .nil)) rfl) (.cons rfl (.cons rfl .nil)) (λ env he=>rfl) (λ env he=>by cases env;cases he;kernel_rfl)) (ag (eL (n0 W V.range rfl (cF _) (.cons (bQ aA (dp W (O _) V.iu rfl rfl (.cons (ab rfl rfl) rfl (.cons aA rfl .nil))) d3) rfl .nil)) (aD rfl) (ag (oL (bA (.cons (ft (a_ (ab rfl rfl) aA k9 rfl) (dp W (O _) V.iu rfl rfl (.cons (ab rfl rfl) rfl (.cons aA rfl .nil))) aA) rfl (.cons (aC (ab rfl rfl) n9) rfl .nil)) rfl) (dJ (.cons (aD rfl) rfl (.cons (dJ (.cons (aD rfl) rfl (.cons (aD rfl) rfl .nil))) rfl .nil))) rfl (λ env he=>rfl) (λ env he=>by cases env;cases he;kernel_rfl)) (ag (cf (a_ (ab rfl rfl) aA fq rfl) (ag (bh (bk W (O _) (ab rfl rfl) .nil (.mk _ rfl)) rfl) (ag (bh (cQ (ab rfl rfl) (bA (.cons (ab rfl rfl) rfl (.cons (ab rfl rfl) rfl .nil)) rfl) rfl (.mk _ rfl)) rfl) aw)) (ag (cf (xx (.cons (a_ (ab rfl rfl) aA fq rfl) (.cons (a_ (aX W V.len rfl rfl (aJ _) (.cons (ab rfl rfl) rfl .nil) cv) aA k9 rfl) .nil))) (ag (bh (bk W (O _) (ab rfl rfl) .nil (.mk _ rfl)) rfl) (ag (bh (gM (ab rfl rfl) (.mk _ rfl)) rfl) aw)) (ag (cf (a_ (ab rfl rfl) aA fq rfl) (ag (az (bA (.cons (dp W (O _) V.uG rfl rfl (.cons (ab rfl rfl) rfl (.cons (ab rfl rfl) rfl (.cons (ab rfl rfl) rfl .nil)))) rfl (.cons (ab rfl rfl) rfl .nil)) rfl) (eJ (ab rfl rfl) n9) rfl rfl rfl) aw) (ag (j6 (names:=[Str.ofString "a",Str.ofString "b",Str.ofString "label"]) (bA (.cons (dp W (O _) V.iu rfl rfl (.cons (ab rfl rfl) rfl (.cons (aX W V.len rfl rfl (aJ _) (.cons (ab rfl rfl) rfl .nil) cv) rfl .nil))) rfl (.cons (dp W (O _) V.iu rfl rfl (.cons (ab rfl rfl) rfl (.cons (aX W V.len rfl rfl (aJ _) (.cons (ab rfl rfl) rfl .nil) cv) rfl .nil))) rfl (.cons (bQ bT (aX W V.str rfl rfl (cF _) (.cons (ab rfl rfl) rfl .nil) N3) d3) rfl .nil))) rfl) (.cons rfl (.cons rfl (.cons rfl .nil))) (λ env he=>rfl) (λ env he=>by cases env;cases he;kernel_rfl)) (ag (bh (bk W (O _) (ab rfl rfl) (.cons (ab rfl rfl) rfl (.cons (ab rfl rfl) rfl (.cons (bA (.cons bT rfl (.cons (ab rfl rfl) rfl .nil)) rfl) rfl .nil))) (.mk _ rfl)) rfl) (ag (az (bA (.cons (ab rfl rfl) rfl (.cons (bQ (ab rfl rfl) (b0 (.cons (bA (.cons (ab rfl rfl) rfl (.cons (ab rfl rfl) rfl (.cons (ab rfl rfl) rfl .nil))) rfl) rfl .nil) rfl) d3) rfl .nil)) rfl) (eJ (ab rfl rfl) n9) rfl rfl rfl) aw)))) aw)) aw)) (ag (cf (a_ (dp W (O _) V.iu rfl rfl (.cons (ab rfl rfl) rfl (.cons aA rfl .nil))) aA k9 rfl) (ag (bh (bk W (O _) (ab rfl rfl) .nil (.mk _ rfl)) rfl) aw) aw) aw))) (λ env x=>rfl) (λ aa h=>.inl h)) (ag (bh (bk W (O _) (ab rfl rfl) .nil (.mk _ rfl)) rfl) (ag (cf (xw (se (dp W (O _) V.lx rfl rfl (.cons (ab rfl rfl) rfl (.cons (ab rfl rfl) rfl (.cons (aC (aC (ab rfl rfl) n9) aA) rfl (.cons (aC (aC (ab rfl rfl) n9) aA) rfl .nil))))) (λ env whole=>rfl))) (ag (bC jn) aw) aw) (ag (eL (n0 W V.range rfl (cF _) (.cons (bQ (aX W V.len rfl rfl (aJ _) (.cons (ab rfl rfl) rfl .nil) cv) aA kC) rfl .nil)) (aD rfl) (ag (bh (bk W (O _) (ab rfl rfl) .nil (.mk _ rfl)) rfl) aw) (λ env x=>rfl) (λ aa h=>.inl h)) (ag (bh (bk W (O _) (ab rfl rfl) .nil (.mk _ rfl)) rfl) (ag (bC (dp W (O _) V.lx rfl rfl (.cons (ab rfl rfl) rfl (.cons (ab rfl rfl) rfl (.cons (aC (aC (ab rfl rfl) aA) aA) rfl (.cons (aC (aC (ab rfl rfl) aA) aA) rfl .nil)))))) aw)))))))))
end
end
end Mine
end
section
namespace Mine
section
open PySem
variable(F:bS) (P:PV)
def OB(ak:AV)(s:U):Prop:=bu "size" s (λ t1 t2=>F.call t2 [.ref t1] s (λ t3 s1=>ai "edges" s1 (λ t4 s2=>bx s2 (λ t5 s3=>ai "backs" s3 (λ t6 s4=>P (.tup [t3,t5,t6]) s4) ak) [t4]) ak)) ak
def CO(ak aR:AV)(s:U):Prop:=ai "bank" s (λ t1 s1=>bu "term" s1 (λ t2 t3=>F.call t3 [.ref t2,aR] s1 P) t1) ak
def H6(ak aR:AV)(s:U):Prop:=ai "bank" s (λ t5 s3=>bu "weight" s3 (λ t6 t7=>F.call t7 [.ref t6,aR] s3 (λ t8 s4=>fZ s4 (bU (λ s5=>False) (CO F P ak aR)) t8 (.int 100000))) t5) ak
def wm(bH:AV)(s:U):Prop:=ah s (λ t1 s1=>P (.tup [(.str "told"),t1]) s1) bH (.int 1)
def wo(bH:AV)(s:U):Prop:=ah s (λ t1 s1=>oEq s1 (bU (wm P bH) (λ s2=>False)) t1 (.str "told")) bH (.int 0)
def Ax(F:bS)(P:PV)(ak bf:AV)(s:U):Prop:=ai "edges" s (λ t1 s1=>ah s1 (λ t2 s2=>ah s2 (wo P) t2 (.int 2)) t1 bf) ak
def i8(aM ak bF:AV)(n1:Nat)(s:U):Prop:=f5 ["a","heap","row"] oh oi n1 F (cP [("a",some aM),("heap",some ak),("row",some bF)]) s (eM (e7 P) F oj)
def gQ(bF:AV)(n:Nat)(x:aL)(l:Nat)(s:U)(Q:U->Prop):Prop:=pW n x l F (cP [("row",some bF)]) s Q
def xS(bF:AV)(n:Nat)(x:aL)(l:Nat)(s:U)(Q:U->Prop):Prop:=cw s (Q s) (λ t3 x=>ah s (λ t4 s4=>bW s4 (λ t5 s5=>ah s5 (λ t6 s6=>bO (.tup [(.str "join"),t4,t6]) s6 (λ s7=>gQ F bF n x l s7 Q) l) bF t5) t3 (.int 1)) bF t3) x
theorem om{F:bS}{bF:AV}{n:Nat}{x:aL}{l:Nat}{s:U}{Q:U->Prop}(h:xS F bF n x l s Q):gQ F bF (n+1) x l s Q:=h
def Ay(n1:Nat)(aM ak V0 bF:AV)(s:U):Prop:=bx s (λ t1 s1=>bx s1 (λ t2 s2=>oMod s2 (λ t3 s3=>fk s3 (λ t4 s4=>pM t4 λ t5=>eg (some t5) none none s4 (λ t6 s5=>bW s5 (λ t7 s6=>i8 F P aM ak t7 n1 s6) V0 t6) bF) t1 t3) t2 (.int 2)) [bF]) [bF]
def Az(n1:Nat)(aM ak bF:AV)(s:U):Prop:=bx s (λ t1 s1=>fk s1 (λ t2 s2=>lh (λ t3=>d7 s2 (λ t4 s3=>Ay F P n1 aM ak t4 bF s3) λ t5 t6 s4 t7=>gQ F bF t5 t3 t6 s4 t7) [(.int 0),t2,(.int 2)]) t1 (.int 1)) [bF]
def qa(aM ak bF:AV)(s:U):Prop:=bx s (λ t1 s1=>oEq s1 (bU (λ s2=>ah s2 P bF (.int 0)) (λ s3=>F.call .j0 [ak,aM] s3 (λ t2 s4=>P (.tup [(.str "same"),t2]) s4))) t1 (.int 1)) [bF]
def xT(aM ak bF:AV)(n1:Nat)(s:U):Prop:=bx s (λ t2 s2=>fZ s2 (bU (Az F P n1 aM ak bF) (qa F P aM ak bF)) t2 (.int 1)) [bF]
theorem kh{F:bS}{P:PV}{aM ak bF:AV}{n1:Nat}{s:U}(h:xT F P aM ak bF n1 s):i8 F P aM ak bF (n1+1) s:=h
def AA(aM ak bF:AV)(s:U):Prop:=∃t1,i8 F P aM ak bF t1 s
def ET(ak aM oZ:AV)(s:U):Prop:=jH s (AA F P aM ak) [oZ]
def CP(J:AV)(s:U):Prop:=cT (.dI []) s (λ t1 s1=>bw "beside" t1 s1 (P .none) J)
def CQ(J:AV)(s:U):Prop:=bw "mark" AV.none s (CP P J) J
def CR(J:AV)(s:U):Prop:=bw "level" (.int 0) s (CQ P J) J
def CT(J:AV)(s:U):Prop:=bw "parts" (.int 0) s (CR P J) J
def H7(F:bS)(P:PV)(J ak:AV)(s:U):Prop:=bw "heap" ak s (CT P J) J
def kF(J:AV)(n1:Nat)(x1:aL)(s:U):Prop:=gy ["self"] q_ rb n1 x1 F (cP [("self",some J)]) s (eM (eM (e7 P) F aG) F aG)
def EU(n1:Nat)(x1:aL)(aM bl bf J:AV)(s:U):Prop:=ai "beside" s (λ t1 s1=>Bm lj s1 (λ t2=>cT (.list []) s1 (λ t3 s2=>gA t2 s2 (λ t4 s3=>cD s3 (λ t5=>bO (.tup [bf,aM]) s3 (kF F P J n1 x1) t5) t4) [bl,t3])) t1) J
def EV(n1:Nat)(x1:aL)(aM bl bf J:AV)(s:U):Prop:=ai "beside" s (λ t1 s1=>Bm lj s1 (λ t2=>cT (.list []) s1 (λ t3 s2=>gA t2 s2 (λ t4 s3=>cD s3 (λ t5=>bO (.tup [bf,bl]) s3 (EU F P n1 x1 aM bl bf J) t5) t4) [aM,t3])) t1) J
def EW(n1:Nat)(x1:aL)(bf J:AV)(s:U):Prop:=ai "heap" s (λ t1 s1=>ai "edges" s1 (λ t2 s2=>ah s2 (λ t3 s3=>cO s3 (λ t4=>dZ 3 t4 (bE t4 λ t5 t6=>bE t6 λ t7 t8=>bE t8 λ t9 eh=>eE eh (EV F P n1 x1 t5 t7 bf J s3))) t3) t2 bf) t1) J
def CU(J:AV)(n1:Nat)(x1:aL)(s:U):Prop:=cw s (P .none s) (λ t9 x1=>EW F P n1 x1 t9 J s) x1
theorem rB{F:bS}{P:PV}{J:AV}{n1:Nat}{x1:aL}{s:U}(h:CU F P J n1 x1 s):kF F P J (n1+1) x1 s:=h
def EX(J:AV)(s:U):Prop:=ai "heap" s (λ t1 s1=>ai "forest" s1 (λ t2 s2=>dD s2 (λ t3=>∃t4,kF F P J t4 t3 s2) t2) t1) J
def EY(wq J:AV)(s:U):Prop:=cT (.dI []) s (λ t1 s1=>cO s1 (λ t2=>dZ 2 t2 (bE t2 λ t3 t4=>bw "mark" t3 s1 (λ s2=>bE t4 λ t5 t6=>bw "beside" t5 s2 (λ s3=>eE t6 (EX F P J s3)) J) J)) (.tup [wq,t1]))
def EZ(wq J:AV)(s:U):Prop:=ai "mark" s (λ t1 s1=>fm s1 (bU (EY F P wq J) (P .none)) wq t1) J
def Lu(J:AV)(s:U):Prop:=ai "heap" s (λ t1 s1=>F.call .nQ [t1] s1 (λ t2 s2=>EZ F P t2 J s2)) J
def mI(aM bl bt bB bF J cJ:AV)(n2:Nat)(s:U):Prop:=f5 ["a","b","before","came","row","self","spot"] rd rg n2 F (cP [("a",some aM),("b",some bl),("before",some bt),("came",some bB),("row",some bF),("self",some J),("spot",some cJ)]) s (eM (e7 P) F rh)
def kj(n2:Nat)(aM bl bt bB dq bF J cJ:AV)(n1:Nat)(x1:aL)(s:U):Prop:=gy ["a","b","before","came","here","row","self","spot"] yO yP n1 x1 F (cP [("a",some aM),("b",some bl),("before",some bt),("came",some bB),("here",some dq),("row",some bF),("self",some J),("spot",some cJ)]) s (eM (Ls (eM (e7 P) F rh) F ["a","b","before","came","row","self","spot"] rd rg n2) F aG)
def OC(n2 n1:Nat)(x1:aL)(aM bl bt bB dq fE bF J cJ:AV)(s:U):Prop:=cD s (λ t1=>bO fE s (kj F P n2 aM bl bt bB dq bF J cJ n1 x1) t1) bF
def OD(n2 n1:Nat)(x1:aL)(aM bl bt bB dq bf fE bF J cJ:AV)(s:U):Prop:=cz (.tup [dq,bf]) s (OC F P n2 n1 x1 aM bl bt bB dq fE bF J cJ) bB fE
def CV(n2 n1:Nat)(x1:aL)(aM bl bt bB dq bF J cJ:AV)(s:U):Prop:=kj F P n2 aM bl bt bB dq bF J cJ n1 x1 s
def OE(n2 n1:Nat)(x1:aL)(aM bl bt bB dq bf fE bF J cJ:AV)(s:U):Prop:=oLt s (bU (λ s1=>fc s1 (bU (OD F P n2 n1 x1 aM bl bt bB dq bf fE bF J cJ) (CV F P n2 n1 x1 aM bl bt bB dq bF J cJ)) fE bB) (CV F P n2 n1 x1 aM bl bt bB dq bF J cJ)) bf bt
def Lv(n2:Nat)(aM bl bt bB dq bF J cJ:AV)(n1:Nat)(x1:aL)(s:U):Prop:=cw s (mI F P aM bl bt bB bF J cJ n2 s) (λ wu x1=>cO s (λ GJ=>dZ 2 GJ (bE GJ λ zv Lw=>bE Lw λ V1 V2=>eE V2 (OE F P n2 n1 x1 aM bl bt bB dq zv V1 bF J cJ s))) wu) x1
theorem zw{F:bS}{P:PV}{n2:Nat}{aM bl bt bB dq bF J cJ:AV}{n1:Nat}{x1:aL}{s:U}(h:Lv F P n2 aM bl bt bB dq bF J cJ n1 x1 s):kj F P n2 aM bl bt bB dq bF J cJ (n1+1) x1 s:=h
def OF(n2:Nat)(aM bl bt bB dq bF J cJ:AV)(s:U):Prop:=ai "beside" s (λ t1 s1=>Bm lj s1 (λ t2=>pM dq λ t3=>cT (.list []) s1 (λ t4 s2=>Hy s2 t2 λ t5=>(λ t6 s3=>dD s3 (λ t7=>∃t8,kj F P n2 aM bl bt bB dq bF J cJ t8 t7 s3) t6) ((br t5 t3).getD t4) s2)) t1) J
def OG(n2:Nat)(aM bl bt bB bF J cJ:AV)(s:U):Prop:=ah s (λ t1 s1=>bW s1 (λ t2 s2=>cO s2 (λ t3=>dZ 2 t3 (bE (t3.reverse) λ t4 t5=>bE t5 λ t6 t7=>eE t7 (OF F P n2 aM bl bt bB t6 bF J t4 s2))) (.tup [t1,t2])) cJ (.int 1)) bF cJ
def o2(aM bl bB bo J:AV)(n3:Nat)(s:U):Prop:=f5 ["a","b","came","found","self"] yQ yR n3 F (cP [("a",some aM),("b",some bl),("came",some bB),("found",some bo),("self",some J)]) s (eM (e7 P) F yS)
def OH(n3:Nat)(aM bB bo dq J:AV)(s:U):Prop:=o2 F P aM dq bB bo J n3 s
def OI(n3:Nat)(aM bB bo dq bf J:AV)(s:U):Prop:=cD s (λ t1=>ai "heap" s (λ t2 s1=>ai "edges" s1 (λ t3 s2=>ah s2 (λ t4 s3=>ah s3 (λ t5 s4=>fm s4 (λ t6 s5=>bO (.tup [bf,t6]) s5 (OH F P n3 aM bB bo dq J) t1) t5 dq) t4 (.int 0)) t3 bf) t2) J) bo
def OJ(n3:Nat)(aM bl bB bo J:AV)(s:U):Prop:=ah s (λ t1 s1=>cO s1 (λ t2=>dZ 2 t2 (bE t2 λ t3 t4=>bE t4 λ t5 t6=>eE t6 (OI F P n3 aM bB bo t3 t5 J s1))) t1) bB bl
def rC(bo:AV)(s:U):Prop:=pM (.int (-1)) λ t1=>eg none none (some t1) s P bo
def Lx(aM bl bB bo J:AV)(n3:Nat)(s:U):Prop:=fm s (bU (OJ F P n3 aM bl bB bo J) (rC P bo)) bl aM
theorem zx{F:bS}{P:PV}{aM bl bB bo J:AV}{n3:Nat}{s:U}(h:Lx F P aM bl bB bo J n3 s):o2 F P aM bl bB bo J (n3+1) s:=h
def Ly(aM bl bB bo J:AV)(s:U):Prop:=∃t1,o2 F P aM bl bB bo J t1 s
def Lz(aM bl bB J:AV)(s:U):Prop:=cT (.list []) s (λ t1 s1=>Ly F P aM bl bB t1 J s1)
def rD(aM bl bB J:AV)(s:U):Prop:=fc s (bU (λ s1=>False) (Lz F P aM bl bB J)) bl bB
def LA(aM bl bt bB bF J cJ:AV)(n2:Nat)(s:U):Prop:=bx s (λ t52 s33=>oLt s33 (bU (λ s34=>fc s34 (bU (OG F P n2 aM bl bt bB bF J cJ) (rD F P aM bl bB J)) bl bB) (rD F P aM bl bB J)) cJ t52) [bF]
theorem LB{F:bS}{P:PV}{aM bl bt bB bF J cJ:AV}{n2:Nat}{s:U}(h:LA F P aM bl bt bB bF J cJ n2 s):mI F P aM bl bt bB bF J cJ (n2+1) s:=h
def LC(aM bl bt bB bF J cJ:AV)(s:U):Prop:=∃t1,mI F P aM bl bt bB bF J cJ t1 s
def LD(aM bl bt J:AV)(s:U):Prop:=pM aM λ t1=>(s++[AO.dI []])[s.length]?=some (.dI [])/\cT (.list [aM]) ((s++[AO.dI []]).set s.length (.dI [(t1,(.tup []))])) (λ t2 s1=>cO s1 (λ t3=>dZ 3 t3 (bE (t3.reverse) λ t4 t5=>bE t5 λ t6 t7=>bE t7 λ t8 t9=>eE t9 (LC F P aM bl bt t8 t6 J t4 s1))) (.tup [(.ref s.length),t2,(.int 0)]))
def V3(J aM bl bt:AV)(s:U):Prop:=bu "renewed" s (λ t1 t2=>F.call t2 [.ref t1] s (λ t3 s1=>LD F P aM bl bt J s1)) J
def gX(aM bo J:AV)(n1:Nat)(x1:aL)(s:U):Prop:=gy ["a","found","self"] ri rj n1 x1 F (cP [("a",some aM),("found",some bo),("self",some J)]) s (eM (e7 P) F rk)
def tL(aM bo J:AV)(s:U):Prop:=ai "heap" s (λ t1 s1=>F.call .jj [t1,aM,bo] s1 P) J
def E0(n1:Nat)(x1:aL)(aM bo rE aS J:AV)(s:U):Prop:=cD s (λ t1=>bU (λ s1=>bO (.tup [(.str "turn"),aS]) s1 (gX F P aM bo J n1 x1) t1) (λ s2=>bO aS s2 (gX F P aM bo J n1 x1) t1) rE s) bo
def E1(n1:Nat)(x1:aL)(aM bo bf rE J:AV)(s:U):Prop:=bu "of_edge" s (λ t1 t2=>F.call t2 [.ref t1,bf] s (λ t3 s1=>E0 F P n1 x1 aM bo rE t3 J s1)) J
def CW(aM bo J:AV)(n1:Nat)(x1:aL)(s:U):Prop:=cw s (tL F P aM bo J s) (λ t2 x1=>cO s (λ t5=>dZ 2 t5 (bE t5 λ t6 t7=>bE t7 λ t8 t9=>eE t9 (E1 F P n1 x1 aM bo t6 t8 J s))) t2) x1
theorem rF{F:bS}{P:PV}{aM bo J:AV}{n1:Nat}{x1:aL}{s:U}(h:CW F P aM bo J n1 x1 s):gX F P aM bo J (n1+1) x1 s:=h
def E2(aM bl bt bo J:AV)(s:U):Prop:=bu "path" s (λ t1 t2=>F.call t2 [.ref t1,aM,bl,bt] s (λ t3 s1=>dD s1 (λ t4=>∃t5,gX F P aM bo J t5 t4 s1) t3)) J
def LF(J aM bl bt:AV)(s:U):Prop:=cT (.list []) s (λ t1 s1=>E2 F P aM bl bt t1 J s1)
def H8(bf J:AV)(s:U):Prop:=ai "heap" s (λ t1 s1=>F.call .gV [t1,bf] s1 P) J
def lU(bf J:AV)(n:Nat)(x:aL)(l:Nat)(s:U)(Q:U->Prop):Prop:=v5 n x l F (cP [("index",some bf),("self",some J)]) s Q
def E3(bf J:AV)(n:Nat)(x:aL)(l:Nat)(s:U)(Q:U->Prop):Prop:=ZW x λ V4=>sq s V4 Q λ V5 CX=>cO CX (λ LG=>dZ 2 LG (bE LG λ V6 V7=>bE V7 λ V8 V9=>eE V9 (bu "between" CX (λ V_ V'=>F.call V' [.ref V_,V6,V8,bf] CX (λ t45 LH=>bO t45 LH (λ Wa=>lU F bf J n x l Wa Q) l)) J))) V5
theorem tM{F:bS}{bf J:AV}{n:Nat}{x:aL}{l:Nat}{s:U}{Q:U->Prop}(h:E3 F bf J n x l s Q):lU F bf J (n+1) x l s Q:=h
def H9(bo J:AV)(s:U):Prop:=ai "level" s (λ t1 s1=>fk s1 (λ t2 s2=>bw "level" t2 s2 (P bo) J) t1 (.int 1)) J
def H_(aM bf SE J:AV)(s:U):Prop:=ai "heap" s (λ t1 s1=>ai "bank" s1 (λ t2 s2=>bu "op" s2 (λ t3 t4=>F.call t4 [.ref t3,aM] s2 (λ t5 s3=>HM s3 (λ t6=>d7 s3 (λ t7 s4=>d8 s4 (λ t8 s5=>H9 P (.tup [(.str "under"),t5,t8]) J s5) [t7]) λ t9 eh s6 eQ=>lU F bf J t9 t6 eh s6 eQ) SE)) t2) t1) J
def Ia(aM bl bf J:AV)(s:U):Prop:=ai "heap" s (λ t1 s1=>ai "bank" s1 (λ t2 s2=>bu "kids" s2 (λ t3 t4=>F.call t4 [.ref t3,aM] s2 (λ t5 s3=>ai "heap" s3 (λ t6 s4=>ai "bank" s4 (λ t7 s5=>bu "kids" s5 (λ t8 t9=>F.call t9 [.ref t8,bl] s5 (λ eh s6=>B6 s6 (λ eQ s7=>H_ F P aM bf eQ J s7) [t5,eh])) t7) t6) J)) t2) t1) J
def Ib(aM bl bf J:AV)(s:U):Prop:=ai "level" s (λ t1 s1=>fZ s1 (bU (λ s2=>False) (Ia F P aM bl bf J)) t1 (.int 100)) J
def Ic(aM bl bf J:AV)(s:U):Prop:=ai "level" s (λ t1 s1=>bW s1 (λ t2 s2=>bw "level" t2 s2 (Ib F P aM bl bf J) J) t1 (.int 1)) J
def Ie(aM bl bf bH J:AV)(s:U):Prop:=ah s (λ t1 s1=>fm s1 (bU (H8 F P bf J) (Ic F P aM bl bf J)) t1 (.str "like")) bH (.int 0)
def Ig(bf J:AV)(s:U):Prop:=ai "heap" s (λ t1 s1=>ai "edges" s1 (λ t2 s2=>ah s2 (λ t3 s3=>cO s3 (λ t4=>dZ 3 t4 (bE t4 λ t5 t6=>bE t6 λ t7 t8=>bE t8 λ t9 eh=>eE eh (Ie F P t5 t7 bf t9 J s3))) t3) t2 bf) t1) J
def E4(bf J:AV)(s:U):Prop:=ai "parts" s (λ t1 s1=>fZ s1 (bU (λ s2=>False) (Ig F P bf J)) t1 (.int 20000)) J
def OK(J bf:AV)(s:U):Prop:=ai "parts" s (λ t1 s1=>bW s1 (λ t2 s2=>bw "parts" t2 s2 (E4 F P bf J) J) t1 (.int 1)) J
def o3(n:Nat)(x:aL)(l:Nat)(s:U)(Q:U->Prop):Prop:=Cj n x l F (cP []) s Q
def CY(t1:AV)(n:Nat)(x:aL)(l:Nat)(Q:U->Prop)(s1:U):Prop:=bO t1 s1 (λ s2=>o3 F n x l s2 Q) l
def LI(n:Nat)(x:aL)(l:Nat)(s:U)(Q:U->Prop):Prop:=cw s (Q s) (λ t4 x=>yo t4 λ t5=>ef t5=true/\bU (CY F t4 n x l Q) (λ s8=>(so "()[]{},:") s8 (bU (CY F t4 n x l Q) (λ tN=>o3 F n x l tN Q)) t4 (.str "()[]{},:")) (.bool false) s) x
theorem zy{F:bS}{n:Nat}{x:aL}{l:Nat}{s:U}{Q:U->Prop}(h:LI F n x l s Q):o3 F (n+1) x l s Q:=h
def Wb(v_text:AV)(s:U):Prop:=fm s (λ t2 s2=>vm t2 λ t3=>if t3 then dD s2 (λ t7=>d7 s2 (λ eQ wx=>cT (.list []) wx (λ fL CZ=>uB CZ P eQ fL)) λ eh t8 LJ t9=>o3 F eh t7 t8 LJ t9) v_text else P (.bool false) s2) v_text (.str "")
def C3(J:AV)(s:U):Prop:=cT (.list []) s (λ t1 s1=>bw "depths" t1 s1 (P .none) J)
def C4(J:AV)(s:U):Prop:=cT (.list []) s (λ t1 s1=>bw "weights" t1 s1 (C3 P J) J)
def C5(J:AV)(s:U):Prop:=cT (.dT []) s (λ t1 s1=>bw "numbers" t1 s1 (C4 P J) J)
def Ih(F:bS)(P:PV)(J:AV)(s:U):Prop:=cT (.list []) s (λ t1 s1=>bw "nodes" t1 s1 (C5 P J) J)
def Ii(F:bS)(P:PV)(J:AV)(s:U):Prop:=ai "nodes" s (λ t1 s1=>bx s1 P [t1]) J
def ON(bM J:AV)(s:U):Prop:=ai "numbers" s (λ t1 s1=>ah s1 P t1 bM) J
def o4(bM J:AV)(n1:Nat)(x1:aL)(s:U):Prop:=gy ["node","self"] yV yW n1 x1 F (cP [("node",some bM),("self",some J)]) s (eM (e7 P) F yX)
def o5(J:AV)(n:Nat)(x:aL)(l:Nat)(s:U)(Q:U->Prop):Prop:=Ck n x l F (cP [("self",some J)]) s Q
def LK(J:AV)(n:Nat)(x:aL)(l:Nat)(s:U)(Q:U->Prop):Prop:=cw s (Q s) (λ tO x=>ai "weights" s (λ C6 RN=>ah RN (λ wu Wc=>bO wu Wc (λ LL=>o5 F J n x l LL Q) l) C6 tO) J) x
theorem zA{F:bS}{J:AV}{n:Nat}{x:aL}{l:Nat}{s:U}{Q:U->Prop}(h:LK F J n x l s Q):o5 F J (n+1) x l s Q:=h
def o6(J:AV)(n:Nat)(x:aL)(l:Nat)(s:U)(Q:U->Prop):Prop:=Cm n x l F (cP [("self",some J)]) s Q
def LM(J:AV)(n:Nat)(x:aL)(l:Nat)(s:U)(Q:U->Prop):Prop:=cw s (Q s) (λ We x=>ai "depths" s (λ RO LH=>ah LH (λ Wf Wa=>bO Wf Wa (λ s27=>o6 F J n x l s27 Q) l) RO We) J) x
theorem zB{F:bS}{J:AV}{n:Nat}{x:aL}{l:Nat}{s:U}{Q:U->Prop}(h:LM F J n x l s Q):o6 F J (n+1) x l s Q:=h
def OO(J:AV)(s:U):Prop:=ai "nodes" s (λ t1 s1=>bx s1 (λ t2 s2=>fk s2 P t2 (.int 1)) [t1]) J
def OP(bM J:AV)(s:U):Prop:=ai "depths" s (λ t1 s1=>cD s1 (λ t2=>eg (some 1) none none s1 (λ t3 s2=>dD s2 (λ t4=>d7 s2 (λ t5 s3=>cT (.list [(.int 0)]) s3 (λ t6 s4=>bW s4 (λ t7 s5=>j7 s5 (λ t8 s6=>bW s6 (λ t9 s7=>bO t9 s7 (OO P J) t2) (.int 1) t8) [t7]) t5 t6)) λ eh eQ s8 fL=>o6 F J eh t4 eQ s8 fL) t3) bM) t1) J
def OQ(bM J:AV)(s:U):Prop:=ai "weights" s (λ t1 s1=>cD s1 (λ t2=>eg (some 1) none none s1 (λ t3 s2=>dD s2 (λ t4=>d7 s2 (λ t5 s3=>BL s3 (λ t6 s4=>bW s4 (λ t7 s5=>bO t7 s5 (OP F P bM J) t2) (.int 1) t6) [t5]) λ t8 t9 s6 eh=>o5 F J t8 t4 t9 s6 eh) t3) bM) t1) J
def OS(bM J:AV)(s:U):Prop:=ai "nodes" s (λ t1 s1=>cD s1 (λ t2=>bO bM s1 (OQ F P bM J) t2) t1) J
def C7(bM J:AV)(s:U):Prop:=ai "nodes" s (λ t1 s1=>bx s1 (λ t2 s2=>ai "numbers" s2 (λ t3 s3=>cz t2 s3 (OS F P bM J) t3 bM) J) [t1]) J
def OT(n1:Nat)(x1:aL)(kG bM J:AV)(s:U):Prop:=nU (λ t1 t2 t3=>if t1<=t2 then t3 .none else False) s (λ t4 s1=>ai "nodes" s1 (λ t5 s2=>bx s2 (λ t6 s3=>nU (λ t7 t8 t9=>if !decide (t7<t8)then False else o4 F P bM J n1 x1 s3) s3 (λ aa aa=>True) kG t6) [t5]) J) (.int 0) kG
def LN(bM J:AV)(n1:Nat)(x1:aL)(s:U):Prop:=cw s (C7 F P bM J s) (λ eh x1=>OT F P n1 x1 eh bM J s) x1
theorem zD{F:bS}{P:PV}{bM J:AV}{n1:Nat}{x1:aL}{s:U}(h:LN F P bM J n1 x1 s):o4 F P bM J (n1+1) x1 s:=h
def LO(bM J:AV)(s:U):Prop:=eg (some 1) none none s (λ t1 s1=>dD s1 (λ t2=>∃t3,o4 F P bM J t3 t2 s1) t1) bM
def LP(bM ei J:AV)(s:U):Prop:=bu "require" s (λ t1 t2=>F.call t2 [.ref t1,ei] s (λ t3 s1=>LO F P bM J s1)) J
def LQ(bM ei J:AV)(s:U):Prop:=ai "numbers" s (λ t1 s1=>n4 s1 (bU (ON P bM J) (LP F P bM ei J)) bM t1) J
def Wg(J ei wy:AV)(s:U):Prop:=d8 s (λ t1 s1=>bW s1 (λ t2 s2=>LQ F P t2 ei J s2) (.tup [ei]) t1) [wy]
def LR(J ei:AV)(s:U):Prop:=F.call .xq [ei] s (tsn (λ s5=>False) (λ s6=>ah s6 (λ t2 s7=>oEq s7 (bU (λ s8=>False) (P .none)) t2 (.str "?")) ei (.int 0)))
def nI(aH J:AV)(n1:Nat)(s:U):Prop:=f5 ["many","self"] rl rm n1 F (cP [("many",some aH),("self",some J)]) s (eM (e7 P) F aG)
def E5(n1:Nat)(aH J:AV)(s:U):Prop:=ai "depths" s (λ t1 s1=>cD s1 (λ t2=>fe s1 (λ t3 s2=>nI F P aH J n1 s2) t2) t1) J
def E6(n1:Nat)(aH J:AV)(s:U):Prop:=ai "weights" s (λ t1 s1=>cD s1 (λ t2=>fe s1 (λ t3 s2=>E5 F P n1 aH J s2) t2) t1) J
def E7(n1:Nat)(aH J:AV)(s:U):Prop:=ai "numbers" s (λ t1 s1=>Bm uw s1 (λ t2=>ai "nodes" s1 (λ t3 s2=>cD s2 (λ t4=>fe s2 (λ t5 s3=>vJ t2 s3 (λ t6 s4=>E6 F P n1 aH J s4) [t5]) t4) t3) J) t1) J
def C8(aH J:AV)(n1:Nat)(s:U):Prop:=ai "nodes" s (λ t1 s1=>bx s1 (λ t2 s2=>j7 s2 (λ t3 s3=>fZ s3 (bU (E7 F P n1 aH J) (P .none)) t2 t3) [aH,(.int 0)]) [t1]) J
theorem rG{F:bS}{P:PV}{aH J:AV}{n1:Nat}{s:U}(h:C8 F P aH J n1 s):nI F P aH J (n1+1) s:=h
def LU(J aH:AV)(s:U):Prop:=∃zE,nI F P aH J zE s
def aaL(F:bS)(P:PV)(J aR:AV)(s:U):Prop:=ai "nodes" s (λ t1 s1=>ah s1 (λ t2 s2=>ah s2 P t2 (.int 0)) t1 aR) J
def Wh(F:bS)(P:PV)(J aR:AV)(s:U):Prop:=ai "nodes" s (λ t1 s1=>ah s1 (λ t2 s2=>eg (some 1) none none s2 P t2) t1 aR) J
def mJ(b6 aR J cy:AV)(n2:Nat)(s:U):Prop:=f5 ["below","n","self","stack"] rn ro n2 F (cP [("below",some b6),("n",some aR),("self",some J),("stack",some cy)]) s (eM (e7 P) F rp)
def mK(n2:Nat)(b6 aR J cy:AV)(n1:Nat)(x1:aL)(s:U):Prop:=gy ["below","n","self","stack"] y0 y1 n1 x1 F (cP [("below",some b6),("n",some aR),("self",some J),("stack",some cy)]) s (eM (Ls (eM (e7 P) F rp) F ["below","n","self","stack"] rn ro n2) F aG)
def OU(n2 n1:Nat)(x1:aL)(b6 kG aR J cy:AV)(s:U):Prop:=cD s (λ t1=>bO kG s (mK F P n2 b6 aR J cy n1 x1) t1) cy
def OV(n2 n1:Nat)(x1:aL)(b6 kG aR J cy:AV)(s:U):Prop:=cz (.bool true) s (OU F P n2 n1 x1 b6 kG aR J cy) b6 kG
def OW(n2 n1:Nat)(x1:aL)(b6 aR J cy:AV)(s:U):Prop:=mK F P n2 b6 aR J cy n1 x1 s
def OX(n2 n1:Nat)(x1:aL)(b6 kG aR J cy:AV)(s:U):Prop:=fc s (bU (OV F P n2 n1 x1 b6 kG aR J cy) (OW F P n2 n1 x1 b6 aR J cy)) kG b6
def LV(n2:Nat)(b6 aR J cy:AV)(n1:Nat)(x1:aL)(s:U):Prop:=cw s (mJ F P b6 aR J cy n2 s) (λ t9 x1=>OX F P n2 n1 x1 b6 t9 aR J cy s) x1
theorem zF{F:bS}{P:PV}{n2:Nat}{b6 aR J cy:AV}{n1:Nat}{x1:aL}{s:U}(h:LV F P n2 b6 aR J cy n1 x1 s):mK F P n2 b6 aR J cy (n1+1) x1 s:=h
def OY(n2:Nat)(b6 aR J cy:AV)(s:U):Prop:=bu "kids" s (λ t1 t2=>cD s (λ t3=>fe s (λ t4 s1=>F.call t2 [.ref t1,t4] s1 (λ t5 s2=>dD s2 (λ t6=>∃t7,mK F P n2 b6 aR J cy t7 t6 s2) t5)) t3) cy) J
def o7(d5 aR J:AV)(n3:Nat)(x3:aL)(s:U):Prop:=gy ["made","n","self"] y2 y3 n3 x3 F (cP [("made",some d5),("n",some aR),("self",some J)]) s (eM (e7 P) F y4)
def o8(d5:AV)(n:Nat)(x:aL)(l:Nat)(s:U)(Q:U->Prop):Prop:=Cn n x l F (cP [("made",some d5)]) s Q
def LW(d5:AV)(n:Nat)(x:aL)(l:Nat)(s:U)(Q:U->Prop):Prop:=cw s (Q s) (λ LY x=>ah s (λ LZ LL=>bO LZ LL (λ L0=>o8 F d5 n x l L0 Q) l) d5 LY) x
theorem zG{F:bS}{d5:AV}{n:Nat}{x:aL}{l:Nat}{s:U}{Q:U->Prop}(h:LW F d5 n x l s Q):o8 F d5 (n+1) x l s Q:=h
def OZ(n3:Nat)(x3:aL)(Wi d5 aR J:AV)(s:U):Prop:=bu "op" s (λ t1 t2=>F.call t2 [.ref t1,Wi] s (λ t3 s1=>bu "kids" s1 (λ t4 t5=>F.call t5 [.ref t4,Wi] s1 (λ t6 s2=>dD s2 (λ t7=>d7 s2 (λ t8 s3=>d8 s3 (λ t9 s4=>bW s4 (λ eh s5=>cz eh s5 (o7 F P d5 aR J n3 x3) d5 Wi) (.tup [t3]) t9) [t8]) λ eQ fL s6 jW=>o8 F d5 eQ t7 fL s6 jW) t6)) J)) J
def L1(d5 aR J:AV)(n3:Nat)(x3:aL)(s:U):Prop:=cw s (ah s P d5 aR) (λ wu x3=>OZ F P n3 x3 wu d5 aR J s) x3
theorem zH{F:bS}{P:PV}{d5 aR J:AV}{n3:Nat}{x3:aL}{s:U}(h:L1 F P d5 aR J n3 x3 s):o7 F P d5 aR J (n3+1) x3 s:=h
def O0(b6 d5 aR J:AV)(s:U):Prop:=dA s (λ t1 s1=>dD s1 (λ t2=>∃t3,o7 F P d5 aR J t3 t2 s1) t1) [b6]
def C9(b6 aR J:AV)(s:U):Prop:=cT (.dI []) s (λ t1 s1=>O0 F P b6 t1 aR J s1)
def L2(b6 aR J cy:AV)(n2:Nat)(s:U):Prop:=bx s (λ t8 s2=>fZ s2 (bU (OY F P n2 b6 aR J cy) (C9 F P b6 aR J)) t8 (.int 0)) [cy]
theorem rH{F:bS}{P:PV}{b6 aR J cy:AV}{n2:Nat}{s:U}(h:L2 F P b6 aR J cy n2 s):mJ F P b6 aR J cy (n2+1) s:=h
def L3(b6 aR J cy:AV)(s:U):Prop:=∃t1,mJ F P b6 aR J cy t1 s
def Wj(J aR:AV)(s:U):Prop:=pM aR λ t1=>(s++[AO.dI []])[s.length]?=some (.dI [])/\cT (.list [aR]) ((s++[AO.dI []]).set s.length (.dI [(t1,(.bool true))])) (λ t2 s1=>cO s1 (λ t3=>dZ 2 t3 (bE (t3.reverse) λ t4 t5=>bE t5 λ t6 t7=>eE t7 (L3 F P t6 aR J t4 s1))) (.tup [(.ref s.length),t2]))
def O3(F:bS)(P:PV)(J aR:AV)(s:U):Prop:=ai "weights" s (λ t1 s1=>ah s1 P t1 aR) J
def xU(J:AV)(s:U):Prop:=cT (.list []) s (λ t1 s1=>bw "merged" t1 s1 (P .none) J)
def xV(J:AV)(s:U):Prop:=cT (.list []) s (λ t1 s1=>bw "lots" t1 s1 (xU P J) J)
def C_(F:bS)(P:PV)(J:AV)(s:U):Prop:=cT (.list []) s (λ t1 s1=>bw "above" t1 s1 (xV P J) J)
def O4(J:AV)(s:U):Prop:=ai "above" s (λ t1 s1=>bx s1 (λ t2 s2=>fk s2 P t2 (.int 1)) [t1]) J
def O5(J:AV)(s:U):Prop:=ai "lots" s (λ t1 s1=>cD s1 (λ t2=>ai "lots" s1 (λ t3 s2=>bx s2 (λ t4 s3=>cT (.list [t4]) s3 (λ t5 s4=>bO t5 s4 (O4 P J) t2)) [t3]) J) t1) J
def Wk(F:bS)(P:PV)(J:AV)(s:U):Prop:=ai "above" s (λ t1 s1=>cD s1 (λ t2=>ai "above" s1 (λ t3 s2=>bx s2 (λ t4 s3=>bO t4 s3 (O5 P J) t2) [t3]) J) t1) J
def Dc(F:bS)(P:PV)(J:AV)(s:U):Prop:=ai "above" s (λ t1 s1=>bx s1 P [t1]) J
def nh(aM J:AV)(n1:Nat)(s:U):Prop:=f5 ["a","self"] wa wb n1 F (cP [("a",some aM),("self",some J)]) s (eM (e7 P) F wc)
def L4(n1:Nat)(aM J:AV)(s:U):Prop:=ai "above" s (λ t1 s1=>ah s1 (λ t2 s2=>nh F P t2 J n1 s2) t1 aM) J
def Ij(aM J:AV)(n1:Nat)(s:U):Prop:=ai "above" s (λ t1 s1=>ah s1 (λ t2 s2=>fm s2 (bU (L4 F P n1 aM J) (P aM)) t2 aM) t1 aM) J
theorem wz{F:bS}{P:PV}{aM J:AV}{n1:Nat}{s:U}(h:Ij F P aM J n1 s):nh F P aM J (n1+1) s:=h
def SG(J aM:AV)(s:U):Prop:=∃t5,nh F P aM J t5 s
def Ik(bZ cj J:AV)(s:U):Prop:=ai "merged" s (λ t1 s1=>cD s1 (λ t2=>bO (.tup [cj,bZ]) s1 (P (.tup [cj,bZ])) t2) t1) J
def Il(bZ cj J:AV)(s:U):Prop:=ai "lots" s (λ t1 s1=>ah s1 (λ t2 s2=>cD s2 (λ t3=>ai "lots" s2 (λ t4 s3=>ah s3 (λ t5 s4=>qL t3 s4 (Ik P bZ cj J) t5) t4 bZ) J) t2) t1 cj) J
def Im(bZ cj J:AV)(s:U):Prop:=ai "above" s (λ t1 s1=>cz cj s1 (Il P bZ cj J) t1 bZ) J
def Io(bZ cj J:AV)(s:U):Prop:=oEq s (bU (P AV.none) (Im P bZ cj J)) cj bZ
def O6(J aM bl:AV)(s:U):Prop:=bu "find" s (λ t1 t2=>F.call t2 [.ref t1,aM] s (λ t3 s1=>bu "find" s1 (λ t4 t5=>F.call t5 [.ref t4,bl] s1 (λ t6 s2=>cT (.list [t3,t6]) s2 (λ t7 s3=>dA s3 (λ t8 s4=>cO s4 (λ t9=>dZ 2 t9 (bE t9 λ eh eQ=>bE eQ λ fL jW=>eE jW (Io P fL eh J s4))) t8) [t7]))) J)) J
def L5(J aM:AV)(s:U):Prop:=ai "lots" s (λ t1 s1=>bu "find" s1 (λ t2 t3=>F.call t3 [.ref t2,aM] s1 (λ t4 s2=>ah s2 (λ t5 s3=>dA s3 P [t5]) t1 t4)) J) J
def uH(aH J:AV)(n1:Nat)(s:U):Prop:=f5 ["many","self"] y8 y9 n1 F (cP [("many",some aH),("self",some J)]) s (eM (e7 P) F aG)
def O7(n1:Nat)(bZ cj aH J:AV)(s:U):Prop:=ai "lots" s (λ t1 s1=>ah s1 (λ t2 s2=>ai "lots" s2 (λ t3 s3=>ah s3 (λ t4 s4=>bx s4 (λ t5 s5=>ai "lots" s5 (λ t6 s6=>ah s6 (λ t7 s7=>bx s7 (λ t8 s8=>fk s8 (λ t9 s9=>m_ s9 (uH F P aH J n1) t2 t9) t5 t8) [t7]) t6 bZ) J) [t4]) t3 cj) J) t1 cj) J
def O8(n1:Nat)(bZ cj aH J:AV)(s:U):Prop:=ai "above" s (λ t1 s1=>cz bZ s1 (O7 F P n1 bZ cj aH J) t1 bZ) J
def O9(n1:Nat)(aH J:AV)(s:U):Prop:=ai "merged" s (λ t1 s1=>cD s1 (λ t2=>fe s1 (λ t3 s2=>cO s2 (λ t4=>dZ 2 t4 (bE t4 λ t5 t6=>bE t6 λ t7 t8=>eE t8 (O8 F P n1 t7 t5 aH J s2))) t3) t2) t1) J
def L6(aH J:AV)(n1:Nat)(s:U):Prop:=ai "merged" s (λ t1 s1=>bx s1 (λ t2 s2=>j7 s2 (λ t3 s3=>fZ s3 (bU (O9 F P n1 aH J) (P .none)) t2 t3) [aH,(.int 0)]) [t1]) J
theorem zI{F:bS}{P:PV}{aH J:AV}{n1:Nat}{s:U}(h:L6 F P aH J n1 s):uH F P aH J (n1+1) s:=h
def Wl(J aH:AV)(s:U):Prop:=∃zv,uH F P aH J zv s
def uI(aH J:AV)(n1:Nat)(x1:aL)(s:U):Prop:=gy ["many","self"] y_ y' n1 x1 F (cP [("many",some aH),("self",some J)]) s (eM (e7 P) F za)
def O_(aH J:AV)(s:U):Prop:=ai "lots" s (λ t1 s1=>m_ s1 (P .none) t1 aH) J
def O'(aH J:AV)(s:U):Prop:=ai "above" s (λ t1 s1=>m_ s1 (O_ P aH J) t1 aH) J
def Pa(n1:Nat)(x1:aL)(aM aH J:AV)(s:U):Prop:=bu "members" s (λ t1 t2=>F.call t2 [.ref t1,aM] s (λ t3 s1=>cT (.list [aM]) s1 (λ t4 s2=>uC s2 (bU (λ s3=>False) (uI F P aH J n1 x1)) t3 t4))) J
def L7(aH J:AV)(n1:Nat)(x1:aL)(s:U):Prop:=cw s (O' P aH J s) (λ t2 x1=>Pa F P n1 x1 t2 aH J s) x1
theorem zJ{F:bS}{P:PV}{aH J:AV}{n1:Nat}{x1:aL}{s:U}(h:L7 F P aH J n1 x1 s):uI F P aH J (n1+1) x1 s:=h
def Pb(aH J:AV)(s:U):Prop:=ai "above" s (λ t1 s1=>bx s1 (λ t2 s2=>lh (λ t3=>∃t4,uI F P aH J t4 t3 s2) [aH,t2]) [t1]) J
def Wm(J aH:AV)(s:U):Prop:=j7 s (λ t1 s1=>Pb F P t1 J s1) [aH,(.int 0)]
def Dd(J:AV)(s:U):Prop:=cT (.list []) s (λ t1 s1=>bw "waiting" t1 s1 (λ s2=>bw "backs" (.int 0) s2 (P .none) J) J)
def De(J:AV)(s:U):Prop:=cT (.dI []) s (λ t1 s1=>bw "above" t1 s1 (Dd P J) J)
def Df(J:AV)(s:U):Prop:=cT (.dT []) s (λ t1 s1=>bw "known" t1 s1 (De P J) J)
def Dg(J:AV)(s:U):Prop:=cT (.list []) s (λ t1 s1=>bw "forest" t1 s1 (Df P J) J)
def Dh(J:AV)(s:U):Prop:=cT (.list []) s (λ t1 s1=>bw "edges" t1 s1 (Dg P J) J)
def Di(J:AV)(s:U):Prop:=F.make .fY [] s (λ t1 s1=>bw "unions" t1 s1 (Dh P J) J)
def Ip(J:AV)(s:U):Prop:=F.make .bank [] s (λ t1 s1=>bw "bank" t1 s1 (Di F P J) J)
def Iq(J:AV)(s:U):Prop:=ai "bank" s (λ t1 s1=>bu "size" s1 (λ t2 t3=>F.call t3 [.ref t2] s1 P) t1) J
def o9(J:AV)(n:Nat)(x:aL)(l:Nat)(s:U)(Q:U->Prop):Prop:=Cu n x l F (cP [("self",some J)]) s Q
def L8(J:AV)(n:Nat)(x:aL)(l:Nat)(s:U)(Q:U->Prop):Prop:=cw s (Q s) (λ t5 x=>bu "find" s (λ t6 t7=>F.call t7 [.ref t6,t5] s (λ t8 s3=>bO t8 s3 (λ s4=>o9 F J n x l s4 Q) l)) J) x
theorem zK{F:bS}{J:AV}{n:Nat}{x:aL}{l:Nat}{s:U}{Q:U->Prop}(h:L8 F J n x l s Q):o9 F J (n+1) x l s Q:=h
def Wn(J aR:AV)(s:U):Prop:=ai "bank" s (λ t1 s1=>bu "op" s1 (λ t2 t3=>F.call t3 [.ref t2,aR] s1 (λ t4 s2=>ai "bank" s2 (λ eQ s5=>bu "kids" s5 (λ fL jW=>F.call jW [.ref fL,aR] s5 (λ L9 s6=>dD s6 (λ eh=>d7 s6 (λ tO s8=>d8 s8 (λ C6 s9=>bW s9 P (.tup [t4]) C6) [tO]) λ L_ Dj s7 zE=>o9 F J L_ eh Dj s7 zE) L9)) eQ) J)) t1) J
def sr(aR J:AV)(n1:Nat)(x1:aL)(s:U):Prop:=gy ["n","self"] Cv Cw n1 x1 F (cP [("n",some aR),("self",some J)]) s (eM (e7 P) F Cy)
def GK(aR J:AV)(s:U):Prop:=bu "look_at" s (λ t1 t2=>F.call t2 [.ref t1,aR] s (λ t3 s1=>P aR s1)) J
def SH(n1:Nat)(x1:aL)(Wo aR J:AV)(s:U):Prop:=ai "above" s (λ t1 s1=>ah s1 (λ t2 s2=>cD s2 (λ t3=>bO aR s2 (sr F P aR J n1 x1) t3) t2) t1 Wo) J
def Pc(aR J:AV)(n1:Nat)(x1:aL)(s:U):Prop:=cw s (GK F P aR J s) (λ eQ x1=>SH F P n1 x1 eQ aR J s) x1
theorem Dk{F:bS}{P:PV}{aR J:AV}{n1:Nat}{x1:aL}{s:U}(h:Pc F P aR J n1 x1 s):sr F P aR J (n1+1) x1 s:=h
def su(J:AV)(n:Nat)(x:aL)(l:Nat)(s:U)(Q:U->Prop):Prop:=Gz n x l F (cP [("self",some J)]) s Q
def Pd(J:AV)(n:Nat)(x:aL)(l:Nat)(s:U)(Q:U->Prop):Prop:=cw s (Q s) (λ wu x=>bu "find" s (λ GJ zv=>F.call zv [.ref GJ,wu] s (λ Lw wx=>bO Lw wx (λ CZ=>su F J n x l CZ Q) l)) J) x
theorem Dl{F:bS}{J:AV}{n:Nat}{x:aL}{l:Nat}{s:U}{Q:U->Prop}(h:Pd F J n x l s Q):su F J (n+1) x l s Q:=h
def SI(aR d_ J:AV)(s:U):Prop:=dD s (λ t1=>d7 s (λ t2 s1=>uF s1 (λ t3 s2=>dA s2 (λ t4 s3=>dD s3 (λ t5=>∃t6,sr F P aR J t6 t5 s3) t4) [t3]) [t2]) λ t7 t8 s4 t9=>su F J t7 t1 t8 s4 t9) d_
def SJ(aR d_ J:AV)(s:U):Prop:=cT (.list []) s (λ t1 s1=>ai "above" s1 (λ t2 s2=>cz t1 s2 (SI F P aR d_ J) t2 aR) J)
def SK(aR d_ J:AV)(s:U):Prop:=ai "unions" s (λ t1 s1=>bu "make" s1 (λ t2 t3=>F.call t3 [.ref t2] s1 (λ t4 s2=>SJ F P aR d_ J s2)) t1) J
def SM(aR d_ J:AV)(s:U):Prop:=ai "unions" s (λ t1 s1=>bu "size" s1 (λ t2 t3=>F.call t3 [.ref t2] s1 (λ t4 s2=>oLt s2 (bU (P aR) (SK F P aR d_ J)) aR t4)) t1) J
def YB(J ei d_:AV)(s:U):Prop:=ai "bank" s (λ t1 s1=>bu "take" s1 (λ t2 t3=>F.call t3 [.ref t2,ei,d_] s1 (λ t4 s2=>SM F P t4 d_ J s2)) t1) J
def E8(aR fE J:AV)(s:U):Prop:=bu "join" s (λ t1 t2=>F.call t2 [.ref t1,fE,aR,(.tup [(.str "like")])] s (λ t3 s1=>P .none s1)) J
def E9(aR fE J:AV)(s:U):Prop:=bu "find" s (λ t1 t2=>F.call t2 [.ref t1,fE] s (λ t3 s1=>bu "find" s1 (λ t4 t5=>F.call t5 [.ref t4,aR] s1 (λ t6 s2=>fm s2 (bU (E8 F P aR fE J) (P .none)) t3 t6)) J)) J
def Ma(J aR:AV)(s:U):Prop:=ai "known" s (λ t1 s1=>Bm uw s1 (λ t2=>bu "node" s1 (λ t3 t4=>F.call t4 [.ref t3,aR] s1 (λ t5 s2=>iq t2 s2 (λ t6 s3=>E9 F P aR t6 J s3) [t5,aR])) J) t1) J
def Wq(J aR:AV)(s:U):Prop:=ai "unions" s (λ t1 s1=>bu "find" s1 (λ t2 t3=>F.call t3 [.ref t2,aR] s1 P) t1) J
def SN(J aM bl bH:AV)(s:U):Prop:=bu "join" s (λ t1 t2=>F.call t2 [.ref t1,aM,bl,bH] s P) J
def Mb(bZ cj J:AV)(s:U):Prop:=ai "above" s (λ t1 s1=>ah s1 (λ t2 s2=>ai "above" s2 (λ t3 s3=>Bm lj s3 (λ t4=>sk t4 s3 (λ t5 s4=>bW s4 (λ t6 s5=>ai "above" s5 (λ t7 s6=>cz t6 s6 (P (.bool true)) t7 cj) J) t2 t5) [bZ]) t3) J) t1 cj) J
def Mc(bZ cj J:AV)(s:U):Prop:=ai "waiting" s (λ t1 s1=>cD s1 (λ t2=>ai "above" s1 (λ t3 s2=>ah s2 (λ t4 s3=>qL t2 s3 (Mb P bZ cj J) t4) t3 bZ) J) t1) J
def Md(bZ cj J:AV)(s:U):Prop:=ai "forest" s (λ t1 s1=>cD s1 (λ t2=>ai "edges" s1 (λ t3 s2=>bx s2 (λ t4 s3=>fk s3 (λ t5 s4=>bO t5 s4 (Mc P bZ cj J) t2) t4 (.int 1)) [t3]) J) t1) J
def Me(o_ J:AV)(s:U):Prop:=cO s (λ t1=>dZ 2 t1 (bE t1 λ t2 t3=>bE t3 λ t4 t5=>eE t5 (Md P t4 t2 J s))) o_
def Mf(o_ J:AV)(s:U):Prop:=BC s (bU (P (.bool false)) (Me P o_ J)) o_ AV.none
def Mh(aM bl J:AV)(s:U):Prop:=ai "unions" s (λ t1 s1=>bu "merge" s1 (λ t2 t3=>F.call t3 [.ref t2,aM,bl] s1 (λ t4 s2=>Mf P t4 J s2)) t1) J
def SO(J aM bl bH:AV)(s:U):Prop:=ai "edges" s (λ t1 s1=>cD s1 (λ t2=>bO (.tup [aM,bl,bH]) s1 (Mh F P aM bl J) t2) t1) J
def pa(J:AV)(n1:Nat)(s:U):Prop:=f5 ["self"] tC tD n1 F (cP [("self",some J)]) s (eM (e7 P) F aG)
def Ir(n1:Nat)(J:AV)(s:U):Prop:=bu "look_at" s (λ t1 t2=>ai "waiting" s (λ t3 s1=>cD s1 (λ t4=>fe s1 (λ t5 s2=>F.call t2 [.ref t1,t5] s2 (λ t6 s3=>pa F P J n1 s3)) t4) t3) J) J
def E_(J:AV)(n1:Nat)(s:U):Prop:=ai "waiting" s (λ t1 s1=>bx s1 (λ t2 s2=>fZ s2 (bU (Ir F P n1 J) (P .none)) t2 (.int 0)) [t1]) J
theorem tP{F:bS}{P:PV}{J:AV}{n1:Nat}{s:U}(h:E_ F P J n1 s):pa F P J (n1+1) s:=h
def Pf(J:AV)(s:U):Prop:=∃t9,pa F P J t9 s
def xW(J:AV)(s:U):Prop:=cT (.list []) s (λ t1 s1=>bw "marks" t1 s1 (λ s2=>bw "made" (.int 0) s2 (P .none) J) J)
def xX(J:AV)(s:U):Prop:=cT (.list []) s (λ t1 s1=>bw "changes" t1 s1 (xW P J) J)
def Dm(J:AV)(s:U):Prop:=Ca "__init__" s (λ t1 t2=>F.call t2 [.ref t1] s (λ t3 s1=>xX P J s1)) J
def Wr(F:bS)(P:PV)(J:AV)(s:U):Prop:=ai "marks" s (λ t1 s1=>cD s1 (λ t2=>ai "changes" s1 (λ t3 s2=>bx s2 (λ t4 s3=>ai "waiting" s3 (λ t5 s4=>jH s4 (λ t6 s5=>bO (.tup [t4,t6]) s5 (P .none) t2) [t5]) J) [t3]) J) t1) J
def l9(aH J bX:AV)(n1:Nat)(s:U):Prop:=f5 ["many","self","waiting"] CD CE n1 F (cP [("many",some aH),("self",some J),("waiting",some bX)]) s (eM (e7 P) F CF)
def SP(n1:Nat)(dB aH J bX:AV)(s:U):Prop:=bu "unmake" s (λ t1 t2=>ah s (λ t3 s1=>F.call t2 [.ref t1,t3] s1 (λ t4 s2=>l9 F P aH J bX n1 s2)) dB (.int 1)) J
def SQ(n1:Nat)(dB aH J bX:AV)(s:U):Prop:=ai "known" s (λ t1 s1=>ah s1 (λ t2 s2=>qU s2 (l9 F P aH J bX n1) t1 t2) dB (.int 1)) J
def SR(n1:Nat)(dB aH J bX:AV)(s:U):Prop:=bu "unjoin" s (λ t1 t2=>F.call t2 [.ref t1,dB] s (λ t3 s1=>l9 F P aH J bX n1 s1)) J
def SS(n1:Nat)(dB aH J bX:AV)(s:U):Prop:=ah s (λ t1 s1=>oEq s1 (bU (SQ F P n1 dB aH J bX) (SR F P n1 dB aH J bX)) t1 (.str "known")) dB (.int 0)
def SU(n1:Nat)(dB aH J bX:AV)(s:U):Prop:=ah s (λ t1 s1=>oEq s1 (bU (SP F P n1 dB aH J bX) (SS F P n1 dB aH J bX)) t1 (.str "made")) dB (.int 0)
def SV(n1:Nat)(aH J bX:AV)(s:U):Prop:=ai "changes" s (λ t1 s1=>cD s1 (λ t2=>fe s1 (λ t3 s2=>SU F P n1 t3 aH J bX s2) t2) t1) J
def GL(J bX:AV)(s:U):Prop:=bw "waiting" bX s (P .none) J
def Pg(aH J bX:AV)(n1:Nat)(s:U):Prop:=ai "changes" s (λ eQ s6=>bx s6 (λ fL s7=>fZ s7 (bU (SV F P n1 aH J bX) (GL P J bX)) fL aH) [eQ]) J
theorem Dn{F:bS}{P:PV}{aH J bX:AV}{n1:Nat}{s:U}(h:Pg F P aH J bX n1 s):l9 F P aH J bX (n1+1) s:=h
def SW(aH J bX:AV)(s:U):Prop:=∃t1,l9 F P aH J bX t1 s
def SX(aH J bX:AV)(s:U):Prop:=ai "backs" s (λ t1 s1=>bW s1 (λ t2 s2=>bw "backs" t2 s2 (SW F P aH J bX) J) t1 (.int 1)) J
def Ph(J:AV)(s:U):Prop:=ai "marks" s (λ t1 s1=>cD s1 (λ t2=>fe s1 (λ t3 s2=>cO s2 (λ t4=>dZ 2 t4 (bE t4 λ t5 t6=>bE t6 λ t7 t8=>eE t8 (SX F P t5 J t7 s2))) t3) t2) t1) J
def YC(J:AV)(s:U):Prop:=ai "marks" s (λ t48 s42=>bx s42 (λ t49 s43=>oEq s43 (bU (λ s44=>False) (Ph F P J)) t49 (.int 0)) [t48]) J
def wA(aR J:AV)(s:U):Prop:=Ca "look_at" s (λ t1 t2=>F.call t2 [.ref t1,aR] s (λ t3 s1=>P .none s1)) J
def Iu(aR bM J:AV)(s:U):Prop:=ai "changes" s (λ t1 s1=>cD s1 (λ t2=>bO (.tup [(.str "known"),bM]) s1 (wA F P aR J) t2) t1) J
def Iv(aR bM J:AV)(s:U):Prop:=ai "known" s (λ t1 s1=>fc s1 (bU (Iu F P aR bM J) (wA F P aR J)) bM t1) J
def pb(aR J:AV)(s:U):Prop:=bu "node" s (λ t1 t2=>F.call t2 [.ref t1,aR] s (λ t3 s1=>Iv F P aR t3 J s1)) J
def Iw(aR J:AV)(s:U):Prop:=bW s (λ t1 s1=>bw "made" t1 s1 (pb F P aR J) J) aR (.int 1)
def Iy(aR J:AV)(s:U):Prop:=ai "changes" s (λ t1 s1=>cD s1 (λ t2=>bO (.tup [(.str "made"),aR]) s1 (Iw F P aR J) t2) t1) J
def Pj(J aR:AV)(s:U):Prop:=ai "made" s (λ tO L0=>oEq L0 (bU (Iy F P aR J) (pb F P aR J)) aR tO) J
def Pk(aM bl bH J:AV)(s:U):Prop:=Ca "join" s (λ t1 t2=>F.call t2 [.ref t1,aM,bl,bH] s P) J
def Pl(aM bl bZ cj bH J:AV)(s:U):Prop:=ai "changes" s (λ t1 s1=>cD s1 (λ t2=>ai "above" s1 (λ t3 s2=>ah s2 (λ t4 s3=>bx s3 (λ t5 s4=>ai "above" s4 (λ t6 s5=>ah s5 (λ t7 s6=>bO (.tup [(.str "edge"),cj,t5,bZ,t7]) s6 (Pk F P aM bl bH J) t2) t6 bZ) J) [t4]) t3 cj) J) t1) J
def Ws(J aM bl bH:AV)(s:U):Prop:=bu "find" s (λ t1 t2=>F.call t2 [.ref t1,aM] s (λ t3 s1=>bu "find" s1 (λ t4 t5=>F.call t5 [.ref t4,bl] s1 (λ t6 s2=>cT (.list [t3,t6]) s2 (λ t7 s3=>dA s3 (λ t8 s4=>cO s4 (λ t9=>dZ 2 t9 (bE t9 λ eh eQ=>bE eQ λ fL jW=>eE jW (Pl F P aM bl fL eh bH J s4))) t8) [t7]))) J)) J
def lV(aR J:AV)(n1:Nat)(x1:aL)(s:U):Prop:=gy ["n","self"] tE tF n1 x1 F (cP [("n",some aR),("self",some J)]) s (eM (e7 P) F tG)
def Iz(aR J:AV)(s:U):Prop:=ai "bank" s (λ t1 s1=>bu "cut" s1 (λ t2 t3=>F.call t3 [.ref t2,aR] s1 (λ t4 s2=>bw "made" aR s2 (P .none) J)) t1) J
def IA(aR J:AV)(s:U):Prop:=ai "unions" s (λ t1 s1=>bu "cut" s1 (λ t2 t3=>F.call t3 [.ref t2,aR] s1 (λ t4 s2=>Iz F P aR J s2)) t1) J
def wB(aR J:AV)(s:U):Prop:=ai "above" s (λ t1 s1=>qU s1 (IA F P aR J) t1 aR) J
def IB(n1:Nat)(x1:aL)(Wo aR J:AV)(s:U):Prop:=ai "above" s (λ t1 s1=>ah s1 (λ t2 s2=>cD s2 (λ t3=>fe s2 (λ t4 s3=>lV F P aR J n1 x1 s3) t3) t2) t1 Wo) J
def Fb(aR J:AV)(n1:Nat)(x1:aL)(s:U):Prop:=cw s (wB F P aR J s) (λ t1 x1=>IB F P n1 x1 t1 aR J s) x1
theorem tQ{F:bS}{P:PV}{aR J:AV}{n1:Nat}{x1:aL}{s:U}(h:Fb F P aR J n1 x1 s):lV F P aR J (n1+1) x1 s:=h
def lW(J:AV)(n:Nat)(x:aL)(l:Nat)(s:U)(Q:U->Prop):Prop:=wj n x l F (cP [("self",some J)]) s Q
def Fc(J:AV)(n:Nat)(x:aL)(l:Nat)(s:U)(Q:U->Prop):Prop:=cw s (Q s) (λ L_ x=>bu "find" s (λ tO C6=>F.call C6 [.ref tO,L_] s (λ wu wx=>bO wu wx (λ CZ=>lW F J n x l CZ Q) l)) J) x
theorem tS{F:bS}{J:AV}{n:Nat}{x:aL}{l:Nat}{s:U}{Q:U->Prop}(h:Fc F J n x l s Q):lW F J (n+1) x l s Q:=h
def Pm(J aR:AV)(s:U):Prop:=ai "bank" s (λ Lw s14=>bu "kids" s14 (λ V1 V2=>F.call V2 [.ref V1,aR] s14 (λ LY RN=>dD RN (λ zv=>d7 RN (λ t30 LL=>uF LL (λ t31 L0=>dA L0 (λ We s19=>dD s19 (λ zE=>∃Dj,lV F P aR J Dj zE s19) We) [t31]) [t30]) λ t29 LZ Wc t28=>lW F J t29 zv LZ Wc t28) LY)) Lw) J
def IC(bZ J f_:AV)(s:U):Prop:=ai "above" s (λ t1 s1=>cz f_ s1 (P .none) t1 bZ) J
def ID(bZ cj aH J f_:AV)(s:U):Prop:=ai "above" s (λ t1 s1=>ah s1 (λ t2 s2=>pM aH λ t3=>eg none (some t3) none s2 (λ t4 s3=>ai "above" s3 (λ t5 s4=>cz t4 s4 (IC P bZ J f_) t5 cj) J) t2) t1 cj) J
def IE(bZ cj aH J f_:AV)(s:U):Prop:=ai "unions" s (λ t1 s1=>bu "back" s1 (λ t2 t3=>ai "unions" s1 (λ t4 s2=>ai "merged" s2 (λ t5 s3=>bx s3 (λ t6 s4=>fk s4 (λ t7 s5=>F.call t3 [.ref t2,t7] s5 (λ t8 s6=>ID P bZ cj aH J f_ s6)) t6 (.int 1)) [t5]) t4) J) t1) J
def IF(bZ cj aH J f_:AV)(s:U):Prop:=ai "forest" s (λ t1 s1=>cD s1 (λ t2=>fe s1 (λ t3 s2=>IE F P bZ cj aH J f_ s2) t2) t1) J
def IG(bZ cj aH J f_:AV)(s:U):Prop:=fm s (bU (IF F P bZ cj aH J f_) (P .none)) cj bZ
def IH(bZ cj aH J f_:AV)(s:U):Prop:=ai "edges" s (λ t1 s1=>cD s1 (λ t2=>fe s1 (λ t3 s2=>IG F P bZ cj aH J f_ s2) t2) t1) J
def Pn(J dB:AV)(s:U):Prop:=cO s (λ t1=>dZ 5 t1 (bE t1 λ t2 t3=>bE t3 λ t4 t5=>bE t5 λ t6 t7=>bE t7 λ t8 t9=>bE t9 λ eh eQ=>eE eQ (IH F P t8 t4 t6 J eh s))) dB
def Po(pd aI aH:AV)(s:U):Prop:=ah s (λ t1 s1=>bx s1 (λ t2 s2=>oLt s2 (bU (λ s3=>ah s3 (λ t3 s4=>ah s4 (λ t4 s5=>oMod s5 P t4 aH) t3 pd) aI (.str "row")) (λ s6=>uj s6 (λ t5 s7=>uj s7 (λ t6 s8=>uj s8 (λ t7 s9=>bW s9 (λ t8 tN=>oDiv tN (λ t9 LJ=>bW LJ (λ eh wx=>bW wx (λ eQ CZ=>oMod CZ P eQ aH) eh (.int 2)) t8 t9) pd (.int 3)) t6 t7) (.int 8) pd) t5 pd) (.int 5) pd)) pd t2) [t1]) aI (.str "row")
def Pp(pd aI aH:AV)(s:U):Prop:=bW s (λ t1 s1=>cz t1 s1 (Po P pd aI aH) aI (.str "at")) pd (.int 1)
def Wt(F:bS)(P:PV)(aI aH:AV)(s:U):Prop:=ah s (λ t1 s1=>Pp P t1 aI aH s1) aI (.str "at")
def kT(aj:AV)(n:Nat)(x:aL)(l:Nat)(s:U)(Q:U->Prop):Prop:=zf n x l F (cP [("nodes",some aj)]) s Q
def II(aj:AV)(n:Nat)(x:aL)(l:Nat)(s:U)(Q:U->Prop):Prop:=cw s (Q s) (λ t3 x=>F.call .gr [aj,t3] s (λ t4 s3=>bO t4 s3 (λ s4=>kT F aj n x l s4 Q) l)) x
theorem wC{F:bS}{aj:AV}{n:Nat}{x:aL}{l:Nat}{s:U}{Q:U->Prop}(h:II F aj n x l s Q):kT F aj (n+1) x l s Q:=h
def SY(aj aR:AV)(s:U):Prop:=ah s (λ t1 s1=>ah s1 (λ t2 s2=>ah s2 (λ t7 s5=>eg (some 1) none none s5 (λ t8 s6=>dD s6 (λ t6=>d7 s6 (λ fL s8=>d8 s8 (λ jW s9=>bW s9 P (.tup [t2]) jW) [fL]) λ eQ t9 s7 eh=>kT F aj eQ t6 t9 s7 eh) t8) t7) aj aR) t1 (.int 0)) aj aR
def pe(aI aj:AV)(n:Nat)(x:aL)(l:Nat)(s:U)(Q:U->Prop):Prop:=CK n x l F (cP [("feed",some aI),("nodes",some aj)]) s Q
def Mi(aI aj:AV)(n:Nat)(x:aL)(l:Nat)(s:U)(Q:U->Prop):Prop:=cw s (Q s) (λ t3 x=>bx s (λ t4 s3=>BK s3 (λ t5 s4=>F.call .pick [aI,t5] s4 (λ t6 s5=>bO t6 s5 (λ s6=>pe F aI aj n x l s6 Q) l)) [t4,(.int 4)]) [aj]) x
theorem zL{F:bS}{aI aj:AV}{n:Nat}{x:aL}{l:Nat}{s:U}{Q:U->Prop}(h:Mi F aI aj n x l s Q):pe F aI aj (n+1) x l s Q:=h
def Dp(bM aj:AV)(s:U):Prop:=n4 s (bU (P aj) (λ s1=>cT (.list [bM]) s1 (λ t1 s2=>bW s2 P aj t1))) bM aj
def Dq(ak bM aj ei:AV)(s:U):Prop:=bu "add" s (λ t1 t2=>eg (some 1) none none s (λ t3 s1=>F.call t2 [.ref t1,ei,t3] s1 (λ t4 s2=>Dp P bM aj s2)) bM) ak
def uJ(aI:AV)(ak:AV)(aj:AV)(ei:AV)(t8:AV)(s1:U):Prop:=lh (λ t1=>d7 s1 (λ t2 s2=>d8 s2 (λ t3 s3=>bW s3 (λ t4 s4=>Dq F P ak t4 aj ei s4) (.tup [ei]) t3) [t2]) λ t5 t6 s5 t7=>pe F aI aj t5 t1 t6 s5 t7) [t8]
def Pq(aI ak aj ei:AV)(s:U):Prop:=oEq s (bU (uJ F P aI ak aj ei (.int 1)) (uJ F P aI ak aj ei (.int 2))) ei (.str "f")
def Wu(aI ak aj:AV)(s:U):Prop:=F.call .pick [aI,(.int 2)] s (λ t1 s1=>ah s1 (Pq F P aI ak aj) (.str "fg") t1)
def Mj(aS:AV)(s:U):Prop:=ah s (λ t1 s1=>ah s1 (λ t2 s2=>P (.tup [t1,t2]) s2) aS (.int 1)) aS (.int 1)
def Ml(aj v_pair:AV)(s:U):Prop:=BC s (bU (P AV.none) (λ s1=>ah s1 (λ t1 s2=>F.call .gr [aj,t1] s2 (λ t2 s3=>ah s3 (λ t3 s4=>F.call .gr [aj,t3] s4 (λ t4 s5=>P (.tup [t2,t4]) s5)) v_pair (.int 1))) v_pair (.int 0))) v_pair AV.none
def Mm(aj aS bc:AV)(s:U):Prop:=Bm Hx s (λ t1=>ah s (λ t2 s1=>yo t2 λ t3=>BS s1 t1 λ t4=>(Ml F P aj) ((br t4 t3).getD .none) s1) aS (.int 1)) bc
def ni(aj bc:AV)(n:Nat)(x:aL)(l:Nat)(s:U)(Q:U->Prop):Prop:=zg n x l F (cP [("nodes",some aj),("told",some bc)]) s Q
def IJ(aj bc:AV)(n:Nat)(x:aL)(l:Nat)(s:U)(Q:U->Prop):Prop:=cw s (Q s) (λ LY x=>F.call .lN [LY,aj,bc] s (λ LZ CX=>bO LZ CX (λ LH=>ni F aj bc n x l LH Q) l)) x
theorem wD{F:bS}{aj bc:AV}{n:Nat}{x:aL}{l:Nat}{s:U}{Q:U->Prop}(h:IJ F aj bc n x l s Q):ni F aj bc (n+1) x l s Q:=h
def Mn(eo:AV)(s:U):Prop:=ah s (λ t1 s1=>ah s1 (λ t2 s2=>ah s2 (λ t3 s3=>ah s3 (λ t4 s4=>P (.tup [t2,t4]) s4) t3 (.int 0)) eo (.int 0)) t1 (.int 1)) eo (.int 0)
def Mo(eo:AV)(s:U):Prop:=ah s (λ t1 s1=>ah s1 (λ t2 s2=>ah s2 (λ t3 s3=>ah s3 (λ t4 s4=>oEq s4 (bU (λ s5=>ah s5 (λ t5 s6=>ah s6 (λ t6 s7=>ah s7 (λ t7 s8=>ah s8 (λ t8 s9=>P (.tup [t6,t8]) s9) t7 (.int 1)) eo (.int 1)) t5 (.int 0)) eo (.int 0)) (P AV.none)) t2 t4) t3 (.int 0)) eo (.int 1)) t1 (.int 1)) eo (.int 0)
def nj(n:Nat)(x:aL)(l:Nat)(s:U)(Q:U->Prop):Prop:=zh n x l F (cP []) s Q
def IK(n:Nat)(x:aL)(l:Nat)(s:U)(Q:U->Prop):Prop:=cw s (Q s) (λ t62 x=>ah s (λ t63 s60=>bO t63 s60 (λ s61=>nj F n x l s61 Q) l) t62 (.int 0)) x
theorem wF{F:bS}{n:Nat}{x:aL}{l:Nat}{s:U}{Q:U->Prop}(h:IK F n x l s Q):nj F (n+1) x l s Q:=h
def nk(n:Nat)(x:aL)(l:Nat)(s:U)(Q:U->Prop):Prop:=zi n x l F (cP []) s Q
def IL(n:Nat)(x:aL)(l:Nat)(s:U)(Q:U->Prop):Prop:=cw s (Q s) (λ t73 x=>ah s (λ t74 s67=>bO t74 s67 (λ s68=>nk F n x l s68 Q) l) t73 (.int 1)) x
theorem wG{F:bS}{n:Nat}{x:aL}{l:Nat}{s:U}{Q:U->Prop}(h:IL F n x l s Q):nk F (n+1) x l s Q:=h
def Mp(aS eo:AV)(s:U):Prop:=ah s (λ t1 s1=>dD s1 (λ t2=>d7 s1 (λ t3 s2=>d8 s2 (λ t4 s3=>bW s3 (λ t5 s4=>ah s4 (λ t6 s5=>dD s5 (λ t7=>d7 s5 (λ t8 s6=>d8 s6 (λ t9 s7=>bW s7 (λ eh s8=>P (.tup [t5,eh]) s8) (.tup [t6]) t9) [t8]) λ eQ fL s9 jW=>nk F eQ t7 fL s9 jW) eo) aS (.int 1)) (.tup [t1]) t4) [t3]) λ L9 Dj tN zE=>nj F L9 t2 Dj tN zE) eo) aS (.int 1)
def IM(dR aS eo:AV)(s:U):Prop:=oEq s (bU (Mo P eo) (Mp F P aS eo)) dR (.str "join")
def wH(dR aS eo:AV)(s:U):Prop:=oEq s (bU (Mn P eo) (IM F P dR aS eo)) dR (.str "turn")
def IP(dR aS eo:AV)(s:U):Prop:=n4 s (bU (P AV.none) (λ s1=>oEq s1 (bU (P AV.none) (wH F P dR aS eo)) dR (.str "rule"))) AV.none eo
def pf(dR:AV)(aj:AV)(aS:AV)(bc:AV)(t5:AV)(s1:U):Prop:=dD s1 (λ t1=>d7 s1 (IP F P dR aS) λ t2 t3 s2 t4=>ni F aj bc t2 t1 t3 s2 t4) t5
def wI(dR aj aS bc:AV)(s:U):Prop:=oEq s (bU (λ s1=>ah s1 (pf F P dR aj aS bc) aS (.int 2)) (λ s2=>eg (some 1) none none s2 (pf F P dR aj aS bc) aS)) dR (.str "under")
def IQ(dR aj aS bc:AV)(s:U):Prop:=wI F P dR aj aS bc s
def pg(dR aj aS bc:AV)(s:U):Prop:=oEq s (bU (Mm F P aj aS bc) (IQ F P dR aj aS bc)) dR (.str "told")
def IS(dR aj aS bc:AV)(s:U):Prop:=pg F P dR aj aS bc s
def IT(dR aj aS bc:AV)(s:U):Prop:=oEq s (bU (Mj P aS) (IS F P dR aj aS bc)) dR (.str "same")
def S0(aS aj bc:AV)(s:U):Prop:=ah s (λ t1 s1=>IT F P t1 aj aS bc s1) aS (.int 0)
def IU(aS:AV)(s:U):Prop:=ah s (λ t1 s1=>oEq s1 (bU (λ s2=>ah s2 (λ t2 s3=>cT (.list [t2]) s3 P) aS (.int 1)) (λ s4=>cT (.list []) s4 P)) t1 (.str "told")) aS (.int 0)
def lX(bo:AV)(n1:Nat)(x1:aL)(s:U):Prop:=gy ["found"] tH tI n1 x1 F (cP [("found",some bo)]) s (eM (e7 P) F tJ)
def IV(n1:Nat)(x1:aL)(bo YD:AV)(s:U):Prop:=cD s (λ t1=>F.call .kM [YD] s (λ t2 s1=>qL t1 s1 (lX F P bo n1 x1) t2)) bo
def Fd(bo:AV)(n1:Nat)(x1:aL)(s:U):Prop:=cw s (P bo s) (λ fL x1=>IV F P n1 x1 bo fL s) x1
theorem tT{F:bS}{P:PV}{bo:AV}{n1:Nat}{x1:aL}{s:U}(h:Fd F P bo n1 x1 s):lX F P bo (n1+1) x1 s:=h
def pj(bo:AV)(t3:AV)(s1:U):Prop:=dD s1 (λ t1=>∃t2,lX F P bo t2 t1 s1) t3
def wJ(bo aS:AV)(s:U):Prop:=ah s (λ t1 s1=>oEq s1 (bU (λ s2=>ah s2 (pj F P bo) aS (.int 2)) (λ s3=>eg (some 1) none none s3 (pj F P bo) aS)) t1 (.str "under")) aS (.int 0)
def IW(aS:AV)(s:U):Prop:=cT (.list []) s (λ t1 s1=>wJ F P t1 aS s1)
def Pt(aS:AV)(s:U):Prop:=ah s (λ GJ CX=>n4 CX (bU (IU P aS) (IW F P aS)) GJ (.tup [(.str "same"),(.str "told")])) aS (.int 0)
def jI(aN ak aj ba bc aB:AV)(n1:Nat)(x1:aL)(s:U):Prop:=gy ["events","heap","nodes","places","told","whys"] pZ p6 n1 x1 F (cP [("events",some aN),("heap",some ak),("nodes",some aj),("places",some ba),("told",some bc),("whys",some aB)]) s (eM (e7 P) F p_)
def f'(aN ak aj ba bc aB:AV)(n2:Nat)(x2:aL)(s:U):Prop:=gy ["events","heap","nodes","places","told","whys"] p7 p8 n2 x2 F (cP [("events",some aN),("heap",some ak),("nodes",some aj),("places",some ba),("told",some bc),("whys",some aB)]) s (eM (e7 P) F p9)
def jJ(n:Nat)(x:aL)(l:Nat)(s:U)(Q:U->Prop):Prop:=rA n x l F (cP []) s Q
def AB(n:Nat)(x:aL)(l:Nat)(s:U)(Q:U->Prop):Prop:=cw s (Q s) (λ fL x=>cO s (λ jW=>dZ 3 jW (bE jW λ L9 Dj=>bE Dj λ zE L_=>bE L_ λ tO C6=>eE C6 (bO L9 s (λ s5=>jJ F n x l s5 Q) l))) fL) x
theorem qb{F:bS}{n:Nat}{x:aL}{l:Nat}{s:U}{Q:U->Prop}(h:AB F n x l s Q):jJ F (n+1) x l s Q:=h
def rI(aN ak aj ba:AV)(s:U):Prop:=jH s (λ t1 s1=>dD s1 (λ t2=>d7 s1 (λ t3 s2=>uB s2 (λ t4 s3=>vm t4 λ t5=>if t5 then bu "size" s3 (λ t6 t7=>F.call t7 [.ref t6] s3 (λ t8 s4=>bx s4 (λ t9 s5=>oEq s5 P t8 t9) [aj])) ak else P (.bool false) s3) t1 t3) λ eh eQ s6 fL=>jJ F eh t2 eQ s6 fL) aN) [ba]
def rJ(n2:Nat)(x2:aL)(aN ak aj ba bc aB:AV)(s:U):Prop:=f' F P aN ak aj ba bc aB n2 x2 s
def Dr(n2:Nat)(x2:aL)(aN ak aj ba bc aB:AV)(s:U):Prop:=rJ F P n2 x2 aN ak aj ba bc aB s
def Ds(n2:Nat)(x2:aL)(aM bl aN ak aj aS ba bH bc aB:AV)(s:U):Prop:=ah s (λ t1 s1=>fm s1 (bU (P (.bool false)) (λ s2=>Bm Hx s2 (λ t2=>ah s2 (λ t3 s3=>yo t3 λ t4=>BS s3 t2 λ t5=>(λ t6 s4=>fm s4 (bU (P (.bool false)) (Dr F P n2 x2 aN ak aj ba bc aB)) t6 (.tup [aM,bl])) ((br t5 t4).getD .none) s3) bH (.int 1)) bc)) aS (.tup [(.str "told"),t1])) bH (.int 1)
def Dt(n2:Nat)(x2:aL)(aM bl aN ak bf aj aS ba bH bc aB:AV)(s:U):Prop:=ah s (λ t1 s1=>cz bf s1 (Ds F P n2 x2 aM bl aN ak aj aS ba bH bc aB) ba t1) bH (.int 1)
def rK(n2:Nat)(x2:aL)(aM bl aN ak aj aS ba bc aB:AV)(s:U):Prop:=F.call .lN [aS,aj,bc] s (λ t1 s1=>F.call .gr [aj,aM] s1 (λ t2 s2=>F.call .gr [aj,bl] s2 (λ t3 s3=>fm s3 (bU (P (.bool false)) (rJ F P n2 x2 aN ak aj ba bc aB)) t1 (.tup [t2,t3]))))
def Du(n2:Nat)(x2:aL)(aM bl aN ak aj aS ba bc aB:AV)(s:U):Prop:=rK F P n2 x2 aM bl aN ak aj aS ba bc aB s
def ix(ba:AV)(n:Nat)(x:aL)(l:Nat)(s:U)(Q:U->Prop):Prop:=rz n x l F (cP [("places",some ba)]) s Q
def AD(ba:AV)(n:Nat)(x:aL)(l:Nat)(s:U)(Q:U->Prop):Prop:=cw s (Q s) (λ t71 x=>fc s (bU (λ s52=>bO t71 s52 (λ s53=>ix F ba n x l s53 Q) l) (λ s54=>ix F ba n x l s54 Q)) t71 ba) x
theorem qc{F:bS}{ba:AV}{n:Nat}{x:aL}{l:Nat}{s:U}{Q:U->Prop}(h:AD F ba n x l s Q):ix F ba (n+1) x l s Q:=h
def qd(n2:Nat)(x2:aL)(aM bl aN ak aj aS ba bc aB:AV)(s:U):Prop:=ah s (λ t1 s1=>fm s1 (bU (P (.bool false)) (λ s2=>ah s2 (λ t2 s3=>bx s3 (λ t3 s4=>ah s4 (λ t4 s5=>bx s5 (λ t5 s6=>fk s6 (λ t6 s7=>fm s7 (bU (P (.bool false)) (λ s8=>F.call .kM [aS] s8 (λ t7 s9=>dD s9 (λ t8=>d7 s9 (λ t9 tN=>cT (.list []) tN (λ eh LJ=>uC LJ (bU (P (.bool false)) (Du F P n2 x2 aM bl aN ak aj aS ba bc aB)) t9 eh)) λ eQ fL wx jW=>ix F ba eQ t8 fL wx jW) t7))) t3 t6) t5 (.int 1)) [t4]) aj aM) [t2]) aS (.int 2))) t1 (.str "under")) aS (.int 0)
def AH(n2:Nat)(x2:aL)(aM bl aN ak aj aS ba bc aB:AV)(s:U):Prop:=qd F P n2 x2 aM bl aN ak aj aS ba bc aB s
def AJ(n2:Nat)(x2:aL)(aM bl aN ak bf aj aS ba bH bc aB:AV)(s:U):Prop:=ah s (λ t1 s1=>oEq s1 (bU (Dt F P n2 x2 aM bl aN ak bf aj aS ba bH bc aB) (AH F P n2 x2 aM bl aN ak aj aS ba bc aB)) t1 (.str "told")) bH (.int 0)
def lA(n2:Nat)(x2:aL)(aM bl aN ak bf aj ba bH bc aB:AV)(s:U):Prop:=bu "of_edge" s (λ t1 t2=>F.call t2 [.ref t1,bf] s (λ t3 s1=>AJ F P n2 x2 aM bl aN ak bf aj t3 ba bH bc aB s1)) aB
def AP(aN ak aj ba bc aB:AV)(n2:Nat)(x2:aL)(s:U):Prop:=cw s (rI F P aN ak aj ba s) (λ t9 x2=>cO s (λ RO=>dZ 2 RO (bE RO λ Wf t35=>bE t35 λ V5 V4=>cO s (λ LG=>dZ 3 LG (bE LG λ V6 V7=>bE V7 λ V8 V9=>bE V9 λ V_ V'=>eE V' (eE V4 (lA F P n2 x2 V6 V8 aN ak Wf aj ba V_ bc aB s)))) V5)) t9) x2
theorem qe{F:bS}{P:PV}{aN ak aj ba bc aB:AV}{n2:Nat}{x2:aL}{s:U}(h:AP F P aN ak aj ba bc aB n2 x2 s):f' F P aN ak aj ba bc aB (n2+1) x2 s:=h
def qf(aN ak aj ba bc aB:AV)(s:U):Prop:=ai "edges" s (λ t1 s1=>HH s1 (λ t2=>∃t3,f' F P aN ak aj ba bc aB t3 t2 s1) [t1]) ak
def AQ(n1:Nat)(x1:aL)(aM bl aN ak l_ aj ba bc aB:AV)(s:U):Prop:=cz (.tup [aM,bl]) s (jI F P aN ak aj ba bc aB n1 x1) bc l_
def AU(aN ak aj ba bc aB:AV)(n1:Nat)(x1:aL)(s:U):Prop:=cw s (qf F P aN ak aj ba bc aB s) (λ t8 x1=>cO s (λ t84=>dZ 3 t84 (bE t84 λ t85 t86=>bE t86 λ t87 t88=>bE t88 λ t89 t90=>eE t90 (AQ F P n1 x1 t87 t89 aN ak t85 aj ba bc aB s))) t8) x1
theorem qg{F:bS}{P:PV}{aN ak aj ba bc aB:AV}{n1:Nat}{x1:aL}{s:U}(h:AU F P aN ak aj ba bc aB n1 x1 s):jI F P aN ak aj ba bc aB (n1+1) x1 s:=h
def AW(aN ak aj ba bc aB:AV)(s:U):Prop:=dD s (λ t1=>∃t2,jI F P aN ak aj ba bc aB t2 t1 s) aN
def IX(ak aB aj aN:AV)(s:U):Prop:=cT (.dS []) s (λ t1 s1=>cT (.dS []) s1 (λ t2 s2=>cO s2 (λ t3=>dZ 2 t3 (bE t3 λ t4 t5=>bE t5 λ t6 t7=>eE t7 (AW F P aN ak aj t6 t4 aB s2))) (.tup [t1,t2])))
theorem Pu{d:Nat}{P:PV}{ak:AV}{s:U}(h:OB (O d) P ak s):(O (d+1)).call .nQ [ak] s P:=⟨rfl,h⟩
theorem IY{d:Nat}{P:PV}{ak aR:AV}{s:U}(h:H6 (O d) P ak aR s):(O (d+1)).call .j0 [ak,aR] s P:=⟨rfl,h⟩
theorem AX{d:Nat}{P:PV}{ak bf:AV}{s:U}(h:Ax (O d) P ak bf s):(O (d+1)).call .gV [ak,bf] s P:=⟨rfl,h⟩
theorem Fe{d:Nat}{P:PV}{ak aM oZ:AV}{s:U}(h:ET (O d) P ak aM oZ s):(O (d+1)).call .jj [ak,aM,oZ] s P:=⟨rfl,h⟩
theorem IZ{d:Nat}{P:PV}{J ak:AV}{s:U}(h:H7 (O d) P J ak s):(O (d+1)).call .uf [J,ak] s P:=⟨rfl,h⟩
theorem Mq{d:Nat}{P:PV}{J:AV}{s:U}(h:Lu (O d) P J s):(O (d+1)).call .xo [J] s P:=⟨rfl,h⟩
theorem Wv{d:Nat}{P:PV}{J aM bl bt:AV}{s:U}(h:V3 (O d) P J aM bl bt s):(O (d+1)).call .path [J,aM,bl,bt] s P:=⟨rfl,h⟩
theorem Mr{d:Nat}{P:PV}{J aM bl bt:AV}{s:U}(h:LF (O d) P J aM bl bt s):(O (d+1)).call .between [J,aM,bl,bt] s P:=⟨rfl,h⟩
theorem Pw{d:Nat}{P:PV}{J bf:AV}{s:U}(h:OK (O d) P J bf s):(O (d+1)).call .By [J,bf] s P:=⟨rfl,h⟩
theorem Ww{d:Nat}{P:PV}{v_text:AV}{s:U}(h:Wb (O d) P v_text s):(O (d+1)).call .xq [v_text] s P:=⟨rfl,h⟩
theorem I0{d:Nat}{P:PV}{J:AV}{s:U}(h:Ih (O d) P J s):(O (d+1)).call .Bz [J] s P:=⟨rfl,h⟩
theorem I1{d:Nat}{P:PV}{J:AV}{s:U}(h:Ii (O d) P J s):(O (d+1)).call .oE [J] s P:=⟨rfl,h⟩
theorem Ms{d:Nat}{P:PV}{J ei wy:AV}{s:U}(h:Wg (O d) P J ei wy s):(O (d+1)).call .take [J,ei,wy] s P:=⟨rfl,h⟩
theorem Mt{d:Nat}{P:PV}{J ei:AV}{s:U}(h:LR (O d) P J ei s):(O (d+1)).call .nR [J,ei] s P:=⟨rfl,h⟩
theorem Mu{d:Nat}{P:PV}{J aH:AV}{s:U}(h:LU (O d) P J aH s):(O (d+1)).call .r_ [J,aH] s P:=⟨rfl,h⟩
theorem aaM{d:Nat}{P:PV}{J aR:AV}{s:U}(h:aaL (O d) P J aR s):(O (d+1)).call .op [J,aR] s P:=⟨rfl,h⟩
theorem Wx{d:Nat}{P:PV}{J aR:AV}{s:U}(h:Wh (O d) P J aR s):(O (d+1)).call .kids [J,aR] s P:=⟨rfl,h⟩
theorem Wy{d:Nat}{P:PV}{J aR:AV}{s:U}(h:Wj (O d) P J aR s):(O (d+1)).call .term [J,aR] s P:=⟨rfl,h⟩
theorem Px{d:Nat}{P:PV}{J aR:AV}{s:U}(h:O3 (O d) P J aR s):(O (d+1)).call .weight [J,aR] s P:=⟨rfl,h⟩
theorem Dv{d:Nat}{P:PV}{J:AV}{s:U}(h:C_ (O d) P J s):(O (d+1)).call .u5 [J] s P:=⟨rfl,h⟩
theorem Wz{d:Nat}{P:PV}{J:AV}{s:U}(h:Wk (O d) P J s):(O (d+1)).call .make [J] s P:=⟨rfl,h⟩
theorem Dw{d:Nat}{P:PV}{J:AV}{s:U}(h:Dc (O d) P J s):(O (d+1)).call .lM [J] s P:=⟨rfl,h⟩
theorem S2{d:Nat}{P:PV}{J aM:AV}{s:U}(h:SG (O d) P J aM s):(O (d+1)).call .A8 [J,aM] s P:=⟨rfl,h⟩
theorem Dx{d:Nat}{P:PV}{J aM bl:AV}{s:U}(h:O6 (O d) P J aM bl s):(O (d+1)).call .qo [J,aM,bl] s P:=⟨rfl,h⟩
theorem Mv{d:Nat}{P:PV}{J aM:AV}{s:U}(h:L5 (O d) P J aM s):(O (d+1)).call .members [J,aM] s P:=⟨rfl,h⟩
theorem WA{d:Nat}{P:PV}{J aH:AV}{s:U}(h:Wl (O d) P J aH s):(O (d+1)).call .back [J,aH] s P:=⟨rfl,h⟩
theorem WB{d:Nat}{P:PV}{J aH:AV}{s:U}(h:Wm (O d) P J aH s):(O (d+1)).call .Hb [J,aH] s P:=⟨rfl,h⟩
theorem I2{d:Nat}{P:PV}{J:AV}{s:U}(h:Ip (O d) P J s):(O (d+1)).call .ug [J] s P:=⟨rfl,h⟩
theorem I3{d:Nat}{P:PV}{J:AV}{s:U}(h:Iq (O d) P J s):(O (d+1)).call .oF [J] s P:=⟨rfl,h⟩
theorem WD{d:Nat}{P:PV}{J aR:AV}{s:U}(h:Wn (O d) P J aR s):(O (d+1)).call .node [J,aR] s P:=⟨rfl,h⟩
theorem RP{d:Nat}{P:PV}{J ei d_:AV}{s:U}(h:YB (O d) P J ei d_ s):(O (d+1)).call .add [J,ei,d_] s P:=⟨rfl,h⟩
theorem zM{d:Nat}{P:PV}{J aR:AV}{s:U}(h:Ma (O d) P J aR s):(O (d+1)).call .l6 [J,aR] s P:=⟨rfl,h⟩
theorem WE{d:Nat}{P:PV}{J aR:AV}{s:U}(h:Wq (O d) P J aR s):(O (d+1)).call .find [J,aR] s P:=⟨rfl,h⟩
theorem S5{d:Nat}{P:PV}{J aM bl bH:AV}{s:U}(h:SN (O d) P J aM bl bH s):(O (d+1)).call .merge [J,aM,bl,bH] s P:=⟨rfl,h⟩
theorem GN{d:Nat}{P:PV}{J aM bl bH:AV}{s:U}(h:SO (O d) P J aM bl bH s):(O (d+1)).call .u6 [J,aM,bl,bH] s P:=⟨rfl,h⟩
theorem Py{d:Nat}{P:PV}{J:AV}{s:U}(h:Pf (O d) P J s):(O (d+1)).call .settle [J] s P:=⟨rfl,h⟩
theorem Dy{d:Nat}{P:PV}{J:AV}{s:U}(h:Dm (O d) P J s):(O (d+1)).call .u7 [J] s P:=⟨rfl,h⟩
theorem WH{d:Nat}{P:PV}{J:AV}{s:U}(h:Wr (O d) P J s):(O (d+1)).call .push [J] s P:=⟨rfl,h⟩
theorem YE{d:Nat}{P:PV}{J:AV}{s:U}(h:YC (O d) P J s):(O (d+1)).call .pop [J] s P:=⟨rfl,h⟩
theorem Pz{d:Nat}{P:PV}{J aR:AV}{s:U}(h:Pj (O d) P J aR s):(O (d+1)).call .u9 [J,aR] s P:=⟨rfl,h⟩
theorem WI{d:Nat}{P:PV}{J aM bl bH:AV}{s:U}(h:Ws (O d) P J aM bl bH s):(O (d+1)).call .join [J,aM,bl,bH] s P:=⟨rfl,h⟩
theorem PA{d:Nat}{P:PV}{J aR:AV}{s:U}(h:Pm (O d) P J aR s):(O (d+1)).call .u_ [J,aR] s P:=⟨rfl,h⟩
theorem Dz{d:Nat}{P:PV}{J dB:AV}{s:U}(h:Pn (O d) P J dB s):(O (d+1)).call .vc [J,dB] s P:=⟨rfl,h⟩
theorem WJ{d:Nat}{P:PV}{aI aH:AV}{s:U}(h:Wt (O d) P aI aH s):(O (d+1)).call .pick [aI,aH] s P:=⟨rfl,h⟩
theorem S6{d:Nat}{P:PV}{aj aR:AV}{s:U}(h:SY (O d) P aj aR s):(O (d+1)).call .gr [aj,aR] s P:=⟨rfl,h⟩
theorem WK{d:Nat}{P:PV}{aI ak aj:AV}{s:U}(h:Wu (O d) P aI ak aj s):(O (d+1)).call .more [aI,ak,aj] s P:=⟨rfl,h⟩
theorem xY{d:Nat}{P:PV}{aS aj bc:AV}{s:U}(h:S0 (O d) P aS aj bc s):(O (d+1)).call .lN [aS,aj,bc] s P:=⟨rfl,h⟩
theorem uK{d:Nat}{P:PV}{aS:AV}{s:U}(h:Pt (O d) P aS s):(O (d+1)).call .kM [aS] s P:=⟨rfl,h⟩
theorem I4{d:Nat}{P:PV}{ak aB aj aN:AV}{s:U}(h:IX (O d) P ak aB aj aN s):(O (d+1)).call .gw [ak,aB,aj,aN] s P:=⟨rfl,h⟩
end
section
open PySem
variable(F:bS) (P:PV)
def pq(aI ak aj:AV)(n1:Nat)(x1:aL)(s:U):Prop:=gy ["feed","heap","nodes"] zk zl n1 x1 F (cP [("feed",some aI),("heap",some ak),("nodes",some aj)]) s (eM (e7 P) F zu)
def jd(aI ak aj aK aB:AV)(n2:Nat)(x2:aL)(s:U):Prop:=gy ["feed","heap","nodes","states","whys"] zm zo n2 x2 F (cP [("feed",some aI),("heap",some ak),("nodes",some aj),("states",some aK),("whys",some aB)]) s (eM (e7 P) F zt)
def px(ak aK aB:AV)(n3:Nat)(x3:aL)(s:U):Prop:=gy ["heap","states","whys"] zp zq n3 x3 F (cP [("heap",some ak),("states",some aK),("whys",some aB)]) s (eM (e7 P) F zr)
def DA(ak aK aB:AV)(s:U):Prop:=ah s (λ t1 s1=>ah s1 (λ t2 s2=>ah s2 (λ t3 s3=>ah s3 (λ t4 s4=>F.call .gw [ak,aB,t2,t4] s4 P) t3 (.int 1)) aK (.int 0)) t1 (.int 0)) aK (.int 0)
def DB(ak aK aB:AV)(s:U):Prop:=bu "settle" s (λ t1 t2=>F.call t2 [.ref t1] s (λ t3 s1=>DA F P ak aK aB s1)) ak
def PB(n3:Nat)(x3:aL)(ak aK aB:AV)(s:U):Prop:=bu "pop" s (λ t1 t2=>F.call t2 [.ref t1] s (λ t3 s1=>px F P ak aK aB n3 x3 s1)) ak
def Mw(ak aK aB:AV)(n3:Nat)(x3:aL)(s:U):Prop:=cw s (DB F P ak aK aB s) (λ zv x3=>PB F P n3 x3 ak aK aB s) x3
theorem zN{F:bS}{P:PV}{ak aK aB:AV}{n3:Nat}{x3:aL}{s:U}(h:Mw F P ak aK aB n3 x3 s):px F P ak aK aB (n3+1) x3 s:=h
def DC(ak aK aB:AV)(s:U):Prop:=bx s (λ t1 s1=>fk s1 (λ t2 s2=>lh (λ t3=>∃t4,px F P ak aK aB t4 t3 s2) [t2]) t1 (.int 1)) [aK]
def PC(ak aK aB:AV)(s:U):Prop:=ah s (λ t1 s1=>ah s1 (λ t2 s2=>ah s2 (λ t3 s3=>ah s3 (λ t4 s4=>F.call .gw [ak,aB,t2,t4] s4 (tsn (P (.bool false)) (DC F P ak aK aB))) t3 (.int 1)) aK (.int (-1))) t1 (.int 0)) aK (.int (-1))
def pz(ak aK aB:AV)(s:U):Prop:=bu "settle" s (λ t1 t2=>F.call t2 [.ref t1] s (λ t3 s1=>PC F P ak aK aB s1)) ak
def PD(n2:Nat)(x2:aL)(aI ak aj aK aB:AV)(s:U):Prop:=bu "settle" s (λ t1 t2=>F.call t2 [.ref t1] s (λ t3 s1=>jd F P aI ak aj aK aB n2 x2 s1)) ak
def PE(n2:Nat)(x2:aL)(aI ak aj aK aB:AV)(s:U):Prop:=jd F P aI ak aj aK aB n2 x2 s
def gC(n2:Nat)(x2:aL)(aI ak aj aK aB:AV)(s:U):Prop:=F.call .pick [aI,(.int 3)] s (λ t1 s1=>fZ s1 (bU (PD F P n2 x2 aI ak aj aK aB) (PE F P n2 x2 aI ak aj aK aB)) t1 (.int 0))
def Mx(n2:Nat)(x2:aL)(aN aI ak aj aK aB:AV)(s:U):Prop:=cD s (λ t1=>bO (.tup [aj,aN]) s (gC F P n2 x2 aI ak aj aK aB) t1) aK
def zO(n2:Nat)(x2:aL)(aN aI ak aj aK aB:AV)(s:U):Prop:=bu "push" s (λ t1 t2=>F.call t2 [.ref t1] s (λ t3 s1=>Mx F P n2 x2 aN aI ak aj aK aB s1)) ak
def My(n2:Nat)(x2:aL)(aI ak aj aK aB:AV)(s:U):Prop:=cD s (λ t1=>fe s (λ t2 s1=>gC F P n2 x2 aI ak aj aK aB s1) t1) aK
def rL(n2:Nat)(x2:aL)(aI ak aj aK aB:AV)(s:U):Prop:=bu "pop" s (λ t1 t2=>F.call t2 [.ref t1] s (λ t3 s1=>My F P n2 x2 aI ak aj aK aB s1)) ak
def zP(n2:Nat)(x2:aL)(aN aI ak aj aK aB:AV)(s:U):Prop:=F.call .more [aI,ak,aj] s (λ t1 s1=>cz (.tup [t1,aN]) s1 (gC F P n2 x2 aI ak aj aK aB) aK (.int (-1)))
def Mz(n2:Nat)(x2:aL)(aM bl aN aI ak l_ aj aK aB:AV)(s:U):Prop:=cT (.list [(.tup [l_,aM,bl])]) s (λ t1 s1=>bW s1 (λ t2 s2=>cz (.tup [aj,t2]) s2 (gC F P n2 x2 aI ak aj aK aB) aK (.int (-1))) aN t1)
def MA(n2:Nat)(x2:aL)(aM bl aN aI ak l_ aj aK aB:AV)(s:U):Prop:=bu "merge" s (λ t1 t2=>F.call t2 [.ref t1,aM,bl,(.tup [(.str "told"),l_])] s (λ t3 s1=>Mz F P n2 x2 aM bl aN aI ak l_ aj aK aB s1)) ak
def zQ(n2:Nat)(x2:aL)(aN aI ak hZ aj aK aB:AV)(s:U):Prop:=bx s (λ t1 s1=>F.call .pick [aI,t1] s1 (λ t2 s2=>bx s2 (λ t3 s3=>F.call .pick [aI,t3] s3 (λ t4 s4=>HF s4 (λ t5 s5=>bW s5 (λ t6 s6=>cO s6 (λ t7=>dZ 3 t7 (bE (t7.reverse) λ t8 t9=>bE t9 λ eh eQ=>bE eQ λ fL jW=>eE jW (MA F P n2 x2 fL eh aN aI ak t8 aj aK aB s6))) (.tup [t2,t4,t6])) (.str "t") t5) [hZ])) [aj])) [aj]
def rM(n2:Nat)(x2:aL)(aN aI ak hZ aj aK nq aB:AV)(s:U):Prop:=oEq s (bU (zP F P n2 x2 aN aI ak aj aK aB) (zQ F P n2 x2 aN aI ak hZ aj aK aB)) nq (.int 3)
def zR(n2:Nat)(x2:aL)(aN aI ak hZ aj aK nq aB:AV)(s:U):Prop:=oEq s (bU (λ s1=>bx s1 (λ t1 s2=>fZ s2 (bU (rL F P n2 x2 aI ak aj aK aB) (rM F P n2 x2 aN aI ak hZ aj aK nq aB)) t1 (.int 1)) [aK]) (rM F P n2 x2 aN aI ak hZ aj aK nq aB)) nq (.int 4)
def MB(n2:Nat)(x2:aL)(aN aI ak hZ aj aK nq aB:AV)(s:U):Prop:=oEq s (bU (zO F P n2 x2 aN aI ak aj aK aB) (zR F P n2 x2 aN aI ak hZ aj aK nq aB)) nq (.int 5)
def rN(n2:Nat)(x2:aL)(aI:AV)(ak:AV)(hZ:AV)(aK:AV)(aB:AV)(fL:AV)(s1:U):Prop:=ah s1 (λ t1 s2=>cO s2 (λ t2=>dZ 2 t2 (bE t2 λ t3 t4=>bE t4 λ t5 t6=>cO s2 (λ t7=>dZ 2 t7 (bE t7 λ t8 t9=>bE t9 λ eh eQ=>eE eQ (eE t6 (MB F P n2 x2 eh aI ak hZ t8 aK t3 aB s2)))) t5)) (.tup [fL,t1])) aK (.int (-1))
def zS(n2:Nat)(x2:aL)(aI ak hZ aK aB:AV)(s:U):Prop:=fZ s (bU (λ s1=>F.call .pick [aI,(.int 6)] s1 (rN F P n2 x2 aI ak hZ aK aB)) (rN F P n2 x2 aI ak hZ aK aB (.int 0))) hZ (.int 0)
def MC(aI ak aj aK aB:AV)(n2:Nat)(x2:aL)(s:U):Prop:=cw s (pz F P ak aK aB s) (λ tO x2=>zS F P n2 x2 aI ak tO aK aB s) x2
theorem zT{F:bS}{P:PV}{aI ak aj aK aB:AV}{n2:Nat}{x2:aL}{s:U}(h:MC F P aI ak aj aK aB n2 x2 s):jd F P aI ak aj aK aB (n2+1) x2 s:=h
def zU(aI ak aj aK aB:AV)(s:U):Prop:=F.call .pick [aI,(.int 3)] s (λ t1 s1=>bW s1 (λ t2 s2=>lh (λ t3=>∃t4,jd F P aI ak aj aK aB t4 t3 s2) [t2]) (.int 4) t1)
def MD(aI ak aj:AV)(s:U):Prop:=F.make .dO [ak] s (λ t1 s1=>cT (.list []) s1 (λ t2 s2=>cT (.list [(.tup [aj,t2])]) s2 (λ t3 s3=>cO s3 (λ t4=>dZ 2 t4 (bE (t4.reverse) λ t5 t6=>bE t6 λ t7 t8=>eE t8 (zU F P aI ak aj t5 t7 s3))) (.tup [t1,t3]))))
def zV(aI ak aj:AV)(s:U):Prop:=F.call .more [aI,ak,aj] s (MD F P aI ak)
def ME(n1:Nat)(x1:aL)(aI ak bM aj:AV)(s:U):Prop:=bu "add" s (λ t1 t2=>ah s (λ t3 s1=>eg (some 1) none none s1 (λ t4 s2=>F.call t2 [.ref t1,t3,t4] s2 (λ t5 s3=>pq F P aI ak aj n1 x1 s3)) bM) bM (.int 0)) ak
def MF(aI ak aj:AV)(n1:Nat)(x1:aL)(s:U):Prop:=cw s (zV F P aI ak aj s) (λ t8 x1=>ME F P n1 x1 aI ak t8 aj s) x1
theorem zW{F:bS}{P:PV}{aI ak aj:AV}{n1:Nat}{x1:aL}{s:U}(h:MF F P aI ak aj n1 x1 s):pq F P aI ak aj (n1+1) x1 s:=h
def MG(aI ak aj:AV)(s:U):Prop:=dD s (λ t1=>∃t2,pq F P aI ak aj t2 t1 s) aj
def wK(aI:AV)(s:U):Prop:=F.make .levels [] s (λ t1 s1=>cT (.list [(.tup [(.str "a")]),(.tup [(.str "b")]),(.tup [(.str "c")]),(.tup [(.str "f"),(.int 0)]),(.tup [(.str "f"),(.int 1)])]) s1 (λ t2 s2=>cO s2 (λ t3=>dZ 2 t3 (bE (t3.reverse) λ t4 t5=>bE t5 λ t6 t7=>eE t7 (MG F P aI t6 t4 s2))) (.tup [t1,t2])))
theorem abF{F:bS}{P:PV}{aI PG:AV}{s:U}(h:wK F P aI s):CN F (ja (bindR ["script"] [PG] λ aa=>none) "feed" aI) s (e7 P):=h
end
section
set_option genInjectivity false
set_option genSizeOf false
open PySem
abbrev Cell:=Nat×AO
structure Holds(σ:U)(cs:List Cell):Prop where
 at_:∀l ao,(l,ao)∈cs->σ[l]?=some ao
 nodup:(cs.map (·.1)).Nodup
theorem Holds.perm{σ:U}{a b:List Cell}(h:Holds σ a)(p:a.Perm b):Holds σ b:=
 ⟨λ l ao hm=>h.at_ l ao (p.mem_iff.mpr hm),(p.map _).nodup_iff.mp h.nodup⟩
theorem Holds.sub{σ:U}{a b:List Cell}(h:Holds σ b)(p:a.Sublist b):Holds σ a:=
 ⟨λ l ao hm=>h.at_ l ao (p.subset hm),(p.map _).nodup h.nodup⟩
theorem Holds.lt{σ:U}{cs:List Cell}(h:Holds σ cs){l:Nat}{ao:AO}(hm:(l,ao)∈cs):l<σ.length:=
 (List.getElem?_eq_some_iff.mp (h.at_ l ao hm)).1
theorem Holds.new{σ:U}{cs:List Cell}(h:Holds σ cs)(ao:AO):Holds (σ++[ao]) ((σ.length,ao)::cs):=by
 refine ⟨λ l o hm=>?_,?_⟩
 ·rcases List.mem_cons.mp hm with e|hm
  ·cases e;exact List.getElem?_concat_length ..
  ·refine ae (List.getElem?_append_left (h.lt hm)) ?_;exact h.at_ l o hm
 ·rw [List.map_cons,List.nodup_cons];refine ⟨λ hm=>?_,h.nodup⟩;obtain ⟨⟨l,o⟩,hm,e⟩:=List.mem_map.mp hm;have:=h.lt hm;simp only at e;lia
noncomputable def gb(cs:List Cell)(l:Nat)(ao:AO):List Cell:=cs.map λ c=>if c.1=l then(l,ao)else c
theorem PH(cs:List Cell)(l:Nat)(ao:AO):(gb cs l ao).map (·.1)=cs.map (·.1):=by
 unfold gb;refine ae List.map_map ?_;apply List.map_congr_left;intro c _;simp only [Function.comp];split
 ·rename_i h;exact h.symm
 ·rfl
theorem Holds.set{σ:U}{cs:List Cell}(h:Holds σ cs){l:Nat}{old:AO}(hm:(l,old)∈cs)(ao:AO):Holds (σ.set l ao) (gb cs l ao):=by
 refine ⟨λ k o hk=>?_,by rw [PH];exact h.nodup⟩;obtain ⟨⟨k',o'⟩,B0,e⟩:=List.mem_map.mp hk;by_cases e1:k'=l
 ·simp only [e1,if_true]at e;cases e;exact List.getElem?_set_self (h.lt hm)
 ·simp only [e1,if_false]at e;cases e;refine ae (List.getElem?_set_ne (Ne.symm e1)) ?_;exact h.at_ _ _ B0
theorem gY(a b:List Cell)(l:Nat)(ao:AO):gb (a++b) l ao=gb a l ao++gb b l ao:=List.map_append ..
theorem nr(c:Cell)(b:List Cell)(l:Nat)(ao:AO):gb (c::b) l ao=(if c.1=l then(l,ao)else c)::gb b l ao:=rfl
theorem gD{a:List Cell}{l:Nat}(h:l∉a.map (·.1))(ao:AO):gb a l ao=a:=by
 unfold gb;rw [List.map_congr_left (g:=id)]
 ·simp
 ·intro c hc;refine ae (if_neg (λ e=>h (List.mem_map.mpr ⟨c,hc,e⟩))) ?_;rfl
abbrev Node:=String×List Nat
structure Core where
 nodes:List Node
 par:List Nat
 a6:List (List Nat)
 merged:List (Nat×Nat)
 au:List (Nat×Nat×Option String)
 aE:List Nat
 known:List (Node×Nat)
 aQ:Nat->Option (List Nat)
inductive df where
 |made(n:Nat)
 |known(k:Node)
 |iP(kept many gone:Nat)(us:List Nat)
structure Hp extends Core where
 made:Nat
 waiting:List Nat
 dF:Nat
 marks:List (Nat×List Nat)
 changes:List df
structure Ext where
 ud:List (Nat×Nat)
 K:List AV
structure Gh extends Ext where
 dX:List Nat
 wl:Nat
 cP:List Nat
noncomputable def nl(l:List Nat):List AV:=l.map λ(n:Nat)=>.int n
noncomputable def bg(k:Node):AV:=.tup (.str k.1::nl k.2)
noncomputable def dU(k:Node):List AK:=.s k.1::k.2.map λ(n:Nat)=>.i n
noncomputable def numsOf(ns:List Node):List (List AK×AV):=ns.zipIdx.map λ p=>(dU p.1,.int p.2)
noncomputable def je:Option String->AV
 |some l=>.tup [.str "told",.str l]
 |none=>.tup [.str "like"]
noncomputable def gR(e:Nat×Nat×Option String):AV:=.tup [.int e.1,.int e.2.1,je e.2.2]
noncomputable def dG(p:Nat×Nat):AV:=.tup [.int p.1,.int p.2]
noncomputable def h_:df×Nat->AV
 |(.made n,_)=>.tup [.str "made",.int n]
 |(.known k,_)=>.tup [.str "known",bg k]
 |(.iP kept many gone _,l)=>.tup [.str "edge",.int kept,.int many,.int gone,.ref l]
noncomputable def iD:df×Nat->List Cell
 |(.iP kept _ gone us,l)=>if kept=gone then[]else[(l,.list (nl us))]
 |_=>[]
theorem rO(k n g:Nat)(us:List Nat)(l:Nat):iD (.iP k n g us,l)=if k=g then[]else[(l,.list (nl us))]:=rfl
noncomputable def tU(f:List Nat->Nat):List Node->List Nat->List Nat
 |[],acc=>acc
 |k::r,acc=>tU f r (acc++[f (k.2.map λ i=>acc.getD i 0)])
theorem Bd(f:List Nat->Nat)(k:Node)(r:List Node)(acc:List Nat):tU f (k::r) acc=tU f r (acc++[f (k.2.map λ i=>acc.getD i 0)]):=rfl
noncomputable def dK(ns:List Node):List Nat:=tU (λ l=>1+l.sum) ns []
noncomputable def eR(ns:List Node):List Nat:=tU (λ l=>1+l.foldr max 0) ns []
noncomputable def us(H:Hp)(c:Nat):List Nat:=(H.aQ c).getD []
noncomputable def hd(wl dF made:Nat):List (String×AV):=[("bank",.ref 5),("unions",.ref 11),("edges",.ref 16),("forest",.ref 17),("known",.ref 18),("above",.ref 19),("waiting",.ref wl),("backs",.int dF),("changes",.ref 21),("marks",.ref 22),("made",.int made)]
noncomputable def bd:List (String×AV):=[("nodes",.ref 7),("numbers",.ref 8),("weights",.ref 9),("depths",.ref 10)]
noncomputable def WL:List (String×AV):=[("above",.ref 13),("lots",.ref 14),("merged",.ref 15)]
noncomputable def dj(H:Hp)(g:Gh):List Cell:=[
 (3,.inst .levels),(4,.dS (hd g.wl H.dF H.made)),(5,.inst .bank),(6,.dS bd),(7,.list (H.nodes.map bg)),(8,.dT (numsOf H.nodes)),(9,.list (nl (dK H.nodes))),(10,.list (nl (eR H.nodes))),
 (11,.inst .fY),(12,.dS WL),(13,.list (nl H.par)),(14,.list (g.dX.map .ref)),(15,.list (H.merged.map dG)),(16,.list (H.au.map gR)),(17,.list (nl H.aE)),
 (18,.dT (H.known.map λ p=>(dU p.1,.int p.2))),(19,.dI (g.ud.map λ p=>((p.1:Int),.ref p.2))),(21,.list g.K),(22,.list ((H.marks.zip g.cP).map λ p=>.tup [.int p.1.1,.ref p.2]))]
noncomputable def eu(H:Hp)(g:Gh):List Cell:=(H.a6.zip g.dX).map λ p=>(p.2,.list (nl p.1))
noncomputable def ew(H:Hp)(g:Gh):List Cell:=g.ud.map λ p=>(p.2,.list (nl (us H p.1)))
noncomputable def eN(H:Hp)(g:Gh):List Cell:=[(g.wl,.list (nl H.waiting))]
noncomputable def dY(H:Hp)(g:Gh):List Cell:=(H.marks.zip g.cP).map λ p=>(p.2,.list (nl p.1.2))
noncomputable def cY(H:Hp)(g:Gh):List Cell:=eu H g++ew H g++eN H g++dY H g
structure MH(H:Hp)(g:Gh):Prop where
 dg:g.dX.length=H.a6.length
 gS:g.cP.length=H.marks.length
 keys:(g.ud.map (·.1)).Nodup
 eb:∀c,c∈g.ud.map (·.1)↔∃l,H.aQ c=some l
structure dc(H:Hp):Prop where
 nodes:H.nodes.length<=1000
 node:∀k∈H.nodes,k.2.length<=900
 wt:∀w∈dK H.nodes,w<=100000
 par:H.par.length<=1000
 a6:H.a6.length<=1000
 dg:∀l∈H.a6,l.length<=1000
 merged:H.merged.length<=1000
 au:H.au.length<=1000
 aE:H.aE.length<=400
 known:H.known.length<=1000
 aQ:∀c l,H.aQ c=some l->c<1000
 user:∀c,(us H c).length<=1000
 waiting:H.waiting.length<=1000
 marks:H.marks.length<=1000
structure Rep(σ:U)(H:Hp)(g:Gh)(R:List Cell):Prop where
 ok:MH H g
 holds:Holds σ (dj H g++(cY H g++R))
theorem Rep.fix{σ:U}{H:Hp}{g:Gh}{R:List Cell}(h:Rep σ H g R){l:Nat}{ao:AO}(hm:(l,ao)∈dj H g):σ[l]?=some ao:=h.holds.at_ l ao (List.mem_append_left _ hm)
section
variable{σ:U} {H:Hp} {g:Gh} {R:List Cell}
theorem Rep.c3(h:Rep σ H g R):σ[3]?=some (.inst .levels):=h.fix (List.mem_of_getElem? (i:=0) rfl)
theorem Rep.c4(h:Rep σ H g R):σ[4]?=some (.dS (hd g.wl H.dF H.made)):=h.fix (List.mem_of_getElem? (i:=1) rfl)
theorem Rep.c5(h:Rep σ H g R):σ[5]?=some (.inst .bank):=h.fix (List.mem_of_getElem? (i:=2) rfl)
theorem Rep.c6(h:Rep σ H g R):σ[6]?=some (.dS bd):=h.fix (List.mem_of_getElem? (i:=3) rfl)
theorem Rep.c7(h:Rep σ H g R):σ[7]?=some (.list (H.nodes.map bg)):=h.fix (List.mem_of_getElem? (i:=4) rfl)
theorem Rep.c8(h:Rep σ H g R):σ[8]?=some (.dT (numsOf H.nodes)):=h.fix (List.mem_of_getElem? (i:=5) rfl)
theorem Rep.c9(h:Rep σ H g R):σ[9]?=some (.list (nl (dK H.nodes))):=h.fix (List.mem_of_getElem? (i:=6) rfl)
theorem Rep.DD(h:Rep σ H g R):σ[10]?=some (.list (nl (eR H.nodes))):=h.fix (List.mem_of_getElem? (i:=7) rfl)
theorem Rep.zX(h:Rep σ H g R):σ[11]?=some (.inst .fY):=h.fix (List.mem_of_getElem? (i:=8) rfl)
theorem Rep.zY(h:Rep σ H g R):σ[12]?=some (.dS WL):=h.fix (List.mem_of_getElem? (i:=9) rfl)
theorem Rep.GO(h:Rep σ H g R):σ[13]?=some (.list (nl H.par)):=h.fix (List.mem_of_getElem? (i:=10) rfl)
theorem Rep.MI(h:Rep σ H g R):σ[14]?=some (.list (g.dX.map .ref)):=h.fix (List.mem_of_getElem? (i:=11) rfl)
theorem Rep.MJ(h:Rep σ H g R):σ[15]?=some (.list (H.merged.map dG)):=h.fix (List.mem_of_getElem? (i:=12) rfl)
theorem Rep.rP(h:Rep σ H g R):σ[16]?=some (.list (H.au.map gR)):=h.fix (List.mem_of_getElem? (i:=13) rfl)
theorem Rep.DE(h:Rep σ H g R):σ[17]?=some (.list (nl H.aE)):=h.fix (List.mem_of_getElem? (i:=14) rfl)
theorem Rep.WM(h:Rep σ H g R):σ[18]?=some (.dT (H.known.map λ p=>(dU p.1,.int p.2))):=h.fix (List.mem_of_getElem? (i:=15) rfl)
theorem Rep.c19(h:Rep σ H g R):σ[19]?=some (.dI (g.ud.map λ p=>((p.1:Int),.ref p.2))):=h.fix (List.mem_of_getElem? (i:=16) rfl)
theorem Rep.zZ(h:Rep σ H g R):σ[21]?=some (.list g.K):=h.fix (List.mem_of_getElem? (i:=17) rfl)
theorem Rep.MK(h:Rep σ H g R):σ[22]?=some (.list ((H.marks.zip g.cP).map λ p=>.tup [.int p.1.1,.ref p.2])):=h.fix (List.mem_of_getElem? (i:=18) rfl)
end
noncomputable def lY(par:List Nat):Nat->Nat->Nat
 |0,a=>a
 |n+1,a=>if par.getD a a=a then a else lY par n (par.getD a a)
theorem ma(par:List Nat)(n a:Nat):lY par (n+1) a=if par.getD a a=a then a else lY par n (par.getD a a):=rfl
noncomputable def root(par:List Nat)(a:Nat):Nat:=lY par (a+1) a
def dH(par:List Nat):Prop:=∀(i p:Nat),par[i]?=some p->p<=i
theorem I5{par:List Nat}(hp:dH par)(n:Nat):∀(m a:Nat),a<n->a<m->lY par n a=lY par m a:=by
 induction n with
 |zero=>exact λ aa aa h aa=>if_pos h
 |succ n ih=>
  intro m a h1 h2;cases m with
  |zero=>exact if_pos h2
  |succ m=>
   rw [ma,ma];split
   ·rfl
   ·rename_i b_;have dP:par.getD a a<a:=by
     rw [List.getD_eq_getElem?_getD]at b_⊢;cases e:par[a]?with
     |none=>rw [e]at b_;simp at b_
     |some p=>rw [e]at b_;have:=hp a p e;simp at b_⊢;exact (Nat.lt_of_le_of_ne this b_)
    exact ih m _ (cI dP h1 (by simp+arith only)) (cI dP h2 (by simp+arith only))
theorem jt{par:List Nat}(hp:dH par){a p:Nat}(h:par[a]?=some p)(b_:p≠a):root par a=root par p:=by
 have hle:=hp a p h;unfold root;rw [ma];have e:par.getD a a=p:=by simp [List.getD_eq_getElem?_getD,h]
 refine ae e<|ae (if_neg b_) ?_;exact I5 hp _ _ _ ((Nat.lt_of_le_of_ne hle b_)) (Nat.lt_succ_self _)
theorem fM{par:List Nat}{a:Nat}(h:par[a]?=some a):root par a=a:=by
 unfold root;rw [ma];have e:par.getD a a=a:=by simp [List.getD_eq_getElem?_getD,h]
 exact if_pos (by assumption)
theorem PJ{par:List Nat}(hp:dH par):∀(n a:Nat),lY par n a<=a:=by
 intro bD;induction bD with
 |zero=>
  intro a;exact Nat.le_refl _
 |succ n ih=>
  intro a;rw [ma];split
  ·exact Nat.le_refl _
  ·refine Nat.le_trans (ih _) ?_;refine ae List.getD_eq_getElem?_getD ?_;cases e:par[a]?with
   |none=>exact Nat.le_refl _
   |some p=>exact hp a p e
theorem oq{par:List Nat}(hp:dH par)(a:Nat):root par a<=a:=PJ hp _ _
theorem Holds.app{σ:U}{cs:List Cell}(h:Holds σ cs)(t:U):Holds (σ++t) cs:=
 ⟨λ l ao hm=>by refine ae (List.getElem?_append_left (h.lt hm)) ?_;exact h.at_ l ao hm,h.nodup⟩
section
variable{σ:U} {H:Hp} {g:Gh} {R:List Cell}
theorem Rep.app(h:Rep σ H g R)(t:U):Rep (σ++t) H g R:=⟨h.ok,h.holds.app t⟩
theorem I6{H:Hp}{g:Gh}{l:Nat}{ao:AO}(X:List Cell)(hn:((dj H g++X).map (·.1)).Nodup)(hl:l∈(dj H g).map (·.1)):gb (dj H g++X) l ao=gb (dj H g) l ao++X:=by rw [gY,gD (a:=X)];intro hm;rw [List.map_append,List.nodup_append]at hn;exact hn.2.2 l hl l hm rfl
theorem Rep.iQ{H':Hp}{g':Gh}{R':List Cell}(h:Rep σ H g R){l:Nat}{old ao:AO}(hm:(l,old)∈dj H g)(hf:dj H' g'=gb (dj H g) l ao)(hd:(cY H g++R).Perm (cY H' g'++R'))(hg:MH H' g'):Rep (σ.set l ao) H' g' R':=by refine ⟨hg,?_⟩;have:=h.holds.set (List.mem_append_left _ hm) ao;rw [I6 _ h.holds.nodup (List.mem_map.mpr ⟨_,hm,rfl⟩),<-hf]at this;exact this.perm (List.Perm.append_left _ hd)
theorem Rep.PK{H':Hp}{g':Gh}(h:Rep σ H g R){l:Nat}{old ao:AO}(hm:(l,old)∈cY H g)(hf:dj H' g'=dj H g)(hd:cY H' g'=gb (cY H g) l ao)(hg:MH H' g'):Rep (σ.set l ao) H' g' R:=by refine ⟨hg,?_⟩;have hn:=h.holds.nodup;have:=h.holds.set (List.mem_append_right _ (List.mem_append_left _ hm)) ao;rw [List.map_append,List.map_append,List.nodup_append,List.nodup_append]at hn;have hl:l∈(cY H g).map (·.1):=List.mem_map.mpr ⟨_,hm,rfl⟩;rw [gY,gY,gD (a:=dj H g) (λ q=>hn.2.2 l q l (List.mem_append_left _ hl) rfl),gD (a:=R) (λ q=>hn.2.1.2.2 l hl l q rfl),<-hd,<-hf]at this;exact this
theorem Rep.new(h:Rep σ H g R)(ao:AO):Rep (σ++[ao]) H g ((σ.length,ao)::R):=by
 refine ⟨h.ok,(h.holds.new ao).perm ?_⟩;have p1:((σ.length,ao)::(dj H g++(cY H g++R))).Perm (dj H g++(cY H g++((σ.length,ao)::R))):=by rw [<-List.append_assoc,<-List.append_assoc];exact List.perm_middle.symm
 exact p1
theorem Rep.bz(h:Rep σ H g R){R':List Cell}(p:R.Perm R'):Rep σ H g R':=
 ⟨h.ok,h.holds.perm (List.Perm.append_left _ (List.Perm.append_left _ p))⟩
end
section
variable{σ:U} {H:Hp} {g:Gh} {R:List Cell}
theorem Rep.PL{l:Nat}{old:AO}(h:Rep σ H g ((l,old)::R))(x:AO):Rep (σ.set l x) H g ((l,x)::R):=by
 refine ⟨h.ok,?_⟩;have h1:Holds σ ((l,old)::(dj H g++(cY H g++R))):=h.holds.perm (by rw [<-List.append_assoc,<-List.append_assoc];exact List.perm_middle)
 have h2:=h1.set (.head _) x;have hn:=h1.nodup;rw [List.map_cons,List.nodup_cons]at hn;rw [nr,if_pos rfl,gD hn.1]at h2;refine h2.perm ?_;rw [<-List.append_assoc,<-List.append_assoc];exact List.perm_middle.symm
theorem Rep.sub{A:List Cell}(h:Rep σ H g (A++R)):Rep σ H g R:=
 ⟨h.ok,h.holds.sub (List.Sublist.append (.refl _) (List.Sublist.append (.refl _) (List.sublist_append_right _ _)))⟩
theorem Rep.kq{c:Cell}(h:Rep σ H g (c::R)):Rep σ H g R:=Rep.sub (A:=[c]) h
end
noncomputable def Hp.wL(H:Hp)(x:List Node):Hp:={H with nodes:=x}
noncomputable def Hp.pA(H:Hp)(x:List Nat):Hp:={H with par:=x}
noncomputable def Hp.kI(H:Hp)(x:List (List Nat)):Hp:={H with a6:=x}
noncomputable def Hp.ot(H:Hp)(x:List (Nat×Nat)):Hp:={H with merged:=x}
noncomputable def Hp.rQ(H:Hp)(x:List (Nat×Nat×Option String)):Hp:={H with au:=x}
noncomputable def Hp.sx(H:Hp)(x:List Nat):Hp:={H with aE:=x}
noncomputable def Hp.DF(H:Hp)(x:List (Node×Nat)):Hp:={H with known:=x}
noncomputable def Hp.eT(H:Hp)(x:Nat->Option (List Nat)):Hp:={H with aQ:=x}
noncomputable def Hp.YF(H:Hp)(x:Nat):Hp:={H with made:=x}
noncomputable def Hp.uL(H:Hp)(x:List Nat):Hp:={H with waiting:=x}
noncomputable def Hp.WO(H:Hp)(x:Nat):Hp:={H with dF:=x}
noncomputable def Hp.ML(H:Hp)(x:List (Nat×List Nat)):Hp:={H with marks:=x}
noncomputable def Hp.uM(H:Hp)(x:List df):Hp:={H with changes:=x}
noncomputable def Hp.YG(H:Hp)(x:Core):Hp:={H with toCore:=x}
structure RS(H:Hp)(K:Ext)(R:List Cell)where
 σ:U
 g:Gh
 rep:Rep σ H g R
 k:g.toExt=K
section
variable{H:Hp} {K:Ext} {R:List Cell} {C:PV} {D:Nat->Fn->Prop} {A B:U->Prop} {s:U} (w:RS H K R)
theorem RS.a3{x:String}{v:AV}(hx:(attrsOf .levels).contains x=true)(e:br (hd w.g.wl H.dF H.made) x=some v)(k:C v w.σ):ai x w.σ C (.ref 3):=.mk w.rep.c3 w.rep.c4 hx e k
theorem RS.a5{x:String}{v:AV}(hx:(attrsOf .bank).contains x=true)(e:br bd x=some v)(k:C v w.σ):ai x w.σ C (.ref 5):=.mk w.rep.c5 w.rep.c6 hx e k
theorem RS.WQ{x:String}{v:AV}(hx:(attrsOf .fY).contains x=true)(e:br WL x=some v)(k:C v w.σ):ai x w.σ C (.ref 11):=.mk w.rep.zX w.rep.zY hx e k
theorem RS.gT(k:C (.ref 5) w.σ):ai "bank" w.σ C (.ref 3):=w.a3 (by kernel_rfl) (by kernel_rfl) k
theorem RS.gE(k:C (.ref 11) w.σ):ai "unions" w.σ C (.ref 3):=w.a3 (by kernel_rfl) (by kernel_rfl) k
theorem RS.gf(k:C (.ref 16) w.σ):ai "edges" w.σ C (.ref 3):=w.a3 (by kernel_rfl) (by kernel_rfl) k
theorem RS.uN(k:C (.ref 17) w.σ):ai "forest" w.σ C (.ref 3):=w.a3 (by kernel_rfl) (by kernel_rfl) k
theorem RS.sy(k:C (.ref 18) w.σ):ai "known" w.σ C (.ref 3):=w.a3 (by kernel_rfl) (by kernel_rfl) k
theorem RS.fj(k:C (.ref 19) w.σ):ai "above" w.σ C (.ref 3):=w.a3 (by kernel_rfl) (by kernel_rfl) k
theorem RS.kU(k:C (.ref w.g.wl) w.σ):ai "waiting" w.σ C (.ref 3):=w.a3 (by kernel_rfl) (by kernel_rfl) k
theorem RS.GP(k:C (.int H.dF) w.σ):ai "backs" w.σ C (.ref 3):=w.a3 (by kernel_rfl) (by kernel_rfl) k
theorem RS.iy(k:C (.ref 21) w.σ):ai "changes" w.σ C (.ref 3):=w.a3 (by kernel_rfl) (by kernel_rfl) k
theorem RS.xZ(k:C (.ref 22) w.σ):ai "marks" w.σ C (.ref 3):=w.a3 (by kernel_rfl) (by kernel_rfl) k
theorem RS.WR(k:C (.int H.made) w.σ):ai "made" w.σ C (.ref 3):=w.a3 (by kernel_rfl) (by kernel_rfl) k
theorem RS.ou(k:C (.ref 7) w.σ):ai "nodes" w.σ C (.ref 5):=w.a5 (by kernel_rfl) (by kernel_rfl) k
theorem RS.nu(k:C (.ref 8) w.σ):ai "numbers" w.σ C (.ref 5):=w.a5 (by kernel_rfl) (by kernel_rfl) k
theorem RS.MM(k:C (.ref 9) w.σ):ai "weights" w.σ C (.ref 5):=w.a5 (by kernel_rfl) (by kernel_rfl) k
theorem RS.aaN(k:C (.ref 10) w.σ):ai "depths" w.σ C (.ref 5):=w.a5 (by kernel_rfl) (by kernel_rfl) k
theorem RS.fy(k:C (.ref 13) w.σ):ai "above" w.σ C (.ref 11):=w.WQ (by kernel_rfl) (by kernel_rfl) k
theorem RS.jK(k:C (.ref 14) w.σ):ai "lots" w.σ C (.ref 11):=w.WQ (by kernel_rfl) (by kernel_rfl) k
theorem RS.mL(k:C (.ref 15) w.σ):ai "merged" w.σ C (.ref 11):=w.WQ (by kernel_rfl) (by kernel_rfl) k
theorem RS.wM(k:D 3 .oF):bu "size" w.σ D (.ref 3):=.mk w.rep.c3 w.rep.c4 (by kernel_rfl) (by kernel_rfl) k
theorem RS.DG(k:D 3 .node):bu "node" w.σ D (.ref 3):=.mk w.rep.c3 w.rep.c4 (by kernel_rfl) (by kernel_rfl) k
theorem RS.RQ(k:D 3 .add):bu "add" w.σ D (.ref 3):=.mk w.rep.c3 w.rep.c4 (by kernel_rfl) (by kernel_rfl) k
theorem RS.m_find(k:D 3 .find):bu "find" w.σ D (.ref 3):=.mk w.rep.c3 w.rep.c4 (by kernel_rfl) (by kernel_rfl) k
theorem RS.S7(k:D 3 .merge):bu "merge" w.σ D (.ref 3):=.mk w.rep.c3 w.rep.c4 (by kernel_rfl) (by kernel_rfl) k
theorem RS.uO(k:D 3 .settle):bu "settle" w.σ D (.ref 3):=.mk w.rep.c3 w.rep.c4 (by kernel_rfl) (by kernel_rfl) k
theorem RS.WT(k:D 3 .push):bu "push" w.σ D (.ref 3):=.mk w.rep.c3 w.rep.c4 (by kernel_rfl) (by kernel_rfl) k
theorem RS.RR(k:D 3 .pop):bu "pop" w.σ D (.ref 3):=.mk w.rep.c3 w.rep.c4 (by kernel_rfl) (by kernel_rfl) k
theorem RS.DH(k:D 3 .u9):bu "look_at" w.σ D (.ref 3):=.mk w.rep.c3 w.rep.c4 (by kernel_rfl) (by kernel_rfl) k
theorem RS.MN(k:D 3 .join):bu "join" w.σ D (.ref 3):=.mk w.rep.c3 w.rep.c4 (by kernel_rfl) (by kernel_rfl) k
theorem RS.PM(k:D 3 .u_):bu "unmake" w.σ D (.ref 3):=.mk w.rep.c3 w.rep.c4 (by kernel_rfl) (by kernel_rfl) k
theorem RS.PN(k:D 3 .vc):bu "unjoin" w.σ D (.ref 3):=.mk w.rep.c3 w.rep.c4 (by kernel_rfl) (by kernel_rfl) k
theorem RS.I7(k:D 5 .oE):bu "size" w.σ D (.ref 5):=.mk w.rep.c5 w.rep.c6 (by kernel_rfl) (by kernel_rfl) k
theorem RS.MO(k:D 5 .take):bu "take" w.σ D (.ref 5):=.mk w.rep.c5 w.rep.c6 (by kernel_rfl) (by kernel_rfl) k
theorem RS.z5(k:D 5 .nR):bu "require" w.σ D (.ref 5):=.mk w.rep.c5 w.rep.c6 (by kernel_rfl) (by kernel_rfl) k
theorem RS.MP(k:D 5 .r_):bu "cut" w.σ D (.ref 5):=.mk w.rep.c5 w.rep.c6 (by kernel_rfl) (by kernel_rfl) k
theorem RS.PO(k:D 5 .op):bu "op" w.σ D (.ref 5):=.mk w.rep.c5 w.rep.c6 (by kernel_rfl) (by kernel_rfl) k
theorem RS.ow(k:D 5 .kids):bu "kids" w.σ D (.ref 5):=.mk w.rep.c5 w.rep.c6 (by kernel_rfl) (by kernel_rfl) k
theorem RS.WU(k:D 5 .term):bu "term" w.σ D (.ref 5):=.mk w.rep.c5 w.rep.c6 (by kernel_rfl) (by kernel_rfl) k
theorem RS.PQ(k:D 5 .weight):bu "weight" w.σ D (.ref 5):=.mk w.rep.c5 w.rep.c6 (by kernel_rfl) (by kernel_rfl) k
theorem RS.WV(k:D 11 .make):bu "make" w.σ D (.ref 11):=.mk w.rep.zX w.rep.zY (by kernel_rfl) (by kernel_rfl) k
theorem RS.rR(k:D 11 .lM):bu "size" w.σ D (.ref 11):=.mk w.rep.zX w.rep.zY (by kernel_rfl) (by kernel_rfl) k
theorem RS.md(k:D 11 .A8):bu "find" w.σ D (.ref 11):=.mk w.rep.zX w.rep.zY (by kernel_rfl) (by kernel_rfl) k
theorem RS.DI(k:D 11 .qo):bu "merge" w.σ D (.ref 11):=.mk w.rep.zX w.rep.zY (by kernel_rfl) (by kernel_rfl) k
theorem RS.MQ(k:D 11 .members):bu "members" w.σ D (.ref 11):=.mk w.rep.zX w.rep.zY (by kernel_rfl) (by kernel_rfl) k
theorem RS.WW(k:D 11 .back):bu "back" w.σ D (.ref 11):=.mk w.rep.zX w.rep.zY (by kernel_rfl) (by kernel_rfl) k
theorem RS.WX(k:D 11 .Hb):bu "cut" w.σ D (.ref 11):=.mk w.rep.zX w.rep.zY (by kernel_rfl) (by kernel_rfl) k
theorem idx(i:Nat){n:Nat}(h:i<n):Idx (i:Int) n i:=⟨h,.inl rfl⟩
theorem cX{l n:Nat}{xs:List AV}(h:s[l]?=some (.list xs))(e:xs.length=n)(k:C (.int n) s):bx s C [.ref l]:=.l h (e▸k)
theorem abN{n:Nat}{xs:List AV}(e:xs.length=n)(k:C (.int n) s):bx s C [.tup xs]:=.t (e▸k)
theorem ez{l i:Nat}{xs:List AV}{v:AV}(h:s[l]?=some (.list xs))(e:xs[i]?=some v)(k:C v s):ah s C (.ref l) (.int i):=.l h (idx i (List.getElem?_eq_some_iff.mp e).1) e k
theorem I8{i:Nat}{xs:List AV}{v:AV}(e:xs[i]?=some v)(k:C v s):ah s C (.tup xs) (.int i):=.u (idx i (List.getElem?_eq_some_iff.mp e).1) e k
theorem cL{v:AV}{xs:List AV}(k:C v s):ah s C (.tup (v::xs)) (.int 0):=I8 (i:=0) rfl k
theorem eA{u v:AV}{xs:List AV}(k:C v s):ah s C (.tup (u::v::xs)) (.int 1):=I8 (i:=1) rfl k
theorem wN{u v z:AV}{xs:List AV}(k:C z s):ah s C (.tup (u::v::z::xs)) (.int 2):=I8 (i:=2) rfl k
theorem lZ{v:AV}{xs:List AV}(k:C (.tup xs) s):eg (some 1) none none s C (.tup (v::xs)):=.t rfl rfl rfl (by decide) (by simp only [List.length_cons];omega) k
theorem cx(l:List Nat):(nl l).length=l.length:=List.length_map ..
theorem jL(l:List Nat)(n:Nat):nl (l++[n])=nl l++[.int n]:=List.map_append
theorem DJ(a b:List Nat):nl (a++b)=nl a++nl b:=List.map_append
theorem WY(l:List Nat)(i n:Nat):nl (l.set i n)=(nl l).set i (.int n):=by simp [nl]
theorem x4(l:List Nat)(n:Nat):nl (l.take n)=(nl l).take n:=by simp [nl,List.map_take]
theorem DK(f:Nat->Nat)(l:List Nat):l.map (λ x=>AV.int (f x))=nl (l.map f):=by simp [nl]
theorem gU{l:List Nat}{i n:Nat}(h:l[i]?=some n):(nl l)[i]?=some (.int n):=by simp [nl,h]
theorem RS.WZ(k:C (.int H.nodes.length) w.σ):bx w.σ C [.ref 7]:=cX w.rep.c7 (List.length_map ..) k
theorem RS.Be(k:C (.int H.par.length) w.σ):bx w.σ C [.ref 13]:=cX w.rep.GO (cx _) k
theorem RS.YH(k:C (.int H.a6.length) w.σ):bx w.σ C [.ref 14]:=cX w.rep.MI ((List.length_map ..).trans w.rep.ok.dg) k
theorem RS.I9(k:C (.int H.merged.length) w.σ):bx w.σ C [.ref 15]:=cX w.rep.MJ (List.length_map ..) k
theorem RS.RT(k:C (.int H.au.length) w.σ):bx w.σ C [.ref 16]:=cX w.rep.rP (List.length_map ..) k
theorem RS.W0{n:Nat}{k:Node}(h:H.nodes[n]?=some k)(c:C (bg k) w.σ):ah w.σ C (.ref 7) (.int n):=ez w.rep.c7 (by simp [h]) c
theorem RS.aaO{n m:Nat}(h:(dK H.nodes)[n]?=some m)(c:C (.int m) w.σ):ah w.σ C (.ref 9) (.int n):=ez w.rep.c9 (gU h) c
theorem RS.abO{n m:Nat}(h:(eR H.nodes)[n]?=some m)(c:C (.int m) w.σ):ah w.σ C (.ref 10) (.int n):=ez w.rep.DD (gU h) c
theorem RS.I_{n p:Nat}(h:H.par[n]?=some p)(c:C (.int p) w.σ):ah w.σ C (.ref 13) (.int n):=ez w.rep.GO (gU h) c
theorem RS.Bf{n:Nat}{e:Nat×Nat×Option String}(h:H.au[n]?=some e)(c:C (gR e) w.σ):ah w.σ C (.ref 16) (.int n):=ez w.rep.rP (by simp [h]) c
theorem snoc_cases{α:Type}(S:List α):S=[]\/∃T s,S=T++[s]:=by
 rcases List.eq_nil_or_concat S with h|⟨T,s,h⟩
 ·exact .inl h
 ·exact .inr ⟨T,s,ae h<|ae List.concat_eq_append rfl⟩
theorem PR(σ:U)(a b:AO):(σ++[a]).set σ.length b=σ++[b]:=by refine ae (List.set_append_right _ _ (Nat.le_refl _)) ?_;simp
theorem gF{n:Nat}{a b:Int}{c:Bool}(h:decide (a=b)=c):gm (n+1) (.int a) (.int b) c:=h▸hJ.ii
theorem sz{n:Nat}{xs ys:List AV}{b:Bool}(h:lE (gm n) xs ys b):gm (n+1) (.tup xs) (.tup ys) b:=hJ.tt h
theorem Ja{a b:Nat}(h:a≠b):decide ((a:Int)=b)=false:=decide_eq_false λ e=>h (Int.ofNat.inj e)
theorem x5{a b:Nat}(h:a=b):decide ((a:Int)=b)=true:=decide_eq_true (congrArg _ h)
theorem Jb{a b:Nat}(h:a≠b)(k:A s):fm s (bU A B) (.int a) (.int b):=⟨_,gF (Ja h),k⟩
theorem x6{a b:Nat}(h:a=b)(k:B s):fm s (bU A B) (.int a) (.int b):=⟨_,gF (x5 h),k⟩
theorem x7{a b:Nat}(h:a=b)(k:A s):oEq s (bU A B) (.int a) (.int b):=⟨_,gF (x5 h),k⟩
theorem uP{a b:Nat}(h:a≠b)(k:B s):oEq s (bU A B) (.int a) (.int b):=⟨_,gF (Ja h),k⟩
theorem Jc{a b:Int}(h:a<b)(k:A s):oLt s (bU A B) (.int a) (.int b):=.mk (by refine ae (decide_eq_true h) ?_;exact k)
theorem Jd{a b:Int}(h:b<=a)(k:B s):oLt s (bU A B) (.int a) (.int b):=.mk (by refine ae (decide_eq_false (Int.not_lt.mpr h)) ?_;exact k)
theorem pB{a b:Int}(h:b<a)(k:A s):fZ s (bU A B) (.int a) (.int b):=.mk (by refine ae (decide_eq_true h) ?_;exact k)
theorem jM{a b:Int}(h:a<=b)(k:B s):fZ s (bU A B) (.int a) (.int b):=.mk (by refine ae (decide_eq_false (Int.not_lt.mpr h)) ?_;exact k)
theorem kq{a b:Nat}(h:a=b+1)(k:C (.int b) s):fk s C (.int a) (.int 1):=.mk (by refine ae (show(a:Int) -1=b by omega) ?_;exact k)
noncomputable def RS.app(t:U):RS H K R:=⟨w.σ++t,w.g,w.rep.app t,w.k⟩
noncomputable def RS.new(ao:AO):RS H K ((w.σ.length,ao)::R):=⟨w.σ++[ao],w.g,w.rep.new ao,w.k⟩
theorem RS.qh(ao:AO)(k:∀l(w':RS H K ((l,ao)::R)),C (.ref l) w'.σ):cT ao w.σ C:=k _ (w.new ao)
end
section
variable{H:Hp} {K:Ext} {R:List Cell} {C:PV} {c:Cell}
theorem RS.iI{l:Nat}{ao:AO}(w:RS H K ((l,ao)::R)):w.σ[l]?=some ao:=w.rep.holds.at_ _ _ (by simp)
theorem RS.lB{l:Nat}{ao:AO}(w:RS H K (c::(l,ao)::R)):w.σ[l]?=some ao:=w.rep.holds.at_ _ _ (by simp)
noncomputable def RS.bz{R':List Cell}(w:RS H K R)(p:R.Perm R'):RS H K R':=⟨w.σ,w.g,w.rep.bz p,w.k⟩
noncomputable def RS.drop(w:RS H K (c::R)):RS H K R:=⟨w.σ,w.g,w.rep.kq,w.k⟩
noncomputable def RS.pC{c1:Cell}(w:RS H K (c::c1::R)):RS H K (c::R):=⟨w.σ,w.g,(w.rep.bz (.swap _ _ _)).kq,w.k⟩
noncomputable def RS.put{l:Nat}{old:AO}(w:RS H K ((l,old)::R))(x:AO):RS H K ((l,x)::R):=⟨w.σ.set l x,w.g,w.rep.PL x,w.k⟩
theorem RS.x8{l:Nat}{xs:List AV}{v:AV}{A:U->Prop}(w:RS H K ((l,.list xs)::R))(h:xs.length<10000)(k:∀w':RS H K ((l,.list (xs++[v]))::R),A w'.σ):bO v w.σ A l:=.mk w.iI h (k (w.put _))
noncomputable def RS.W2{l:Nat}{old:AO}(w:RS H K (c::(l,old)::R))(x:AO):RS H K (c::(l,x)::R):=⟨w.σ.set l x,w.g,((w.rep.bz (.swap _ _ _)).PL x).bz (.swap _ _ _),w.k⟩
theorem RS.W3{l:Nat}{kvs:List (Int×AV)}{i:Int}{v:AV}{A:U->Prop}(w:RS H K ((l,.dI kvs)::R))(h:kvs.length<=10000)(k:∀w':RS H K ((l,.dI (dz kvs i v))::R),A w'.σ):cz v w.σ A (.ref l) (.int i):=.i w.iI h (k (w.put _))
theorem RS.YI{l x:Nat}{L:List Nat}{A:U->Prop}(w:RS H K (c::(l,.list (nl L))::R))(h:L.length<10000)(k:∀w':RS H K (c::(l,.list (nl (L++[x])))::R),A w'.σ):bO (.int x) w.σ A l:=.mk w.lB (by rwa [cx]) (by rw [<-jL];exact k (w.W2 _))
theorem RS.YJ{l x:Nat}{L:List Nat}(w:RS H K (c::(l,.list (nl (L++[x])))::R))(k:∀w':RS H K (c::(l,.list (nl L))::R),C (.int x) w'.σ):fe w.σ C l:=.mk (xs:=nl L) (by rw [w.lB,jL]) (k (w.W2 _))
theorem Je{α:Type}(I:Nat->List AV->U->Prop)(hg:∀l acc σ,I l acc σ->σ[l]?=some (.list acc))(hp:∀l acc gB σ,I l acc σ->I l gB (σ.set l (.list gB)))(run:Nat->aL->Nat->U->(U->Prop)->Prop)(it:List α->aL)(ks:List α)(f:α->AV){ys:List AV}(e:ks.map f=ys)(hz:ks.length<10000)
  (he:∀n l acc σ Q,I l acc σ->Q σ->run (n+1) (it []) l σ Q)(hs:∀x us n l acc σ Q,x∈ks->I l acc σ->(∀σ',I l acc σ'->bO (f x) σ' (λ s=>run n (it us) l s Q) l)->run (n+1) (it (x::us)) l σ Q){σ:U}(h0:I σ.length [] (σ++[.list []]))(k:∀l σ',I l ys σ'->C (.ref l) σ'):
  d7 σ C λ n l s Q=>run n (it ks) l s Q:=by
 refine ⟨ks.length+1,?_⟩;have key:∀(us:List α)(acc mM:List AV)(l:Nat)(Q:U->Prop)(σ:U),I l acc σ->acc++us.map f=mM->(∀v∈us,v∈ks)->acc.length+us.length<10000->(∀σ',I l mM σ'->Q σ')->run (us.length+1) (it us) l σ Q:=λ us=>by
  induction us with
  |nil=>
   intro acc mM l Q σ h e _ _ k;cases (List.append_nil acc).symm.trans e;exact he _ _ _ _ _ h (k _ h)
  |cons v us ih=>intro acc mM l Q σ h e hm hz k;simp only [List.length_cons]at hz;exact hs v _ _ l acc σ Q (hm v (.head _)) h λ σ' h'=>.mk (hg _ _ _ h') (ml hz) (ih (acc++[f v]) mM l Q _ (hp _ _ _ _ h') (by refine cA e ?_;exact List.append_assoc ..) (λ u hu=>hm u (.tail _ hu)) (by simp;exact bG hz (by simp+arith only)) k)
 exact key ks [] _ _ _ _ h0 e (λ aa h=>h) (by simpa using hz) (k _)
theorem RS.Jf{α:Type}(w:RS H K R)(run:Nat->aL->Nat->U->(U->Prop)->Prop)(ks:List α)(g f:α->AV){ys:List AV}(e:ks.map f=ys)(hz:ks.length<10000)(he:∀n l s Q,Q s->run (n+1) (.tup []) l s Q)
  (hs:∀x vs n l acc(w:RS H K ((l,.list acc)::R))Q,x∈ks->(∀w':RS H K ((l,.list acc)::R),bO (f x) w'.σ (λ s=>run n (.tup vs) l s Q) l)->run (n+1) (.tup (g x::vs)) l w.σ Q)
  (k:∀l(w':RS H K ((l,.list ys)::R)),C (.ref l) w'.σ):d7 w.σ C λ n l s Q=>run n (.tup (ks.map g)) l s Q:=
 Je (λ l acc σ=>∃w:RS H K ((l,.list acc)::R),w.σ=σ) (λ _ _ _ ⟨w,e⟩=>e▸w.iI) (λ _ _ _ _ ⟨w,e⟩=>⟨w.put _,e▸rfl⟩) run (λ us=>.tup (us.map g)) ks f e hz (λ n l _ σ Q _ q=>he n l σ Q q) (λ x us n l acc σ Q hx ⟨w,e⟩ h=>e▸hs x _ n l acc w Q hx λ w'=>h _ ⟨w',rfl⟩) ⟨w.new _,rfl⟩ λ l σ ⟨w,e⟩=>e▸k l w
end
end
section
open PySem
section
variable{H:Hp} {K:Ext} {R:List Cell} {C:PV} {d:Nat} (w:RS H K R)
theorem Ff(k:C (.int H.nodes.length) w.σ):(O (d+1)).call .oE [.ref 5] w.σ C:=I1 (w.ou (w.WZ k))
theorem tV(k:C (.int H.nodes.length) w.σ):(O (d+2)).call .oF [.ref 3] w.σ C:=I3 (w.gT (w.I7 (Ff w k)))
theorem qi(k:C (.int H.par.length) w.σ):(O (d+1)).call .lM [.ref 11] w.σ C:=Dw (w.fy (w.Be k))
theorem Jg{n:Nat}{k:Node}(hn:H.nodes[n]?=some k)(c:C (.str k.1) w.σ):(O (d+1)).call .op [.ref 5,.int n] w.σ C:=aaM (w.ou (w.W0 hn (cL c)))
theorem mh{n:Nat}{k:Node}(hn:H.nodes[n]?=some k)(c:C (.tup (nl k.2)) w.σ):(O (d+1)).call .kids [.ref 5,.int n] w.σ C:=Wx (w.ou (w.W0 hn (lZ c)))
theorem MR{n m:Nat}(h:(dK H.nodes)[n]?=some m)(c:C (.int m) w.σ):(O (d+1)).call .weight [.ref 5,.int n] w.σ C:=Px (w.MM (w.aaO h c))
theorem Jh(hu:dH H.par):∀a:Nat,a<H.par.length->C (.int (root H.par a)) w.σ->∃n,nh (O d) C (.int a) (.ref 11) n w.σ:=λ a=>by
 induction a using Nat.strongRecOn with
 |ind a ih=>
  intro ha k;have hp:=List.getElem?_eq_getElem ha;generalize H.par[a]=p at hp;by_cases e:p=a
  ·subst e;exact ⟨1,wz (w.fy (w.I_ hp (x6 rfl (fM hp▸k))))⟩
  ·have hle:=hu a p hp;obtain ⟨n,h⟩:=ih p ((Nat.lt_of_le_of_ne hle e)) (Nat.lt_of_le_of_lt hle ha) (jt hu hp e▸k);exact ⟨n+1,wz (w.fy (w.I_ hp (Jb e (w.fy (w.I_ hp h)))))⟩
theorem ku(hu:dH H.par){a:Nat}(ha:a<H.par.length)(k:C (.int (root H.par a)) w.σ):(O (d+1)).call .A8 [.ref 11,.int a] w.σ C:=S2 (Jh w hu a ha k)
theorem ju(hu:dH H.par){a:Nat}(ha:a<H.par.length)(k:C (.int (root H.par a)) w.σ):(O (d+2)).call .find [.ref 3,.int a] w.σ C:=WE (w.gE (w.md (ku w hu ha k)))
noncomputable def ia(par:List Nat)(k:Node):Node:=(k.1,k.2.map (root par))
theorem S8(hu:dH H.par)(hf:dc H){n:Nat}{k:Node}(hn:H.nodes[n]?=some k)(hk:∀x∈k.2,x<H.par.length)(c:∀w':RS H K R,C (bg (ia H.par k)) w'.σ):(O (d+3)).call .node [.ref 3,.int n] w.σ C:=
 have hz:=hf.node k (List.mem_of_getElem? hn)
 WD (w.gT (w.PO (Jg w hn (w.gT (w.ow (mh w hn (.t (w.Jf (o9 (O (d+2)) (.ref 3)) k.2 _ (λ x=>.int (root H.par x)) (ys:=nl (k.2.map (root H.par))) (DK _ _) (eG hz rfl) (λ aa aa aa aa h=>zK (.te h)) (λ x vs n l acc w Q hx h=>zK (.ts (w.m_find (ju w hu (hk x hx) (h w)))))
  λ l w'=>.l w'.iI (.t (by rw [cx,List.length_map];exact Nat.le_trans (Nat.add_le_add_left hz 1) (by decide)) (c w'.drop))))))))))
end
end
section
open PySem
section
variable{σ:U} {H:Hp} {g:Gh} {R:List Cell}
theorem Rep.Ji(h:Rep σ H g R):((cY H g).map (·.1)).Nodup:=by have hn:=h.holds.nodup;rw [List.map_append,List.map_append,List.nodup_append,List.nodup_append]at hn;exact hn.2.1.1
theorem uQ{A B C:List Cell}{l:Nat}{ao:AO}(hn:((A++B++C).map (·.1)).Nodup)(hl:l∈B.map (·.1)):gb (A++B++C) l ao=A++gb B l ao++C:=by rw [List.map_append,List.map_append,List.nodup_append,List.nodup_append]at hn;rw [gY,gY,gD (a:=A) (λ q=>hn.1.2.2 l q l hl rfl),gD (a:=C) (λ q=>hn.2.2 l (List.mem_append_right _ hl) l q rfl)]
theorem PS{α:Type}(F:α->AO)(xs:List α)(ls:List Nat)(k l:Nat)(x':α)(hn:ls.Nodup)(h:ls[k]?=some l):gb ((xs.zip ls).map λ p=>(p.2,F p.1)) l (F x')=((xs.set k x').zip ls).map λ p=>(p.2,F p.1):=by
 induction xs generalizing ls k with
 |nil=>rfl
 |cons x xs ih=>cases ls with
  |nil=>exact if_pos h
  |cons m ls=>
   rw [List.nodup_cons]at hn;cases k with
   |zero=>
    simp only [List.getElem?_cons_zero,Option.some.injEq]at h;subst h;simp only [List.zip_cons_cons,List.map_cons,nr,if_true,List.set_cons_zero];rw [gD];intro q;refine bp (List.mem_map.mp q) λ c hc e=>?_;obtain ⟨p,hp,rfl⟩:=List.mem_map.mp hc;exact hn.1 (e▸(List.of_mem_zip hp).2)
   |succ k=>simp only [List.getElem?_cons_succ]at h;have b_:m≠l:=λ q=>hn.1 (q▸List.mem_of_getElem? h);simp only [List.zip_cons_cons,List.map_cons,nr,if_neg b_,List.set_cons_succ,ih ls k hn.2 h]
theorem PT{α:Type}(F:α->AO)(xs:List α)(ls:List Nat)(h:xs.length=ls.length):((xs.zip ls).map λ p=>((p.2,F p.1):Cell)).map (·.1)=ls:=by
 induction xs generalizing ls with
 |nil=>cases ls with
  |nil=>rfl
  |cons=>cases h
 |cons x xs ih=>cases ls with
  |nil=>rfl
  |cons m ls=>exact congrArg (List.cons m) (ih ls (Nat.succ.inj h))
theorem Rep.W4(h:Rep σ H g R):(eu H g).map (·.1)=g.dX:=PT (λ l=>.list (nl l)) _ _ h.ok.dg.symm
theorem Rep.aaP(h:Rep σ H g R):g.dX.Nodup:=by have:=h.Ji;simp only [cY,List.append_assoc,List.map_append,h.W4]at this;exact (List.nodup_append.mp this).1
theorem Rep.W5(h:Rep σ H g R){k l:Nat}{L:List Nat}(hk:H.a6[k]?=some L)(hl:g.dX[k]?=some l):(l,AO.list (nl L))∈cY H g:=by have:(L,l)∈H.a6.zip g.dX:=List.mem_of_getElem? (i:=k) (by rw [List.getElem?_zip_eq_some];exact ⟨hk,hl⟩);simp only [cY,List.append_assoc];exact List.mem_append_left _ (List.mem_map.mpr ⟨_,this,rfl⟩)
theorem Rep.YK(h:Rep σ H g R){k:Nat}{L:List Nat}(hk:H.a6[k]?=some L):∃l,g.dX[k]?=some l/\σ[l]?=some (.list (nl L)):=by
 have dP:k<g.dX.length:=by refine ae h.ok.dg ?_;exact (List.getElem?_eq_some_iff.mp hk).1
 exact ⟨_,List.getElem?_eq_getElem dP,h.holds.at_ _ _ (List.mem_append_right _ (List.mem_append_left _ (h.W5 hk (List.getElem?_eq_getElem dP))))⟩
theorem Rep.MS(h:Rep σ H g R){k l:Nat}{L L':List Nat}(hk:H.a6[k]?=some L)(hl:g.dX[k]?=some l):Rep (σ.set l (.list (nl L'))) {H with a6:=H.a6.set k L'} g R:=by
 refine h.PK (old:=.list (nl L)) (h.W5 hk hl) rfl ?_ ⟨by simp [h.ok.dg],h.ok.gS,h.ok.keys,h.ok.eb⟩;have hn:=h.Ji;have e:cY H g=[]++eu H g++(ew H g++eN H g++dY H g):=by simp [cY]
 rw [e]at hn⊢;refine ae (uQ hn (by rw [h.W4];exact List.mem_of_getElem? hl)) ?_;simp only [eu];refine ae (PS (λ l=>.list (nl l)) _ _ k l L' h.aaP hl) ?_;simp [cY,eu,ew,eN,dY,us]
theorem Rep.perm{H':Hp}{g':Gh}{R':List Cell}(h:Rep σ H g R)(hf:dj H' g'=dj H g)(hd:(cY H g++R).Perm (cY H' g'++R'))(hg:MH H' g'):Rep σ H' g' R':=
 ⟨hg,by refine ae hf ?_;exact h.holds.perm (List.Perm.append_left _ hd)⟩
theorem Rep.DL(h:Rep σ H g R)(x:List Nat):Rep (σ.set 13 (.list (nl x))) {H with par:=x} g R:=
 h.iQ (l:=13) (old:=.list (nl H.par)) (List.mem_of_getElem? (i:=10) rfl) rfl (.refl _) ⟨h.ok.dg,h.ok.gS,h.ok.keys,h.ok.eb⟩
theorem Rep.z6(h:Rep σ H g R)(x:List (Nat×Nat)):Rep (σ.set 15 (.list (x.map dG))) {H with merged:=x} g R:=
 h.iQ (l:=15) (old:=.list (H.merged.map dG)) (List.mem_of_getElem? (i:=12) rfl) rfl (.refl _) ⟨h.ok.dg,h.ok.gS,h.ok.keys,h.ok.eb⟩
theorem Rep.DM(h:Rep σ H g R)(x:List (Nat×Nat×Option String)):Rep (σ.set 16 (.list (x.map gR))) {H with au:=x} g R:=
 h.iQ (l:=16) (old:=.list (H.au.map gR)) (List.mem_of_getElem? (i:=13) rfl) rfl (.refl _) ⟨h.ok.dg,h.ok.gS,h.ok.keys,h.ok.eb⟩
theorem Rep.z7(h:Rep σ H g R)(x:List Nat):Rep (σ.set 17 (.list (nl x))) {H with aE:=x} g R:=
 h.iQ (l:=17) (old:=.list (nl H.aE)) (List.mem_of_getElem? (i:=14) rfl) rfl (.refl _) ⟨h.ok.dg,h.ok.gS,h.ok.keys,h.ok.eb⟩
noncomputable def fh(x:List (Node×Nat)):List (List AK×AV):=x.map λ p=>(dU p.1,.int p.2)
theorem Rep.DN(h:Rep σ H g R):σ[18]?=some (.dT (fh H.known)):=h.WM
theorem Rep.DO(h:Rep σ H g R)(x:List (Node×Nat)):Rep (σ.set 18 (.dT (fh x))) {H with known:=x} g R:=
 h.iQ (l:=18) (old:=.dT (fh H.known)) (List.mem_of_getElem? (i:=15) rfl) rfl (.refl _) ⟨h.ok.dg,h.ok.gS,h.ok.keys,h.ok.eb⟩
theorem Rep.W6(h:Rep σ H g R)(x:List AV):Rep (σ.set 21 (.list x)) H {g with K:=x} R:=
 h.iQ (l:=21) (old:=.list g.K) (List.mem_of_getElem? (i:=17) rfl) rfl (.refl _) ⟨h.ok.dg,h.ok.gS,h.ok.keys,h.ok.eb⟩
theorem Rep.sA(h:Rep σ H g R)(x:Nat):Rep (σ.set 4 (.dS (hd g.wl H.dF x))) {H with made:=x} g R:=
 h.iQ (l:=4) (old:=.dS (hd g.wl H.dF H.made)) (List.mem_of_getElem? (i:=1) rfl) rfl (.refl _) ⟨h.ok.dg,h.ok.gS,h.ok.keys,h.ok.eb⟩
theorem Rep.uR(h:Rep σ H g R)(x:Nat):Rep (σ.set 4 (.dS (hd g.wl x H.made))) {H with dF:=x} g R:=
 h.iQ (l:=4) (old:=.dS (hd g.wl H.dF H.made)) (List.mem_of_getElem? (i:=1) rfl) rfl (.refl _) ⟨h.ok.dg,h.ok.gS,h.ok.keys,h.ok.eb⟩
theorem Rep.Jj{wl:Nat}{W:List Nat}(h:Rep σ H g ((wl,.list (nl W))::R)):Rep (σ.set 4 (.dS (hd wl H.dF H.made))) {H with waiting:=W} {g with wl:=wl} R:=by refine Rep.kq (c:=(g.wl,.list (nl H.waiting))) (h.iQ (l:=4) (old:=.dS (hd g.wl H.dF H.made)) (List.mem_of_getElem? (i:=1) rfl) rfl ?_ ⟨h.ok.dg,h.ok.gS,h.ok.keys,h.ok.eb⟩);refine (?_:List.Perm (eu H g++ew H g++[(g.wl,AO.list (nl H.waiting))]++dY H g++((wl,AO.list (nl W))::R)) (eu H g++ew H g++[(wl,AO.list (nl W))]++dY H g++((g.wl,AO.list (nl H.waiting))::R)));simp only [List.append_assoc];refine List.Perm.append_left _ (List.Perm.append_left _ ?_);simp only [List.cons_append,List.nil_append];refine (List.Perm.cons _ List.perm_middle).trans ?_;refine (List.Perm.swap _ _ _).trans ?_;exact List.Perm.cons _ List.perm_middle.symm
theorem Rep.cW(h:Rep σ H g R):σ[g.wl]?=some (.list (nl H.waiting)):=h.holds.at_ _ _ (by simp [cY,eN])
theorem Rep.GQ(h:Rep σ H g R)(W:List Nat):Rep (σ.set g.wl (.list (nl W))) {H with waiting:=W} g R:=by refine h.PK (old:=.list (nl H.waiting)) (by simp [cY,eN]) rfl ?_ ⟨h.ok.dg,h.ok.gS,h.ok.keys,h.ok.eb⟩;have hn:=h.Ji;have e:cY H g=(eu H g++ew H g)++eN H g++dY H g:=rfl;rw [e]at hn⊢;refine ae (uQ hn (.head _)) ?_;simp [cY,eu,ew,eN,dY,us,gb]
noncomputable def upd(f:Nat->Option (List Nat))(c:Nat)(v:Option (List Nat)):Nat->Option (List Nat):=λ x=>if x=c then v else f x
noncomputable def d6(ud:List (Nat×Nat)):List (Int×AV):=ud.map λ p=>((p.1:Int),.ref p.2)
theorem Rep.x9(h:Rep σ H g R):σ[19]?=some (.dI (d6 g.ud)):=h.c19
theorem jf{ud:List (Nat×Nat)}{c l:Nat}(hn:(ud.map (·.1)).Nodup)(hm:(c,l)∈ud):∃A B,ud=A++(c,l)::B/\(∀p∈A,p.1≠c)/\(∀p∈B,p.1≠c):=by
 refine Ul (List.append_of_mem hm) λ A B e=>?_;subst e;rw [List.map_append,List.map_cons,List.nodup_append,List.nodup_cons]at hn;refine ⟨A,B,rfl,λ p hp q=>?_,λ p hp q=>?_⟩
 ·exact hn.2.2 p.1 (List.mem_map.mpr ⟨p,hp,rfl⟩) c (.head _) q
 ·exact hn.2.1.1 (List.mem_map.mpr ⟨p,hp,q⟩)
theorem mi{A B:List (Nat×Nat)}{c l:Nat}(hA:∀p∈A,p.1≠c):br (d6 (A++(c,l)::B)) (c:Int)=some (.ref l):=by
 unfold br d6;rw [List.map_append,List.find?_append,List.find?_eq_none.mpr]
 ·simp
 ·intro p hp;obtain ⟨q,hq,rfl⟩:=List.mem_map.mp hp;have:=hA q hq;simp only [decide_eq_true_eq]
  exact_mod_cast this
theorem DP{A:List (Nat×Nat)}{c:Nat}(hA:∀p∈A,p.1≠c):br (d6 A) (c:Int)=none:=by
 unfold br d6;rw [List.find?_eq_none.mpr]
 ·rfl
 ·intro p hp;obtain ⟨q,hq,rfl⟩:=List.mem_map.mp hp;have:=hA q hq;simp only [decide_eq_true_eq]
  exact_mod_cast this
theorem GR{A:List (Nat×Nat)}{c:Nat}(hA:∀p∈A,p.1≠c):jE (d6 A) (c:Int)=d6 A:=by
 unfold jE d6;rw [List.filter_eq_self];intro p hp;obtain ⟨q,hq,rfl⟩:=List.mem_map.mp hp;have:=hA q hq;simp only [ne_eq,decide_eq_true_eq]
 exact_mod_cast this
theorem GS{A B:List (Nat×Nat)}{c l:Nat}(hA:∀p∈A,p.1≠c)(hB:∀p∈B,p.1≠c):jE (d6 (A++(c,l)::B)) (c:Int)=d6 (A++B):=by have e1:d6 (A++(c,l)::B)=d6 A++((c:Int),AV.ref l)::d6 B:=List.map_append ..;have e2:d6 (A++B)=d6 A++d6 B:=List.map_append ..;rw [e1,e2];have h1:=GR hA;have h2:=GR hB;unfold jE at h1 h2⊢;rw [List.filter_append,List.filter_cons,h1,h2];simp
theorem DQ{A:List (Nat×Nat)}{c l:Nat}(hA:∀p∈A,p.1≠c):dz (d6 A) (c:Int) (.ref l)=d6 (A++[(c,l)]):=by
 unfold dz;rw [if_neg]
 ·simp [d6]
 ·simp only [d6,List.any_map,List.any_eq_true,not_exists,not_and];intro p hp;have:=hA p hp;simp only [Function.comp,decide_eq_true_eq]
  exact_mod_cast this
theorem S9{A B:List (Nat×Nat)}{c l l':Nat}(hA:∀p∈A,p.1≠c)(hB:∀p∈B,p.1≠c):dz (d6 (A++(c,l)::B)) (c:Int) (.ref l')=d6 (A++(c,l')::B):=by
 unfold dz;rw [if_pos (by simp [d6])];simp only [d6,List.map_append,List.map_cons,if_true,List.map_map];congr 1
 ·apply List.map_congr_left;intro p hp;have:=hA p hp;simp only [Function.comp];rw [if_neg (by exact_mod_cast this)]
 ·congr 1;apply List.map_congr_left;intro p hp;have:=hB p hp;simp only [Function.comp];exact ae (if_neg (by exact_mod_cast this)) rfl
theorem Rep.Bg(h:Rep σ H g R){c:Nat}{L:List Nat}(hc:H.aQ c=some L):∃A B l,g.ud=A++(c,l)::B/\(∀p∈A,p.1≠c)/\(∀p∈B,p.1≠c)/\σ[l]?=some (.list (nl L)):=by refine bp (List.mem_map.mp ((h.ok.eb c).mpr ⟨L,hc⟩)) λ p hp e=>?_;obtain ⟨c',l⟩:=p;simp only at e;subst e;refine xn (jf h.ok.keys hp) λ A B e hA hB=>?_;refine ⟨A,B,l,e,hA,hB,h.holds.at_ _ _ (List.mem_append_right _ (List.mem_append_left _ ?_))⟩;have:(l,AO.list (nl L))∈ew H g:=List.mem_map.mpr ⟨_,hp,by simp [us,hc]⟩;simp only [cY];simp [this]
theorem Rep.W7(h:Rep σ H g R){c:Nat}(hc:H.aQ c=none):∀p∈g.ud,p.1≠c:=by intro p hp e;refine dM ((h.ok.eb c).mp (List.mem_map.mpr ⟨p,hp,e⟩)) λ L q=>?_;rw [hc]at q;cases q
theorem wO(H:Hp)(c:Nat)(v:Option (List Nat))(x:Nat):us {H with aQ:=upd H.aQ c v} x=if x=c then v.getD []else us H x:=by unfold us upd;simp only;split<;>rfl
theorem jg{H:Hp}{c:Nat}{v:Option (List Nat)}{A:List (Nat×Nat)}(hA:∀p∈A,p.1≠c):(A.map λ p=>((p.2,.list (nl (us {H with aQ:=upd H.aQ c v} p.1))):Cell))=A.map λ p=>(p.2,.list (nl (us H p.1))):=by apply List.map_congr_left;intro p hp;rw [wO,if_neg (hA p hp)]
theorem Rep.sC(h:Rep σ H g R){c l:Nat}{A B:List (Nat×Nat)}(e:g.ud=A++(c,l)::B)(hA:∀p∈A,p.1≠c)(hB:∀p∈B,p.1≠c)(L:List Nat):Rep (σ.set l (.list (nl L))) {H with aQ:=upd H.aQ c (some L)} g R:=by
 have e0:cY H g=(eu H g++A.map λ p=>((p.2,.list (nl (us H p.1))):Cell))++[(l,AO.list (nl (us H c)))]++(B.map (λ p=>((p.2,.list (nl (us H p.1))):Cell))++eN H g++dY H g):=by simp [cY,ew,e]
 refine h.PK (old:=.list (nl (us H c))) (by rw [e0];simp) rfl ?_ ⟨h.ok.dg,h.ok.gS,h.ok.keys,λ x=>?_⟩
 ·have hn:=h.Ji;rw [e0]at hn⊢;rw [uQ hn (.head _)];simp only [cY,ew,e,List.map_append,List.map_cons,jg hA,jg hB];simp only [wO,if_true,gb,List.map_cons,List.map_nil,Option.getD_some];simp [eu,eN,dY]
 ·rw [h.ok.eb x];by_cases q:x=c
  ·subst q;simp only [upd,if_true];exact ⟨λ aa=>⟨_,rfl⟩,λ aa=>(h.ok.eb x).mp (by refine ae e ?_;simp)⟩
  ·simp only [upd,if_neg q]
theorem Rep.sD(h:Rep σ H g R){c l:Nat}{A B:List (Nat×Nat)}(e:g.ud=A++(c,l)::B)(hA:∀p∈A,p.1≠c)(hB:∀p∈B,p.1≠c):Rep (σ.set 19 (.dI (d6 (A++B)))) {H with aQ:=upd H.aQ c none} {g with ud:=A++B} ((l,.list (nl (us H c)))::R):=by
 refine h.iQ (l:=19) (old:=.dI (d6 g.ud)) (List.mem_of_getElem? (i:=16) rfl) rfl ?_ ⟨h.ok.dg,h.ok.gS,?_,λ x=>?_⟩
 ·have e0:cY H g++R=(eu H g++A.map λ p=>((p.2,.list (nl (us H p.1))):Cell))++(l,AO.list (nl (us H c)))::(B.map (λ p=>((p.2,.list (nl (us H p.1))):Cell))++eN H g++dY H g++R):=by simp [cY,ew,e]
  refine ae e0 ?_;simp only [cY,ew,List.map_append,jg hA,jg hB];refine List.perm_middle.trans ?_;refine List.Perm.trans ?_ List.perm_middle.symm;refine List.Perm.cons _ ?_;simp [eu,eN,dY]
 ·have:=h.ok.keys;rw [e]at this;exact (((List.sublist_cons_self _ _).append_left A).map _).nodup this
 ·have:=h.ok.eb x;rw [e]at this;simp only [upd];by_cases q:x=c
  ·subst q;simp only [if_true,reduceCtorEq,exists_const,iff_false];intro hm;refine bp (List.mem_map.mp hm) λ p hp e=>?_;rcases List.mem_append.mp hp with k|k
   ·exact hA p k e
   ·exact hB p k e
  ·rw [if_neg q,<-this];simp only [List.map_append,List.map_cons,List.mem_append,List.mem_cons,q,false_or]
theorem Rep.sE{l:Nat}{L:List Nat}(h:Rep σ H g ((l,.list (nl L))::R)){c:Nat}(hA:∀p∈g.ud,p.1≠c):Rep (σ.set 19 (.dI (d6 (g.ud++[(c,l)])))) {H with aQ:=upd H.aQ c (some L)} {g with ud:=g.ud++[(c,l)]} R:=by
 refine h.iQ (l:=19) (old:=.dI (d6 g.ud)) (List.mem_of_getElem? (i:=16) rfl) rfl ?_ ⟨h.ok.dg,h.ok.gS,?_,λ x=>?_⟩
 ·simp only [cY,ew,List.map_append,jg hA];simp only [wO,if_true,List.map_cons,List.map_nil,Option.getD_some];refine List.perm_middle.trans ?_;simp only [List.append_assoc,List.singleton_append];refine List.Perm.trans ?_ (List.Perm.append_left _ (List.perm_middle.symm));refine List.Perm.trans ?_ List.perm_middle.symm;exact List.Perm.refl _
 ·rw [List.map_append,List.nodup_append];refine ⟨h.ok.keys,by simp,λ a ha b hb=>?_⟩;obtain ⟨p,hp,rfl⟩:=List.mem_map.mp ha;simp at hb;subst hb;exact hA p hp
 ·have:=h.ok.eb x;simp only [upd];by_cases q:x=c
  ·subst q;simp
  ·rw [if_neg q,<-this];simp [q]
theorem Jk{α:Type}(X:List α)(a:α)(Y:List α)(b:α)(Z:List α):(X++a::(Y++b::Z)).Perm (X++b::(Y++a::Z)):=by refine List.Perm.append_left _ ?_;refine (List.Perm.cons _ List.perm_middle).trans ?_;refine (List.Perm.swap _ _ _).trans ?_;exact List.Perm.cons _ List.perm_middle.symm
theorem Rep.pD{l':Nat}{L:List Nat}(h:Rep σ H g ((l',.list (nl L))::R)){c l:Nat}{A B:List (Nat×Nat)}(e:g.ud=A++(c,l)::B)(hA:∀p∈A,p.1≠c)(hB:∀p∈B,p.1≠c):Rep (σ.set 19 (.dI (d6 (A++(c,l')::B)))) {H with aQ:=upd H.aQ c (some L)} {g with ud:=A++(c,l')::B} R:=by
 refine Rep.kq (c:=(l,.list (nl (us H c)))) (h.iQ (l:=19) (old:=.dI (d6 g.ud)) (List.mem_of_getElem? (i:=16) rfl) rfl ?_ ⟨h.ok.dg,h.ok.gS,?_,λ x=>?_⟩)
 ·have e0:cY H g++(l',AO.list (nl L))::R=(eu H g++A.map λ p=>((p.2,.list (nl (us H p.1))):Cell))++(l,AO.list (nl (us H c)))::(B.map (λ p=>((p.2,.list (nl (us H p.1))):Cell))++eN H g++dY H g++(l',AO.list (nl L))::R):=by simp [cY,ew,e]
  refine ae e0 ?_;refine (Jk _ _ _ _ _).trans (.of_eq ?_);simp only [cY,ew,List.map_append,List.map_cons,jg hA,jg hB];simp only [wO,if_true,Option.getD_some];simp [eu,eN,dY]
 ·have:=h.ok.keys;rw [e]at this;simpa using this
 ·have:=h.ok.eb x;rw [e]at this;simp only [upd];by_cases q:x=c
  ·subst q;simp
  ·rw [if_neg q,<-this];simp
theorem Rep.DR{l:Nat}{L:List Nat}(h:Rep σ H g ((l,.list (nl L))::R)):Rep (σ.set 14 (.list ((g.dX++[l]).map .ref))) {H with a6:=H.a6++[L]} {g with dX:=g.dX++[l]} R:=by
 refine h.iQ (l:=14) (old:=.list (g.dX.map .ref)) (List.mem_of_getElem? (i:=11) rfl) rfl ?_ ⟨by simp [h.ok.dg],h.ok.gS,h.ok.keys,h.ok.eb⟩;have e3:eu {H with a6:=H.a6++[L]} {g with dX:=g.dX++[l]}=eu H g++[(l,.list (nl L))]:=by simp only [eu];refine ae (List.zip_append h.ok.dg.symm) ?_;exact List.map_append ..
 simp only [cY,e3];refine (?_:List.Perm (eu H g++ew H g++eN H g++dY H g++((l,.list (nl L))::R)) (eu H g++[(l,.list (nl L))]++ew H g++eN H g++dY H g++R));simp only [List.append_assoc,List.singleton_append];refine List.Perm.append_left _ ?_;simp only [<-List.append_assoc];exact List.perm_middle
theorem Rep.PU(h:Rep σ H g R)(n:Nat):Rep (σ.set 14 (.list ((g.dX.map .ref).take n))) {H with a6:=H.a6.take n} {g with dX:=g.dX.take n} R:=by
 refine Rep.sub (A:=((H.a6.drop n).zip (g.dX.drop n)).map λ p=>(p.2,.list (nl p.1))) (h.iQ (l:=14) (old:=.list (g.dX.map .ref)) (List.mem_of_getElem? (i:=11) rfl) (by rw [<-List.map_take];rfl) ?_ ⟨by simp [h.ok.dg],h.ok.gS,h.ok.keys,h.ok.eb⟩);have e:eu H g=eu {H with a6:=H.a6.take n} {g with dX:=g.dX.take n}++((H.a6.drop n).zip (g.dX.drop n)).map λ p=>(p.2,.list (nl p.1)):=by simp only [eu];rw [<-List.map_append,<-List.zip_append (by simp [h.ok.dg]),List.take_append_drop,List.take_append_drop]
 simp only [cY];refine ae e ?_;refine (?_:List.Perm (eu {H with a6:=H.a6.take n} {g with dX:=g.dX.take n}++_++ew H g++eN H g++dY H g++R) (eu {H with a6:=H.a6.take n} {g with dX:=g.dX.take n}++ew H g++eN H g++dY H g++(_++R)));simp only [List.append_assoc];refine List.Perm.append_left _ ?_;simp only [<-List.append_assoc];refine List.Perm.append_right R ?_;simp only [List.append_assoc];exact List.perm_append_comm.trans (.of_eq (List.append_assoc ..))
end
theorem W8(x y:Nat):hU [(x:Int),(y:Int)]=[((min x y:Nat):Int),((max x y:Nat):Int)]:=by
 simp only [FV,Sj,A_,Q8];by_cases h:x<=y
 ·rw [if_pos (by exact_mod_cast h),Nat.min_eq_left h,Nat.max_eq_right h]
 ·exact ae (if_neg (by exact_mod_cast h))<|ae (Nat.min_eq_right (Nat.le_of_lt (Nat.lt_of_not_le h)))<|ae (Nat.max_eq_left (Nat.le_of_lt (Nat.lt_of_not_le h))) rfl
noncomputable def tW(C:Core)(x y:Nat):Core:={C with par:=C.par.set (max x y) (min x y),a6:=C.a6.set (min x y) (C.a6.getD (min x y) []++C.a6.getD (max x y) []),merged:=C.merged++[(min x y,max x y)]}
section
variable{H:Hp} {K:Ext} {R:List Cell} {C:PV} {A:U->Prop} (w:RS H K R)
theorem RS.RU{i x:Nat}(hi:i<H.par.length)(k:∀w':RS (H.pA (H.par.set i x)) K R,A w'.σ):cz (.int x) w.σ A (.ref 13) (.int i):=
 .l w.rep.GO (idx i (by rwa [cx])) (WY ..▸k ⟨_,w.g,w.rep.DL _,w.k⟩)
theorem RS.YL{x:Nat}(h:H.par.length<10000)(k:∀w':RS (H.pA (H.par++[x])) K R,A w'.σ):bO (.int x) w.σ A 13:=.mk w.rep.GO (by rwa [cx]) (jL ..▸k ⟨_,w.g,w.rep.DL _,w.k⟩)
theorem RS.YM{n:Nat}(h:n<=H.par.length)(k:∀w':RS (H.pA (H.par.take n)) K R,A w'.σ):m_ w.σ A (.ref 13) (.int n):=.mk w.rep.GO (by rwa [cx]) (x4 ..▸k ⟨_,w.g,w.rep.DL _,w.k⟩)
theorem RS.dg{i:Nat}{L:List Nat}(h:H.a6[i]?=some L)(k:∀l,w.g.dX[i]?=some l->w.σ[l]?=some (.list (nl L))->C (.ref l) w.σ):ah w.σ C (.ref 14) (.int i):=
 bp (w.rep.YK h) λ l h1 h2=>ez w.rep.MI (by simp [h1]) (k l h1 h2)
theorem RS.W9{i l m:Nat}{L M:List Nat}(h:H.a6[i]?=some L)(hl:w.g.dX[i]?=some l)(h1:w.σ[l]?=some (.list (nl L)))(h2:w.σ[m]?=some (.list (nl M)))(hz:L.length+M.length<=10000)(k:∀w':RS (H.kI (H.a6.set i (L++M))) K R,A w'.σ):qL l w.σ A (.ref m):=
 .mk h1 h2 (by rwa [cx,cx]) (DJ ..▸k ⟨_,w.g,w.rep.MS h hl,w.k⟩)
theorem RS.W_{i l n:Nat}{L:List Nat}(h:H.a6[i]?=some L)(hl:w.g.dX[i]?=some l)(h1:w.σ[l]?=some (.list (nl L)))(hn:n<=L.length)(k:∀w':RS (H.kI (H.a6.set i (L.take n))) K R,A w'.σ):m_ w.σ A (.ref l) (.int n):=
 .mk h1 (by rwa [cx]) (x4 ..▸k ⟨_,w.g,w.rep.MS h hl,w.k⟩)
theorem RS.DR{l:Nat}{L:List Nat}(w:RS H K ((l,.list (nl L))::R))(h:H.a6.length<10000)(k:∀w':RS (H.kI (H.a6++[L])) K R,A w'.σ):bO (.ref l) w.σ A 14:=
 .mk w.rep.MI (by rwa [List.length_map,w.rep.ok.dg]) (by refine ae (show w.g.dX.map AV.ref++[.ref l]=(w.g.dX++[l]).map .ref by simp) ?_;exact k ⟨_,_,w.rep.DR,w.k⟩)
theorem RS.S_{n:Nat}(h:n<=H.a6.length)(k:∀w':RS (H.kI (H.a6.take n)) K R,A w'.σ):m_ w.σ A (.ref 14) (.int n):=.mk w.rep.MI (by rwa [List.length_map,w.rep.ok.dg]) (k ⟨_,_,w.rep.PU n,w.k⟩)
theorem RS.YN{p:Nat×Nat}(h:H.merged.length<10000)(k:∀w':RS (H.ot (H.merged++[p])) K R,A w'.σ):bO (dG p) w.σ A 15:=
 .mk w.rep.MJ (by rwa [List.length_map]) (by refine ae (show H.merged.map dG++[dG p]=(H.merged++[p]).map dG by simp) ?_;exact k ⟨_,w.g,w.rep.z6 _,w.k⟩)
theorem RS.YO{p:Nat×Nat}{ms:List (Nat×Nat)}(h:H.merged=ms++[p])(k:∀w':RS (H.ot (ms)) K R,C (dG p) w'.σ):fe w.σ C 15:=
 .mk (xs:=ms.map dG) (by refine ae w.rep.MJ<|ae h<|ae List.map_append ?_;rfl) (k ⟨_,w.g,w.rep.z6 _,w.k⟩)
theorem RS.Jl{l x y:Nat}(w:RS H K ((l,.list [.int x,.int y])::R))(k:∀l(w':RS H K ((l,.list [.int (min x y:Nat),.int (max x y:Nat)])::R)),C (.ref l) w'.σ):dA w.σ C [.ref l]:=
 .x (.l (.l w.iI (ns:=[(x:Int),(y:Int)]) rfl (Nat.le_of_ble_eq_true rfl) (by rw [W8];exact k _ (w.drop.new _))))
end
section
variable{H:Hp} {K:Ext} {R:List Cell} {C:PV} {d:Nat} (w:RS H K R)
theorem Tc(hf:dc H){m:Nat}(hm:H.a6.length=m)(k:∀w':RS ((H.pA (H.par++[H.par.length])).kI (H.a6++[[m]])) K R,C (.int H.par.length) w'.σ):(O (d+1)).call .make [.ref 11] w.σ C:=by have h1:=hf.par;have h2:=hf.a6;subst hm;exact Wz (w.fy (.mk w.rep.GO (w.fy (w.Be (w.YL (eG h1 rfl) λ w=>w.jK (.mk w.rep.MI (w.jK (w.YH (w.qh _ λ l w=>RS.DR (L:=[H.a6.length]) w (show H.a6.length<10000 by exact eG h2 rfl) λ w=>w.fy (w.Be (kq (List.length_append ..) (k w))))))))))))
theorem Fg(hu:dH H.par){a b:Nat}(ha:a<H.par.length)(hb:b<H.par.length)(he:root H.par a=root H.par b)(k:∀w':RS H K R,C .none w'.σ):(O (d+2)).call .qo [.ref 11,.int a,.int b] w.σ C:=
 Dx (w.md (ku w hu ha (w.md (ku w hu hb (w.qh _ λ l w=>w.Jl λ l w=>.l w.iI (x7 (by rw [he,Nat.min_self,Nat.max_self]) (k w.drop)))))))
theorem MT(hf:dc H)(hu:dH H.par){a b x y:Nat}(ha:a<H.par.length)(hb:b<H.par.length)(hx:root H.par a=x)(hy:root H.par b=y)(b_:x≠y)(n8:H.a6.length=H.par.length)
  (k:∀w':RS (H.YG (tW H.toCore x y)) K R,C (dG (min x y,max x y)) w'.σ):(O (d+2)).call .qo [.ref 11,.int a,.int b] w.σ C:=by
 have hr:x<H.par.length:=hx▸Nat.lt_of_le_of_lt (oq hu a) ha;have hs:y<H.par.length:=hy▸Nat.lt_of_le_of_lt (oq hu b) hb;refine Dx (w.md (ku w hu ha (hx▸w.md (ku w hu hb (hy▸w.qh _ λ l w=>w.Jl λ l w=>.l w.iI ?_)))));have h1:max x y<H.a6.length:=Zr (Nat.lt_of_lt_of_le hr (bP n8)) (Nat.lt_of_lt_of_le hs (bP n8));have h2:min x y<H.a6.length:=Zq (Nat.lt_of_lt_of_le hr (bP n8));have hL:=List.getElem?_eq_getElem h2;have hM:=List.getElem?_eq_getElem h1;have z1:=hf.dg _ (List.mem_of_getElem? hL);have z2:=hf.dg _ (List.mem_of_getElem? hM);have z3:=hf.merged;rw [show tW H.toCore x y={H.toCore with par:=H.par.set (max x y) (min x y),a6:=H.a6.set (min x y) (H.a6[min x y]++H.a6[max x y]),merged:=H.merged++[(min x y,max x y)]} by simp [tW,List.getD_eq_getElem?_getD,h1,h2]]at k;exact uP (Ka b_) (w.drop.fy (w.drop.RU (Nat.lt_of_lt_of_le h1 (bI n8)) λ w=>w.jK (w.dg hL λ l hl c=>.mk c (w.jK (w.dg hM λ m hm c'=>w.W9 hL hl c c' (QX z1 z2 rfl) λ w=>w.mL (.mk w.rep.MJ (RS.YN (p:=(min x y,max x y)) w (show H.merged.length<10000 by exact eG z3 rfl) λ w=>k w)))))))
end
end
section
open PySem
section
variable{s:U} {C:PV} {D:aL->Prop}
theorem DS{n:Nat}(k:C (.int n) s):j7 s C [.int n,.int 0]:=.i (k)
theorem Td{a b:Nat}(h:a<=b)(hb:b<=100000)(k:D (.lG a 1 (b -a))):lh D [.int a,.int b]:=.b (Zu h hb) (by unfold oP;have e:=Zt a (b -a);rw [Nat.add_sub_cancel' h]at e;refine ae e ?_;exact k)
theorem YP{l m:Nat}{xs:List AV}{ns:List Int}{A B:U->Prop}(h1:s[l]?=some (.list xs))(h2:s[m]?=some (.list xs))(hn:intsOf xs=some ns)(k:B s):uC s (bU A B) (.ref l) (.ref m):=.mk h1 h2 hn hn (by refine ae (decide_eq_true rfl) ?_;exact k)
theorem YQ{a b:Nat}(h:b<=a)(k:C (.int (a -b:Nat)) s):fk s C (.int a) (.int b):=.mk (by refine cA (Int.ofNat_sub h) ?_;exact k)
end
section
variable{H:Hp} {K:Ext} {R:List Cell} {C:PV} {d:Nat} (w:RS H K R)
theorem Te(hf:dc H){ms:List (Nat×Nat)}{kept gone:Nat}(hm:H.merged=ms++[(kept,gone)])(hg:gone<H.par.length)(hk:kept<H.par.length)(n8:H.a6.length=H.par.length){Lk Lg:List Nat}(hL:H.a6[kept]?=some Lk)(hM:H.a6[gone]?=some Lg)(hle:Lg.length<=Lk.length)
  {p:List Nat}{ls:List (List Nat)}(e1:H.par.set gone gone=p)(e2:H.a6.set kept (Lk.take (Lk.length -Lg.length))=ls)(k:∀w':RS (((H.ot ms).pA p).kI ls) K R,C .none w'.σ):(O (d+1)).call .back [.ref 11,.int ms.length] w.σ C:=by
 have e:H.merged.length=ms.length+1:=by refine ae hm ?_;exact List.length_append ..
 subst e1 e2;exact
 WA ⟨2,zI (w.mL (w.I9 (DS (pB (by omega) (w.mL (.mk w.rep.MJ (w.YO hm λ w=>.t (w.fy (w.RU hg λ w=>w.jK (w.dg hL λ l hl c=>w.jK (w.dg hL λ l' eH c1=>by cases hl.symm.trans eH;exact cX c (cx _) (w.jK (w.dg hM λ m hm c'=>cX c' (cx _) (YQ hle (w.W_ hL hl c ((Nat.sub_le (Lk.length) (Lg.length))) λ w=>zI (w.mL (w.I9 (DS (jM (Int.le_refl _) (k w))))))))))))))))))))⟩
theorem Fh(hu:dH H.par){a:Nat}(ha:a<H.par.length)(hL:H.a6[root H.par a]?=some [a])(k:∀l(w':RS H K ((l,.list [.int a])::R)),C (.ref l) w'.σ):(O (d+2)).call .members [.ref 11,.int a] w.σ C:=
 Mv (w.jK (w.md (ku w hu ha (w.dg hL λ l hl c=>.x (.l (.l c (ns:=[(a:Int)]) rfl (Nat.le_of_ble_eq_true rfl) (k _ (w.new _))))))))
theorem Tf(hf:dc H)(hu:dH H.par){n:Nat}(hn:H.par.length=n+1)(hp:H.par[n]?=some n)(n8:H.a6.length=H.par.length)(hL:H.a6[n]?=some [n]){p:List Nat}{ls:List (List Nat)}(e1:H.par.take n=p)(e2:H.a6.take n=ls)
  (k:∀w':RS ((H.pA p).kI ls) K R,C .none w'.σ):(O (d+3)).call .Hb [.ref 11,.int n] w.σ C:=by
 have hz:=hf.par;subst e1 e2;exact
 WB (DS (w.fy (w.Be (Td (Nat.le_of_lt (bP hn)) (nc hz rfl) ⟨2,by rw [hn,Nat.add_sub_cancel_left];exact zJ (.rs (w.MQ (Fh w hu ((bP hn)) ((fM hp).symm▸hL) λ l w=>w.qh _ λ m w=>YP w.lB w.iI rfl (zJ (.re (w.drop.drop.fy (w.drop.drop.YM (Nat.le_of_lt (bP hn)) λ w=>w.jK (RS.S_ w (show n<=H.a6.length by exact Nat.le_of_lt (Nat.lt_of_lt_of_le (bP hn) (bP n8))) k))))))))⟩))))
end
end
section
open PySem
theorem iE{k k':Node}(h:dU k=dU k'):k=k':=by
 obtain ⟨a,l⟩:=k;obtain ⟨b,m⟩:=k';simp only [dU,List.cons.injEq,AK.s.injEq]at h;obtain ⟨rfl,h⟩:=h;have:l=m:=by
  revert h;induction l generalizing m with
  |nil=>intro h;cases m with|nil=>rfl|cons _ _=>exact if_pos h
  |cons x r ih=>
   intro h;cases m with
   |nil=>exact if_pos h
   |cons y s=>simp only [List.map_cons,List.cons.injEq,AK.i.injEq]at h;exact ae (show x=y by exact_mod_cast h.1)<|ae (ih (m:=s) h.2) rfl
 exact congrArg _ this
theorem W':∀l:List Nat,gx (nl l)=some (l.map λ(n:Nat)=>AK.i n):=by
 intro bD;induction bD with
 |nil=>
  skip;exact rfl
 |cons x r ih=>skip;have:=ih;simp only [nl,List.map_cons,gx,BG]at this⊢;exact ae this rfl
theorem fT(k:Node):gx (.str k.1::nl k.2)=some (dU k):=by simp [gx,BG,W',dU]
theorem MU{A B:List (Node×Nat)}{k:Node}{v:Nat}(hA:∀p∈A,p.1≠k):br (fh (A++(k,v)::B)) (dU k)=some (.int v):=by
 unfold br fh;rw [List.map_append,List.find?_append,List.find?_eq_none.mpr]
 ·simp
 ·intro p hp;obtain ⟨q,hq,rfl⟩:=List.mem_map.mp hp;have:=hA q hq;simp only [decide_eq_true_eq];exact λ e=>this (iE e)
theorem Tg{A:List (Node×Nat)}{k:Node}(hA:∀p∈A,p.1≠k):br (fh A) (dU k)=none:=by
 unfold br fh;rw [List.find?_eq_none.mpr]
 ·rfl
 ·intro p hp;obtain ⟨q,hq,rfl⟩:=List.mem_map.mp hp;have:=hA q hq;simp only [decide_eq_true_eq];exact λ e=>this (iE e)
theorem MV{A:List (Node×Nat)}{k:Node}(v:Nat)(hA:∀p∈A,p.1≠k):dz (fh A) (dU k) (.int v)=fh (A++[(k,v)]):=by
 unfold dz;rw [if_neg]
 ·simp [fh]
 ·simp only [fh,List.any_map,List.any_eq_true,not_exists,not_and];intro p hp;have:=hA p hp;simp only [Function.comp,decide_eq_true_eq];exact λ e=>this (iE e)
theorem MW{A:List (Node×Nat)}{k:Node}{v:Nat}(hA:∀p∈A,p.1≠k):jE (fh (A++[(k,v)])) (dU k)=fh A:=by
 have h1:(fh A).filter (λ kv=>decide (kv.1≠dU k))=fh A:=by rw [List.filter_eq_self];intro p hp;obtain ⟨q,hq,rfl⟩:=List.mem_map.mp hp;have:=hA q hq;simp only [ne_eq,decide_eq_true_eq];exact λ e=>this (iE e)
 have e1:fh (A++[(k,v)])=fh A++[(dU k,AV.int v)]:=List.map_append ..;unfold jE;rw [e1,List.filter_append,h1];simp
theorem abj(ns:List Node):numsOf ns=fh ns.zipIdx:=rfl
theorem sF{ns:List Node}{k:Node}(h:k∉ns):∀p∈ns.zipIdx,p.1≠k:=by intro p hp e;obtain ⟨a,i⟩:=p;simp only at e;subst e;have:=(List.mem_zipIdx hp).2.2;exact h (by refine ae this ?_;exact List.getElem_mem _)
theorem DT(ns:List Node)(k:Node):(ns++[k]).zipIdx=ns.zipIdx++[(k,ns.length)]:=by simp [List.zipIdx_append]
theorem GU(f:List Nat->Nat):∀(ns:List Node)(acc:List Nat),(tU f ns acc).length=acc.length+ns.length:=by
 intro bD;induction bD with
 |nil=>
  intro acc;exact rfl
 |cons k r ih=>intro acc;rw [Bd,ih];simp;exact Nat.add_right_comm ..
theorem GV(f:List Nat->Nat)(k:Node):∀(ns:List Node)(acc:List Nat),tU f (ns++[k]) acc=tU f ns acc++[f (k.2.map λ i=>(tU f ns acc).getD i 0)]:=by
 intro bD;induction bD with
 |nil=>
  intro acc;exact rfl
 |cons a r ih=>intro acc;rw [List.cons_append,Bd,Bd,ih]
theorem tX(ns:List Node)(k:Node):dK (ns++[k])=dK ns++[1+(k.2.map λ i=>(dK ns).getD i 0).sum]:=GV _ _ _ _
theorem wQ(ns:List Node)(k:Node):eR (ns++[k])=eR ns++[1+(k.2.map λ i=>(eR ns).getD i 0).foldr max 0]:=GV _ _ _ _
theorem tY(ns:List Node):(dK ns).length=ns.length:=by rw [dK,GU];exact Nat.add_comm ..
theorem Jm(ns:List Node):(eR ns).length=ns.length:=by rw [eR,GU];exact Nat.add_comm ..
noncomputable abbrev GW(a b c e:AO):List Cell:=[(7,a),(8,b),(9,c),(10,e),(5,.inst .bank),(6,.dS bd)]
def bV(σ:U)(a b c e:AO)(X:List Cell):Prop:=Holds σ (GW a b c e++X)
section
variable{σ:U} {a b c e:AO} {X:List Cell} (h:bV σ a b c e X)
include h
theorem bV.at{l:Nat}{x:AO}(hm:(l,x)∈GW a b c e):σ[l]?=some x:=h.at_ _ _ (List.mem_append_left _ hm)
theorem bV.c5:σ[5]?=some (.inst .bank):=h.at (.tail _ (.tail _ (.tail _ (.tail _ (.head _)))))
theorem bV.c6:σ[6]?=some (.dS bd):=h.at (.tail _ (.tail _ (.tail _ (.tail _ (.tail _ (.head _))))))
theorem bV.c7:σ[7]?=some a:=h.at (.head _)
theorem bV.c8:σ[8]?=some b:=h.at (.tail _ (.head _))
theorem bV.c9:σ[9]?=some c:=h.at (.tail _ (.tail _ (.head _)))
theorem bV.DD:σ[10]?=some e:=h.at (.tail _ (.tail _ (.tail _ (.head _))))
theorem bV.set{l:Nat}{old x a' b' c' e':AO}(hm:(l,old)∈GW a b c e)(q:gb (GW a b c e) l x=GW a' b' c' e'):bV (σ.set l x) a' b' c' e' X:=by
 have hn:=h.nodup;rw [List.map_append,List.nodup_append]at hn;have:=Holds.set h (List.mem_append_left _ hm) x
 rwa [gY,gD (a:=X) (λ hx=>hn.2.2 l (List.mem_map.mpr ⟨_,hm,rfl⟩) l hx rfl),q]at this
theorem bV.s7(x:AO):bV (σ.set 7 x) x b c e X:=h.set (.head _) rfl
theorem bV.s8(x:AO):bV (σ.set 8 x) a x c e X:=h.set (.tail _ (.head _)) rfl
theorem bV.s9(x:AO):bV (σ.set 9 x) a b x e X:=h.set (.tail _ (.tail _ (.head _))) rfl
theorem bV.tN(x:AO):bV (σ.set 10 x) a b c x X:=h.set (.tail _ (.tail _ (.tail _ (.head _)))) rfl
theorem bV.app(t:U):bV (σ++t) a b c e X:=Holds.app h t
theorem bV.new(ao:AO):bV (σ++[ao]) a b c e ((σ.length,ao)::X):=(Holds.new h ao).perm List.perm_middle.symm
end
section
variable{σ:U} {a b c e:AO} {X:List Cell}
theorem bV.RV{l:Nat}{x:AO}(h:bV σ a b c e ((l,x)::X)):σ[l]?=some x:=h.at_ _ _ (List.mem_append_right _ (.head _))
theorem bV.put{l:Nat}{old:AO}(h:bV σ a b c e ((l,old)::X))(x:AO):bV (σ.set l x) a b c e ((l,x)::X):=by have p:=Holds.perm h List.perm_middle;have h1:=p.set (.head _) x;have hn:=p.nodup;rw [List.map_cons,List.nodup_cons]at hn;rw [nr,if_pos rfl,gD hn.1]at h1;exact h1.perm List.perm_middle.symm
theorem bV.drop{x:Cell}(h:bV σ a b c e (x::X)):bV σ a b c e X:=Holds.sub h (.append (.refl _) (List.sublist_cons_self _ _))
end
noncomputable def Bh(H:Hp)(g:Gh)(R:List Cell):List Cell:=(dj H g).take 2++((dj H g).drop 8++(cY H g++R))
theorem wR(H:Hp)(g:Gh)(R:List Cell)(ns:List Node):(GW (.list (ns.map bg)) (.dT (numsOf ns)) (.list (nl (dK ns))) (.list (nl (eR ns)))++Bh H g R).Perm (dj {H with nodes:=ns} g++(cY {H with nodes:=ns} g++R)):=by have e:dj {H with nodes:=ns} g++(cY {H with nodes:=ns} g++R)=(dj H g).take 2++([((5:Nat),AO.inst .bank),(6,.dS bd)]++[(7,.list (ns.map bg)),(8,.dT (numsOf ns)),(9,.list (nl (dK ns))),(10,.list (nl (eR ns)))]++((dj H g).drop 8++(cY H g++R))):=rfl;refine ae e ?_;unfold Bh;rw [<-List.append_assoc,<-List.append_assoc ((dj H g).take 2)];exact List.Perm.append_right _ (List.perm_append_comm.trans (.append_left _ (List.perm_append_comm (l₁:=[_,_,_,_]) (l₂:=[_,_]))))
theorem Rep.toBank{σ:U}{H:Hp}{g:Gh}{R:List Cell}(h:Rep σ H g R):bV σ (.list (H.nodes.map bg)) (.dT (fh H.nodes.zipIdx)) (.list (nl (dK H.nodes))) (.list (nl (eR H.nodes))) (Bh H g R):=
 h.holds.perm (wR H g R H.nodes).symm
theorem bV.toRep{σ:U}{H:Hp}{g:Gh}{R:List Cell}{ns:List Node}(hg:MH H g)(h:bV σ (.list (ns.map bg)) (.dT (fh ns.zipIdx)) (.list (nl (dK ns))) (.list (nl (eR ns))) (Bh H g R)):Rep σ {H with nodes:=ns} g R:=
 ⟨⟨hg.dg,hg.gS,hg.keys,hg.eb⟩,Holds.perm h (wR H g R ns)⟩
theorem x_:∀l:List Nat,intsOf (nl l)=some (l.map Int.ofNat):=by
 intro bD;induction bD with
 |nil=>
  skip;exact rfl
 |cons x r ih=>skip;have:=ih;simp only [nl,List.map_cons,intsOf]at this⊢;refine ae this ?_;rfl
theorem Xa:∀l:List Nat,(l.map Int.ofNat).sum=Int.ofNat l.sum:=by
 intro bD;induction bD with
 |nil=>
  skip;exact rfl
 |cons x r ih=>skip;refine ae List.map_cons<|ae List.sum_cons<|ae List.sum_cons<|ae (ih) ?_;rfl
theorem Jn(n:Int){l:List Int}(h:l≠[]):maxOf (n::l)=max n (maxOf l):=by
 cases l with
 |nil=>exact absurd rfl h
 |cons a r=>rfl
theorem Xb:∀l:List Nat,maxOf (l.map Int.ofNat++[0])=Int.ofNat (l.foldr max 0):=by
 intro bD;induction bD with
 |nil=>
  skip;exact rfl
 |cons x r ih=>skip;refine ae List.map_cons<|ae List.cons_append<|ae (Jn _ (by simp))<|ae (ih)<|ae List.foldr_cons ?_;simp only [Int.ofNat_eq_natCast];lia
theorem Xc{x:List (Node×Nat)}{k:Node}{v:Nat}(hm:(k,v)∈x)(hu:∀v',(k,v')∈x->v'=v):br (fh x) (dU k)=some (.int v):=by
 unfold br;cases e:(fh x).find? λ kv=>decide (kv.1=dU k)with
 |none=>
  rw [List.find?_eq_none]at e;have:=e _ (List.mem_map.mpr ⟨_,hm,rfl⟩);simp at this
 |some p=>have h1:=List.find?_some e;obtain ⟨⟨k',v'⟩,hq,rfl⟩:=List.mem_map.mp (List.mem_of_find?_eq_some e);simp only [decide_eq_true_eq]at h1;have:=iE h1;subst this;refine ae (hu v' hq) ?_;rfl
theorem DU{ns:List Node}{k:Node}{n:Nat}(hn:ns[n]?=some k)(hu:∀m,ns[m]?=some k->m=n):br (fh ns.zipIdx) (dU k)=some (.int n):=
 Xc (List.mem_zipIdx_iff_getElem?.mpr hn) λ v' hv=>hu v' (List.mem_zipIdx_iff_getElem?.mp hv)
section
variable{σ:U} {a b c e:AO} {X:List Cell} {C:PV} {D:Nat->Fn->Prop} {A B:U->Prop} {d:Nat}
theorem bV.av(h:bV σ a b c e X){x:String}{v:AV}(hx:(attrsOf .bank).contains x=true)(q:br bd x=some v)(k:C v σ):ai x σ C (.ref 5):=.mk h.c5 h.c6 hx q k
theorem bV.a7(h:bV σ a b c e X)(k:C (.ref 7) σ):ai "nodes" σ C (.ref 5):=h.av (by kernel_rfl) (by kernel_rfl) k
theorem bV.a8(h:bV σ a b c e X)(k:C (.ref 8) σ):ai "numbers" σ C (.ref 5):=h.av (by kernel_rfl) (by kernel_rfl) k
theorem bV.a9(h:bV σ a b c e X)(k:C (.ref 9) σ):ai "weights" σ C (.ref 5):=h.av (by kernel_rfl) (by kernel_rfl) k
theorem bV.Xd(h:bV σ a b c e X)(k:C (.ref 10) σ):ai "depths" σ C (.ref 5):=h.av (by kernel_rfl) (by kernel_rfl) k
theorem bV.z5(h:bV σ a b c e X)(k:D 5 .nR):bu "require" σ D (.ref 5):=.mk h.c5 h.c6 (by kernel_rfl) (by kernel_rfl) k
theorem inT{l:Nat}{x:List (Node×Nat)}{k:Node}{n:Nat}(h:σ[l]?=some (.dT (fh x)))(q:br (fh x) (dU k)=some (.int n))(p:A σ):n4 σ (bU A B) (bg k) (.ref l):=.t h (fT k) (by refine ae q ?_;exact p)
theorem aaQ{l:Nat}{x:List (Node×Nat)}{k:Node}(h:σ[l]?=some (.dT (fh x)))(q:br (fh x) (dU k)=none)(p:B σ):n4 σ (bU A B) (bg k) (.ref l):=.t h (fT k) (by refine ae q ?_;exact p)
theorem rS(x:List (Node×Nat)):(fh x).length=x.length:=List.length_map ..
theorem wU{l x:Nat}{L:List Nat}(h:σ[l]?=some (.list (nl (L++[x]))))(k:C (.int x) (σ.set l (.list (nl L)))):fe σ C l:=.mk (by rw [h,jL]) k
theorem DV{l x:Nat}{L:List Nat}(h:σ[l]?=some (.list (nl L)))(hz:L.length<10000)(k:A (σ.set l (.list (nl (L++[x]))))):bO (.int x) σ A l:=.mk h (by rwa [cx]) (jL ..▸k)
theorem add_n{a b:Nat}(k:C (.int (a+b:Nat)) σ):bW σ C (.int a) (.int b):=.i k
theorem Xe{a:Nat}(k:C (.int (1+a:Nat)) σ):bW σ C (.int 1) (.int a):=.i k
theorem Xf{l:Nat}{xs:List Nat}(h:σ[l]?=some (.list (nl xs)))(h1:∀x∈xs,x<=100000)(hz:xs.length<=1000)(k:C (.int xs.sum) σ):BL σ C [.ref l]:=
 .l h (x_ xs) (by unfold Bb;rw [Bool.and_eq_true,List.all_eq_true];refine ⟨λ n hn=>?_,by simpa using hz⟩;obtain ⟨m,hm,rfl⟩:=List.mem_map.mp hn;have:=h1 m hm;simp only [Int.ofNat_eq_natCast,decide_eq_true_eq];omega) (Xa xs▸k)
theorem DW{op:String}{P:String->Prop}(h:ef op=true)(h1:P "a")(h2:P "b")(h3:P "c")(h4:P "f")(h5:P "g"):P op:=by
 have:op∈["a","b","c","f","g"]:=by simpa [ef]using h
 simp only [List.mem_cons,List.not_mem_nil,or_false]at this;rcases this with rfl|rfl|rfl|rfl|rfl<;>assumption
theorem eU{n:Nat}{a b:String}{c:Bool}(h:(a==b)=c):gm (n+1) (.str a) (.str b) c:=h▸hJ.ss
theorem kJ{x y:AV}{b:Bool}(h:gm 40 x y b)(k:C (.bool !b) σ):fm σ C x y:=⟨_,h,k⟩
theorem wV{x y:AV}{b:Bool}(h:gm 40 x y b)(k:C (.bool b) σ):oEq σ C x y:=⟨_,h,k⟩
theorem Th{op:String}(h:ef op=true)(k:C (.bool true) (σ++[.list []]++[.list []])):(O (d+1)).call .xq [.str op] σ C:=
 Ww (kJ (b:=false) (eU (DW (P:=λ op=>(op=="")=false) h rfl rfl rfl rfl rfl))
  (.x h ⟨2,zy (.xs ⟨h,.mk h (zy (.xe (.eq (xs:=[]) (ys:=[]) (by simp) (List.getElem?_concat_length ..) rfl .nil k)))⟩)⟩))
theorem jX{c:Char}(k:C (.str (String.ofList [c])) σ):ah σ C (.str (String.ofList [c])) (.int 0):=.x (j:=0) (c:=c) ⟨by simp,.inl rfl⟩ (by simp) (by simp) k
theorem YR{op:String}(h:ef op=true):∃c,op=String.ofList [c]/\(op=="?")=false:=
 DW (P:=λ op=>∃c,op=String.ofList [c]/\(op=="?")=false) h ⟨'a',by kernel_rfl,rfl⟩ ⟨'b',by kernel_rfl,rfl⟩ ⟨'c',by kernel_rfl,rfl⟩ ⟨'f',by kernel_rfl,rfl⟩ ⟨'g',by kernel_rfl,rfl⟩
theorem Jo{op:String}(h:ef op=true)(k:C .none (σ++[.list []]++[.list []])):(O (d+2)).call .nR [.ref 5,.str op] σ C:=
 Mt (Th h (by obtain ⟨c,rfl,e⟩:=YR h;exact jX (wV (b:=false) (eU e) k)))
end
section
variable{H:Hp} {K:Ext} {R:List Cell} {C:PV} {d:Nat} (w:RS H K R)
theorem Jp(hf:dc H){ns:List Node}{k:Node}(hn:H.nodes=ns++[k])(hk:k∉ns){m:Nat}(hm:ns.length=m)(c:∀w':RS (H.wL ns) K R,C .none w'.σ):(O (d+1)).call .r_ [.ref 5,.int m] w.σ C:=by
 subst hm;have hz:=hf.nodes;have r:=w.rep.toBank;have hg:=w.rep.ok;have e:H.nodes.length=ns.length+1:=by refine ae hn ?_;exact List.length_append ..
 rw [hn,DT,tX,wQ]at r;have r1:=r.s7 (.list (ns.map bg));have r2:=r1.s8 (.dT (fh ns.zipIdx));have r3:=r2.s9 (.list (nl (dK ns)));have r4:=r3.tN (.list (nl (eR ns)));refine Mu ⟨2,rG (w.ou (w.WZ (DS (pB (by omega) (w.nu (.mk r.c8 ⟨_,rfl⟩ (w.ou (.mk r.c7 (.mk (xs:=ns.map bg) (by refine ae r.c7 ?_;simp;rfl) (.mk r1.c8 (fT k) (by rw [rS];simp;exact cI hz (bP e) (by simp+arith only)) (MU (B:=[]) (sF hk)) ?_))))))))))⟩;refine ae (MW (sF hk)) ?_;exact r2.a9 (.mk r2.c9 (wU r2.c9 (r3.Xd (.mk r3.DD (wU r3.DD (rG (r4.a7 (cX r4.c7 (List.length_map ..) (DS (jM (Int.le_refl _) (c ⟨_,w.g,r4.toRep hg,w.k⟩)))))))))))
end
end
section
open PySem
section
variable{σ:U} {a b c e:AO} {X:List Cell} {C:PV} {A:U->Prop} {d:Nat}
theorem bV.comp(h:bV σ a b c e X)(run:Nat->aL->Nat->U->(U->Prop)->Prop)(ks:List Nat)(f:Nat->Nat)(hz:ks.length<10000)(he:∀n l s Q,Q s->run (n+1) (.tup []) l s Q)
  (hs:∀x vs n l acc σ Q,x∈ks->bV σ a b c e ((l,.list acc)::X)->(bO (.int (f x)) σ (λ s=>run n (.tup vs) l s Q) l)->run (n+1) (.tup (.int (x:Nat)::vs)) l σ Q)
  (k:∀l σ',bV σ' a b c e ((l,.list (nl (ks.map f)))::X)->C (.ref l) σ'):d7 σ C λ n l s Q=>run n (.tup (nl ks)) l s Q:=
 Je (λ l acc σ=>bV σ a b c e ((l,.list acc)::X)) (λ aa aa aa h=>h.RV) (λ aa aa aa aa h=>h.put _) run (λ us=>.tup (nl us)) ks (λ x=>.int (f x)) (DK f ks) hz (λ n l _ σ Q _ q=>he n l σ Q q) (λ x us n l acc σ Q hx h k=>hs x _ n l acc σ Q hx h (k _ h)) (h.new _) k
theorem Xg{l:Nat}{xs:List Nat}(h:σ[l]?=some (.list (nl xs++[.int 0])))(k:C (.int (xs.foldr max 0:Nat)) σ):j7 σ C [.ref l]:=
 .l h (ns:=xs.map Int.ofNat++[0]) (by have:=x_ (xs++[0]);rw [jL]at this;simpa using this) (by simp) (by rw [Xb];exact k)
end
section
variable{H:Hp} {K:Ext} {R:List Cell} {C:PV} {d:Nat} (w:RS H K R)
theorem PW(hf:dc H){op:String}{ks:List Nat}{n:Nat}(hn:H.nodes[n]?=some (op,ks))(hu:∀m,H.nodes[m]?=some (op,ks)->m=n)(k:C (.int n) w.σ):(O (d+1)).call .take [.ref 5,.str op,.tup (nl ks)] w.σ C:=
 have hz:=hf.node _ (List.mem_of_getElem? hn);have r:=w.rep.toBank
 Ms (.t (.t (by rw [cx];exact Nat.le_trans (Nat.add_le_add_left hz 1) (by decide)) (w.nu (inT (k:=(op,ks)) r.c8 (DU hn hu) (w.nu (.t r.c8 (fT (op,ks)) (DU hn hu) k))))))
theorem PX(hf:dc H){op:String}{ks:List Nat}(jT:ef op=true)(fu:(op,ks)∉H.nodes)(hk:∀i∈ks,i<H.nodes.length)(hz:ks.length<=900)(k:∀w':RS (H.wL (H.nodes++[(op,ks)])) K R,C (.int H.nodes.length) w'.σ):
  (O (d+3)).call .take [.ref 5,.str op,.tup (nl ks)] w.σ C:=by
 have hm:=Tg (sF fu);have DX:=hf.nodes;have hg:=w.rep.ok;have gk:=w.k;revert k;have r:=w.rep.toBank;have wl:=tY H.nodes;have dl:=Jm H.nodes;intro k;refine Ms (.t (.t (by rw [cx];exact Nat.le_trans (Nat.add_le_add_left hz 1) (by decide)) (w.nu (aaQ (k:=(op,ks)) r.c8 hm (w.z5 (Jo jT (lZ (.t ⟨ks.length+1,?_⟩))))))));have r:=(r.app [.list []]).app [.list []];generalize w.σ++[.list []]++[.list []]=σ at r⊢;have key:∀us:List Nat,(∀i∈us,i<H.nodes.length)->C7 (O (d+2)) C (bg (op,ks)) (.ref 5) σ->o4 (O (d+2)) C (bg (op,ks)) (.ref 5) (us.length+1) (.tup (nl us)) σ:=λ us=>by
  induction us with
  |nil=>exact λ aa q=>zD (.te q)
  |cons i us ih=>exact λ hi q=>zD (.ts (.mk (by refine ae (if_pos (Int.natCast_nonneg i)) ?_;exact r.a7 (cX r.c7 (List.length_map ..) (.mk (by refine ae (decide_eq_true (Int.ofNat_lt.mpr (hi i (.head _)))) ?_;exact ih (λ j hj=>hi j (.tail _ hj)) q))))))
 refine key ks hk (r.a7 (cX r.c7 (List.length_map ..) (r.a8 (.t r.c8 (fT (op,ks)) (by rw [rS];simp;exact nc DX rfl) ?_))));rw [MV _ (sF fu),<-DT];have r:=r.s8 (.dT (fh (H.nodes++[(op,ks)]).zipIdx));refine r.a7 (.mk r.c7 (.mk r.c7 (by simp;exact eG DX rfl) ?_));refine ae (show H.nodes.map bg++[bg (op,ks)]=(H.nodes++[(op,ks)]).map bg by simp) ?_;have r:=r.s7 (.list ((H.nodes++[(op,ks)]).map bg));have at_:∀(W:List Nat),W.length=H.nodes.length->∀i∈ks,W[i]?=some (W.getD i 0):=λ W e i hi=>by refine ae List.getD_eq_getElem?_getD<|ae (List.getElem?_eq_getElem (by rw [e];exact hk i hi)) ?_;rfl
 refine r.a9 (.mk r.c9 (lZ (.t (r.comp (o5 (O (d+2)) (.ref 5)) ks (λ i=>(dK H.nodes).getD i 0) (eG hz rfl) (λ aa aa aa aa q=>zA (.te q)) (λ i vs n l acc σ Q hi r q=>zA (.ts (r.a9 (ez r.c9 (gU (at_ _ wl i hi)) q)))) λ l σ r=>Xf r.RV (λ x hx=>?_) (by simp;exact nc hz rfl) (Xe (DV r.c9 (eG (Nat.le_trans (bI wl) DX) rfl) ?_))))))
 ·obtain ⟨i,hi,rfl⟩:=List.mem_map.mp hx;exact hf.wt _ (List.mem_of_getElem? (at_ _ wl i hi))
 have r:=(r.drop).s9 (.list (nl (dK H.nodes++[1+(ks.map λ i=>(dK H.nodes).getD i 0).sum])));rw [<-tX H.nodes (op,ks)]at r⊢;refine r.Xd (.mk r.DD (lZ (.t (r.comp (o6 (O (d+2)) (.ref 5)) ks (λ i=>(eR H.nodes).getD i 0) (eG hz rfl) (λ aa aa aa aa q=>zB (.te q)) (λ i vs n l acc σ Q hi r q=>zB (.ts (r.Xd (ez r.DD (gU (at_ _ dl i hi)) q)))) λ l σ r=>?_))));have r2:=r.new (.list [.int 0]);have r3:=r2.new (.list (nl (ks.map λ i=>(eR H.nodes).getD i 0)++[.int 0]));refine .l (r2.at_ _ _ (List.mem_of_getElem? (i:=7) rfl)) r2.RV (by rw [cx];simp;exact nc hz rfl) (Xg r3.RV (Xe (DV r3.DD (eG (Nat.le_trans (bI dl) DX) rfl) ?_)));have r:=(r3.drop.drop.drop).tN (.list (nl (eR H.nodes++[1+(ks.map λ i=>(eR H.nodes).getD i 0).foldr max 0])));rw [<-wQ H.nodes (op,ks)]at r⊢;exact r.a7 (cX r.c7 (List.length_map ..) (kq (List.length_append ..) (k ⟨_,_,r.toRep hg,gk⟩)))
end
end
section
open PySem
noncomputable def z8:List Node->List AV->List AV
 |[],acc=>acc
 |k::r,acc=>z8 r (acc++[.tup (.str k.1::k.2.map λ i=>acc.getD i .none)])
theorem Bi(k:Node)(r:List Node)(acc:List AV):z8 (k::r) acc=z8 r (acc++[.tup (.str k.1::k.2.map λ i=>acc.getD i .none)]):=rfl
noncomputable def Bj(ns:List Node):List AV:=z8 ns []
noncomputable def cU(ns:List Node)(n:Nat):AV:=(Bj ns).getD n .none
def Below(ns:List Node):Prop:=∀(n:Nat)(k:Node),ns[n]?=some k->∀i∈k.2,i<n
theorem Ti:∀(ns:List Node)(acc:List AV),(z8 ns acc).length=acc.length+ns.length:=by
 intro bD;induction bD with
 |nil=>
  intro acc;exact rfl
 |cons k r ih=>intro acc;rw [Bi,ih];simp;exact Nat.add_right_comm ..
theorem GX:∀(ns:List Node)(acc:List AV)(i:Nat),i<acc.length->(z8 ns acc)[i]?=acc[i]?:=by
 intro bD;induction bD with
 |nil=>
  intro acc i h;exact rfl
 |cons k r ih=>intro acc i h;rw [Bi,ih _ i (by simp;exact Nat.lt_succ_of_lt h),List.getElem?_append_left h]
theorem Xh(ns:List Node):∀(acc:List AV)(n:Nat)(k:Node),ns[n]?=some k->(∀i∈k.2,i<acc.length+n)->(z8 ns acc)[acc.length+n]?=some (.tup (.str k.1::k.2.map λ i=>(z8 ns acc).getD i .none)):=by
 induction ns with
 |nil=>intro acc n k h _;exact if_pos h
 |cons k' r ih=>
  intro acc n k h hk;cases n with
  |zero=>
   simp only [List.getElem?_cons_zero,Option.some.injEq]at h;subst h;rw [Bi,GX r _ _ (by simp)];simp only [Nat.add_zero,List.getElem?_concat_length,Option.some.injEq,AV.tup.injEq,List.cons.injEq,true_and];apply List.map_congr_left;intro i hi;have:=hk i hi;exact ae List.getD_eq_getElem?_getD<|ae List.getD_eq_getElem?_getD<|ae (GX r _ i (by simp;exact Nat.lt_succ_of_lt this))<|ae (List.getElem?_append_left (this)) rfl
  |succ n=>simp only [List.getElem?_cons_succ]at h;have:=ih (acc++[.tup (.str k'.1::k'.2.map λ i=>acc.getD i .none)]) n k h (λ i hi=>by have:=hk i hi;simp;exact bG this (by simp+arith only));simp only [List.length_append,List.length_cons,List.length_nil]at this;rw [Bi,<-this];congr 1;simp+arith only
theorem aad(ns:List Node):(Bj ns).length=ns.length:=by rw [Bj,Ti];exact Nat.add_comm ..
theorem mj{ns:List Node}(hb:Below ns){n:Nat}{k:Node}(h:ns[n]?=some k):cU ns n=.tup (.str k.1::k.2.map (cU ns)):=by have:=Xh ns [] n k h (λ i hi=>by simpa using hb n k h i hi);simp only [List.length_nil,Nat.zero_add]at this;rw [cU,Bj,List.getD_eq_getElem?_getD,this];rfl
theorem ky:∀{N:Nat}{l:List Nat},l.Nodup->(∀b∈l,b<N)->l.length<=N:=by
 intro bD;induction bD with
 |zero=>
  intro l zz h;cases l with
  |nil=>simp
  |cons a r=>have:=h a (.head _);lia
 |succ N ih=>
  intro l hn h;have h1:(l.erase N).length<=N:=ih (hn.erase N) λ b hb=>by
   have q:=h b (List.mem_of_mem_erase hb);have:b≠N:=λ e=>by subst e;exact (List.Nodup.not_mem_erase hn) hb
   lia
  by_cases hm:N∈l
  ·rw [List.length_erase_of_mem hm]at h1;lia
  ·rw [List.erase_of_not_mem hm]at h1;exact Nat.le_succ_of_le h1
noncomputable def lJ(B:List Nat):List (Int×AV):=B.map λ(b:Nat)=>((b:Int),.bool true)
theorem YS{B:List Nat}(k:Nat):(br (lJ B) (k:Int)).isSome=decide (k∈B):=by unfold br lJ;refine ae Option.isSome_map ?_;apply Bool.eq_iff_iff.mpr;rw [List.find?_isSome];simp only [List.mem_map,decide_eq_true_eq];exact ⟨λ ⟨p,⟨b,hb,e⟩,q⟩=>by subst e;simp only at q;rwa [show k=b by lia],λ h=>⟨_,⟨k,h,rfl⟩,rfl⟩⟩
theorem Xi{B:List Nat}{k:Nat}(h:k∉B):dz (lJ B) (k:Int) (.bool true)=lJ (B++[k]):=by
 unfold dz;rw [if_neg]
 ·simp [lJ]
 ·simp only [lJ,List.any_map,List.any_eq_true,not_exists,not_and];intro b hb e;simp only [Function.comp,decide_eq_true_eq]at e;exact h (by rwa [show k=b by lia])
noncomputable def ya(n:Nat):List Nat->List Nat
 |[]=>[n]
 |m::r=>if n<=m then n::m::r else m::ya n r
theorem Xj(n m:Nat)(r:List Nat):ya n (m::r)=if n<=m then n::m::r else m::ya n r:=rfl
noncomputable def iz:List Nat->List Nat
 |[]=>[]
 |n::r=>ya n (iz r)
theorem PY(n:Nat)(r:List Nat):iz (n::r)=ya n (iz r):=rfl
theorem Xk(n:Nat):∀l:List Nat,ins (n:Int) (l.map Int.ofNat)=(ya n l).map Int.ofNat:=by
 intro bD;induction bD with
 |nil=>
  skip;exact rfl
 |cons m r ih=>
  skip;simp only [List.map_cons,A_,Xj];by_cases h:n<=m
  ·refine ae (if_pos h)<|ae (if_pos (by simpa using h)) ?_;rfl
  ·refine ae (if_neg h)<|ae (if_neg (by simpa using h))<|ae (ih) ?_;rfl
theorem pE:∀l:List Nat,hU (l.map Int.ofNat)=(iz l).map Int.ofNat:=by
 intro bD;induction bD with
 |nil=>
  skip;exact rfl
 |cons n r ih=>skip;rw [List.map_cons,FV,ih,PY];exact Xk n _
theorem DY(l:List Nat):(l.map Int.ofNat).map Int.toNat=l:=by simp [Function.comp_def]
theorem kK(l:List Nat):(iz l).Perm l:=by
 have:=(iA (l.map Int.ofNat)).map Int.toNat
 rw [pE,DY,DY]at this;exact this
theorem AY(l:List Nat):(iz l).Pairwise (·<=·):=by have:=mB (l.map Int.ofNat);rw [pE,List.pairwise_map]at this;exact this.imp λ h=>by simpa using h
theorem GY(l:List Nat):(l.map Int.ofNat).map AV.int=nl l:=List.map_map ..
noncomputable def wW(ns:List Node)(D:List Nat):List (Int×AV):=D.map λ(b:Nat)=>((b:Int),cU ns b)
theorem MX{ns:List Node}{D:List Nat}{b:Nat}(h:b∈D):br (wW ns D) (b:Int)=some (cU ns b):=by
 unfold br;cases e:(wW ns D).find? λ kv=>decide (kv.1=(b:Int))with
 |none=>
  rw [List.find?_eq_none]at e;have:=e _ (List.mem_map.mpr ⟨_,h,rfl⟩);simp at this
 |some p=>
  have h1:=List.find?_some e;obtain ⟨b',hq,rfl⟩:=List.mem_map.mp (List.mem_of_find?_eq_some e);simp only [decide_eq_true_eq]at h1;have:b'=b:=by lia
  subst this;rfl
theorem Xl{ns:List Node}{D:List Nat}{k:Nat}(h:k∉D):dz (wW ns D) (k:Int) (cU ns k)=wW ns (D++[k]):=by
 unfold dz;rw [if_neg]
 ·simp [wW]
 ·simp only [wW,List.any_map,List.any_eq_true,not_exists,not_and];intro b hb e;simp only [Function.comp,decide_eq_true_eq]at e;exact h (by rwa [show k=b by lia])
section
variable{H:Hp} {K:Ext} {R:List Cell} {C:PV} {d l1 l2 l3 l4 n m:Nat}
theorem PZ(hz:H.nodes.length<=60):∀(ks B S:List Nat)(w:RS H K ((l1,.dI (lJ B))::(l2,.list (nl S))::R)),(∀x∈ks,x<H.nodes.length)->B.Nodup->(∀x∈B,x<H.nodes.length)->S.length<=B.length+100->
  (∀new B' S',B++new=B'->S++new=S'->B'.Nodup->(∀x∈new,x∈ks)->(∀x∈ks,x∈B')->∀w':RS H K ((l1,.dI (lJ B'))::(l2,.list (nl S'))::R),mJ (O d) C (.ref l1) (.int n) (.ref 5) (.ref l2) m w'.σ)->
  mK (O d) C m (.ref l1) (.int n) (.ref 5) (.ref l2) (ks.length+1) (.tup (nl ks)) w.σ:=by
 intro bD;induction bD with
 |nil=>
  intro B S w zz hB zz zz k;exact zF (.te (k [] B S (List.append_nil _) (List.append_nil _) hB (λ aa h=>h) (λ aa h=>nomatch h) w))
 |cons x ks ih=>
  intro B S w hx hB hl hS k;have MY:=ky hB hl;refine zF (.ts (.i w.iI ?_));rw [YS];by_cases hm:x∈B
  ·rw [decide_eq_true hm];exact ih B S w (λ y hy=>hx y (.tail _ hy)) hB hl hS λ new B' S' e1 e2 h1 h2 h3=>k new B' S' e1 e2 h1 (λ y hy=>.tail _ (h2 y hy)) λ y hy=>by
    rcases List.mem_cons.mp hy with rfl|hy
    ·exact e1▸List.mem_append_left _ hm
    ·exact h3 y hy
  ·rw [decide_eq_false hm];have hn:(B++[x]).Nodup:=by rw [List.nodup_append];exact ⟨hB,by simp,λ a ha b hb e=>hm (by simp at hb;exact hb▸e▸ha)⟩
   refine w.W3 (by simp [lJ];exact nc (Nat.le_trans MY hz) rfl) ?_;refine ae (Xi hm) ?_;exact λ w=>.mk w.lB (w.YI (e_ hz hS MY (by simp+arith only)) λ w=>ih (B++[x]) (S++[x]) w (λ y hy=>hx y (.tail _ hy)) hn (λ y hy=>by
     rcases List.mem_append.mp hy with q|q
     ·exact hl y q
     ·exact List.mem_singleton.mp q▸hx x (.head _)) (by simp;exact hS) λ new B' S' e1 e2 h1 h2 h3=>k (x::new) B' S' ((List.append_cons ..).trans e1) ((List.append_cons ..).trans e2) h1 (λ y hy=>by
     rcases List.mem_cons.mp hy with rfl|hy
     ·exact .head _
     ·exact .tail _ (h2 y hy)) λ y hy=>by
     rcases List.mem_cons.mp hy with rfl|hy
     ·refine cA e1 ?_;simp
     ·exact h3 y hy)
def MZ(H:Hp)(B S:List Nat):Prop:=∀b∈B,b∈S\/∀k,H.nodes[b]?=some k->∀i∈k.2,i∈B
theorem Jq(hz:H.nodes.length<=60)(jU:Below H.nodes)(k:∀B,B.Nodup->(∀x∈B,x<H.nodes.length)->n∈B->MZ H B []->∀l1(w':RS H K ((l1,.dI (lJ B))::(l2,.list [])::R)),C9 (O (d+1)) C (.ref l1) (.int n) (.ref 5) w'.σ):
  ∀(m:Nat)(B S:List Nat)(w:RS H K ((l1,.dI (lJ B))::(l2,.list (nl S))::R)),S.length+H.nodes.length=B.length+m->m<=100->B.Nodup->(∀x∈B,x<H.nodes.length)->(∀x∈S,x<H.nodes.length)->n∈B->MZ H B S->
  mJ (O (d+1)) C (.ref l1) (.int n) (.ref 5) (.ref l2) (m+1) w.σ:=λ m=>by
 induction m with
 |zero=>
  intro B S w hm _ hB hl _ hn hc;have:=ky hB hl;have e:S=[]:=List.length_eq_zero_iff.mp (Nat.le_antisymm (cI this (bI hm) (by simp+arith only)) (Nat.zero_le _));subst e;exact rH (cX w.lB rfl (jM (Int.le_refl _) (k B hB hl hn hc _ w)))
 |succ m ih=>
  intro B S w hm RW hB hl hS hn hc;have:=ky hB hl;rcases snoc_cases S with rfl|⟨S,s,rfl⟩
  ·exact rH (cX w.lB rfl (jM (Int.le_refl _) (k B hB hl hn hc _ w)))
  ·have hk:=List.getElem?_eq_getElem (hS s (List.mem_append_right _ (.head _)));generalize H.nodes[s]'_=kk at hk;simp only [List.length_append,List.length_cons,List.length_nil]at hm;refine rH (cX w.lB (cx _) (pB (by simp) (w.ow (.mk w.lB (w.YJ λ w=>mh w hk (.t ⟨_,PZ hz kk.2 B S w (λ x hx=>Nat.lt_trans (jU s kk hk x hx) (hS s (List.mem_append_right _ (.head _)))) hB hl (cI RW (bI hm) (by simp+arith only)) λ new B' S' e1 e2 h1 h2 h3 w=>?_⟩))))));have n_:∀x∈new,x<H.nodes.length:=λ x hx=>Nat.lt_trans (jU s kk hk x (h2 x hx)) (hS s (List.mem_append_right _ (.head _)));subst e1 e2;refine ih _ _ w (by simp;exact Nat.le_antisymm (bG (bI hm) (by simp+arith only)) (bG (bP hm) (by simp+arith only))) (Nat.le_of_lt RW) h1 (λ x hx=>(List.mem_append.mp hx).elim (hl x) (n_ x)) (λ x hx=>(List.mem_append.mp hx).elim (λ q=>hS x (List.mem_append_left _ q)) (n_ x)) (List.mem_append_left _ hn) λ b hb=>?_;rcases List.mem_append.mp hb with hb|hb
   ·rcases hc b hb with q|q
    ·rcases List.mem_append.mp q with q|q
     ·exact .inl (List.mem_append_left _ q)
     ·cases List.mem_singleton.mp q;exact .inr λ k2 e=>by cases hk.symm.trans e;exact h3
    ·exact .inr λ k2 e i hi=>List.mem_append_left _ (q k2 e i hi)
   ·exact .inl (List.mem_append_right _ hb)
theorem M0(hf:dc H)(jU:Below H.nodes)(hn:n<H.nodes.length):∀(ib pre SB:List Nat)(w:RS H K ((l4,.dI (wW H.nodes pre))::(l3,.list (nl SB))::R)),pre++ib=SB->SB.Pairwise (·<·)->(∀b∈SB,b<H.nodes.length)->(∀b∈SB,∀k,H.nodes[b]?=some k->∀i∈k.2,i∈SB)->n∈SB->SB.length<=100->
  (∀w':RS H K ((l4,.dI (wW H.nodes SB))::(l3,.list (nl SB))::R),C (cU H.nodes n) w'.σ)->o7 (O (d+1)) C (.ref l4) (.int n) (.ref 5) (ib.length+1) (.list l3 pre.length) w.σ:=λ ib=>by
 induction ib with
 |nil=>
  intro pre SB w e _ _ _ hm _ k;rw [List.append_nil]at e;subst e;exact zH (.le w.lB (Nat.le_of_eq (cx _)) (.i w.iI (MX hm) (k w)))
 |cons b ib ih=>
  intro pre SB w e hs hl hc hm hz k;have hb:b∈SB:=e▸List.mem_append_right _ (.head _);have hk:=List.getElem?_eq_getElem (hl b hb);generalize H.nodes[b]'_=kk at hk;have z9:=hf.node kk (List.mem_of_getElem? hk);have hp:=hs;rw [<-e,List.pairwise_append,List.pairwise_cons]at hp;have ur:∀j∈kk.2,j∈pre:=λ j hj=>by
   have h1:=hc b hb kk hk j hj;have h2:=jU b kk hk j hj;rw [<-e]at h1;rcases List.mem_append.mp h1 with q|q
   ·exact q
   ·rcases List.mem_cons.mp q with rfl|q
    ·omega
    ·have:=hp.2.1.1 j q;omega
  refine zH (.ls w.lB (x:=.int b) (gU (by refine cA e ?_;simp)) (w.PO (Jg w hk (w.ow (mh w hk (.t (w.Jf (o8 (O (d+1)) (.ref l4)) kk.2 _ (cU H.nodes) rfl (eG z9 rfl) (λ aa aa aa aa q=>zG (.te q)) (λ x vs n l acc w Q hx q=>zG (.ts (.i w.lB (MX (ur x hx)) (q w)))) λ l w=>.l w.iI (.t (by simp;exact nc (Nat.add_le_add_left z9 _) rfl) ?_))))))));refine ae (show AV.tup ([.str kk.1]++kk.2.map (cU H.nodes))=cU H.nodes b from(mj jU hk).symm) ?_;have hlen:=congrArg List.length e;simp only [List.length_append,List.length_cons]at hlen;refine w.drop.W3 (by simp [wW];exact cI hz (bI hlen) (by simp+arith only)) ?_;refine ae (Xl λ q=>Nat.lt_irrefl b (hp.2.2 b q b (.head _))) ?_;exact λ w=>List.length_append (as:=pre) (bs:=[b])▸ih (pre++[b]) SB w ((List.append_cons ..).symm.trans e) hs hl hc hm hz k
theorem RS.Xm{c:Cell}{l:Nat}{B:List Nat}(w:RS H K (c::(l,.dI (lJ B))::R))(hz:B.length<64)(k:∀l'(w':RS H K ((l',.list (nl (iz B)))::c::(l,.dI (lJ B))::R)),C (.ref l') w'.σ):dA w.σ C [.ref l]:=
 .x (.d w.lB (by simpa [lJ]using hz) (by rw [show(lJ B).map (·.1)=B.map Int.ofNat by exact List.map_map ..,pE,GY];exact k _ (w.new _)))
theorem Tj(w:RS H K R)(hf:dc H)(hz:H.nodes.length<=60)(jU:Below H.nodes)(hn:n<H.nodes.length)(k:∀w':RS H K R,C (cU H.nodes n) w'.σ):(O (d+2)).call .term [.ref 5,.int n] w.σ C:=by refine Wy ⟨List.getElem?_concat_length ..,?_⟩;rw [PR];refine RS.qh (w.new _:RS H K ((w.σ.length,.dI (lJ [n]))::R)) _ λ l w=>.t ⟨_,Jq hz jU (λ B hB hl hm hc l1 w=>w.qh _ λ l4 w=>?_) H.nodes.length [n] [n] (w.bz (.swap _ _ _)) (rfl) (nc hz rfl) (by simp) (by simpa using hn) (by simpa using hn) (.head _) λ aa h=>.inl h⟩;have hp:=kK B;have MY:=ky hB hl;have oR:∀b,b∈iz B↔b∈B:=λ b=>hp.mem_iff;refine w.Xm (eG (Nat.le_trans MY hz) rfl) λ l3 w=>.l w.iI ⟨_,M0 (l4:=l4) hf jU hn (iz B) [] (iz B) (w.bz (.swap _ _ _)) rfl ?_ (λ b hb=>hl b ((oR b).mp hb)) (λ b hb k hk i hi=>(oR i).mpr (((hc b ((oR b).mp hb)).resolve_left (List.not_mem_nil)) k hk i hi)) ((oR n).mpr hm) (by refine ae hp.length_eq ?_;exact nc (Nat.le_trans MY hz) rfl) λ w=>k w.drop.drop.drop.drop⟩;exact ((AY B).and (hp.nodup_iff.mpr hB)).imp λ ⟨p,q⟩=>(Nat.lt_of_le_of_ne p q)
end
end
section
open PySem
noncomputable def d4(C:Core)(c:Nat):List Nat:=(C.aQ c).getD []
noncomputable def dm(C:Core)(a b:Nat)(r:Option String):Core:=
  if root C.par a=root C.par b then{C with au:=C.au++[(a,b,r)]}
  else{tW C (root C.par a) (root C.par b)with
    au:=C.au++[(a,b,r)],aE:=C.aE++[C.au.length]
    aQ:=upd (upd C.aQ (max (root C.par a) (root C.par b)) none) (min (root C.par a) (root C.par b)) (some (d4 C (min (root C.par a) (root C.par b))++d4 C (max (root C.par a) (root C.par b))))}
noncomputable def jN(H:Hp)(a b:Nat):List Nat:=if root H.par a=root H.par b then H.waiting else H.waiting++d4 H.toCore (max (root H.par a) (root H.par b))
structure Ok(H:Hp):Prop where
  le:dH H.par
  a6:H.a6.length=H.par.length
  nodes:H.nodes.length=H.par.length
  below:Below H.nodes
  aQ:∀c,H.par[c]?=some c->∃L,H.aQ c=some L
  known:∀p∈H.known,p.2<H.par.length
  eb:∀c L,H.aQ c=some L->c<H.par.length
theorem Jr{par:List Nat}(hp:dH par):∀(n a:Nat),a<n->a<par.length->par[lY par n a]?=some (lY par n a):=by
  intro bD;induction bD with
  |zero=>
    intro a h zz;exact if_pos h
  |succ n ih=>
    intro a h hl;obtain ⟨p,e⟩:∃p,par[a]?=some p:=⟨_,List.getElem?_eq_getElem hl⟩
    have e':par.getD a a=p:=by simp [List.getD_eq_getElem?_getD,e]
    rw [ma,e'];split
    · rename_i q;subst q;exact e
    · have:=hp a p e
      exact ih p (by lia) (Nat.lt_of_le_of_lt this hl)
theorem eD{par:List Nat}(hp:dH par){a:Nat}(h:a<par.length):par[root par a]?=some (root par a):=Jr hp _ _ (Nat.lt_succ_self _) h
theorem ox{par:List Nat}(hp:dH par){a:Nat}(h:a<par.length):root par a<par.length:=Nat.lt_of_le_of_lt (oq hp a) h
section
variable{H:Hp}
theorem dc.Xn(hf:dc H){E:List (Nat×Nat×Option String)}(hz:E.length<=1000):dc {H with au:=E}:=
  ⟨hf.nodes,hf.node,hf.wt,hf.par,hf.a6,hf.dg,hf.merged,hz,hf.aE,hf.known,hf.aQ,hf.user,hf.waiting,hf.marks⟩
theorem M1{ud:List (Nat×Nat)}{c l l':Nat}(hn:(ud.map (·.1)).Nodup)(h1:(c,l)∈ud)(h2:(c,l')∈ud):l=l':=by
  refine xn (jf hn h1) λ A B e hA hB=>?_;subst e;rcases List.mem_append.mp h2 with q|q
  · exact absurd rfl (hA _ q)
  · rcases List.mem_cons.mp q with q|q
    · cases q;rfl
    · exact absurd rfl (hB _ q)
theorem jO{C:Core}{c:Nat}{L:List Nat}(h:C.aQ c=some L):d4 C c=L:=by simp [d4,h]
end
noncomputable def kA(wX:List df)(fW:List Nat):List Cell:=(wX.zip fW).flatMap iD
section
variable{σ:U} {H:Hp} {g:Gh} {R:List Cell} {fW:List Nat}
theorem Rep.chg(h:Rep σ H g R)(c:List df):Rep σ {H with changes:=c} g R:=⟨⟨h.ok.dg,h.ok.gS,h.ok.keys,h.ok.eb⟩,h.holds⟩
theorem Rep.sG(h:Rep σ H g R)(hf:dc H):g.ud.length<=1000:=by
  have:=ky (N:=1000) h.ok.keys λ c hc=>by refine dM ((h.ok.eb c).mp hc) λ L hL=>?_;exact hf.aQ c L hL
  simpa using this
theorem uS{wX:List df}{c:df}{l:Nat}(hl:fW.length=wX.length):kA (wX++[c]) (fW++[l])=kA wX fW++iD (c,l):=by unfold kA;refine ae (List.zip_append hl.symm) ?_;simp
theorem Js{wX:List df}{c:df}{l:Nat}(hl:fW.length=wX.length):((wX++[c]).zip (fW++[l])).map h_=(wX.zip fW).map h_++[h_ (c,l)]:=by refine ae (List.zip_append hl.symm) ?_;exact List.map_append ..
noncomputable def eV(H:Hp)(a b:Nat)(r:Option String):Hp:=
  {H with toCore:=dm H.toCore a b r,waiting:=jN H a b,
           changes:=H.changes++[.iP (min (root H.par a) (root H.par b)) (d4 H.toCore (min (root H.par a) (root H.par b))).length (max (root H.par a) (root H.par b)) (d4 H.toCore (max (root H.par a) (root H.par b)))]}
theorem rT(ho:Ok H){a b:Nat}(ha:a<H.par.length)(hb:b<H.par.length):∃L,H.aQ (min (root H.par a) (root H.par b))=some L:=by
  rcases Nat.le_total (root H.par a) (root H.par b)with q|q
  · refine ae (Nat.min_eq_left q) ?_;exact ho.aQ _ (eD ho.le ha)
  · refine ae (Nat.min_eq_right q) ?_;exact ho.aQ _ (eD ho.le hb)
theorem rU(ho:Ok H){a b:Nat}(ha:a<H.par.length)(hb:b<H.par.length):∃L,H.aQ (max (root H.par a) (root H.par b))=some L:=by
  rcases Nat.le_total (root H.par a) (root H.par b)with q|q
  · refine ae (Nat.max_eq_right q) ?_;exact ho.aQ _ (eD ho.le hb)
  · refine ae (Nat.max_eq_left q) ?_;exact ho.aQ _ (eD ho.le ha)
end
section
variable{H:Hp} {K:Ext} {R:List Cell} {C:PV} {A:U->Prop} {c l:Nat} {L:List Nat} (w:RS H K R)
theorem RS.ud(w:RS H K R):w.g.ud=K.ud:=congrArg Ext.ud w.k
theorem RS.sG(w:RS H K R)(hf:dc H):K.ud.length<=1000:=w.ud▸w.rep.sG hf
theorem RS.wY(hm:(c,l)∈K.ud)(h:H.aQ c=some L):w.σ[l]?=some (.list (nl L)):=
  ue (w.rep.Bg h) λ A B l' e aa aa h=>by
    have e':(c,l')∈K.ud:=by refine cA w.ud<|ae e ?_;exact List.mem_append_right _ (.head _)
    exact M1 (w.ud▸w.rep.ok.keys) e' hm▸h
theorem RS.user(h:H.aQ c=some L)(k:∀l,(c,l)∈K.ud->w.σ[l]?=some (.list (nl L))->C (.ref l) w.σ):ah w.σ C (.ref 19) (.int c):=
  ue (w.rep.Bg h) λ A B l e hA aa h=>.i w.rep.x9 (by refine ae e ?_;exact mi hA) (k l (by refine cA w.ud<|ae e ?_;exact List.mem_append_right _ (.head _)) h)
theorem RS.YT(hm:(c,l)∈K.ud)(k:C (.ref l) w.σ):ah w.σ C (.ref 19) (.int c):=by obtain ⟨A,B,e,hA,_⟩:=jf w.rep.ok.keys (w.ud.symm▸hm);exact .i w.rep.x9 (by refine ae e ?_;exact mi hA) k
theorem RS.Tn(hm:(c,l)∈K.ud)(h:H.aQ c=some L)(hz:K.ud.length<=1000)(k:∀ud,(∀c' l',c'≠c->(c',l')∈K.ud->(c',l')∈ud)->ud.length<=1000->∀w':RS (H.eT (upd H.aQ c none)) {K with ud:=ud} ((l,.list (nl L))::R),C (.ref l) w'.σ):sk 19 w.σ C [.int c]:=by
  obtain ⟨A,B,e,hA,hB⟩:=jf w.rep.ok.keys (w.ud.symm▸hm);have r:=w.rep.sD e hA hB;rw [show us H c=L by simp [us,h]]at r;refine .mk w.rep.x9 (by simpa [d6,w.ud]using Nat.le_trans hz (by decide)) (by refine ae e ?_;exact mi hA) ?_;refine ae e<|ae (GS hA hB) ?_;refine k (A++B) (λ c' l' hc q=>?_) (by rw [<-w.ud,e]at hz;simp at hz⊢;exact Nat.le_of_lt hz) ⟨_,_,r,congrArg (λ e:Ext=>(⟨A++B,e.K⟩:Ext)) w.k⟩;rw [<-w.ud,e]at q;rcases List.mem_append.mp q with q|q
  · exact List.mem_append_left _ q
  · rcases List.mem_cons.mp q with q|q
    · cases q;exact absurd rfl hc
    · exact List.mem_append_right _ q
theorem RS.pD{l':Nat}{L':List Nat}(w:RS H K ((l',.list (nl L'))::R))(h:H.aQ c=some L)(hz:K.ud.length<=1000)(k:∀ud,ud.length=K.ud.length->∀w':RS (H.eT (upd H.aQ c (some L'))) {K with ud:=ud} R,A w'.σ):cz (.ref l') w.σ A (.ref 19) (.int c):=
  ue (w.rep.Bg h) λ A' B' l e hA hB aa=>.i w.rep.x9 (by simpa [d6,w.ud]using Nat.le_trans hz (by decide)) (by refine ae e<|ae (S9 hA hB) ?_;exact k _ (by refine cA w.ud<|ae e ?_;simp) ⟨_,_,w.rep.pD e hA hB,congrArg (λ e:Ext=>(⟨_,e.K⟩:Ext)) w.k⟩)
theorem RS.To(h:w.σ[l]?=some (.list (nl L)))(hz:H.waiting.length+L.length<=10000)(k:∀w':RS (H.uL (H.waiting++L)) K R,A w'.σ):qL w.g.wl w.σ A (.ref l):=
  .mk w.rep.cW h (by rwa [cx,cx]) (DJ ..▸k ⟨_,w.g,w.rep.GQ _,w.k⟩)
theorem RS.RX{e:Nat×Nat×Option String}(h:H.au.length<10000)(k:∀w':RS (H.rQ (H.au++[e])) K R,A w'.σ):bO (gR e) w.σ A 16:=
  .mk w.rep.rP (by rwa [List.length_map]) (by refine ae (show H.au.map gR++[gR e]=(H.au++[e]).map gR by simp) ?_;exact k ⟨_,w.g,w.rep.DM _,w.k⟩)
theorem RS.YU{x:Nat}(h:H.aE.length<10000)(k:∀w':RS (H.sx (H.aE++[x])) K R,A w'.σ):bO (.int x) w.σ A 17:=
  .mk w.rep.DE (by rwa [cx]) (jL ..▸k ⟨_,w.g,w.rep.z7 _,w.k⟩)
theorem RS.RY{x:AV}(h:K.K.length<10000)(k:∀w':RS H {K with K:=K.K++[x]} R,A w'.σ):bO x w.σ A 21:=
  have e:w.g.K=K.K:=congrArg Ext.K w.k
  .mk w.rep.zZ (by rwa [e]) (by refine ae e ?_;exact k ⟨_,_,w.rep.W6 _,congrArg (λ e:Ext=>(⟨e.ud,K.K++[x]⟩:Ext)) w.k⟩)
end
section
variable{H:Hp} {K:Ext} {R:List Cell} {C:PV} {d a b:Nat} (w:RS H K R)
theorem P6(hf:dc H)(ho:Ok H)(ha:a<H.par.length)(hb:b<H.par.length)(r:Option String)(he:root H.par a=root H.par b)(jY:H.au.length<1000)(k:∀w':RS (H.rQ (H.au++[(a,b,r)])) K R,C (.bool false) w'.σ):
    (O (d+3)).call .u6 [.ref 3,.int a,.int b,je r] w.σ C:=
  GN (w.gf (.mk w.rep.rP (w.RX (e:=(a,b,r)) (Nat.lt_trans jY (by decide)) λ w=>w.gE (w.DI (Fg w ho.le ha hb he λ w=>.nn (k w))))))
theorem P7(hf:dc H)(ho:Ok H)(ha:a<H.par.length)(hb:b<H.par.length)(r:Option String)(b_:root H.par a≠root H.par b)(jY:H.au.length<1000){l:Nat}(hl:(max (root H.par a) (root H.par b),l)∈K.ud)
    (k:∀ud(w':RS {H with toCore:=dm H.toCore a b r,waiting:=jN H a b} {K with ud:=ud} ((l,.list (nl (d4 H.toCore (max (root H.par a) (root H.par b)))))::R)),C (.bool true) w'.σ):
    (O (d+3)).call .u6 [.ref 3,.int a,.int b,je r] w.σ C:=by
  have Vk:=hf.waiting;have hff:=hf.aE;have z_:=w.sG hf;obtain ⟨Lk,ny⟩:=rT ho ha hb;obtain ⟨Lg,nz⟩:=rU ho ha hb;unfold dm jN at k;rw [if_neg b_,if_neg b_,jO ny,jO nz]at k;generalize hx:root H.par a=x at*;generalize hy:root H.par b=y at*;have tZ:min x y≠max x y:=Ka b_;have F3:Lk.length<=1000:=by have:=hf.user (min x y);simpa [us,ny]using this
  have hlg:Lg.length<=1000:=by have:=hf.user (max x y);simpa [us,nz]using this
  refine GN (w.gf (.mk w.rep.rP (w.RX (e:=(a,b,r)) (Nat.lt_trans jY (by decide)) λ w=>w.gE (w.DI (MT w (hf.Xn (by simp;exact Nat.le_of_lt_succ jY)) ho.le ha hb hx hy b_ ho.a6 λ w=>.tn (.t ?_))))));generalize min x y=kept at*;generalize max x y=gone at*;refine w.uN (.mk w.rep.DE (w.gf (w.RT (kq (List.length_append ..) (w.YU (Nat.lt_of_le_of_lt hff (by decide)) λ w=>w.kU (.mk w.rep.cW (w.fj (w.YT hl (w.To (w.wY hl nz) (show H.waiting.length+Lg.length<=10000 by exact QX Vk hlg rfl) λ w=>w.fj (w.user (L:=Lk) ny λ lk F3 c=>w.fj (.mk w.rep.c19 ⟨_,rfl⟩ (w.Tn hl (L:=Lg) nz z_ λ ud hud aaR w=>?_))))))))))));have eB:upd H.aQ gone none kept=some Lk:=by rw [upd,if_neg tZ];exact ny
  refine .l ((w.wY (hud _ _ tZ F3) eB)) w.iI (by rw [cx,cx];omega) ?_;rw [<-DJ];exact RS.fj (w.new _) (RS.pD (w.new _) (c:=kept) (L:=Lk) eB aaR λ ud aa w=>k ud w)
end
end
section
set_option genInjectivity false
set_option genSizeOf false
open PySem
structure LX where
 ud:List (Nat×Nat)
 fW:List Nat
noncomputable def LX.K(x:LX)(cs:List df):Ext:=⟨x.ud,(cs.zip x.fW).map h_⟩
noncomputable def LX.R(x:LX)(cs:List df)(R:List Cell):List Cell:=kA cs x.fW++R
structure LS(H:Hp)(R:List Cell)where
 x:LX
 w:RS H (x.K H.changes) (x.R H.changes R)
 len:x.fW.length=H.changes.length
noncomputable abbrev LS.ud{H:Hp}{R:List Cell}(w:LS H R):List (Nat×Nat):=w.x.ud
noncomputable abbrev LS.fW{H:Hp}{R:List Cell}(w:LS H R):List Nat:=w.x.fW
noncomputable def RS.to{H H':Hp}{K K':Ext}{R R':List Cell}(w:RS H K R)(rep:Rep w.σ H' w.g R')(k:K=K'):RS H' K' R':=⟨w.σ,w.g,rep,w.k.trans k⟩
section
variable{H:Hp} {R:List Cell} {C:PV} {d a b:Nat} (w:LS H R)
theorem LS.Jt:(w.x.K H.changes).K.length=H.changes.length:=by simp [LX.K,w.len]
theorem GZ(hf:dc H)(ho:Ok H)(ha:a<H.par.length)(hb:b<H.par.length)(r:Option String)(jY:H.au.length<1000)(mN:H.changes.length<=1000)(k:∀q(w':LS (eV H a b r) R),C (.bool q) w'.w.σ):
  (O (d+4)).call .join [.ref 3,.int a,.int b,je r] w.w.σ C:=by
 obtain ⟨Lk,ny⟩:=rT ho ha hb;obtain ⟨Lg,nz⟩:=rU ho ha hb;refine WI<|w.w.m_find<|ju w.w ho.le ha<|w.w.m_find<|ju w.w ho.le hb<|w.w.qh _ λ l w2=>w2.Jl λ l w2=>.l w2.iI<|w2.drop.iy<|.mk w2.drop.rep.zZ<|w2.drop.fj<|w2.drop.user ny λ lk aa c=>cX c (cx _)<|w2.drop.fj<|w2.drop.user nz λ l hl aa=>w2.drop.RY (x:=h_ (.iP (min (root H.par a) (root H.par b)) Lk.length (max (root H.par a) (root H.par b)) Lg,l)) (by refine ae w.Jt ?_;exact eG mN rfl) λ w2=>.mk (f:=.u6) w2.rep.c3 w2.rep.c4 (by kernel_rfl) ?_
 have eK:(⟨w.ud,(H.changes.zip w.fW).map h_++[h_ (.iP (min (root H.par a) (root H.par b)) Lk.length (max (root H.par a) (root H.par b)) Lg,l)]⟩:Ext)=⟨w.ud,((eV H a b r).changes.zip (w.fW++[l])).map h_⟩:=by simp only [eV,jO ny,jO nz,Js w.len]
 have eC:kA (eV H a b r).changes (w.fW++[l])=kA H.changes w.fW++iD (.iP (min (root H.par a) (root H.par b)) Lk.length (max (root H.par a) (root H.par b)) Lg,l):=by simp only [eV,jO ny,jO nz,uS w.len]
 have el:(w.fW++[l]).length=(eV H a b r).changes.length:=by simp [eV,w.len]
 by_cases b_:root H.par a=root H.par b
 ·refine P6 w2 hf ho ha hb r b_ jY λ w3=>k _ ⟨⟨_,w.fW++[l]⟩,w3.to ?_ eK,el⟩;have this:=w3.rep.chg (eV H a b r).changes;revert this;generalize w3.σ=s3;generalize w3.g=g3;dsimp only [LX.R];rw [eC,b_,rO,if_pos (by exact rfl),List.append_nil,show(eV H a b r)={H with au:=H.au++[(a,b,r)],changes:=(eV H a b r).changes} by unfold eV dm jN;rw [if_pos b_,if_pos b_]];exact id
 ·refine P7 w2 hf ho ha hb r b_ jY hl λ ud w3=>k _ ⟨⟨ud,w.fW++[l]⟩,w3.to ?_ (congrArg (λ e:Ext=>(⟨ud,e.K⟩:Ext)) eK),el⟩;dsimp only [LX.R];rw [eC,rO,if_neg (Ka b_),List.append_assoc];have this:=w3.rep.chg (eV H a b r).changes;revert this;generalize w3.σ=s3;generalize w3.g=g3;refine ae (jO nz) ?_;exact λ h=>h.bz List.perm_middle.symm
end
end
section
set_option genInjectivity false
set_option genSizeOf false
open PySem
noncomputable def fN(x:List (Node×Nat))(k:Node):Option Nat:=(x.find? λ p=>decide (p.1=k)).map (·.2)
theorem sH(x:List (Node×Nat))(k:Node):br (fh x) (dU k)=(fN x k).map λ(v:Nat)=>AV.int v:=by
 unfold br fN fh;rw [List.find?_map];simp only [Option.map_map];have:((λ kv:List AK×AV=>decide (kv.1=dU k))∘λ p:Node×Nat=>(dU p.1,AV.int p.2))=λ p=>decide (p.1=k):=by
  funext p;simp only [Function.comp];by_cases h:p.1=k
  ·simp [h]
  ·exact ae (decide_eq_false h)<|ae (decide_eq_false (λ q=>h (iE q))) rfl
 refine ae this ?_;rfl
theorem z'{x:List (Node×Nat)}{k:Node}{v:Nat}(h:fN x k=some v):(k,v)∈x:=by unfold fN at h;refine bp (Option.map_eq_some_iff.mp h) λ p hp e=>?_;have h1:=List.find?_some hp;have h2:=List.mem_of_find?_eq_some hp;simp only [decide_eq_true_eq]at h1;obtain ⟨a,b⟩:=p;simp only at h1 e;refine cA h1<|cA e ?_;exact h2
theorem wZ{x:List (Node×Nat)}{k:Node}(h:fN x k=none):∀p∈x,p.1≠k:=by unfold fN at h;rw [Option.map_eq_none_iff,List.find?_eq_none]at h;intro p hp e;exact h p hp (decide_eq_true e)
noncomputable def rV(H:Hp)(n:Nat):Node:=H.nodes.getD n ("",[])
noncomputable def keyOf(H:Hp)(n:Nat):Node:=ia H.par (rV H n)
noncomputable def gG(H:Hp)(n:Nat):Hp:=if n=H.made then{H with made:=n+1,changes:=H.changes++[.made n]}else H
noncomputable def jP(H:Hp)(n:Nat):Hp:=
 match fN H.known (keyOf H n)with
 |none=>{gG H n with known:=H.known++[(keyOf H n,n)],changes:=(gG H n).changes++[.known (keyOf H n)]}
 |some v=>if root H.par v=root H.par n then gG H n else eV (gG H n) v n none
theorem Tp(wl dF made x:Nat):dz (hd wl dF made) "made" (.int x)=hd wl dF x:=by kernel_rfl
theorem P8(wl dF made x:Nat):dz (hd wl dF made) "backs" (.int x)=hd wl x made:=by kernel_rfl
theorem Ju(wl dF made x:Nat):dz (hd wl dF made) "waiting" (.ref x)=hd x dF made:=by kernel_rfl
section
variable{H:Hp}
theorem Ok.same{H H':Hp}(h:Ok H)(h1:H'.nodes=H.nodes)(h2:H'.par=H.par)(h3:H'.a6=H.a6)(h4:H'.aQ=H.aQ)(h5:H'.known=H.known):Ok H':=
 ⟨by refine ae h2 ?_;exact h.le,by refine ae h2<|ae h3 ?_;exact h.a6,by refine ae h1<|ae h2 ?_;exact h.nodes,by refine ae h1 ?_;exact h.below,by refine ae h2<|ae h4 ?_;exact h.aQ,by refine ae h5<|ae h2 ?_;exact h.known,by refine ae h4<|ae h2 ?_;exact h.eb⟩
theorem dc.abG(hf:dc H){E:List (Node×Nat)}(hz:E.length<=1000):dc {H with known:=E}:=
 ⟨hf.nodes,hf.node,hf.wt,hf.par,hf.a6,hf.dg,hf.merged,hf.au,hf.aE,hz,hf.aQ,hf.user,hf.waiting,hf.marks⟩
theorem dc.Bk(hf:dc H)(x:Nat)(c:List df):dc {H with made:=x,changes:=c}:=
 ⟨hf.nodes,hf.node,hf.wt,hf.par,hf.a6,hf.dg,hf.merged,hf.au,hf.aE,hf.known,hf.aQ,hf.user,hf.waiting,hf.marks⟩
theorem dc.P9(hf:dc H){W:List Nat}(hz:W.length<=1000):dc {H with waiting:=W}:=
 ⟨hf.nodes,hf.node,hf.wt,hf.par,hf.a6,hf.dg,hf.merged,hf.au,hf.aE,hf.known,hf.aQ,hf.user,hz,hf.marks⟩
end
noncomputable def Bl(H:Hp)(n:Nat):Hp:=match fN H.known (keyOf H n)with
 |none=>{H with known:=H.known++[(keyOf H n,n)],changes:=H.changes++[.known (keyOf H n)]}
 |some v=>if root H.par v=root H.par n then H else eV H v n none
theorem P_(H:Hp)(n:Nat):jP H n=Bl (gG H n) n:=by
 unfold jP Bl gG;by_cases h:n=H.made
 ·simp only [if_pos h];rfl
 ·simp only [if_neg h]
structure P'(H:Hp):Prop where
 fit:dc H
 ok:Ok H
 au:H.au.length<1000
 changes:H.changes.length<=900
 known:H.known.length<1000
 wait:∀n∈H.waiting,n<H.par.length
inductive oy:Hp->Hp->Nat->Prop
 |done {H:Hp}:P' H->H.waiting=[]->oy H H 0
 |step {H H':Hp} {W:List Nat} {n k:Nat}:P' H->H.waiting=W++[n]->oy (jP {H with waiting:=W} n) H' k->oy H H' (k+1)
section
variable{σ:U} {H:Hp} {g:Gh} {R:List Cell}
theorem Rep.Tq{l:Nat}{m:Nat}{W:List Nat}(h:Rep σ H g ((l,.list (nl W))::R)):Rep (σ.set 22 (.list (((H.marks++[(m,W)]).zip (g.cP++[l])).map λ p=>.tup [.int p.1.1,.ref p.2]))) {H with marks:=H.marks++[(m,W)]} {g with cP:=g.cP++[l]} R:=by
 refine h.iQ (l:=22) (old:=.list ((H.marks.zip g.cP).map λ p=>.tup [.int p.1.1,.ref p.2])) (List.mem_of_getElem? (i:=18) rfl) rfl ?_ ⟨h.ok.dg,by simp [h.ok.gS],h.ok.keys,h.ok.eb⟩;have e3:dY {H with marks:=H.marks++[(m,W)]} {g with cP:=g.cP++[l]}=dY H g++[(l,.list (nl W))]:=by simp only [dY];refine ae (List.zip_append h.ok.gS.symm) ?_;exact List.map_append ..
 simp only [cY,e3];refine (?_:List.Perm (eu H g++ew H g++eN H g++dY H g++((l,.list (nl W))::R)) (eu H g++ew H g++eN H g++(dY H g++[(l,.list (nl W))])++R));simp only [List.append_assoc,List.singleton_append];exact List.Perm.refl _
end
section
variable{H:Hp} {K:Ext} {R:List Cell} {C:PV} {A B:U->Prop} {d n:Nat} {k:Node} (w:RS H K R)
theorem RS.aaS(h:fN H.known k=none)(p:A w.σ):fc w.σ (bU A B) (bg k) (.ref 18):=.t w.rep.DN (fT k) (by rw [sH,h];exact p)
theorem RS.inK{v:Nat}(h:fN H.known k=some v)(p:B w.σ):fc w.σ (bU A B) (bg k) (.ref 18):=.t w.rep.DN (fT k) (by rw [sH,h];exact p)
theorem RS.aaT(h:fN H.known k=none)(hz:H.known.length<1000)(c:∀w':RS (H.DF (H.known++[(k,n)])) K R,C (.int n) w'.σ):iq 18 w.σ C [bg k,.int n]:=
 .new w.rep.DN (fT k) (by rw [rS];exact nc (Nat.le_of_lt hz) rfl) (by rw [sH,h];rfl) (by refine ae (MV n (wZ h)) ?_;exact c ⟨_,w.g,w.rep.DO _,w.k⟩)
theorem RS.aaU{v:Nat}(h:fN H.known k=some v)(hz:H.known.length<1000)(c:C (.int v) w.σ):iq 18 w.σ C [bg k,.int n]:=
 .old w.rep.DN (fT k) (by rw [rS];exact nc (Nat.le_of_lt hz) rfl) (by rw [sH,h];rfl) c
theorem RS.sA(c:∀w':RS (H.YF n) K R,A w'.σ):bw "made" (.int n) w.σ A (.ref 3):=.mk w.rep.c3 w.rep.c4 (by kernel_rfl) (Nat.le_of_ble_eq_true rfl) (by rw [Tp];exact c ⟨_,w.g,w.rep.sA n,w.k⟩)
theorem pF{s:U}{a:Nat}(k:C (.int (a+1:Nat)) s):bW s C (.int a) (.int 1):=.i k
theorem uT(hf:dc H)(ho:Ok H)(hn:n<H.par.length)(c:∀w':RS H K R,C (bg (keyOf H n)) w'.σ):(O (d+3)).call .node [.ref 3,.int n] w.σ C:=
 have hk:H.nodes[n]?=some (rV H n):=by unfold rV;refine ae List.getD_eq_getElem?_getD<|ae (List.getElem?_eq_getElem (by rw [ho.nodes];exact hn)) ?_;rfl
 S8 w ho.le hf hk (λ x hx=>Nat.lt_trans (ho.below n _ hk x hx) hn) c
theorem RS.aaV{W:List Nat}(h:H.waiting=W++[n])(k:∀w':RS (H.uL W) K R,C (.int n) w'.σ):fe w.σ C w.g.wl:=.mk (xs:=nl W) (by rw [w.rep.cW,h,jL]) (k ⟨_,w.g,w.rep.GQ W,w.k⟩)
end
section
variable{H:Hp} {R:List Cell} {C:PV} {A:U->Prop} {d n:Nat} (w:LS H R)
theorem LS.Xo(c:df)(hc:iD (c,0)=[])(hz:H.changes.length<10000)(k:∀w':LS (H.uM (H.changes++[c])) R,A w'.w.σ):bO (h_ (c,0)) w.w.σ A 21:=
 w.w.RY (by rwa [w.Jt]) λ w2=>k ⟨⟨w.ud,w.fW++[0]⟩,w2.to (by have:=w2.rep.chg (H.changes++[c]);revert this;generalize w2.σ=s;generalize w2.g=g;dsimp only [LX.R];rw [show(H.uM (H.changes++[c])).changes=H.changes++[c] from rfl,uS w.len,hc,List.append_nil];exact id) (congrArg (Ext.mk w.ud) (Js w.len).symm),by refine (?_:_=(H.changes++[c]).length);simp [w.len]⟩
theorem Fj(hf:dc H)(ho:Ok H)(hn:n<H.par.length)(rW:H.known.length<1000)(e:fN H.known (keyOf H n)=none)(k:∀w':LS (H.DF (H.known++[(keyOf H n,n)])) R,C .none w'.w.σ):(O (d+5)).call .l6 [.ref 3,.int n] w.w.σ C:=
 zM<|w.w.sy<|.mk w.w.rep.WM ⟨_,rfl⟩<|w.w.DG<|uT w.w hf ho hn λ w2=>w2.aaT e rW λ w2=>w2.m_find<|ju w2 ho.le hn<|w2.m_find<|ju w2 ho.le hn<|x6 rfl<|k ⟨w.x,w2,w.len⟩
theorem Fl(hf:dc H)(ho:Ok H)(hn:n<H.par.length)(jY:H.au.length<1000)(mN:H.changes.length<=1000)(rW:H.known.length<1000){v:Nat}(e:fN H.known (keyOf H n)=some v)(k:∀w':LS (if root H.par v=root H.par n then H else eV H v n none) R,C .none w'.w.σ):
  (O (d+5)).call .l6 [.ref 3,.int n] w.w.σ C:=by
 have hv:=ho.known _ (z' e);refine zM<|w.w.sy<|.mk w.w.rep.WM ⟨_,rfl⟩<|w.w.DG<|uT w.w hf ho hn λ w2=>w2.aaU e rW<|w2.m_find<|ju w2 ho.le hv<|w2.m_find<|ju w2 ho.le hn ?_;by_cases he:root H.par v=root H.par n
 ·rw [if_pos he]at k;exact x6 he<|k ⟨w.x,w2,w.len⟩
 ·rw [if_neg he]at k;exact Jb he<|w2.MN<|GZ ⟨w.x,w2,w.len⟩ hf ho hv hn none jY mN λ q w=>k w
theorem t_(hf:dc H)(ho:Ok H)(hn:n<H.par.length)(jY:H.au.length<1000)(mN:H.changes.length<=950)(rW:H.known.length<1000)(k:∀w':LS (Bl H n) R,C .none w'.w.σ):pb (O (d+5)) C (.int n) (.ref 3) w.w.σ:=by
 refine w.w.DG<|uT w.w hf ho hn λ w2=>w2.sy ?_;unfold Bl at k;cases e:fN H.known (keyOf H n)with
 |none=>
  rw [e]at k;exact w2.aaS e<|w2.iy<|.mk w2.rep.zZ<|LS.Xo ⟨w.x,w2,w.len⟩ (.known (keyOf H n)) rfl (eG mN rfl) λ w=>.mk (f:=.l6) w.w.rep.c3 w.w.rep.c4 (by kernel_rfl)<|Fj w (hf.Bk H.made _) (ho.same rfl rfl rfl rfl rfl) hn rW e k
 |some v=>rw [e]at k;exact w2.inK e<|.mk (f:=.l6) w2.rep.c3 w2.rep.c4 (by kernel_rfl)<|Fl ⟨w.x,w2,w.len⟩ hf ho hn jY (nc mN rfl) rW e k
theorem Aa(hf:dc H)(ho:Ok H)(hn:n<H.par.length)(jY:H.au.length<1000)(mN:H.changes.length<=900)(rW:H.known.length<1000)(k:∀w':LS (jP H n) R,C .none w'.w.σ):(O (d+6)).call .u9 [.ref 3,.int n] w.w.σ C:=by
 rw [P_]at k;unfold gG at k;refine Pz<|w.w.WR ?_;by_cases h:n=H.made
 ·rw [if_pos h]at k;exact x7 h<|w.w.iy<|.mk w.w.rep.zZ<|w.Xo (.made n) rfl (eG mN rfl) λ w=>pF<|w.w.sA λ w2=>t_ ⟨w.x,w2,w.len⟩ (hf.Bk _ _) (ho.same rfl rfl rfl rfl rfl) hn jY (by show(H.changes++[_]).length<=950;simp;exact nc mN rfl) rW k
 ·rw [if_neg h]at k;exact uP h<|t_ w hf ho hn jY (nc mN rfl) rW k
theorem Ab{H H':Hp}{m:Nat}(hs:oy H H' m)(w:LS H R)(k:∀w':LS H' R,C .none w'.w.σ):(O (d+7)).call .settle [.ref 3] w.w.σ C:=by
 refine Py ⟨m+1,?_⟩;induction hs with
 |done h hw=>exact tP<|w.w.kU<|cX w.w.rep.cW (by refine ae hw ?_;rfl)<|jM (Int.le_refl _)<|k w
 |@step H H' W n m h hw _ ih=>exact tP<|w.w.kU<|cX w.w.rep.cW (cx _)<|pB (by refine ae hw ?_;simp)<|w.w.DH<|w.w.kU<|.mk w.w.rep.cW<|w.w.aaV hw λ w2=>Aa ⟨w.x,w2,w.len⟩ (h.fit.P9 (by have:=h.fit.waiting;rw [hw]at this;simp at this;exact Nat.le_succ_of_le this)) (h.ok.same rfl rfl rfl rfl rfl) (h.wait n (by refine ae hw ?_;exact List.mem_append_right _ (.head _))) h.au h.changes h.known λ w=>ih w k
theorem Tr(hf:dc H)(mN:H.changes.length<=900)(k:∀w':LS (H.ML (H.marks++[(H.changes.length,H.waiting)])) R,C .none w'.w.σ):(O (d+1)).call .push [.ref 3] w.w.σ C:=by
 have hzm:=hf.marks;have e:(H.marks.zip w.w.g.cP).length=H.marks.length:=by simp [w.w.rep.ok.gS]
 refine WH<|w.w.xZ<|.mk w.w.rep.MK<|w.w.iy<|cX w.w.rep.zZ ((congrArg (λ e:Ext=>e.K.length) w.w.k).trans w.Jt)<|w.w.kU<|.l<|.l w.w.rep.cW<|.mk (w.w.new (.list (nl H.waiting))).rep.MK (by rw [List.length_map,show(w.w.new (.list (nl H.waiting))).g=w.w.g from rfl,e];exact eG hzm rfl) ?_;have r:=Rep.Tq (m:=H.changes.length) (w.w.rep.new (.list (nl H.waiting)));rw [List.zip_append w.w.rep.ok.gS.symm,List.map_append]at r;exact k ⟨w.x,⟨_,_,r,w.w.k⟩,w.len⟩
theorem Qa(hf:dc H)(ho:Ok H){a b:Nat}(ha:a<H.par.length)(hb:b<H.par.length)(r:Option String)(jY:H.au.length<1000)(mN:H.changes.length<=1000)(k:∀q(w':LS (eV H a b r) R),C (.bool q) w'.w.σ):
  (O (d+5)).call .merge [.ref 3,.int a,.int b,je r] w.w.σ C:=S5<|w.w.MN<|GZ w hf ho ha hb r jY mN k
end
end
section
open PySem
noncomputable def du:List Nat->List Nat
 |[]=>[]
 |x::r=>if(du r).contains x then du r else x::du r
theorem pG(x:Nat)(r:List Nat):du (x::r)=if(du r).contains x then du r else x::du r:=rfl
theorem Qb:du []=[]:=rfl
theorem DZ:∀l:List Nat,dedup (l.map Int.ofNat)=(du l).map Int.ofNat
 |[]=>rfl
 |x::r=>by
  rw [List.map_cons,dedup,DZ r,pG];have e:((du r).map Int.ofNat).contains (Int.ofNat x)=(du r).contains x:=by rw [Bool.eq_iff_iff];simp only [List.contains_iff_mem,List.mem_map];exact ⟨λ ⟨y,hy,e⟩=>by rwa [show x=y from(Int.ofNat.inj e).symm],λ h=>⟨x,h,rfl⟩⟩
  refine ae e ?_;split<;>rfl
noncomputable def fU(par ks:List Nat):List Nat:=iz (du (ks.map (root par)))
noncomputable def uU(n:Nat):List Nat->(Nat->Option (List Nat))->Nat->Option (List Nat)
 |[],f=>f
 |c::r,f=>uU n r (upd f c (some ((f c).getD []++[n])))
theorem M3(n c:Nat)(r:List Nat)(f:Nat->Option (List Nat)):uU n (c::r) f=uU n r (upd f c (some ((f c).getD []++[n]))):=rfl
noncomputable def cM(C:Core)(k:Node):Core:={C with
 nodes:=C.nodes++[k],par:=C.par++[C.par.length],a6:=C.a6++[[C.par.length]]
 aQ:=uU C.par.length (fU (C.par++[C.par.length]) k.2) (upd C.aQ C.par.length (some []))}
theorem eO{l:List Nat}{x:Nat}:x∈du l↔x∈l:=by
 induction l with
 |nil=>exact Iff.rfl
 |cons y r ih=>
  rw [pG];split
  ·rename_i h;rw [List.contains_iff_mem]at h;rw [ih,List.mem_cons];exact ⟨.inr,λ q=>by rcases q with rfl|q;exact ih.mp h;exact q⟩
  ·rw [List.mem_cons,List.mem_cons,ih]
theorem gh:∀l:List Nat,(du l).Nodup
 |[]=>List.nodup_nil
 |y::r=>by
  rw [pG];split
  ·exact gh r
  ·rename_i h;rw [List.contains_iff_mem]at h;exact List.nodup_cons.mpr ⟨h,gh r⟩
theorem uV{par ks:List Nat}{c:Nat}:c∈fU par ks↔∃k∈ks,root par k=c:=by unfold fU;rw [(kK _).mem_iff,eO,List.mem_map]
theorem w6(par ks:List Nat):(fU par ks).Nodup:=(kK _).nodup_iff.mpr (gh _)
theorem w7:∀l:List Nat,(du l).length<=l.length
 |[]=>Nat.le_refl _
 |y::r=>by have:=w7 r;rw [pG];split<;>simp<;>lia
theorem D0(par ks:List Nat):(fU par ks).length<=ks.length:=by unfold fU;refine ae ((kK _).length_eq) ?_;exact Nat.le_trans (w7 _) (by simp)
noncomputable def uW(H:Hp)(k:Node):Hp:=jP {H with toCore:=cM H.toCore k} H.par.length
section
variable{H:Hp} {K:Ext} {R:List Cell} {C:PV} {A B:U->Prop} {d n l c:Nat} {L:List Nat} (w:RS H K R)
theorem RS.sE(w:RS H K ((l,.list (nl L))::R))(h:H.aQ c=none)(hz:K.ud.length<=1000){f:Nat->Option (List Nat)}(e:upd H.aQ c (some L)=f)(k:∀ud(w':RS (H.eT f) {K with ud:=ud} R),A w'.σ):cz (.ref l) w.σ A (.ref 19) (.int c):=by
 subst e;have hA:=w.rep.W7 h;exact
 .i w.rep.x9 (by simpa [d6,w.ud]using Nat.le_trans hz (by decide)) (by refine ae (DQ hA) ?_;exact k _ ⟨_,_,w.rep.sE hA,congrArg (λ e:Ext=>(⟨_,e.K⟩:Ext)) w.k⟩)
theorem RS.sC(hm:(c,l)∈K.ud)(L:List Nat):Rep (w.σ.set l (.list (nl L))) (H.eT (upd H.aQ c (some L))) w.g R:=by obtain ⟨A,B,e,hA,hB⟩:=jf w.rep.ok.keys (w.ud.symm▸hm);exact w.rep.sC e hA hB L
theorem RS.Ts(hm:(c,l)∈K.ud)(h:H.aQ c=some L)(hz:L.length<10000)(k:∀w':RS (H.eT (upd H.aQ c (some (L++[n])))) K R,A w'.σ):bO (.int n) w.σ A l:=
 DV (w.wY hm h) hz (k ⟨_,w.g,w.sC hm _,w.k⟩)
theorem RS.classes(hu:dH H.par){ks:List Nat}(n_:ks.length<=2)(dP:∀k∈ks,k<H.par.length)(run:Nat->aL->Nat->U->(U->Prop)->Prop)(he:∀n l s Q,Q s->run (n+1) (.tup []) l s Q)
  (hs:∀x vs n l s Q,bu "find" s (λ t1 t2=>(O (d+2)).call t2 [.ref t1,x] s (λ t3 s1=>bO t3 s1 (λ s=>run n (.tup vs) l s Q) l)) (.ref 3)->run (n+1) (.tup (x::vs)) l s Q)
  (k:∀l(w':RS H K ((l,.list (nl (fU H.par ks)))::R)),C (.ref l) w'.σ):d7 w.σ (λ t s=>uF s (λ t s=>dA s C [t]) [t]) λ n l s Q=>run n (.tup (nl ks)) l s Q:=
 w.Jf run ks _ (λ x=>.int (root H.par x)) (DK _ _) (eG n_ rfl) he (λ x vs n l acc w Q hx q=>hs _ _ _ _ _ _<|w.m_find<|ju w hu (dP x hx)<|q w)
  λ l w=>.mk w.iI (x_ _) (by simpa using n_)<|.s (w.new _).iI<|by rw [DZ,pE,GY];exact k _ ((w.new _).new _).pC.pC
theorem Tt(H0:Hp){l3:Nat}{CS:List Nat}:∀(ib pre:List Nat)(f:Nat->Option (List Nat))(w:RS (H0.eT f) K ((l3,.list (nl CS))::R)),pre++ib=CS->(∀c∈ib,∃L,f c=some L/\L.length+ib.length<=5000)->
  (∀w':RS (H0.eT (uU n ib f)) K ((l3,.list (nl CS))::R),GK (O d) C (.int n) (.ref 3) w'.σ)->sr (O d) C (.int n) (.ref 3) (ib.length+1) (.list l3 pre.length) w.σ:=λ ib=>by
 induction ib with
 |nil=>
  intro pre f w e _ k;rw [List.append_nil]at e;subst e;exact Dk<|.le w.iI (Nat.le_of_eq (cx _)) (k w)
 |cons c ib ih=>
  intro pre f w e hc k;obtain ⟨L,hL,hz⟩:=hc c (.head _);simp only [List.length_cons]at hz;refine Dk<|.ls w.iI (x:=.int c) (gU (by refine cA e ?_;simp))<|w.fj<|w.user hL λ l hl cl=>.mk cl<|w.Ts hl hL (bG hz (by simp+arith only)) λ w=>?_;refine ae (show pre.length+1=(pre++[c]).length by simp) ?_;refine ih (pre++[c]) (upd f c (some (L++[n]))) w ((List.append_cons ..).symm.trans e) (λ c' mX=>?_) (by rw [M3,hL]at k;exact k);obtain ⟨L',hL',eH⟩:=hc c' (.tail _ mX);simp only [List.length_cons]at eH;by_cases q:c'=c
  ·exact ⟨L++[n],if_pos (by assumption),by simp;exact bG hz (by simp+arith only)⟩
  ·exact ⟨L',by simp [upd,q,hL'],Nat.le_of_lt eH⟩
end
section
variable{H:Hp} {R:List Cell} {C:PV} {d:Nat} {op:String} {ks:List Nat} (w:LS H R)
theorem Tu(hf:dc H)(ho:Ok H){n:Nat}(hn:H.nodes[n]?=some (op,ks))(hu:∀m,H.nodes[m]?=some (op,ks)->m=n)(k:C (.int n) w.w.σ):(O (d+2)).call .add [.ref 3,.str op,.tup (nl ks)] w.w.σ C:=
 RP<|w.w.gT<|w.w.MO<|PW w.w hf hn hu<|w.w.gE<|w.w.rR<|qi w.w<|Jc (Int.ofNat_lt.mpr (by refine cA ho.nodes ?_;exact (List.getElem?_eq_some_iff.mp hn).1)) k
theorem G0(hf:dc H)(ho:Ok H)(jT:ef op=true)(fu:(op,ks)∉H.nodes)(hk:∀i∈ks,i<H.nodes.length)(hz:ks.length<=2)
  (vO:dc {H with toCore:=cM H.toCore (op,ks)})(gK:Ok {H with toCore:=cM H.toCore (op,ks)})(jY:H.au.length<1000)(mN:H.changes.length<=900)(rW:H.known.length<1000)(k:∀w':LS (uW H (op,ks)) R,C (.int H.par.length) w'.w.σ):
  (O (d+7)).call .add [.ref 3,.str op,.tup (nl ks)] w.w.σ C:=by
 have sX:=ho.nodes;have acd:H.par.length+1<=1000:=by have:=vO.par;simpa [cM]using this
 have z_:=w.w.sG hf;have Xp:dc (H.wL (H.nodes++[(op,ks)])):=⟨vO.nodes,vO.node,vO.wt,hf.par,hf.a6,hf.dg,hf.merged,hf.au,hf.aE,hf.known,hf.aQ,hf.user,hf.waiting,hf.marks⟩
 have YV:H.aQ H.par.length=none:=by
  cases q:H.aQ H.par.length with
  |none=>rfl
  |some L=>exact absurd (ho.eb _ L q) (Nat.not_lt_of_le (Nat.le_refl _))
 refine RP<|w.w.gT<|w.w.MO<|PX w.w hf jT fu hk (nc hz rfl) λ w2=>?_;rw [sX];refine w2.gE<|w2.rR<|qi w2<|Jd (Int.le_refl _)<|w2.gE<|w2.WV<|Tc w2 Xp ho.a6 λ w2=>w2.qh _ λ l w2=>w2.fj<|RS.sE (L:=[]) w2 YV z_ rfl λ ud w2=>.t<|w2.classes gK.le hz (λ k eB=>by have:=hk k eB;show k<(H.par++[H.par.length]).length;simp;exact cI (bI sX) this (by simp+arith only)) (su (O (d+6)) (.ref 3)) (λ aa aa aa aa q=>Dl (.te q)) (λ aa aa aa aa aa aa q=>Dl (.ts q)) λ l3 w2=>.l w2.iI ⟨_,Tt (((H.wL (H.nodes++[(op,ks)])).pA (H.par++[H.par.length])).kI (H.a6++[[H.par.length]])) (fU (H.par++[H.par.length]) ks) [] _ w2 rfl (λ c hc=>?_) λ w3=>?_⟩
 ·obtain ⟨k,eB,rfl⟩:=uV.mp hc;have z9:k<H.par.length:=by rw [<-sX];exact hk k eB
  have nA:=eD gK.le (a:=k) (by simp [cM];exact Nat.lt_succ_of_lt z9);have D1:=oq gK.le k;simp only [cM]at nA D1;rw [List.getElem?_append_left (Nat.lt_of_le_of_lt D1 z9)]at nA;obtain ⟨L,hL⟩:=ho.aQ _ nA;have hLl:=hf.user (root (H.par++[H.par.length]) k);simp only [us,hL,Option.getD_some]at hLl;have n6:=D0 (H.par++[H.par.length]) ks;exact ⟨L,by rw [upd,if_neg (Nat.ne_of_lt (Nat.lt_of_le_of_lt D1 z9))];exact hL,e_ hz hLl n6 (by simp+arith only)⟩
 ·exact w3.DH<|Aa ⟨⟨ud,w.fW⟩,w3.drop,w.len⟩ vO gK (n:=H.par.length) (show H.par.length<(H.par++[H.par.length]).length by simp) jY mN rW k
end
end
section
open PySem
theorem RZ(xs:List AV)(a:Nat):∀m:Nat,((List.range m).map (a+·)).filterMap (xs[·]?)=(xs.drop a).take m:=by
 intro bD;induction bD with
 |zero=>
  skip;exact rfl
 |succ m ih=>skip;refine ae List.range_succ<|ae List.map_append<|ae List.filterMap_append<|ae (ih)<|ae List.take_succ<|ae List.getElem?_drop ?_;congr 1
theorem D2{n m:Nat}:clipAt n (m:Int)=min m n:=by unfold clipAt;refine ae (if_neg (Int.not_lt.2 (Int.natCast_nonneg m))) ?_;exact nmx m n
theorem G1(xs:List AV)(m:Nat):hV xs none (some (m:Int)) none=xs.take m:=by
 unfold hV;rw [sliceBounds_plain];simp only [Option.elim,D2];have:=sliceRange_one 0 (min m xs.length);simp only [Nat.sub_zero]at this;rw [this,RZ];simp only [List.drop_zero];rcases Nat.le_total m xs.length with q|q
 ·rw [Nat.min_eq_left q]
 ·exact ae (Nat.min_eq_right q)<|ae List.take_length<|ae (List.take_of_length_le q) rfl
theorem pick_from(xs:List AV)(m:Nat)(h:m<=xs.length):hV xs (some (m:Int)) none none=xs.drop m:=by unfold hV;rw [sliceBounds_plain];simp only [Option.elim,D2];rw [Nat.min_eq_left h,sliceRange_one,RZ];apply List.take_of_length_le;simp
noncomputable def jQ(n:Nat)(CS:List Nat)(f:Nat->Option (List Nat)):Nat->Option (List Nat):=λ x=>if x∈CS then some ((f x).getD []++[n])else f x
theorem G2(n:Nat):∀(CS:List Nat)(f:Nat->Option (List Nat)),CS.Nodup->uU n CS f=jQ n CS f:=by
 intro bD;induction bD with
 |nil=>
  intro f zz;exact rfl
 |cons c r ih=>
  intro f h;rw [List.nodup_cons]at h;rw [M3,ih _ h.2];funext x;simp only [jQ,upd,List.mem_cons];by_cases q:x=c
  ·subst q;simp [h.1]
  ·simp [q]
theorem Jv{n c:Nat}{r:List Nat}{f:Nat->Option (List Nat)}{L:List Nat}(h:c∉r)(hf:f c=some L):upd (jQ n (c::r) f) c (some L)=jQ n r f:=by
 funext x;simp only [jQ,upd,List.mem_cons];by_cases q:x=c
 ·subst q;simp [h,hf]
 ·simp [q]
section
variable{H:Hp} {K:Ext} {R:List Cell} {C:PV} {A B:U->Prop} {d n l c:Nat} {L:List Nat} (w:RS H K R)
theorem RS.Qc(hm:(c,l)∈K.ud)(h:H.aQ c=some (L++[n])){f:Nat->Option (List Nat)}(e:upd H.aQ c (some L)=f)(k:∀w':RS (H.eT f) K R,C (.int n) w'.σ):fe w.σ C l:=
 wU (w.wY hm h) (k ⟨_,w.g,e▸w.sC hm L,w.k⟩)
theorem RS.sD(h:H.aQ c=some L)(hz:K.ud.length<=1000){f:Nat->Option (List Nat)}(e:upd H.aQ c none=f)(k:∀ud(w':RS (H.eT f) {K with ud:=ud} R),A w'.σ):qU w.σ A (.ref 19) (.int c):=by subst e;obtain ⟨A,B,l,e,hA,hB,_⟩:=w.rep.Bg h;exact .i w.rep.x9 (by simpa [d6,w.ud]using Nat.le_trans hz (by decide)) (by refine ae e<|ae (mi hA) ?_;rfl) (by refine ae e<|ae (GS hA hB) ?_;exact k _ ⟨_,_,(w.rep.sD e hA hB).kq,congrArg (λ e:Ext=>(⟨_,e.K⟩:Ext)) w.k⟩)
theorem Jw(H0:Hp){l3:Nat}{CS:List Nat}(f:Nat->Option (List Nat)):∀(ib pre:List Nat)(w:RS (H0.eT (jQ n ib f)) K ((l3,.list (nl CS))::R)),pre++ib=CS->ib.Nodup->(∀c∈ib,∃L,f c=some L)->
  (∀w':RS (H0.eT f) K ((l3,.list (nl CS))::R),wB (O d) C (.int n) (.ref 3) w'.σ)->lV (O d) C (.int n) (.ref 3) (ib.length+1) (.list l3 pre.length) w.σ:=λ ib=>by
 induction ib with
 |nil=>
  intro pre w e _ _ k;rw [List.append_nil]at e;subst e;have:jQ n [] f=f:=by funext x;exact rfl
  rw [<-this]at k;exact tQ<|.le w.iI (Nat.le_of_eq (cx _)) (k w)
 |cons c ib ih=>
  intro pre w e hn hc k;obtain ⟨L,hL⟩:=hc c (.head _);rw [List.nodup_cons]at hn;have hu:jQ n (c::ib) f c=some (L++[n]):=by simp [jQ,hL]
  refine tQ<|.ls w.iI (x:=.int c) (gU (by refine cA e ?_;simp))<|w.fj<|w.user hu λ l hl cl=>.mk cl<|w.Qc hl hu (Jv hn.1 hL) λ w=>?_;refine ae (show pre.length+1=(pre++[c]).length by simp) ?_;exact ih (pre++[c]) w ((List.append_cons ..).symm.trans e) hn.2 (λ c' mX=>hc c' (.tail _ mX)) k
theorem M4{Co:Core}{k:Node}(w:RS {H with toCore:=cM Co k} K R)(hf:dc {H with toCore:=cM Co k})(gP:dc {H with toCore:=Co})(ho:Ok {H with toCore:=cM Co k})(kW:Ok {H with toCore:=Co})(hk:∀i∈k.2,i<Co.par.length)(hz:k.2.length<=2)(fu:k∉Co.nodes)
  (c:∀ud(w':RS {H with toCore:=Co,made:=Co.par.length} {K with ud:=ud} R),C .none w'.σ):(O (d+4)).call .u_ [.ref 3,.int Co.par.length] w.σ C:=by
 have sX:Co.nodes.length=Co.par.length:=kW.nodes;have tg:Co.a6.length=Co.par.length:=kW.a6;have qC:=w6 (Co.par++[Co.par.length]) k.2;have z_:=w.sG hf;have qj:(cM Co k).nodes[Co.par.length]?=some k:=by rw [<-sX];exact List.getElem?_concat_length ..
 refine PA<|w.gT<|w.ow<|mh w qj<|.t<|w.classes ho.le hz (λ i hi=>by have:=hk i hi;show i<(Co.par++[Co.par.length]).length;simp;exact Nat.lt_succ_of_lt this) (lW (O (d+3)) (.ref 3)) (λ aa aa aa aa q=>tS (.te q)) (λ aa aa aa aa aa aa q=>tS (.ts q)) λ l3 w=>.l w.iI ⟨(fU (Co.par++[Co.par.length]) k.2).length+1,?_⟩;have key:=Jw (d:=d+3) (K:=K) (R:=R) (C:=C) (n:=Co.par.length) (l3:=l3) (CS:=fU (Co.par++[Co.par.length]) k.2) {H with toCore:=cM Co k} (upd Co.aQ Co.par.length (some [])) (fU (Co.par++[Co.par.length]) k.2) [];rw [<-G2 _ _ _ qC]at key;refine key w rfl qC (λ c hc=>?_) λ w=>w.fj<|w.sD (L:=[]) (if_pos rfl) z_ (f:=Co.aQ) ?_ λ ud w=>w.gE<|w.WX<|Tf w ⟨hf.nodes,hf.node,hf.wt,hf.par,hf.a6,hf.dg,gP.merged,gP.au,gP.aE,gP.known,gP.aQ,gP.user,hf.waiting,hf.marks⟩ ho.le (n:=Co.par.length) (List.length_append ..) (List.getElem?_concat_length ..) (ho.2) (by simp [Hp.eT,cM,<-tg]) (p:=Co.par) (ls:=Co.a6) (by simp [Hp.eT,cM]) (by simp [Hp.eT,cM,<-tg]) λ w=>w.gT<|w.MP ?_
 ·obtain ⟨i,hi,rfl⟩:=uV.mp hc;have gL:=hk i hi;have nA:=eD ho.le (a:=i) (by simp [cM];exact Nat.lt_succ_of_lt gL);have D1:=oq ho.le i;simp only [cM]at nA D1;rw [List.getElem?_append_left (Nat.lt_of_le_of_lt D1 gL)]at nA;obtain ⟨L,hL⟩:=kW.aQ _ nA;exact ⟨L,by rw [upd,if_neg (Nat.ne_of_lt (Nat.lt_of_le_of_lt D1 gL))];exact hL⟩
 ·funext x;simp only [Hp.eT,upd];split
  ·rename_i q;subst q;cases q:Co.aQ Co.par.length with
   |none=>rfl
   |some L=>exact absurd (kW.eb _ L q) (by simp)
  ·rfl
 ·exact Jp w ⟨hf.nodes,hf.node,hf.wt,gP.par,gP.a6,gP.dg,gP.merged,gP.au,gP.aE,gP.known,gP.aQ,gP.user,hf.waiting,hf.marks⟩ (ns:=Co.nodes) (k:=k) rfl fu sX λ w=>w.sA λ w=>c ud w.drop
end
end
section
open PySem
abbrev Hp.on(H:Hp)(C:Core):Hp:=⟨C,H.made,H.waiting,H.dF,H.marks,H.changes⟩
noncomputable def jv(C:Core)(a b:Nat):df:=.iP (min (root C.par a) (root C.par b)) (d4 C (min (root C.par a) (root C.par b))).length (max (root C.par a) (root C.par b)) (d4 C (max (root C.par a) (root C.par b)))
section
variable{H:Hp} {K:Ext} {R:List Cell} {C:PV} {A B:U->Prop} {d n l c:Nat} {L:List Nat} (w:RS H K R)
theorem RS.R0{e:Nat×Nat×Option String}{es:List (Nat×Nat×Option String)}(h:H.au=es++[e])(k:∀w':RS (H.rQ es) K R,C (gR e) w'.σ):fe w.σ C 16:=
 .mk (xs:=es.map gR) (by refine ae w.rep.rP<|ae h<|ae List.map_append ?_;rfl) (k ⟨_,w.g,w.rep.DM _,w.k⟩)
theorem RS.YW{x:Nat}{fs:List Nat}(h:H.aE=fs++[x])(k:∀w':RS (H.sx fs) K R,C (.int x) w'.σ):fe w.σ C 17:=
 wU (h▸w.rep.DE) (k ⟨_,w.g,w.rep.z7 _,w.k⟩)
theorem RS.Xq{M:List Nat}(h:w.σ[l]?=some (.list (nl (L++M))))(hz:L.length<=10000)(k:∀l'(w':RS H K ((l',.list (nl L))::R)),C (.ref l') w'.σ):eg none (some (L.length:Nat)) none w.σ C (.ref l):=
 have e:hV (nl (L++M)) none (some (L.length:Nat)) none=nl L:=by rw [G1,<-x4,List.take_left' rfl]
 .l h (λ q=>nomatch q) (by rw [e,cx];exact hz) (by refine ae e ?_;exact k _ (w.new _))
theorem M5{Co:Core}{a b:Nat}{r:Option String}(hf:dc (H.on (dm Co a b r)))(gP:dc (H.on Co))(kW:Ok (H.on Co))(ha:a<Co.par.length)(hb:b<Co.par.length)(w:RS (H.on (dm Co a b r)) K (iD (jv Co a b,l)++R))
  (c:∀ud(w':RS (H.on Co) {K with ud:=ud} R),C .none w'.σ):(O (d+2)).call .vc [.ref 3,h_ (jv Co a b,l)] w.σ C:=by
 have z_:=w.sG hf;obtain ⟨Lk,ny⟩:=rT kW ha hb;obtain ⟨Lg,nz⟩:=rU kW ha hb;have ny:Co.aQ (min (root Co.par a) (root Co.par b))=some Lk:=ny;have nz:Co.aQ (max (root Co.par a) (root Co.par b))=some Lg:=nz;have hr1:Co.par[root Co.par a]?=some (root Co.par a):=eD kW.le ha;have hr2:Co.par[root Co.par b]?=some (root Co.par b):=eD kW.le hb;have hr3:root Co.par a<Co.par.length:=ox kW.le ha;have hr4:root Co.par b<Co.par.length:=ox kW.le hb;have tg:Co.a6.length=Co.par.length:=kW.a6;revert w;unfold jv;unfold dm at hf⊢;rw [jO ny,jO nz]at hf⊢;by_cases he:root Co.par a=root Co.par b
 ·rw [if_pos he,show iD (.iP (min (root Co.par a) (root Co.par b)) Lk.length (max (root Co.par a) (root Co.par b)) Lg,l)=[] by simp [rO,he]];exact λ w=>Dz<|.t<|w.gf<|.mk w.rep.rP<|w.R0 (es:=Co.au) rfl λ w=>x6 (by rw [he,Nat.min_self,Nat.max_self])<|c K.ud w
 ·have b_:min (root Co.par a) (root Co.par b)≠max (root Co.par a) (root Co.par b):=Ka he;rw [if_neg he]at hf⊢;rw [show iD (.iP (min (root Co.par a) (root Co.par b)) Lk.length (max (root Co.par a) (root Co.par b)) Lg,l)=[(l,.list (nl Lg))] by exact if_neg (by assumption)];have R1:min (root Co.par a) (root Co.par b)<Co.par.length:=Zq hr3;have Xr:max (root Co.par a) (root Co.par b)<Co.par.length:=Zr hr3 hr4;have hgg:Co.par[max (root Co.par a) (root Co.par b)]?=some (max (root Co.par a) (root Co.par b)):=by
   rcases Nat.le_total (root Co.par a) (root Co.par b)with q|q
   ·rw [Nat.max_eq_right q];exact hr2
   ·rw [Nat.max_eq_left q];exact hr1
  unfold tW at hf⊢;generalize min (root Co.par a) (root Co.par b)=kept at*;generalize max (root Co.par a) (root Co.par b)=gone at*;have aaW:Lk.length<=1000:=by have:=gP.user kept;simpa [us,ny]using this
  have h1:=List.getElem?_eq_getElem (l:=Co.a6) (i:=kept) (Nat.lt_of_lt_of_le R1 (bP tg));have h2:=List.getElem?_eq_getElem (l:=Co.a6) (i:=gone) (Nat.lt_of_lt_of_le Xr (bP tg));generalize Co.a6[kept]'_=Mk at h1;generalize Co.a6[gone]'_=Mg at h2;rw [List.getD_eq_getElem?_getD,List.getD_eq_getElem?_getD,h1,h2]at hf⊢;refine λ w=>Dz<|.t<|w.gf<|.mk w.rep.rP<|w.R0 (es:=Co.au) rfl λ w=>Jb b_<|w.uN<|.mk w.rep.DE<|w.YW (fs:=Co.aE) rfl λ w=>w.gE<|w.WW<|w.gE<|w.mL<|w.I9<|kq (List.length_append ..)<|
   Te w ⟨gP.nodes,gP.node,gP.wt,hf.par,hf.a6,hf.dg,hf.merged,gP.au,gP.aE,gP.known,hf.aQ,hf.user,hf.waiting,hf.marks⟩ (ms:=Co.merged) (kept:=kept) (gone:=gone) rfl (by show gone<(Co.par.set _ _).length;simpa using Xr) (by show kept<(Co.par.set _ _).length;simpa using R1) (by show(Co.a6.set _ _).length=(Co.par.set _ _).length;simpa using tg)
    (Lk:=Mk++Mg) (Lg:=Mg) (List.getElem?_set_self (Nat.lt_of_lt_of_le R1 (bP tg))) ((List.getElem?_set_ne b_).trans h2) (by simp) (p:=Co.par) (ls:=Co.a6) ?_ ?_ λ w=>w.fj<|w.user (c:=kept) (L:=Lk++Lg) (if_pos rfl) λ lk aa cl=>w.Xq cl (nc aaW rfl) λ l' w=>w.fj<|w.pD (c:=kept) (L:=Lk++Lg) (if_pos rfl) z_ λ ud e w=>w.fj<|RS.sE (c:=gone) (L:=Lg) w (by simp [Hp.sx,Hp.rQ,Hp.ot,Hp.pA,Hp.kI,Hp.eT,upd,Ne.symm b_]) (by show ud.length<=1000;exact Nat.le_trans (bI e) z_) (f:=Co.aQ) ?_ λ ud w=>c ud w
  ·show(Co.par.set gone kept).set gone gone=Co.par;rw [List.set_set];apply List.ext_getElem?;intro i;by_cases q:gone=i
   ·subst q;rw [List.getElem?_set_self Xr,hgg]
   ·exact List.getElem?_set_ne q
  ·show(Co.a6.set kept (Mk++Mg)).set kept ((Mk++Mg).take ((Mk++Mg).length -Mg.length))=Co.a6;rw [show(Mk++Mg).length -Mg.length=Mk.length by simp,List.take_left' rfl,List.set_set];apply List.ext_getElem?;intro i;by_cases q:kept=i
   ·subst q;rw [List.getElem?_set_self (Nat.lt_of_lt_of_le R1 (bP tg)),h1]
   ·exact List.getElem?_set_ne q
  ·funext x;simp only [Hp.sx,Hp.rQ,Hp.ot,Hp.pA,Hp.kI,Hp.eT,upd];split
   ·rename_i q;rw [q,nz]
   ·split
    ·rename_i q;exact ae q<|ae ny rfl
    ·rfl
end
end
section
open PySem
noncomputable def b9(C:Core)(w:List Nat)(b:Nat)(m:List (Nat×List Nat))(ch:List df):Hp:=⟨C,C.par.length,w,b,m,ch⟩
inductive Bn:Core->df->Core->Prop
 |made {C:Core} {k:Node}:(∀i∈k.2,i<C.par.length)->k.2.length<=2->k∉C.nodes->Bn C (.made C.par.length) (cM C k)
 |known {C:Core} {key:Node} {n:Nat}:(∀p∈C.known,p.1≠key)->Bn C (.known key) {C with known:=C.known++[(key,n)]}
 |iP {C:Core} {a b:Nat} {r:Option String}:a<C.par.length->b<C.par.length->Bn C (jv C a b) (dm C a b r)
inductive Path(P:Core->Prop):Core->List df->Core->Prop
 |nil {C:Core}:P C->Path P C [] C
 |snoc {C C1 C2:Core} {cs:List df} {c:df}:Path P C cs C1->Bn C1 c C2->P C2->Path P C (cs++[c]) C2
theorem Path.last{P:Core->Prop}{C C':Core}{cs:List df}(h:Path P C cs C'):P C':=by cases h<;>assumption
theorem rX{C:Core}{a b:Nat}{r:Option String}:(dm C a b r).par.length=C.par.length:=by unfold dm tW;split<;>simp
theorem fi{C:Core}{a b:Nat}{r:Option String}:(dm C a b r).nodes=C.nodes:=by unfold dm tW;split<;>simp
section
variable{σ:U} {H:Hp} {g:Gh} {R:List Cell}
theorem Rep.Qd{ms:List (Nat×List Nat)}{m:Nat}{W:List Nat}{ks:List Nat}{l:Nat}(h:Rep σ H g R)(hm:H.marks=ms++[(m,W)])(hk:g.cP=ks++[l])(hl:ks.length=ms.length):Rep (σ.set 22 (.list ((ms.zip ks).map λ p=>.tup [.int p.1.1,.ref p.2]))) {H with marks:=ms} {g with cP:=ks} ((l,.list (nl W))::R):=by
 refine h.iQ (l:=22) (old:=.list ((H.marks.zip g.cP).map λ p=>.tup [.int p.1.1,.ref p.2])) (List.mem_of_getElem? (i:=18) rfl) rfl ?_ ⟨h.ok.dg,hl,h.ok.keys,h.ok.eb⟩;have e3:dY H g=dY {H with marks:=ms} {g with cP:=ks}++[(l,.list (nl W))]:=by simp only [dY];refine ae hm<|ae hk<|ae (List.zip_append hl.symm) ?_;exact List.map_append ..
 simp only [cY,e3];refine (?_:List.Perm (eu H g++ew H g++eN H g++(dY {H with marks:=ms} {g with cP:=ks}++[(l,.list (nl W))])++R) (eu H g++ew H g++eN H g++dY {H with marks:=ms} {g with cP:=ks}++((l,.list (nl W))::R)));simp only [List.append_assoc,List.singleton_append];exact List.Perm.refl _
end
section
variable{H:Hp} {K:Ext} {R:List Cell} {C:PV} {A B:U->Prop} {n l:Nat} {s:U} (w:RS H K R)
theorem i9{a:String}(k:A s):oEq s (bU A B) (.str a) (.str a):=wV (b:=true) (eU (beq_self_eq_true a)) k
theorem gH{a b:String}(h:(a==b)=false)(k:B s):oEq s (bU A B) (.str a) (.str b):=wV (b:=false) (eU h) k
noncomputable def RS.chg(c:List df):RS (H.uM c) K R:=⟨w.σ,w.g,w.rep.chg c,w.k⟩
theorem RS.R2(e:K.K.length=n)(k:C (.int n) w.σ):bx w.σ C [.ref 21]:=cX w.rep.zZ ((congrArg (λ e:Ext=>e.K.length) w.k).trans e) k
theorem RS.YX{xs:List AV}{v:AV}(e:K.K=xs++[v])(k:∀w':RS H {K with K:=xs} R,C v w'.σ):fe w.σ C 21:=
 .mk (xs:=xs) (w.rep.zZ.trans (ae (show w.g.K=K.K from congrArg Ext.K w.k)<|ae e rfl)) (k ⟨_,_,w.rep.W6 xs,congrArg (λ e:Ext=>(⟨e.ud,xs⟩:Ext)) w.k⟩)
theorem RS.aaX{key:Node}{xs:List (Node×Nat)}(h:H.known=xs++[(key,n)])(hk:∀p∈xs,p.1≠key)(hz:xs.length<=1000)(k:∀w':RS (H.DF xs) K R,A w'.σ):qU w.σ A (.ref 18) (bg key):=
 .t w.rep.DN (fT key) (by rw [h,rS];simp;exact nc hz rfl) (by refine ae h<|ae (MU (B:=[]) hk) ?_;rfl) (by refine ae h<|ae (MW hk) ?_;exact k ⟨_,w.g,w.rep.DO xs,w.k⟩)
theorem RS.YY{ms:List (Nat×List Nat)}{m:Nat}{W:List Nat}(h:H.marks=ms++[(m,W)])(k:∀l(w':RS (H.ML ms) K ((l,.list (nl W))::R)),C (.tup [.int m,.ref l]) w'.σ):fe w.σ C 22:=by
 have e:=w.rep.ok.gS;rw [h]at e;rcases snoc_cases w.g.cP with q|⟨ks,l,q⟩
 ·rw [q]at e;simp at e
 ·have hl:ks.length=ms.length:=by rw [q]at e;simpa using e
  have c:=w.rep.MK;rw [h,q,List.zip_append hl.symm,List.map_append]at c;exact .mk c (k l ⟨_,_,w.rep.Qd h q hl,w.k⟩)
theorem RS.YZ(k:C (.int H.marks.length) w.σ):bx w.σ C [.ref 22]:=cX w.rep.MK (by simp [w.rep.ok.gS]) k
theorem RS.uR(c:∀w':RS (H.WO n) K R,A w'.σ):bw "backs" (.int n) w.σ A (.ref 3):=.mk w.rep.c3 w.rep.c4 (by kernel_rfl) (Nat.le_of_ble_eq_true rfl) (by rw [P8];exact c ⟨_,w.g,w.rep.uR n,w.k⟩)
theorem RS.Jj{W:List Nat}(w:RS H K ((l,.list (nl W))::R))(c:∀w':RS (H.uL W) K R,A w'.σ):bw "waiting" (.ref l) w.σ A (.ref 3):=.mk w.rep.c3 w.rep.c4 (by kernel_rfl) (Nat.le_of_ble_eq_true rfl) (by rw [Ju];exact c ⟨_,_,w.rep.Jj,w.k⟩)
theorem LS.snoc{cs:List df}{c:df}(w:LS H R)(h:H.changes=cs++[c])(k:∀ud ls l,ls.length=cs.length->∀w':RS H ⟨ud,(cs.zip ls).map h_++[h_ (c,l)]⟩ (iD (c,l)++(kA cs ls++R)),A w'.σ):A w.w.σ:=by
 obtain ⟨⟨ud,fW⟩,w,e⟩:=w;rw [h]at e;rcases snoc_cases fW with q|⟨ls,l,rfl⟩
 ·rw [q]at e;simp at e
 ·have hl:ls.length=cs.length:=by simpa using e
  refine k ud ls l hl (w.to ?_ (by refine ae h ?_;exact congrArg (Ext.mk ud) (Js hl)));have r:=w.rep;revert r;generalize w.σ=s;generalize w.g=g;refine ae h ?_;dsimp only [LX.R];rw [uS hl,<-List.append_assoc];exact λ r=>r.bz (.append_right _ List.perm_append_comm)
end
section
variable{R:List Cell} {Q:PV} {d l₀ b:Nat} {w:List Nat} {m:List (Nat×List Nat)} {P:Core->Prop}
theorem Qe(hP:∀C ch,P C->Ok (b9 C w b m ch)/\dc (b9 C w b m ch)){C C':Core}{cs:List df}(hp:Path P C cs C'):∀(bs:List df)(v:LS (b9 C' w b m (bs++cs)) R),
  (∀v:LS (b9 C w b m bs) R,GL Q (.ref 3) (.ref l₀) v.w.σ)->l9 (O (d+4)) Q (.int bs.length) (.ref 3) (.ref l₀) (cs.length+1) v.w.σ:=by
 induction hp with
 |nil hC=>
  intro bs v k;have e:bs++[]=bs:=List.append_nil bs;revert v;refine ae e ?_;exact λ v=>Dn<|v.w.iy<|v.w.R2 v.Jt<|jM (Int.le_refl _) (k v)
 |@snoc C1 C2 cs c hp M6 hC ih=>
  intro bs v k;have h1:=hP C1 (bs++cs) hp.last;have h2:=hP C2 (bs++(cs++[c])) hC;have e:(bs++(cs++[c])).length=bs.length+cs.length+1:=by simp;exact rfl
  refine ae (show(cs++[c]).length+1=cs.length+1+1 by simp) ?_;refine v.snoc (List.append_assoc ..).symm λ ud ls l hl v=>Dn<|v.iy<|v.R2 (n:=bs.length+cs.length+1) (by simp [hl])<|pB (by omega)<|v.iy<|.mk v.rep.zZ<|v.YX rfl λ v=>?_;cases M6 with
  |@made k0 Y0 RW fu=>exact cL<|i9<|v.PM<|eA<|M4 (H:=b9 (cM C1 k0) w b m _) (K:=⟨ud,((bs++cs).zip ls).map h_⟩) v h2.2 (h1.2.Bk _ _) h2.1 (h1.1.same rfl rfl rfl rfl rfl) Y0 RW fu λ ud v=>ih bs ⟨⟨ud,ls⟩,v.chg (bs++cs),hl⟩ k
  |@known key nn eZ=>exact cL<|gH rfl<|cL<|i9<|v.sy<|eA<|v.aaX rfl eZ (by have:=h2.2.known;simp [b9]at this;exact Nat.le_succ_of_le this) λ v=>ih bs ⟨⟨ud,ls⟩,v.chg (bs++cs),hl⟩ k
  |@iP a b' r ha hb=>
   have e (X:List df):b9 (dm C1 a b' r) w b m X=(b9 C1 w b m X).on (dm C1 a b' r):=by simp [b9,rX]
   revert v;rw [e]at h2⊢;exact λ v=>cL<|gH rfl<|cL<|gH rfl<|v.PN<|M5 (H:=b9 C1 w b m _) (K:=⟨ud,((bs++cs).zip ls).map h_⟩) h2.2 (h1.2.Bk _ _) (h1.1.same rfl rfl rfl rfl rfl) ha hb v λ ud v=>ih bs ⟨⟨ud,ls⟩,v.chg (bs++cs),hl⟩ k
theorem M7{w W:List Nat}{ms:List (Nat×List Nat)}{bs cs:List df}{C C':Core}(hP:∀C ch,P C->Ok (b9 C w (b+1) ms ch)/\dc (b9 C w (b+1) ms ch))(hp:Path P C cs C')(v:LS (b9 C' w b (ms++[(bs.length,W)]) (bs++cs)) R)
  (k:∀v:LS (b9 C W (b+1) ms bs) R,Q .none v.w.σ):(O (d+5)).call .pop [.ref 3] v.w.σ Q:=by
 refine YE<|v.w.xZ<|v.w.YZ<|uP (b:=0) (by simp [b9])<|v.w.xZ<|.mk v.w.rep.MK<|v.w.YY rfl λ l u=>.t<|u.GP<|pF<|u.uR λ u=>⟨cs.length+1,Qe hP hp bs ⟨v.x,u.bz List.perm_middle.symm,v.len⟩ λ v=>?_⟩
 exact RS.Jj (v.w.bz (R':=(l,.list (nl W))::(kA bs v.fW++R)) List.perm_middle) λ u=>k ⟨v.x,u,v.len⟩
end
end
section
open PySem
noncomputable def pH:Hp:=⟨⟨[],[],[],[],[],[],[],λ aa=>none⟩,0,[],0,[],[]⟩
noncomputable def sa(l:Nat)(x:String)(v:AV)(s:U):U:=match s[l+1]?with
 |some (.dS kvs)=>s.set (l+1) (.dS (dz kvs x v))
 |_=>s
noncomputable def Xs(l:Nat)(x:String)(s:U):Bool:=match s[l]?,s[l+1]?with
 |some (.inst c),some (.dS kvs)=>(attrsOf c).contains x&&decide (kvs.length<=100)
 |_,_=>false
noncomputable def al(t:U)(s:U):U:=s++t
noncomputable def ini:List (U->U):=[al [.inst .levels,.dS []],al [.inst .bank,.dS []],al [.list []],sa 5 "nodes" (.ref 7),al [.dT []],sa 5 "numbers" (.ref 8),al [.list []],sa 5 "weights" (.ref 9),al [.list []],sa 5 "depths" (.ref 10),sa 3 "bank" (.ref 5),
 al [.inst .fY,.dS []],al [.list []],sa 11 "above" (.ref 13),al [.list []],sa 11 "lots" (.ref 14),al [.list []],sa 11 "merged" (.ref 15),sa 3 "unions" (.ref 11),al [.list []],sa 3 "edges" (.ref 16),al [.list []],sa 3 "forest" (.ref 17),al [.dT []],sa 3 "known" (.ref 18),al [.dI []],sa 3 "above" (.ref 19),
 al [.list []],sa 3 "waiting" (.ref 20),sa 3 "backs" (.int 0),al [.list []],sa 3 "changes" (.ref 21),al [.list []],sa 3 "marks" (.ref 22),sa 3 "made" (.int 0)]
@[irreducible] noncomputable def st(s:U)(k:Nat):U:=(ini.take k).foldl (λ s f=>f s) s
section
variable{s:U} {k l:Nat} {x:String} {v:AV} {A:U->Prop} {C:PV} {ao:AO}
theorem Xu(h:Xs l x (st s k)=true)(e:sa l x v (st s k)=st s (k+1))(p:A (st s (k+1))):bw x v (st s k) A (.ref l):=by
 rw [<-e]at p;generalize st s k=s at*;unfold Xs at h;unfold sa at p;split at h
 ·rename_i h1 h2;rw [h2]at p;rw [Bool.and_eq_true]at h;exact .mk h1 h2 h.1 (of_decide_eq_true h.2) p
 ·cases h
theorem Xv{n:Nat}(e1:(st s k).length=n)(e:al [ao] (st s k)=st s (k+1))(p:C (.ref n) (st s (k+1))):cT ao (st s k) C:=by subst e1;rw [<-e]at p;exact p
theorem LS.H0(a b c:AO):∃w:LS pH [(0,a),(1,b),(2,c)],w.w.σ=st [a,b,c] 35:=by
 refine ⟨⟨⟨[],[]⟩,⟨_,⟨⟨[],[]⟩,[],20,[]⟩,⟨⟨rfl,rfl,List.nodup_nil,λ c=>by simp [pH]⟩,?_,?_⟩,rfl⟩,rfl⟩,rfl⟩
 ·have h:(dj pH ⟨⟨[],[]⟩,[],20,[]⟩++(cY pH ⟨⟨[],[]⟩,[],20,[]⟩++(kA pH.changes []++([(0,a),(1,b),(2,c)]:List Cell)))).map (λ p:Cell=>(st [a,b,c] 35)[p.1]?)=(dj pH ⟨⟨[],[]⟩,[],20,[]⟩++(cY pH ⟨⟨[],[]⟩,[],20,[]⟩++(kA pH.changes []++([(0,a),(1,b),(2,c)]:List Cell)))).map λ p:Cell=>some p.2:=by kernel_rfl
  exact λ l ao hm=>List.map_inj_left.mp h (l,ao) hm
 ·have e:(dj pH ⟨⟨[],[]⟩,[],20,[]⟩++(cY pH ⟨⟨[],[]⟩,[],20,[]⟩++(kA pH.changes []++([(0,a),(1,b),(2,c)]:List Cell)))).map (λ p:Cell=>p.1)=[3,4,5,6,7,8,9,10,11,12,13,14,15,16,17,18,19,21,22,20,0,1,2]:=by kernel_rfl
  exact e▸(by decide:([3,4,5,6,7,8,9,10,11,12,13,14,15,16,17,18,19,21,22,20,0,1,2]:List Nat).Nodup)
theorem Jx{n d:Nat}{c:dN}(e1:(st s k).length=n)(e:al [.inst c,.dS []] (st s k)=st s (k+1))(p:(O d).call (qp c) [.ref n] (st s (k+1)) λ v σ'=>v=.none/\C (.ref n) σ'):(O (d+1)).make c [] (st s k) C:=by subst e1;rw [<-e]at p;exact p
theorem M8{d:Nat}(a b c:AO)(p:∀w':LS pH [(0,a),(1,b),(2,c)],C (.ref 3) w'.w.σ):(O (d+5)).make .levels [] [a,b,c] C:=by have p:C (.ref 3) (st [a,b,c] 35):=dM (LS.H0 a b c) λ w e=>e▸p w;have s1 {k} {l} {x} {v} {A}:=@Xu [a,b,c] k l x v A;have n1 {k} {C} {ao} {n}:=@Xv [a,b,c] k C ao n;refine ae (show[a,b,c]=st [a,b,c] 0 by kernel_rfl) ?_;refine Jx (n:=3) (by kernel_rfl) (by kernel_rfl)<|Dy<|.mk (kvs:=[]) (f:=.ug) (by kernel_rfl) (by kernel_rfl) (by kernel_rfl)<|I2<|Jx (n:=5) (by kernel_rfl) (by kernel_rfl)<|I0<|n1 (n:=7) (by kernel_rfl) (by kernel_rfl)<|s1 (by kernel_rfl) (by kernel_rfl)<|n1 (n:=8) (by kernel_rfl) (by kernel_rfl)<|s1 (by kernel_rfl) (by kernel_rfl)<|n1 (n:=9) (by kernel_rfl) (by kernel_rfl)<|s1 (by kernel_rfl) (by kernel_rfl)<|n1 (n:=10) (by kernel_rfl) (by kernel_rfl)<|s1 (by kernel_rfl) (by kernel_rfl) ⟨rfl,s1 (by kernel_rfl) (by kernel_rfl)<|Jx (n:=11) (by kernel_rfl) (by kernel_rfl)<|Dv<|n1 (n:=13) (by kernel_rfl) (by kernel_rfl)<|s1 (by kernel_rfl) (by kernel_rfl)<|n1 (n:=14) (by kernel_rfl) (by kernel_rfl)<|s1 (by kernel_rfl) (by kernel_rfl)<|n1 (n:=15) (by kernel_rfl) (by kernel_rfl)<|s1 (by kernel_rfl) (by kernel_rfl) ⟨rfl,s1 (by kernel_rfl) (by kernel_rfl)<|n1 (n:=16) (by kernel_rfl) (by kernel_rfl)<|s1 (by kernel_rfl) (by kernel_rfl)<|n1 (n:=17) (by kernel_rfl) (by kernel_rfl)<|s1 (by kernel_rfl) (by kernel_rfl)<|n1 (n:=18) (by kernel_rfl) (by kernel_rfl)<|s1 (by kernel_rfl) (by kernel_rfl)<|n1 (n:=19) (by kernel_rfl) (by kernel_rfl)<|s1 (by kernel_rfl) (by kernel_rfl)<|n1 (n:=20) (by kernel_rfl) (by kernel_rfl)<|s1 (by kernel_rfl) (by kernel_rfl)<|s1 (by kernel_rfl) (by kernel_rfl)<|n1 (n:=21) (by kernel_rfl) (by kernel_rfl)<|s1 (by kernel_rfl) (by kernel_rfl)<|n1 (n:=22) (by kernel_rfl) (by kernel_rfl)<|s1 (by kernel_rfl) (by kernel_rfl)<|s1 (by kernel_rfl) (by kernel_rfl) ⟨rfl,p⟩⟩⟩
end
end
section
set_option genInjectivity false
set_option genSizeOf false
open PySem
noncomputable def di(n:Nat):AO:=.dS [("row",.ref 2),("at",.int n)]
noncomputable def dW(row:List Int):AO:=.list (row.map .int)
theorem Jy{α:Type}{C:PV}(I:List α->Nat->List AV->U->Prop)(run:Nat->aL->Nat->U->(U->Prop)->Prop)(it:List α->aL)(ks:List α)(he:∀n l acc σ Q,I [] l acc σ->Q σ->run (n+1) (it []) l σ Q)
  (hs:∀x us n l acc σ Q,I (x::us) l acc σ->(∀acc σ,I us l acc σ->run n (it us) l σ Q)->run (n+1) (it (x::us)) l σ Q){σ:U}(h0:I ks σ.length [] (σ++[.list []]))(k:∀l acc σ,I [] l acc σ->C (.ref l) σ):d7 σ C λ n l s Q=>run n (it ks) l s Q:=by
 refine ⟨ks.length+1,?_⟩;have key:∀(us:List α)(acc:List AV)(l:Nat)(Q:U->Prop)(σ:U),I us l acc σ->(∀acc σ,I [] l acc σ->Q σ)->run (us.length+1) (it us) l σ Q:=λ us=>by
  induction us with
  |nil=>exact λ acc l Q σ h k=>he _ _ _ _ _ h (k _ _ h)
  |cons x us ih=>exact λ acc l Q σ h k=>hs _ _ _ _ _ _ _ h λ acc σ h=>ih acc l Q σ h k
 exact key ks _ _ _ _ h0 (k _)
section
variable{H:Hp} {R:List Cell} {C:PV} {A:U->Prop} {c:Cell}
theorem LS.at(w:LS H R){l:Nat}{ao:AO}(h:(l,ao)∈R):w.w.σ[l]?=some ao:=w.w.rep.holds.at_ _ _ (List.mem_append_right _ (List.mem_append_right _ (List.mem_append_right (kA H.changes w.fW) h)))
noncomputable def LS.bz(w:LS H R){R':List Cell}(p:R.Perm R'):LS H R':=⟨w.x,w.w.bz (p.append_left _),w.len⟩
noncomputable def LS.put{l:Nat}{old:AO}(w:LS H ((l,old)::R))(x:AO):LS H ((l,x)::R):=⟨w.x,⟨w.w.σ.set l x,w.w.g,((w.w.rep.bz List.perm_middle).PL x).bz List.perm_middle.symm,w.w.k⟩,w.len⟩
noncomputable def LS.new(w:LS H R)(x:AO):LS H ((w.w.σ.length,x)::R):=⟨w.x,(w.w.new x).bz List.perm_middle.symm,w.len⟩
noncomputable def LS.drop(w:LS H (c::R)):LS H R:=⟨w.x,(w.w.bz (R':=c::(kA H.changes w.fW++R)) List.perm_middle).drop,w.len⟩
theorem LS.x8{l:Nat}{xs:List AV}{v:AV}(w:LS H ((l,.list xs)::R))(h:xs.length<10000)(k:∀w':LS H ((l,.list (xs++[v]))::R),A w'.w.σ):bO v w.w.σ A l:=.mk (w.at (.head _)) h (k (w.put _))
theorem LS.setHead{l:Nat}{old:AO}(w:LS H ((l,old)::R))(x:AO)(k:∀w':LS H ((l,x)::R),A w'.w.σ):A (w.w.σ.set l x):=k (w.put x)
theorem LS.qh(w:LS H R)(ao:AO)(k:∀l(w':LS H ((l,ao)::R)),C (.ref l) w'.w.σ):cT ao w.w.σ C:=k _ (w.new ao)
end
theorem kB{H:Hp}{R:List Cell}{C:PV}{d n m:Nat}{row:List Int}(w:LS H ((0,di n)::(2,dW row)::R))(hn:n<=1000)(hm:0<m)(k:∀r,r<m->∀w':LS H ((0,di (n+1))::(2,dW row)::R),C (.int (r:Nat)) w'.w.σ):
  (O (d+1)).call .pick [.ref 0,.int m] w.w.σ C:=by
 have fin:∀z:Int,(w':LS H ((0,di (n+1))::(2,dW row)::R))->oMod w'.w.σ C (.int z) (.int m):=λ z w=>.mk ⟨by omega,by have h1:=Int.emod_nonneg z (b:=(m:Int)) (by omega);have h2:=Int.emod_lt_of_pos z (b:=(m:Int)) (by omega);generalize z %(m:Int)=y at*;obtain ⟨r,rfl⟩:=Int.eq_ofNat_of_zero_le h1;exact k r (by omega) w⟩
 have e1:br [("row",AV.ref 2),("at",.int n)] "at"=some (.int n):=by kernel_rfl
 have e2:br [("row",AV.ref 2),("at",.int (n+1:Nat))] "row"=some (.ref 2):=by kernel_rfl
 have e3:dz [("row",AV.ref 2),("at",.int n)] "at" (.int (n+1:Nat))=[("row",.ref 2),("at",.int (n+1:Nat))]:=by kernel_rfl
 refine WJ<|.s (w.at (.head _)) e1<|pF<|.s (w.at (.head _)) (Nat.le_of_ble_eq_true rfl) ?_;refine ae e3 ?_;refine w.setHead (di (n+1)) λ w=>.s (w.at (.head _)) e2<|cX (w.at (.tail _ (.head _))) (List.length_map ..) ?_;by_cases h:n<row.length
 ·exact Jc (Int.ofNat_lt.mpr h)<|.s (w.at (.head _)) e2<|ez (w.at (.tail _ (.head _))) (v:=.int row[n]) (by simp [h])<|fin _ w
 ·exact Jd (Int.ofNat_le.mpr (Nat.le_of_not_lt h))<|.mk ⟨by decide,.mk ⟨by omega,.mk ⟨by decide,.i<|.mk ⟨rfl,.i<|.i<|fin _ w⟩⟩⟩⟩
theorem D3(n:Nat)(ks:List Nat):∀ls:List Nat,lE (gm (n+1)) (nl ks) (nl ls) (decide (ks=ls)):=by
 induction ks with
 |nil=>intro ls;cases ls with
  |nil=>exact .nil
  |cons=>exact .r
 |cons k ks ih=>intro ls;cases ls with
  |nil=>exact .l
  |cons l ls=>
   by_cases q:k=l
   ·refine ae (show decide (k::ks=l::ls)=decide (ks=ls) from decide_eq_decide.2 ⟨λ e=>(List.cons.inj e).2,λ e=>q▸e▸rfl⟩) ?_;exact .tt (gF (x5 q)) (ih ls)
   ·refine ae (decide_eq_false λ e=>q (List.cons.inj e).1) ?_;exact .ff (gF (Ja q))
theorem Qf(n:Nat):∀k k':Node,gm (n+2) (bg k) (bg k') (decide (k=k'))
 |(a,ks),(b,ls)=>by
  refine sz ?_;by_cases q:a=b
  ·refine ae (show decide ((a,ks)=(b,ls))=decide (ks=ls) from decide_eq_decide.2 ⟨λ e=>(Prod.mk.inj e).2,λ e=>q▸e▸rfl⟩) ?_;exact .tt (eU (beq_iff_eq.2 q)) (D3 n ks ls)
  ·refine ae (decide_eq_false λ e=>q (Prod.mk.inj e).1) ?_;exact .ff (eU (beq_eq_false_iff_ne.2 q))
theorem Tv:∀l:List Nat,nG (nl l)=true:=by
 intro bD;induction bD with
 |nil=>
  skip;exact rfl
 |cons x r ih=>skip;have:=ih;simp only [nl,List.map_cons]at this⊢;rw [qE,this];rfl
theorem Ac(k:Node):∀ns:List Node,jb (bg k) (ns.map bg) (decide (k∈ns)):=by
 intro bD;induction bD with
 |nil=>
  skip;exact .nil
 |cons a r ih=>skip;refine ae (show decide (k∈a::r)=(decide (a=k)||decide (k∈r)) from(decide_eq_decide.2 (List.mem_cons.trans (or_congr_left eq_comm))).trans (Bool.decide_or ..)) ?_;exact .cons (by rw [bg,Hu,qE,Tv];rfl) (Qf 18 a k) (ih)
theorem Fm(H:Hp)(n:Nat):(jP H n).nodes=H.nodes:=by
 have:(gG H n).nodes=H.nodes:=by unfold gG;split<;>rfl
 unfold jP;split
 ·exact this
 ·split
  ·exact this
  ·exact fi.trans this
theorem Jz(H:Hp)(k:Node):(uW H k).nodes=H.nodes++[k]:=by unfold uW;rw [Fm];rfl
noncomputable def i_(H:Hp)(k:Node):Hp:=if k∈H.nodes then H else uW H k
def w8(N:Nat)(k:Node):Prop:=(k.1="f"/\k.2.length=1\/k.1="g"/\k.2.length=2)/\∀i∈k.2,i<min N 4
structure R3(H:Hp):Prop where
 fit:dc H
 ok:Ok H
 au:H.au.length<1000
 changes:H.changes.length<=900
 known:H.known.length<1000
 nodup:H.nodes.Nodup
 pos:0<H.nodes.length
 add:∀k,w8 H.nodes.length k->k∉H.nodes->dc {H with toCore:=cM H.toCore k}/\Ok {H with toCore:=cM H.toCore k}
theorem yb{b:Nat}{D:aL->Prop}(hb:b<=100000)(k:D (.lG 0 1 b)):lh D [.int b]:=.a (Zu (Nat.zero_le b) hb) (by unfold oP;have e:=Zt 0 b;rw [Nat.zero_add]at e;exact (rfl:Builtin.Range.rangeSize ((0:Nat):Int) (b:Int) 1=Builtin.Range.rangeSize 0 (b:Int) 1)▸e.symm▸k)
theorem Y1{N:Nat}:(if(4:Int)<N then 4 else(N:Int))=(min N 4:Nat):=by
 by_cases h:(4:Int)<N
 ·rw [if_pos h,Nat.min_eq_right (Nat.le_of_lt (Int.ofNat_lt.1 h))];rfl
 ·exact ae (if_neg h)<|ae (Nat.min_eq_left (Int.ofNat_le.1 (Int.not_lt.1 h))) rfl
theorem aaY{N:Nat}{s:U}{C:PV}(k:C (.int (min N 4:Nat)) s):BK s C [.int N,.int 4]:=.i (by refine ae Y1 ?_;exact k)
theorem D4{α:Type}{a b c:α}{R:List α}:(a::b::c::R).Perm (b::c::a::R):=(List.Perm.swap _ _ _).trans (.cons _ (.swap _ _ _))
theorem LS.Qg{H:Hp}{R:List Cell}{C:PV}(w:LS H R){a b:Nat}{xs ys:List AV}(h1:w.w.σ[a]?=some (.list xs))(h2:w.w.σ[b]?=some (.list ys))(hz:xs.length+ys.length<=10000)(k:∀l(w':LS H ((l,.list (xs++ys))::R)),C (.ref l) w'.w.σ):bW w.w.σ C (.ref a) (.ref b):=.l h1 h2 hz (k _ (w.new _))
theorem inL{s:U}{A B:U->Prop}{l:Nat}{ns:List Node}{k:Node}(h:s[l]?=some (.list (ns.map bg)))(hk:k∈ns)(p:A s):n4 s (bU A B) (bg k) (.ref l):=.l h (Ac k ns) (by refine ae (decide_eq_true hk) ?_;exact p)
theorem aaZ{s:U}{A B:U->Prop}{l:Nat}{ns:List Node}{k:Node}(h:s[l]?=some (.list (ns.map bg)))(hk:k∉ns)(p:B s):n4 s (bU A B) (bg k) (.ref l):=.l h (Ac k ns) (by refine ae (decide_eq_false hk) ?_;exact p)
section
variable{H:Hp} {R:List Cell} {C:PV} {d n ln:Nat} {row:List Int}
theorem Tw(w:LS H ((0,di n)::(2,dW row)::R))(hn:n<=900)(rY:R3 H)(hl:(ln,.list (H.nodes.map bg))∈R)
  (k:∀kk n' iX X,w8 H.nodes.length kk->n'<=n+3->(iX,AO.list ((i_ H kk).nodes.map bg))∈X++R->∀w':LS (i_ H kk) ((0,di n')::(2,dW row)::(X++R)),C (.ref iX) w'.w.σ):(O (d+8)).call .more [.ref 0,.ref 3,.ref ln] w.w.σ C:=by
 have hfn:=rY.fit.nodes;have j8:=rY.pos;have key:∀(op:String)(m:Nat),(op="f"/\m=1\/op="g"/\m=2)->∀w:LS H ((0,di (n+1))::(2,dW row)::R),uJ (O (d+7)) C (.ref 0) (.ref 3) (.ref ln) (.str op) (.int m) w.w.σ:=λ op m jT w=>by
  have hm:m<=2:=by rcases jT with⟨_,rfl⟩|⟨_,rfl⟩<;>omega
  have ik:ef op=true:=by rcases jT with⟨rfl,_⟩|⟨rfl,_⟩<;>rfl
  refine yb (nc hm rfl) ?_;have cg:=Jy (σ:=w.w.σ) (C:=λ t s=>d8 s (λ t s=>bW s (λ t s=>Dq (O (d+7)) C (.ref 3) t (.ref ln) (.str op) s) (.tup [.str op]) t) [t])
   (λ(us:List Unit)l acc σ=>∃ks n',∃w:LS H ((l,.list acc)::(0,di n')::(2,dW row)::R),w.w.σ=σ/\acc=nl ks/\n'=n+1+ks.length/\(∀r∈ks,r<min H.nodes.length 4)/\ks.length+us.length=m)
   (pe (O (d+7)) (.ref 0) (.ref ln)) (λ us=>.lG ((m:Int) -us.length) 1 us.length) (List.replicate m ()) (λ aa aa aa aa aa aa q=>zL (.re q)) ?_ ⟨([]:List Nat),_,w.new (.list []),rfl,rfl,rfl,by simp,by simp⟩ ?_
  ·rw [List.length_replicate,Int.sub_self]at cg;exact cg
  ·rintro x us n2 l acc σ Q ⟨ks,n',w,rfl,e1,e2,n_,hlen⟩ nx;simp only [List.length_cons]at hlen;refine zL<|.rs<|cX (w.at (.tail _ (.tail _ (.tail _ hl)))) (List.length_map ..)<|aaY<|kB (w.bz D4) (Bw hn hm (bI e2) (bI hlen) (by simp+arith only)) (by omega) λ r hr w=>(w.bz (D4.trans D4)).x8 (by rw [e1,cx];exact cI hm (bI hlen) (by simp+arith only)) λ w=>?_;rw [List.length_cons,show(m:Int) -(us.length+1:Nat)+1=m -us.length by omega];refine nx (acc++[.int r]) w.w.σ ⟨ks++[r],n'+1,w,rfl,by rw [e1,jL],by simp;exact Nat.le_antisymm (Nat.add_le_add_right (bI e2) _) (Nat.lt_succ_of_le (bP e2)),λ x hx=>?_,by simp;exact Nat.le_antisymm (bG (bI hlen) (by simp+arith only)) (bG (bP hlen) (by simp+arith only))⟩;rcases List.mem_append.mp hx with q|q
   ·exact n_ x q
   ·exact List.mem_singleton.mp q▸hr
  ·rintro l acc σ ⟨ks,n',w,rfl,rfl,e2,n_,hlen⟩;simp only [List.length_nil,Nat.add_zero]at hlen;have R4:w8 H.nodes.length (op,ks):=⟨by rcases jT with⟨a,b⟩|⟨a,b⟩;exact .inl ⟨a,hlen.trans b⟩;exact .inr ⟨a,hlen.trans b⟩,n_⟩
   rw [show w.w.σ=(w.bz D4).w.σ from rfl];generalize w.bz D4=w;have key:∀w:LS (i_ H (op,ks)) ((0,di n')::(2,dW row)::(l,.list (nl ks))::R),Dp C (bg (op,ks)) (.ref ln) w.w.σ:=by
    have k:=λ iX X h=>k (op,ks) n' iX X R4 (e_ hm (bI e2) (bI hlen) (by simp+arith only)) h;by_cases fg:(op,ks)∈H.nodes
    ·rw [show i_ H (op,ks)=H from if_pos fg]at k⊢;exact λ w=>inL (w.at (.tail _ (.tail _ (.tail _ hl)))) fg (k ln [(l,.list (nl ks))] (List.mem_append_right _ hl) w)
    ·have e:(i_ H (op,ks)).nodes=H.nodes++[(op,ks)]:=by rw [show i_ H (op,ks)=uW H (op,ks) from if_neg fg,Jz]
     refine λ w=>aaZ (w.at (.tail _ (.tail _ (.tail _ hl)))) fg<|w.qh _ λ l2 w=>w.Qg (w.at (.tail _ (.tail _ (.tail _ (.tail _ hl))))) (w.at (.head _)) (by simp;exact nc hfn rfl) λ l3 w=>k l3 [(l3,.list (H.nodes.map bg++[bg (op,ks)])),(l2,.list [bg (op,ks)]),(l,.list (nl ks))] (by refine ae e ?_;simp) (w.bz ?_);exact List.Perm.append_right ((l,AO.list (nl ks))::R) (l₁:=[_,_]++[(0,di n'),(2,dW row)]) (l₂:=[(0,di n'),(2,dW row)]++[_,_]) List.perm_append_comm
   refine .l (w.at (.tail _ (.tail _ (.head _))))<|.t (by rw [cx];simp;exact cI hm (bI hlen) (by simp+arith only))<|w.w.RQ<|lZ ?_;by_cases fg:(op,ks)∈H.nodes
   ·obtain ⟨i,hi⟩:=List.getElem?_of_mem fg;rw [show i_ H (op,ks)=H from if_pos fg]at key;exact Tu w rY.fit rY.ok hi (λ j hj=>(List.getElem?_inj (List.getElem?_eq_some_iff.mp hj).1 rY.nodup).mp (hj.trans hi.symm)) (key w)
   ·rw [show i_ H (op,ks)=uW H (op,ks) from if_neg fg]at key;have hp:=rY.add _ R4 fg;exact G0 w rY.fit rY.ok ik fg (λ i hi=>by have:=n_ i hi;exact Nat.lt_of_lt_of_le this (Nat.min_le_left (H.nodes.length) (4))) (Nat.le_trans (bI hlen) hm) hp.1 hp.2 rY.au rY.changes rY.known key
 refine WK<|kB (m:=2) w (nc hn rfl) (by decide) λ r hr w=>?_;rcases (by omega:r=0\/r=1)with rfl|rfl
 ·exact .x (c:='f') (j:=0) ⟨by decide,.inl rfl⟩ (by decide) rfl<|i9<|key "f" 1 (.inl ⟨rfl,rfl⟩) w
 ·exact .x (c:='g') (j:=1) ⟨by decide,.inl rfl⟩ (by decide) rfl<|gH rfl<|key "g" 2 (.inr ⟨rfl,rfl⟩) w
end
end
section
open PySem
theorem eW{σ:U}{l:Nat}{ao:AO}(h:σ[l]?=some ao)(t:U):(σ++t)[l]?=some ao:=(List.getElem?_append_left (List.getElem?_eq_some_iff.mp h).1).trans h
theorem R5{α:Type}{C:PV}(σ:U)(run:Nat->aL->Nat->U->(U->Prop)->Prop)(ks:List α)(g f:α->AV)(hz:ks.length<10000)(he:∀n l s Q,Q s->run (n+1) (.tup []) l s Q)
  (hs:∀x vs n l t Q,x∈ks->(∀t',bO (f x) (σ++t++t') (λ s=>run n (.tup vs) l s Q) l)->run (n+1) (.tup (g x::vs)) l (σ++t) Q)
  (k:∀l t,(σ++t)[l]?=some (.list (ks.map f))->C (.ref l) (σ++t)):d7 σ C λ n l s Q=>run n (.tup (ks.map g)) l s Q:=
 Je (λ l acc σ'=>(σ.length<=l/\σ'[l]?=some (.list acc))/\∃t,σ'=σ++t) (λ aa aa aa h=>h.1.2) (λ l acc gB σ' ⟨⟨h1,h2⟩,t,e⟩=>⟨⟨h1,List.getElem?_set_self (List.getElem?_eq_some_iff.mp h2).1⟩,t.set (l -σ.length) (.list gB),by subst e;exact List.set_append_right _ _ h1⟩) run (λ us=>.tup (us.map g)) ks f rfl hz (λ n l _ σ Q _ q=>he n l σ Q q)
  (λ x us n l acc σ' Q hx ⟨h1,t,e⟩ q=>e▸hs x _ n l t Q hx λ t'=>q _ ⟨⟨h1.1,eW (e▸h1.2) t'⟩,t++t',List.append_assoc ..⟩) ⟨⟨Nat.le_refl _,List.getElem?_concat_length ..⟩,_,rfl⟩ λ l σ' ⟨h1,t,e⟩=>e▸k l t (e▸h1.2)
theorem Qh{ns:List Node}{ln:Nat}(hb:Below ns)(hk:∀k∈ns,k.2.length<=900):∀(n d:Nat)(σ:U){C:PV},n<ns.length->σ[ln]?=some (.list (ns.map bg))->(∀t,C (cU ns n) (σ++t))->(O (n+d+1)).call .gr [.ref ln,.int n] σ C:=λ n=>by
 induction n using Nat.strongRecOn with
 |ind n ih=>
  intro d σ C hn hl k;have hn:=List.getElem?_eq_getElem hn;generalize ns[n]'_=kk at hn;have hkz:=hk kk (List.mem_of_getElem? hn);have hg {C:PV} (p:C (bg kk) σ):ah σ C (.ref ln) (.int n):=ez hl (by simp [hn]) p;refine S6<|hg<|cL<|hg<|lZ<|.t<|R5 σ (kT (O (n+d)) (.ref ln)) kk.2 _ (cU ns) (eG hkz rfl) (λ aa aa aa aa q=>wC (.te q)) (λ x vs n2 l t Q hx q=>wC<|.ts ?_) λ l t h=>.l h<|.t (by simp;exact nc (Nat.add_le_add_left hkz _) rfl) ?_
  ·have qH:=hb n kk hn x hx;have:=ih x qH (n -x -1+d) (σ++t) (C:=λ v s=>bO v s (λ s=>kT (O (n+d)) (.ref ln) n2 (.tup vs) l s Q) l) (Nat.lt_trans qH (List.getElem?_eq_some_iff.mp hn).1) (eW hl t) q
   rwa [show x+(n -x -1+d)+1=n+d by exact nsx qH]at this
  ·refine ae (show AV.tup ([.str kk.1]++kk.2.map (cU ns))=cU ns n from(mj hb hn).symm) ?_;exact k t
section
variable{H:Hp} {R:List Cell} {C:PV} {d n:Nat} (w:LS H R)
noncomputable def LS.app(t:U):LS H R:=⟨w.x,w.w.app t,w.len⟩
theorem Fo(hf:dc H)(hN:H.nodes.length<=60)(jU:Below H.nodes)(hn:n<H.nodes.length)(k:∀w':LS H R,C (cU H.nodes n) w'.w.σ):(O (d+3)).call .j0 [.ref 3,.int n] w.w.σ C:=by have hw:=List.getElem?_eq_getElem (l:=dK H.nodes) (i:=n) (by rw [tY];exact hn);have hw2:=hf.wt _ (List.mem_of_getElem? hw);exact IY<|w.w.gT<|w.w.PQ<|MR w.w hw<|jM (by omega)<|w.w.gT<|w.w.WU<|Tj w.w hf hN jU hn λ w2=>k ⟨w.x,w2,w.len⟩
theorem yc{i a b:Nat}{l:String}(he:H.au[i]?=some (a,b,some l))(k:C (.tup [.str "told",.str l]) w.w.σ):(O (d+1)).call .gV [.ref 3,.int i] w.w.σ C:=
 AX<|w.w.gf<|w.w.Bf he<|wN<|cL<|i9<|eA k
theorem M9(k:C (.tup [.int H.nodes.length,.int H.au.length,.int H.dF]) w.w.σ):(O (d+3)).call .nQ [.ref 3] w.w.σ C:=
 Pu<|w.w.wM<|tV w.w<|w.w.gf<|w.w.RT<|w.w.GP k
end
end
section
set_option genInjectivity false
set_option genSizeOf false
open PySem
inductive fz(C:Core):Nat->Nat->Nat->AV->Nat->Nat->Prop
 |told {n d m i a b:Nat} {l:String}:C.au[i]?=some (a,b,some l)->i<n->1<=m->fz C n d m (.tup [.str "told",.str l]) a b
 |same {n d m a:Nat}:a<C.nodes.length->fz C n d m (.tup [.str "same",cU C.nodes a]) a a
 |join {n d m k a b c:Nat} {p q:AV}:fz C n d m p a b->fz C n d k q b c->fz C n (d+1) (m+k) (.tup [.str "join",p,q]) a c
 |turn {n d m a b:Nat} {p:AV}:fz C n d m p a b->fz C n (d+1) m (.tup [.str "turn",p]) b a
 |under {n d m k i a b:Nat} {ka kb:Node} {ps:List AV}:C.au[i]?=some (a,b,none)->i<n->C.nodes[a]?=some ka->C.nodes[b]?=some kb->ka.1=kb.1->ka.2.length=kb.2.length->ps.length=ka.2.length->ps.length<=2->2*k<=m->
   (∀(j:Nat)(p:AV)(x y:Nat),ps[j]?=some p->ka.2[j]?=some x->kb.2[j]?=some y->fz C i d k p x y)->fz C n (d+1) m (.tup [.str "under",.str ka.1,.tup ps]) a b
theorem fz.mono{C:Core}{n d m:Nat}{p:AV}{a b:Nat}(h:fz C n d m p a b):∀{n' d' m':Nat},n<=n'->d<=d'->m<=m'->fz C n' d' m' p a b:=by
 induction h with
 |told h1 h2 h3=>intro n' d' m' hn hd hm;exact .told h1 (Nat.lt_of_lt_of_le h2 hn) (Nat.le_trans h3 hm)
 |same h1=>intro n' d' m' hn hd hm;exact .same h1
 |@join n d m k a b c p q _ _ vR qu=>
  intro n' d' m' hn hd hm;obtain ⟨d',rfl⟩:∃e,d'=e+1:=⟨d' -1,((Nat.sub_add_cancel (ji hd:(1)<=(d')))).symm⟩
  obtain ⟨k',rfl⟩:∃e,m'=m+e:=⟨m' -m,Nat.le_antisymm (bG (bP (Nat.sub_add_cancel (Bv hm:(m)<=(m')))) (by simp+arith only)) (bG (bI (Nat.sub_add_cancel (Bv hm:(m)<=(m')))) (by simp+arith only))⟩
  exact .join (vR hn (Nat.le_of_lt_succ hd) (Nat.le_refl _)) (qu hn (Nat.le_of_lt_succ hd) (Nat.le_of_add_le_add_left hm))
 |turn _ ih=>
  intro n' d' m' hn hd hm;obtain ⟨d',rfl⟩:∃e,d'=e+1:=⟨d' -1,((Nat.sub_add_cancel (ji hd:(1)<=(d')))).symm⟩
  exact .turn (ih hn (Nat.le_of_lt_succ hd) hm)
 |under h1 h2 h3 h4 h5 h6 h7 h8 h9 _ ih=>
  intro n' d' m' hn hd hm;obtain ⟨d',rfl⟩:∃e,d'=e+1:=⟨d' -1,((Nat.sub_add_cancel (ji hd:(1)<=(d')))).symm⟩
  exact .under h1 (Nat.lt_of_lt_of_le h2 hn) h3 h4 h5 h6 h7 h8 (Nat.le_trans h9 hm) λ j p x y e1 e2 e3=>ih j p x y e1 e2 e3 (Nat.le_refl _) (Nat.le_of_lt_succ hd) (Nat.le_refl _)
inductive Chain(Pr:Nat->AV->Nat->Nat->Prop):Nat->List AV->Nat->Nat->Prop
 |nil {a:Nat}:Chain Pr 0 [] a a
 |cons {m k:Nat} {p:AV} {ps:List AV} {a b c:Nat}:Pr m p a b->Chain Pr k ps b c->Chain Pr (m+k) (p::ps) a c
theorem Chain.mono{Pr Pr':Nat->AV->Nat->Nat->Prop}(hm:∀m p a b,Pr m p a b->Pr' m p a b){s:Nat}{ps:List AV}{a b:Nat}(h:Chain Pr s ps a b):Chain Pr' s ps a b:=by
 induction h with
 |nil=>exact .nil
 |cons h1 _ ih=>exact .cons (hm _ _ _ _ h1) ih
theorem Chain.zero{Pr:Nat->AV->Nat->Nat->Prop}{s a b:Nat}:Chain Pr s [] a b->a=b|.nil=>rfl
theorem Chain.one{C:Core}{n d s a b:Nat}{p:AV}(h:Chain (fz C n d) s [p] a b):fz C n d s p a b:=by cases h with|cons h1 h2=>cases h2;exact h1
noncomputable def pairUp:List AV->List AV
 |p::q::r=>.tup [.str "join",p,q]::pairUp r
 |[p]=>[p]
 |[]=>[]
theorem D5(p q:AV)(r:List AV):pairUp (p::q::r)=.tup [.str "join",p,q]::pairUp r:=rfl
theorem yd{α:Type}{P:List α->Prop}(h0:P [])(h1:∀p,P [p])(h2:∀p q r,P r->P (p::q::r))(l:List α):P l:=by
 have:P l/\∀p,P (p::l):=by
  induction l with
  |nil=>exact ⟨h0,h1⟩
  |cons a r ih=>exact ⟨ih.2 a,λ p=>h2 p a r ih.1⟩
 exact this.1
theorem Chain.pair{C:Core}{n d:Nat}{ps:List AV}:∀{s a b:Nat},Chain (fz C n d) s ps a b->Chain (fz C n (d+1)) s (pairUp ps) a b:=by
 induction ps using yd with
 |h0=>intro s a b h;cases h;exact .nil
 |h1 p=>exact λ{s aa aa}h=>Chain.cons (m:=s) (k:=0) (h.one.mono (Nat.le_refl _) (Nat.le_succ _) (Nat.le_refl _)) .nil
 |h2 p q r ih=>
  intro s a b h;cases h with
  |cons h1 h2=>cases h2 with
   |cons h3 h4=>exact Nat.add_assoc ..▸.cons (.join h1 h3) (ih h4)
theorem JA(ps:List AV):(pairUp ps).length=(ps.length+1)/2:=by
 induction ps using yd with
 |h0=>rfl
 |h1 p=>kernel_rfl
 |h2 p q r ih=>rw [D5,List.length_cons,ih];exact (Up _).symm
noncomputable def oz(row:List AV)(i:Nat):AV:=.tup [.str "join",row.getD (2*i) .none,row.getD (2*i+1) .none]
theorem M_(ps:List AV):pairUp ps=(List.range (ps.length/2)).map (oz ps)++ps.drop (ps.length -ps.length %2):=by
 induction ps using yd with
 |h0=>rfl
 |h1 p=>kernel_rfl
 |h2 p q r ih=>
  have e1:(p::q::r).length/2=r.length/2+1:=Up _;have e2:(p::q::r).length -(p::q::r).length %2=(r.length -r.length %2)+2:=nev _;rw [D5,ih,e1,e2,List.range_succ_eq_map,List.map_cons,List.map_map];have e3:(oz (p::q::r)∘Nat.succ)=oz r:=by funext i;simp only [Function.comp,oz];have f1:2*i.succ=2*i+1+1:=rfl;have f2:2*i.succ+1=2*i+1+1+1:=rfl;exact rfl
  refine ae e3 ?_;exact rfl
theorem aa0{n:Nat}{D:aL->Prop}(h1:2<=n)(h2:n<=1000)(k:D (.lG 0 2 (n/2))):lh D [.int 0,.int ((n:Int) -1),.int 2]:=.c (by unfold m8;lia) (by unfold oP;refine ae (rz2 h1) ?_;exact k)
section
variable{H:Hp} {R:List Cell} {C:PV} {D n a b s l f:Nat} {c c1:Cell}
noncomputable def LS.pC(w:LS H (c::c1::R)):LS H (c::R):=(w.bz (.swap _ _ _)).drop
theorem LS.Xw{xs:List AV}{m:Nat}(w:LS H R)(h:w.w.σ[l]?=some (.list xs))(hm:m<=xs.length)(hz:xs.length<=10000)(k:∀l'(w':LS H ((l',.list (xs.drop m))::R)),C (.ref l') w'.w.σ):eg (some (m:Nat)) none none w.w.σ C (.ref l):=
 .l h (λ q=>nomatch q) (by refine ae (pick_from _ _ hm) ?_;simp;exact Nat.le_trans hz (Nat.le_add_right ..)) (by refine ae (pick_from _ _ hm) ?_;exact k _ (w.new _))
theorem Fp{row:List AV}(w:LS H ((l,.list row)::R))(hz:row.length<=1000)(k:∀l'(w':LS H ((l',.list ((List.range (row.length/2)).map (oz row)))::(l,.list row)::R)),C (.ref l') w'.w.σ):
  d7 w.w.σ C λ n l' s Q=>gQ (O D) (.ref l) n (.lG 0 2 (row.length/2)) l' s Q:=by
 have cg:=Jy (σ:=w.w.σ) (C:=C) (λ(us:List Unit)l' acc σ=>∃w:LS H ((l',.list acc)::(l,.list row)::R),w.w.σ=σ/\acc=(List.range (row.length/2 -us.length)).map (oz row)/\us.length<=row.length/2)
  (gQ (O D) (.ref l)) (λ us=>.lG (2*(row.length/2 -us.length):Nat) 2 us.length) (List.replicate (row.length/2) ()) (λ aa aa aa aa aa aa q=>om (.re q)) ?_ ⟨w.new (.list []),rfl,by simp,by simp⟩ ?_
 ·rw [List.length_replicate,Nat.sub_self,Nat.mul_zero]at cg;exact cg
 ·rintro x us m l' acc σ Q ⟨w,rfl,e1,hle⟩ nx;rw [List.length_cons]at hle e1⊢;have mz:row.length/2 -(us.length+1)<row.length/2:=Nat.sub_lt (Nat.lt_of_lt_of_le (Nat.succ_pos _) hle) (Nat.succ_pos _);have Xx:row.length/2 -us.length=row.length/2 -(us.length+1)+1:=(Nat.succ_pred_eq_of_pos (Nat.sub_pos_of_lt hle)).symm;rw [Xx]at nx;generalize row.length/2 -(us.length+1)=i at*;have b1:row[2*i]?=some (row.getD (2*i) .none):=by refine ae List.getD_eq_getElem?_getD<|ae (List.getElem?_eq_getElem (Nat.lt_of_succ_lt (Zs mz))) ?_;rfl
  have b2:row[2*i+1]?=some (row.getD (2*i+1) .none):=by refine ae List.getD_eq_getElem?_getD<|ae (List.getElem?_eq_getElem (Zs mz)) ?_;rfl
  have c:=w.at (.tail _ (.head _))
  refine om<|.rs<|ez c b1<|pF<|ez c b2<|w.x8 (by refine ae e1 ?_;simp;exact Nat.lt_of_lt_of_le mz (nc (Nat.le_trans (Nat.div_le_self row.length 2) hz) rfl)) λ w=>?_;exact nx _ _ ⟨w,rfl,by refine ae e1<|ae List.range_succ<|ae List.map_append ?_;rfl,Nat.le_of_lt hle⟩
 ·rintro l' acc σ ⟨w,rfl,e1,_⟩;subst e1;exact k l' w
theorem Fq{x:AV}:∀(r d l:Nat)(row:List AV)(w:LS H ((l,.list row)::R)),row.length<=2^r->row.length<=1000->Chain (fz H.toCore n d) s row a b->
  (∀l row(w:LS H ((l,.list row)::R)),row.length<=1->Chain (fz H.toCore n (d+r)) s row a b->qa (O D) C x (.ref 3) (.ref l) w.w.σ)->i8 (O D) C x (.ref 3) (.ref l) (r+1) w.w.σ:=λ r=>by
 induction r with
 |zero=>exact λ d l row w hl hz hc k=>kh<|cX (w.at (.head _)) rfl<|jM (by lia)<|k l row w hl hc
 |succ r ih=>
  intro d l row w hl hz hc k;have c:=w.at (.head _)
  by_cases h1:row.length<=1
  ·exact kh<|cX c rfl<|jM (by lia)<|k l row w h1 (hc.mono λ aa aa aa aa p=>p.mono (Nat.le_refl _) (Nat.le_add_right ..) (Nat.le_refl _))
  ·have fK:=JA row;have hp2:2^(r+1)=2*2^r:=by rw [Nat.pow_succ,Nat.mul_comm]
   refine kh<|cX c rfl<|pB (by lia)<|cX c rfl<|.mk<|aa0 ((Nat.lt_of_not_le h1)) hz<|Fp w hz λ l1 w=>?_;have c:=w.at (.tail _ (.head _))
   refine cX c rfl<|cX c rfl<|.mk ⟨by decide,.mk ?_⟩;refine ae (show(row.length:Int) -(row.length:Int) %2=((row.length -row.length %2:Nat):Int) from(Int.ofNat_sub (Nat.mod_le row.length 2)).symm) ?_;refine w.Xw c (Nat.sub_le ..) (nc hz rfl) λ l2 w=>w.Qg (w.at (.tail _ (.head _))) (w.at (.head _)) (by simp;exact QX (Nat.le_trans (Nat.div_le_self row.length 2) hz) (Nat.le_trans (Nat.sub_le row.length _) hz) rfl) λ l3 w=>?_;revert w;rw [<-M_];exact λ w=>ih (d+1) l3 _ w.pC.pC.pC (by lia) (by lia) hc.pair λ l row w h1 hc=>k l row w h1 (by rwa [show d+1+r=d+(r+1) by exact Nat.add_right_comm ..]at hc)
theorem D6{ps:List AV}(w:LS H R)(hf:dc H)(hN:H.nodes.length<=60)(jU:Below H.nodes)(ha:a<H.nodes.length)(hfl:(f,.list ps)∈R)(hz:ps.length<=8)(hc:Chain (fz H.toCore n d) s ps a b)
  (k:∀v,fz H.toCore n (d+3) s v a b->∀w':LS H R,C v w'.w.σ):(O (D+4)).call .jj [.ref 3,.int a,.ref f] w.w.σ C:=
 Fe<|.l<|.l (w.at hfl)<|⟨4,Fq 3 d _ ps (w.new _) (by simpa using hz) (nc hz rfl) hc λ l row w hl hc=>
  match row,w,hl,hc with
  |[p],w,_,hc=>cX (w.at (.head _)) rfl<|x7 rfl<|ez (w.at (.head _)) (i:=0) rfl<|k _ hc.one w.drop
  |[],w,_,hc=>cX (w.at (.head _)) rfl<|uP (by decide)<|Fo w hf hN jU ha λ w=>k _ (hc.zero▸.same ha) w.drop⟩
end
end
section
set_option genInjectivity false
set_option genSizeOf false
open PySem
noncomputable def mO(p l:Nat)(m:AV)(b:Nat):List (String×AV):=[("heap",.ref 3),("parts",.int p),("level",.int l),("mark",m),("beside",.ref b)]
noncomputable def lK(f:Nat->List (Nat×Nat))(bs:List (Nat×Nat)):List Cell:=bs.map λ p=>(p.2,.list ((f p.1).map dG))
noncomputable def WC(y p l:Nat)(m:AV)(b:Nat)(f:Nat->List (Nat×Nat))(bs:List (Nat×Nat)):List Cell:=(y,.inst .dO)::(y+1,.dS (mO p l m b))::(b,.dI (d6 bs))::lK f bs
structure uX(f:Nat->List (Nat×Nat))(bs:List (Nat×Nat)):Prop where
 keys:(bs.map (·.1)).Nodup
 out:∀c,c∉bs.map (·.1)->f c=[]
noncomputable def uY(C:Core)(i c:Nat):List (Nat×Nat):=
 match C.au[i]?with
 |some (a,b,_)=>(if a=c then[(i,b)]else[])++(if b=c then[(i,a)]else[])
 |none=>[]
noncomputable def eX(C:Core)(fs:List Nat)(c:Nat):List (Nat×Nat):=fs.flatMap λ i=>uY C i c
noncomputable def kX(H:Hp):AV:=.tup [.int H.nodes.length,.int H.au.length,.int H.dF]
def D7(H:Hp)(m:AV)(f:Nat->List (Nat×Nat)):Prop:=
 m=.none\/∃n e k:Nat,m=.tup [.int n,.int e,.int k]/\k<=H.dF/\(n=H.nodes.length->e=H.au.length->k=H.dF->f=eX H.toCore H.aE)
structure WG where
 m:AV
 b:Nat
 f:Nat->List (Nat×Nat)
 bs:List (Nat×Nat)
noncomputable def WG.C(g:WG)(y p l:Nat)(R:List Cell):List Cell:=WC y p l g.m g.b g.f g.bs++R
structure WS(H:Hp)(y p l:Nat)(R:List Cell)where
 g:WG
 w:LS H (g.C y p l R)
 ok:uX g.f g.bs
 rZ:D7 H g.m g.f
structure WN(H:Hp)(y p l:Nat)(R:List Cell)where
 b:Nat
 bs:List (Nat×Nat)
 w:LS H (WC y p l (kX H) b (eX H.toCore H.aE) bs++R)
 ok:uX (eX H.toCore H.aE) bs
noncomputable def WN.st{H:Hp}{y p l:Nat}{R:List Cell}(w:WN H y p l R):WS H y p l R:=⟨⟨_,w.b,_,w.bs⟩,w.w,w.ok,.inr ⟨_,_,_,rfl,Nat.le_refl _,λ aa aa aa=>rfl⟩⟩
theorem Qi(C:Core)(fs:List Nat)(i c:Nat):eX C (fs++[i]) c=eX C fs c++uY C i c:=by simp [eX]
theorem Qj(C:Core)(i c:Nat):(uY C i c).length<=2:=by
 unfold uY;split
 ·refine ae List.length_append ?_;split<;>split<;>simp
 ·simp
theorem Tx(C:Core)(c:Nat):∀fs:List Nat,(eX C fs c).length<=2*fs.length:=by
 intro bD;induction bD with
 |nil=>
  skip;exact Nat.le_refl _
 |cons i fs ih=>skip;have h1:=ih;have h2:=Qj C i c;simp only [eX,List.flatMap_cons,List.length_append,List.length_cons]at h1⊢;exact cI h2 h1 (by simp+arith only)
theorem jw{C:Core}{fs:List Nat}{c i o:Nat}:(i,o)∈eX C fs c↔i∈fs/\∃a b r,C.au[i]?=some (a,b,r)/\(a=c/\o=b\/b=c/\o=a):=by
 unfold eX;rw [List.mem_flatMap];constructor
 ·rintro ⟨j,hj,hm⟩;unfold uY at hm;split at hm
  ·rename_i a b r he;rcases List.mem_append.mp hm with h|h
   ·split at h
    ·rename_i Xy;simp only [List.mem_singleton,Prod.mk.injEq]at h;obtain ⟨rfl,rfl⟩:=h;exact ⟨hj,a,_,r,he,.inl ⟨Xy,rfl⟩⟩
    ·simp at h
   ·split at h
    ·rename_i Xy;simp only [List.mem_singleton,Prod.mk.injEq]at h;obtain ⟨rfl,rfl⟩:=h;exact ⟨hj,_,b,r,he,.inr ⟨Xy,rfl⟩⟩
    ·simp at h
  ·simp at hm
 ·rintro ⟨hi,a,b,r,he,h⟩;refine ⟨i,hi,?_⟩;unfold uY;refine ae he ?_;simp only;rcases h with⟨rfl,rfl⟩|⟨rfl,rfl⟩<;>simp
noncomputable def gi(f:Nat->List (Nat×Nat))(c:Nat)(x:Nat×Nat):Nat->List (Nat×Nat):=λ y=>if y=c then f c++[x]else f y
theorem Qk{C:Core}{fs:List Nat}{i a b:Nat}{r:Option String}(he:C.au[i]?=some (a,b,r)):gi (gi (eX C fs) a (i,b)) b (i,a)=eX C (fs++[i]):=by
 funext y;rw [Qi];simp only [gi,uY,he];by_cases h1:y=b
 ·subst h1;by_cases h2:y=a
  ·subst h2;simp
  ·simp [h2,Ne.symm h2]
 ·by_cases h2:y=a
  ·subst h2;simp [h1,Ne.symm h1]
  ·simp [h1,h2,Ne.symm h1,Ne.symm h2]
section
variable{C:PV} {A B:U->Prop} {s:U} {H:Hp} {R:List Cell} {y p l b d:Nat} {m:AV} {f:Nat->List (Nat×Nat)} {bs:List (Nat×Nat)}
theorem ye{A:List (Nat×Nat)}{c:Nat}{x:Nat×Nat}(hA:∀q∈A,q.1≠c):lK (gi f c x) A=lK f A:=
 List.map_congr_left λ q hq=>by simp only [gi,if_neg (hA q hq)]
noncomputable def LS.setAt{A B:List Cell}{k:Nat}{old:AO}(w:LS H (A++(k,old)::B))(x:AO):LS H (A++(k,x)::B):=
 ((w.bz List.perm_middle).put x).bz List.perm_middle.symm
noncomputable def LS.sub{R':List Cell}(w:LS H R)(p:R'.Sublist R):LS H R':=⟨w.x,⟨w.w.σ,w.w.g,⟨w.w.rep.ok,w.w.rep.holds.sub (.append (.refl _) (.append (.refl _) (.append (.refl _) p)))⟩,w.w.k⟩,w.len⟩
section
variable(w:LS H (WC y p l m b f bs++R))
theorem LS.w9{x:String}{v:AV}(h1:(attrsOf .dO).contains x=true)(h2:br (mO p l m b) x=some v)(k:C v w.w.σ):ai x w.w.σ C (.ref y):=.mk (w.at (.head _)) (w.at (.tail _ (.head _))) h1 h2 k
theorem LS.iY(k:C (.ref 3) w.w.σ):ai "heap" w.w.σ C (.ref y):=w.w9 (by kernel_rfl) (by kernel_rfl) k
theorem LS.G3(k:C (.int p) w.w.σ):ai "parts" w.w.σ C (.ref y):=w.w9 (by kernel_rfl) (by kernel_rfl) k
theorem LS.yf(k:C (.int l) w.w.σ):ai "level" w.w.σ C (.ref y):=w.w9 (by kernel_rfl) (by kernel_rfl) k
theorem LS.Xz(k:C m w.w.σ):ai "mark" w.w.σ C (.ref y):=w.w9 (by kernel_rfl) (by kernel_rfl) k
theorem LS.uZ(k:C (.ref b) w.w.σ):ai "beside" w.w.σ C (.ref y):=w.w9 (by kernel_rfl) (by kernel_rfl) k
theorem LS.R6{x:String}{v:AV}{p' l':Nat}{m':AV}{b':Nat}(h1:(attrsOf .dO).contains x=true)(h2:dz (mO p l m b) x v=mO p' l' m' b')(k:A (w.w.σ.set (y+1) (.dS (mO p' l' m' b')))):bw x v w.w.σ A (.ref y):=
 .mk (w.at (.head _)) (w.at (.tail _ (.head _))) h1 (Nat.le_of_ble_eq_true rfl) (by refine ae h2 ?_;exact k)
theorem M'{c i o:Nat}(ok:uX f bs)(hz:bs.length<=9000)(hl:(f c).length<=9000)(k:∀XA,uX (gi f c (i,o)) XA->XA.length<=bs.length+1->∀w':LS H (WC y p l m b (gi f c (i,o)) XA++R),A w'.w.σ):
  Bm lj w.w.σ (λ t2=>cT (.list []) w.w.σ (λ t3 s2=>gA t2 s2 (λ t4 s3=>cD s3 (λ t5=>bO (.tup [.int i,.int o]) s3 A t5) t4) [.int c,t3])) (.ref b):=by
 have hu:(d6 bs).length<=10000:=by simp [d6];exact nc hz rfl
 refine .mk (w.at (.tail _ (.tail _ (.head _)))) ⟨_,rfl⟩ ?_;let w1:=w.new (.list []);by_cases hk:c∈bs.map (·.1)
 ·obtain ⟨⟨c',lo⟩,hm,e⟩:=List.mem_map.mp hk;simp only at e;subst e;obtain ⟨X,Y,rfl,hX,hY⟩:=jf ok.keys hm;let Z:List Cell:=(y,.inst .dO)::(y+1,.dS (mO p l m b))::(b,.dI (d6 (X++(c',lo)::Y)))::lK f X;have e2:WC y p l m b f (X++(c',lo)::Y)++R=Z++(lo,.list ((f c').map dG))::(lK f Y++R):=by simp [Z,WC,lK]
  have e3:WC y p l m b (gi f c' (i,o)) (X++(c',lo)::Y)++R=Z++(lo,.list ((f c').map dG++[dG (i,o)]))::(lK f Y++R):=by have:lK (gi f c' (i,o)) (X++(c',lo)::Y)=lK (gi f c' (i,o)) X++(lo,.list ((gi f c' (i,o) c').map dG))::lK (gi f c' (i,o)) Y:=List.map_append ..;rw [ye hX,ye hY]at this;simp [Z,WC,this,gi]
  let w2:=w1.drop.bz (.of_eq e2);have c2:w1.w.σ[lo]?=some (.list ((f c').map dG)):=w2.at (List.mem_append_right _ (.head _))
  refine .old (w1.at (.tail _ (.tail _ (.tail _ (.head _))))) hu (mi hX)<|.mk c2<|.mk c2 (by rw [List.length_map];exact eG hl rfl) ?_;refine k _ ⟨ok.keys,λ z hz=>?_⟩ (Nat.le_succ _) ((w2.setAt (.list ((f c').map dG++[dG (i,o)]))).bz (.of_eq e3.symm));simp only [gi,if_neg λ q:z=c'=>hz (q▸hk)];exact ok.out z hz
 ·have hA:∀q∈bs,q.1≠c:=λ q hq e=>hk (List.mem_map.mpr ⟨q,hq,e⟩);have hfc:=ok.out c hk;let w2:=LS.setAt (A:=[(y,.inst .dO),(y+1,.dS (mO p l m b))]) (B:=lK f bs++(w.w.σ.length,.list [])::R) (w1.bz List.perm_middle.symm) (.dI (d6 (bs++[(c,w.w.σ.length)])));let w3:=LS.setAt (A:=(y,.inst .dO)::(y+1,.dS (mO p l m b))::(b,.dI (d6 (bs++[(c,w.w.σ.length)])))::lK f bs) w2 (.list [dG (i,o)]);have c2:w2.w.σ[w.w.σ.length]?=some (.list []):=w2.at (by simp)
  have e4:lK (gi f c (i,o)) (bs++[(c,w.w.σ.length)])=lK (gi f c (i,o)) bs++[(w.w.σ.length,.list ((gi f c (i,o) c).map dG))]:=List.map_append ..;rw [ye hA]at e4;refine .new (w1.at (.tail _ (.tail _ (.tail _ (.head _))))) hu (DP hA) (DQ hA▸.mk c2 (.mk c2 (Nat.zero_lt_succ _) ?_));refine k (bs++[(c,w.w.σ.length)]) ⟨?_,λ z hz=>?_⟩ (by simp) (w3.bz (.of_eq (by simp [WC,e4,gi,hfc])))
  ·rw [List.map_append,List.nodup_append];exact ⟨ok.keys,by simp,λ x hx z hz q=>hk (by refine cA (show z=c from List.mem_singleton.mp hz)<|cA q ?_;exact hx)⟩
  ·simp only [List.map_append,List.mem_append,not_or,List.map_cons,List.map_nil,List.mem_singleton]at hz;simp only [gi,if_neg hz.2];exact ok.out z hz.1
end
theorem Tz(mk:D7 H m f)(k1:A s)(k2:m=kX H->f=eX H.toCore H.aE->B s):fm s (bU A B) (kX H) m:=by
 rcases mk with rfl|⟨n,e,k,rfl,_,hm⟩
 ·exact kJ (b:=false) hJ.tn k1
 ·refine kJ (b:=decide ([H.nodes.length,H.au.length,H.dF]=[n,e,k])) (sz<|D3 38 [H.nodes.length,H.au.length,H.dF] [n,e,k]) ?_;by_cases q:[H.nodes.length,H.au.length,H.dF]=[n,e,k]
  ·refine ae (decide_eq_true q) ?_;simp only [List.cons.injEq,and_true]at q;obtain ⟨rfl,rfl,rfl⟩:=q;exact k2 rfl (hm rfl rfl rfl)
  ·refine ae (decide_eq_false q) ?_;exact k1
theorem Na(hf:dc H)(hi:∀i∈H.aE,i<H.au.length)(k:∀w:WN H y p l R,C .none w.w.w.σ):∀(r j:Nat)(bs:List (Nat×Nat))(w:LS H (WC y p l (kX H) b (eX H.toCore (H.aE.take j)) bs++R)),j+r=H.aE.length->uX (eX H.toCore (H.aE.take j)) bs->bs.length<=2*j->
  kF (O d) C (.ref y) (r+1) (.list 17 j) w.w.σ:=by
 intro bD;induction bD with
 |zero=>
  intro j bs w e ok hz;have e:j=H.aE.length:=e;refine rB<|.le w.w.rep.DE (by rw [cx];exact (bP e)) ?_;revert w ok;refine ae e<|ae List.take_length ?_;exact λ w ok=>k ⟨b,bs,w,ok⟩
 |succ r ih=>
  intro j bs w e ok hz;have Ad:=hf.aE;have D8:=List.getElem?_eq_getElem (l:=H.aE) (i:=j) (ml (bI e));have fg:=List.mem_of_getElem? D8;generalize H.aE[j]'_=i at D8 fg;have he:=List.getElem?_eq_getElem (hi i fg);generalize H.au[i]'_=e' at he;obtain ⟨a,c,rs⟩:=e';have hlen:∀c,(eX H.toCore (H.aE.take j) c).length<=1800:=λ c=>by have:=Tx H.toCore c (H.aE.take j);rw [List.length_take]at this;lia
  refine rB<|.ls w.w.rep.DE (gU D8)<|w.iY<|w.w.gf<|w.w.Bf he<|.t<|w.uZ<|M' w ok (by lia) (by have:=hlen a;lia) λ bs1 ok h1 w=>w.uZ<|M' w ok (by lia) ?_ λ bs2 ok h2=>?_
  ·have:=hlen a;have:=hlen c;unfold gi;split
   ·refine ae List.length_append ?_;simp;lia
   ·lia
  ·rw [Qk he,show H.aE.take j++[i]=H.aE.take (j+1) by refine ae List.take_add_one<|ae D8 ?_;rfl]at ok⊢;exact λ w=>ih (j+1) bs2 w (Nat.le_antisymm (bG (bI e) (by simp+arith only)) (bG (bP e) (by simp+arith only))) ok (e_ hz h1 h2 (by simp+arith only))
theorem JB(w:WS H y p l R)(hf:dc H)(hi:∀i∈H.aE,i<H.au.length)(k:∀w:WN H y p l R,C .none w.w.w.σ):(O (d+4)).call .xo [.ref y] w.w.w.σ C:=by
 obtain ⟨⟨m,b,f,bs⟩,w,ok,mk⟩:=w;refine Mq<|w.iY<|M9 w<|w.Xz<|Tz mk ?_ ?_
 ·let w1:LS H ((y,.inst .dO)::(y+1,.dS (mO p l m b))::(w.w.σ.length,.dI [])::R):=
   ((w.new (.dI [])).bz (R':=WC y p l m b f bs++(w.w.σ.length,.dI [])::R) List.perm_middle.symm).sub (.cons₂ _ (.cons₂ _ (.cons _ (List.sublist_append_right _ _))))
  let w2:LS H ((y,.inst .dO)::(y+1,.dS (mO p l (kX H) b))::(w.w.σ.length,.dI [])::R):=LS.setAt (A:=[(y,.inst .dO)]) w1 _;let w3:LS H (WC y p l (kX H) w.w.σ.length (eX H.toCore (H.aE.take 0)) []++R):=LS.setAt (A:=[(y,.inst .dO)]) w2 (.dS (mO p l (kX H) w.w.σ.length));refine .t<|.mk (w1.at (.head _)) (w1.at (.tail _ (.head _))) (by kernel_rfl) (Nat.le_of_ble_eq_true rfl)<|.mk (w2.at (.head _)) (w2.at (.tail _ (.head _))) (by kernel_rfl) (Nat.le_of_ble_eq_true rfl) ?_;exact w3.iY<|w3.w.uN<|.l w3.w.rep.DE ⟨_,Na hf hi k H.aE.length 0 [] w3 (Nat.zero_add _) ⟨.nil,λ aa aa=>rfl⟩ (Nat.le_refl _)⟩
 ·rintro rfl rfl;exact k ⟨b,bs,w,ok⟩
end
end
section
open PySem
theorem jx{l m:List Nat}(hn:l.Nodup)(h:∀b∈l,b∈m):l.length<=m.length:=by
 induction l generalizing m with
 |nil=>exact Nat.zero_le _
 |cons a l ih=>rw [List.nodup_cons]at hn;have hm:=h a (.head _);have:=ih (m:=m.erase a) hn.2 λ b hb=>(List.mem_erase_of_ne (λ e:b=a=>hn.1 (by refine cA e ?_;exact hb))).mpr (h b (.tail _ hb));rw [List.length_erase_of_mem hm]at this;exact Nat.le_trans (Nat.succ_le_succ this) (Nat.le_of_eq (Nat.succ_pred_eq_of_pos (List.length_pos_of_mem hm)))
theorem XB{α β:Type}{f:α->Option β}{g:α->β}:∀{l:List α},(∀x∈l,f x=some (g x))->l.filterMap f=l.map g:=by
 intro bD;induction bD with
 |nil=>
  intro zz;exact rfl
 |cons x l ih=>intro h;exact ae List.filterMap_cons<|ae (h x (.head _))<|ae List.map_cons<|ae (ih λ y hy=>h y (.tail _ hy)) rfl
theorem D9(xs:List AV):hV xs none none (some (-1))=xs.reverse:=by
 unfold hV;have hb:sliceBounds none none (some (-1)) xs.length=((xs.length:Int) -1,-1,-1):=rfl;rw [hb];simp only [sliceRange];have hc:(if(-1:Int)>0 then(if(xs.length:Int) -1< -1 then(-1 -((xs.length:Int) -1)+-1 -1)/ -1 else 0)else if(xs.length:Int) -1>-1 then((xs.length:Int) -1 - -1 - -1 -1)/ - -1 else 0).toNat=xs.length:=by
  rw [if_neg (by decide)];split
  ·have:((xs.length:Int) -1 - -1 - -1 -1)/ - -1=xs.length:=by rw [show(- -1:Int)=1 by decide,Int.ediv_one];lia
   rw [this];simp
  ·lia
 rw [hc,List.filterMap_map];rw [XB (g:=λ k=>xs.reverse.getD k .none)]
 ·apply List.ext_getElem
  ·simp
  ·intro i h1 h2;simp only [List.getElem_map,List.getElem_range];refine ae List.getD_eq_getElem?_getD<|ae (List.getElem?_eq_getElem h2) ?_;rfl
 ·intro k hk;have hk:=List.mem_range.mp hk;simp only [Function.comp];have e:((xs.length:Int) -1+-1*(k:Int)).toNat=xs.length -1 -k:=nrv hk;refine ae e<|ae List.getD_eq_getElem?_getD<|ae (List.getElem?_reverse hk)<|ae (List.getElem?_eq_getElem (show xs.length -1 -k<xs.length from Nat.lt_of_le_of_lt (Nat.sub_le _ k) (Nat.pred_lt_of_lt hk))) ?_;rfl
inductive eF(C:Core)(F:List Nat)(n:Nat)(a:Nat):Nat->Prop
 |refl:eF C F n a a
 |step {x i y:Nat}:eF C F n a x->(i,y)∈eX C F x->i<n->eF C F n a y
inductive Walk(C:Core)(F:List Nat)(n:Nat):List (Nat×Bool)->Nat->Nat->Prop
 |nil {a:Nat}:Walk C F n [] a a
 |cons {i a x c u v:Nat} {r:Option String} {back:Bool} {es:List (Nat×Bool)}:i∈F->i<n->C.au[i]?=some (u,v,r)->(back=false/\u=a/\v=x\/back=true/\v=a/\u=x)->Walk C F n es x c->Walk C F n ((i,back)::es) a c
theorem Walk.snoc{C:Core}{F:List Nat}{n:Nat}{es:List (Nat×Bool)}{a x:Nat}(h:Walk C F n es a x):∀{i c u v:Nat}{r:Option String}{back:Bool},i∈F->i<n->C.au[i]?=some (u,v,r)->(back=false/\u=x/\v=c\/back=true/\v=x/\u=c)->Walk C F n (es++[(i,back)]) a c:=by
 induction h with
 |nil=>intro i c u v r back h1 h2 h3 h4;exact .cons h1 h2 h3 h4 .nil
 |cons k1 k2 k3 k4 _ ih=>intro i c u v r back h1 h2 h3 h4;exact .cons k1 k2 k3 k4 (ih h1 h2 h3 h4)
abbrev cC(a:Nat)(T:List (Nat×Nat×Nat)):List Nat:=a::T.map (·.1)
inductive Tree(C:Core)(F:List Nat)(n a:Nat):List (Nat×Nat×Nat)->Prop
 |nil:Tree C F n a []
 |snoc {T:List (Nat×Nat×Nat)} {v h i:Nat}:Tree C F n a T->h∈cC a T->v∉cC a T->(i,v)∈eX C F h->i<n->Tree C F n a (T++[(v,h,i)])
theorem kY(a:Nat)(T:List (Nat×Nat×Nat))(t:Nat×Nat×Nat):cC a (T++[t])=cC a T++[t.1]:=by simp [cC]
theorem Tree.nodup{C:Core}{F:List Nat}{n a:Nat}{T:List (Nat×Nat×Nat)}(h:Tree C F n a T):(cC a T).Nodup:=by
 induction h with
 |nil=>simp [cC]
 |snoc _ _ h2 _ _ ih=>rw [kY,List.nodup_append];exact ⟨ih,by simp,λ x hx y hy e=>by simp at hy;subst hy;exact h2 (e▸hx)⟩
theorem Tree.ends{C:Core}{F:List Nat}{n a:Nat}{T:List (Nat×Nat×Nat)}(h:Tree C F n a T):∀t∈T,t.2.2∈F/\t.2.2<n/\∃u v r,C.au[t.2.2]?=some (u,v,r)/\u∈cC a T/\v∈cC a T:=by
 induction h with
 |nil=>simp
 |@snoc T v h i hT h1 h2 h3 h4 ih=>
  intro t ht;rw [kY];rcases List.mem_append.mp ht with ht|ht
  ·obtain ⟨p1,p2,u,v,r,p3,p4,p5⟩:=ih t ht;exact ⟨p1,p2,u,v,r,p3,List.mem_append_left _ p4,List.mem_append_left _ p5⟩
  ·simp only [List.mem_singleton]at ht;subst ht;obtain ⟨p1,u,w,r,p3,p4⟩:=jw.mp h3;refine ⟨p1,h4,u,w,r,p3,?_⟩;rcases p4 with⟨rfl,rfl⟩|⟨rfl,rfl⟩
   ·exact ⟨List.mem_append_left _ h1,List.mem_append_right _ (.head _)⟩
   ·exact ⟨List.mem_append_right _ (.head _),List.mem_append_left _ h1⟩
theorem Tree.idx{C:Core}{F:List Nat}{n a:Nat}{T:List (Nat×Nat×Nat)}(h:Tree C F n a T):(T.map (·.2.2)).Nodup:=by
 induction h with
 |nil=>exact List.nodup_nil
 |@snoc T v h i hT h1 h2 h3 h4 ih=>
  rw [List.map_append,List.nodup_append];refine ⟨ih,by simp,λ x hx y hy e=>?_⟩;simp at hy;obtain ⟨t,ht,rfl⟩:=List.mem_map.mp hx;obtain ⟨_,_,u,w,r,p3,p4,p5⟩:=hT.ends t ht;obtain ⟨_,u',w',r',q3,q4⟩:=jw.mp h3;rw [e,hy]at p3;rw [p3]at q3;cases q3;rcases q4 with⟨_,rfl⟩|⟨_,rfl⟩
  ·exact h2 p5
  ·exact h2 p4
theorem Tree.len{C:Core}{F:List Nat}{n a:Nat}{T:List (Nat×Nat×Nat)}(h:Tree C F n a T):T.length<=F.length:=by
 have:=jx h.idx (m:=F) λ b hb=>by obtain ⟨t,ht,rfl⟩:=List.mem_map.mp hb;exact (h.ends t ht).1
 simpa using this
noncomputable def pI(t:Nat×Nat×Nat):Int×AV:=((t.1:Int),.tup [.int t.2.1,.int t.2.2])
noncomputable def lL(a:Nat)(T:List (Nat×Nat×Nat)):List (Int×AV):=((a:Int),.tup [])::T.map pI
theorem JC(a:Nat)(T:List (Nat×Nat×Nat))(k:Nat):(br (lL a T) (k:Int)).isSome=decide (k∈cC a T):=by
 unfold br;rw [Option.isSome_map,Bool.eq_iff_iff,List.find?_isSome,decide_eq_true_eq];constructor
 ·rintro ⟨x,hx,e⟩;simp only [decide_eq_true_eq]at e;simp only [lL,List.mem_cons,List.mem_map]at hx;rcases hx with rfl|⟨t,ht,rfl⟩
  ·simp only at e;have:a=k:=by lia
   subst this;exact .head _
  ·simp only [pI]at e;have:t.1=k:=by lia
   subst this;exact List.mem_cons_of_mem _ (List.mem_map.mpr ⟨t,ht,rfl⟩)
 ·intro hk;rcases List.mem_cons.mp hk with rfl|hk
  ·exact ⟨_,.head _,if_pos rfl⟩
  ·obtain ⟨t,ht,rfl⟩:=List.mem_map.mp hk;exact ⟨pI t,List.mem_cons_of_mem _ (List.mem_map.mpr ⟨t,ht,rfl⟩),if_pos rfl⟩
theorem XC{a k h i:Nat}{T:List (Nat×Nat×Nat)}(hk:k∉cC a T):dz (lL a T) (k:Int) (.tup [.int h,.int i])=lL a (T++[(k,h,i)]):=by
 have h1:=JC a T k;simp only [hk,decide_false]at h1;unfold dz;rw [if_neg]
 ·simp [lL,pI]
 ·intro q;rw [List.any_eq_true]at q;unfold br at h1;rw [Option.isSome_map,<-Bool.not_eq_true,List.find?_isSome]at h1;exact h1 q
theorem cm_get{a k h i:Nat}:∀{T:List (Nat×Nat×Nat)},(cC a T).Nodup->(k,h,i)∈T->br (lL a T) (k:Int)=some (.tup [.int h,.int i]):=by
 intro T hn hm;obtain ⟨A,B,rfl⟩:=List.append_of_mem hm;unfold br;have h1:k∉cC a A:=by
  have e:cC a (A++(k,h,i)::B)=cC a A++k::B.map (·.1):=by simp [cC]
  rw [e,List.nodup_append]at hn;exact λ q=>hn.2.2 k q k (.head _) rfl
 have e:lL a (A++(k,h,i)::B)=lL a A++pI (k,h,i)::B.map pI:=by simp [lL]
 have h2:=JC a A k;simp only [h1,decide_false]at h2;unfold br at h2;rw [Option.isSome_map]at h2;refine ae e<|ae List.find?_append<|ae (Option.isSome_eq_false_iff.mp h2|>Option.isNone_iff_eq_none.mp) ?_;simp [pI]
section
variable{A B:U->Prop} {C:PV} {s:U} {H:Hp} {R:List Cell} {n a lc lr d n2 here lo:Nat} {vb vs sp:AV}
theorem D_{l k:Nat}{T:List (Nat×Nat×Nat)}(h:s[l]?=some (.dI (lL a T)))(p:k∉cC a T->A s)(q:k∈cC a T->B s):fc s (bU A B) (.int k) (.ref l):=.i h (by
 rw [JC];by_cases e:k∈cC a T
 ·refine ae (decide_eq_true e) ?_;exact q e
 ·refine ae (decide_eq_false e) ?_;exact p e)
noncomputable def kL(lc lr a:Nat)(T:List (Nat×Nat×Nat)):List Cell:=[(lc,.dI (lL a T)),(lr,.list (nl (cC a T)))]
theorem Ql{xs:List (Nat×Nat)}(hf:dc H)(hxs:∀x∈xs,x∈eX H.toCore H.aE here)(R7:(lo,.list (xs.map dG))∈R):∀(r j:Nat)(T:List (Nat×Nat×Nat))(w:LS H (kL lc lr a T++R)),j+r=xs.length->Tree H.toCore H.aE n a T->here∈cC a T->
  (∀T'(w':LS H (kL lc lr a T'++R)),Tree H.toCore H.aE n a T'->(∃t,cC a T'=cC a T++t)->(∀p∈xs.drop j,p.1<n->p.2∈cC a T')->mI (O d) C (.int a) vb (.int n) (.ref lc) (.ref lr) vs sp n2 w'.w.σ)->
  kj (O d) C n2 (.int a) vb (.int n) (.ref lc) (.int here) (.ref lr) vs sp (r+1) (.list lo j) w.w.σ:=by
 intro bD;induction bD with
 |zero=>
  intro j T w e ht hh k;exact zw<|.le (w.at (.tail _ (.tail _ R7))) (by rw [List.length_map];exact (bP e))<|k T w ht ⟨[],(List.append_nil _).symm⟩ (by rw [List.drop_of_length_le (by exact (bP e))];intro p hp;cases hp)
 |succ r ih=>
  intro j T w e ht hh k;have dP:j<xs.length:=ml (bI e);have D8:=List.getElem?_eq_getElem dP;have aa1:=hxs _ (List.mem_of_getElem? D8);have Ad:=hf.aE;have qV:=ht.len;have nx:∀T'(w':LS H (kL lc lr a T'++R)),Tree H.toCore H.aE n a T'->(∃t,cC a T'=cC a T++t)->(xs[j].1<n->xs[j].2∈cC a T')->kj (O d) C n2 (.int a) vb (.int n) (.ref lc) (.int here) (.ref lr) vs sp (r+1) (.list lo (j+1)) w'.w.σ:=λ T' w' mZ ⟨t,et⟩ hx=>
   ih (j+1) T' w' (Nat.le_antisymm (bG (bI e) (by simp+arith only)) (bG (bP e) (by simp+arith only))) mZ (by rw [et];exact List.mem_append_left _ hh) λ T2 w2 vL ⟨t2,e2⟩ hx2=>k T2 w2 vL ⟨t++t2,by rw [e2,et,List.append_assoc]⟩ λ p hp hpn=>by
    rw [List.drop_eq_getElem_cons dP]at hp;rcases List.mem_cons.mp hp with rfl|hp
    ·refine ae e2 ?_;exact List.mem_append_left _ (hx hpn)
    ·exact hx2 p hp hpn
  generalize xs[j]=x at*;obtain ⟨i,o⟩:=x;refine zw<|.ls (w.at (.tail _ (.tail _ R7))) (x:=dG (i,o)) (by refine ae List.getElem?_map<|ae D8 ?_;rfl)<|.t ?_;by_cases fg:i<n
  ·refine Jc (Int.ofNat_lt.mpr fg)<|D_ (w.at (.head _)) (λ R8=>?_) λ R8=>nx T w ht ⟨[],(List.append_nil _).symm⟩ λ aa=>R8;let w1:LS H ((lc,.dI (lL a (T++[(o,here,i)])))::(lr,.list (nl (cC a T)))::R):=w.put _;let w2:LS H ((lc,.dI (lL a (T++[(o,here,i)])))::(lr,.list (nl (cC a T)++[.int o]))::R):=LS.setAt (A:=[(lc,.dI (lL a (T++[(o,here,i)])))]) w1 _;have er:nl (cC a T)++[AV.int o]=nl (cC a (T++[(o,here,i)])):=by simp [cC,nl]
   refine .i (w.at (.head _)) (by simp [lL];exact nc (Nat.le_trans qV Ad) rfl) ?_;refine ae (XC R8) ?_;have c1:=w1.at (.tail _ (.head _))
   exact .mk c1<|.mk c1 (by rw [cx];simp [cC];exact npl (Nat.le_trans qV Ad) rfl)<|nx _ (w2.bz (R':=kL lc lr a (T++[(o,here,i)])++R) (.of_eq (by refine ae er ?_;rfl))) (ht.snoc hh R8 aa1 fg) ⟨[o],kY _ _ _⟩ λ aa=>by rw [kY];exact List.mem_append_right _ (.head _)
  ·exact Jd (Int.ofNat_le.mpr (Nat.le_of_not_lt fg))<|nx T w ht ⟨[],(List.append_nil _).symm⟩ λ q=>absurd q fg
end
end
section
open PySem
section
variable{C:PV} {s:U} {H:Hp} {R:List Cell} {n a mM lc lr d y p l b:Nat} {m:AV} {bs:List (Nat×Nat)}
theorem XD(k:Nat)(ok:uX (eX H.toCore H.aE) bs)(here:Nat):∃lo,(br (d6 bs) (here:Int)).getD (.ref k)=.ref lo/\(lo,AO.list ((eX H.toCore H.aE here).map dG))∈(k,AO.list [])::(WC y p l m b (eX H.toCore H.aE) bs++R):=by
 by_cases hk:here∈bs.map (·.1)
 ·obtain ⟨⟨c',lo⟩,hm,e⟩:=List.mem_map.mp hk;simp only at e;subst e;obtain ⟨A,B,e,hA,hB⟩:=jf ok.keys hm;refine ⟨lo,by refine ae e<|ae (mi hA) ?_;rfl,List.mem_cons_of_mem _ (List.mem_append_left _ ?_)⟩;simp [WC,lK,e]
 ·have hA:∀q∈bs,q.1≠here:=λ q hq e=>hk (List.mem_map.mpr ⟨q,hq,e⟩);refine ⟨k,by refine ae (DP hA) ?_;rfl,?_⟩;refine ae (ok.out here hk) ?_;exact .head _
theorem JD(hf:dc H)(ok:uX (eX H.toCore H.aE) bs)
  (k:∀T(w:LS H (kL lc lr a T++(WC y p l m b (eX H.toCore H.aE) bs++R))),Tree H.toCore H.aE n a T->(mM∈cC a T\/∀v∈cC a T,∀x∈eX H.toCore H.aE v,x.1<n->x.2∈cC a T)->rD (O d) C (.int a) (.int mM) (.ref lc) (.ref y) w.w.σ):
  ∀(r mP:Nat)(T:List (Nat×Nat×Nat))(w:LS H (kL lc lr a T++(WC y p l m b (eX H.toCore H.aE) bs++R))),902<r+mP->mP<=(cC a T).length->Tree H.toCore H.aE n a T->(∀v∈(cC a T).take mP,∀x∈eX H.toCore H.aE v,x.1<n->x.2∈cC a T)->
  mI (O d) C (.int a) (.int mM) (.int n) (.ref lc) (.ref lr) (.ref y) (.int mP) r w.w.σ:=by
 intro bD;induction bD with
 |zero=>
  intro mP T w hn hs ht n6;have:=ht.len;have:=hf.aE;simp [cC]at hs;lia
 |succ r ih=>
  intro mP T w hn hs ht n6;have cc:=w.at (.head _)
  have cr:=w.at (.tail _ (.head _))
  refine LB<|cX cr (cx _) ?_;by_cases dP:mP<(cC a T).length
  ·refine Jc (Int.ofNat_lt.mpr dP)<|D_ cc (λ Q5=>?_) λ hm=>k T w ht (.inl hm);have hh:=List.getElem?_eq_getElem dP;have hhm:=List.mem_of_getElem? hh;generalize (cC a T)[mP]=here at hh hhm;let w1:LS H (WC y p l m b (eX H.toCore H.aE) bs++(kL lc lr a T++R)):=w.bz (by rw [<-List.append_assoc,<-List.append_assoc];exact List.Perm.append_right _ List.perm_append_comm)
   let w2:LS H (kL lc lr a T++((w.w.σ.length,.list [])::(WC y p l m b (eX H.toCore H.aE) bs++R))):=(w.new (.list [])).bz List.perm_middle.symm;obtain ⟨lo,e1,e2⟩:=XD (y:=y) (p:=p) (l:=l) (m:=m) (b:=b) (R:=R) w.w.σ.length ok here;have c1:w1.w.σ[b]?=some (.dI (d6 bs)):=w1.at (.tail _ (.tail _ (.head _)))
   refine ez cr (gU hh)<|pF<|.t<|w1.uZ<|.mk c1 ⟨_,rfl⟩<|.mk (eW c1 _) ?_;refine ae (show(br (d6 bs) (here:Int)).getD (.ref w1.w.σ.length)=.ref lo from e1) ?_;refine .l (w2.at (.tail _ (.tail _ e2))) ⟨_,Ql hf (λ aa h=>h) e2 _ 0 T w2 (Nat.zero_add _) ht hhm λ T' w' mZ ⟨t,et⟩ hx=>?_⟩;refine ih (mP+1) T' (w'.sub (.append (.refl _) (.cons _ (.refl _)))) (bG hn (by simp+arith only)) (by refine ae et<|ae List.length_append ?_;exact Nat.le_trans dP (Nat.le_add_right ..)) mZ λ v hv z hz DX=>?_;have e3:(cC a T').take (mP+1)=(cC a T).take mP++[here]:=by refine ae et<|ae (List.take_append_of_le_length (dP))<|ae List.take_add_one<|ae hh ?_;rfl
   rw [e3]at hv;rcases List.mem_append.mp hv with hv|hv
   ·refine ae et ?_;exact List.mem_append_left _ (n6 v hv z hz DX)
   ·cases List.mem_singleton.mp hv;exact hx z hz DX
  ·rw [List.take_of_length_le ((Nat.le_of_not_lt dP))]at n6;exact Jd (Int.ofNat_le.mpr (Nat.le_of_not_lt dP))<|k T w ht (.inr n6)
end
end
section
open PySem
noncomputable def mQ(e:Nat×Bool):AV:=.tup [.int e.1,.bool e.2]
section
variable{C:PV} {D:Nat->Fn->Prop} {s:U} {H:Hp} {R:List Cell} {n a mM lc lr lf d y p l b:Nat} {m:AV} {f:Nat->List (Nat×Nat)} {bs:List (Nat×Nat)}
theorem LS.sI{x:String}{g:Fn}(w:LS H (WC y p l m b f bs++R))(h1:br (mO p l m b) x=none)(h2:vd .dO x=some g)(k:D y g):bu x w.w.σ D (.ref y):=.mk (w.at (.head _)) (w.at (.tail _ (.head _))) h1 h2 k
theorem XE{xs ys:List AV}(h:s[lf]?=some (.list xs))(e:xs.reverse=ys)(hz:ys.length<=10000)(k:C (.ref s.length) (s++[.list ys])):rC C (.ref lf) s:=by subst e;exact .l h (λ q=>nomatch q) (by rwa [D9]) (by rwa [D9])
theorem TA{T:List (Nat×Nat×Nat)}(hn:(cC a T).Nodup)(hz:T.length<=1000){TB:List (Nat×Nat×Nat)}(ht:Tree H.toCore H.aE n a TB):∀(nZ:List (Nat×Nat×Nat))(k v:Nat)(acc:List AV)(w:LS H ((lf,.list acc)::(kL lc lr a T++(WC y p l m b f bs++R)))),T=TB++nZ->TB.length<k->v∈cC a TB->acc.length+TB.length<=1000->
  (∀es(w':LS H ((lf,.list (acc++(es.map mQ).reverse))::(kL lc lr a T++(WC y p l m b f bs++R)))),Walk H.toCore H.aE n es a v->(es.map (·.1)).Nodup->(∀i∈es.map (·.1),i∈TB.map (·.2.2))->rC C (.ref lf) w'.w.σ)->o2 (O d) C (.int a) (.int v) (.ref lc) (.ref lf) (.ref y) k w.w.σ:=by
 induction ht with
 |nil=>
  intro nZ k v acc w e hk hv Nb c;obtain ⟨k,rfl⟩:∃k',k=k'+1:=⟨k -1,((Nat.sub_add_cancel (hk:(1)<=(k)))).symm⟩
  have:v=a:=by simpa [cC]using hv
  subst this;exact zx<|x6 rfl<|c [] (w.bz (.of_eq (by simp))) .nil .nil λ aa h=>h
 |@snoc ace v' h' i hT h1 h2 h3 h4 ih=>
  intro nZ k v acc w e hk hv Nb c;obtain ⟨k,rfl⟩:∃k',k=k'+1:=⟨k -1,Bx hk⟩
  simp only [List.length_append,List.length_cons,List.length_nil]at hk Nb;by_cases Gb:v=v'
  ·subst Gb;have hva:v≠a:=λ q=>h2 (by refine ae q ?_;exact .head _);have hg:br (lL a T) (v:Int)=some (.tup [.int h',.int i]):=cm_get hn (by refine ae e ?_;simp);obtain ⟨p1,u,x,r,p3,p4⟩:=jw.mp h3;have b_:v≠h':=λ q=>h2 (q▸h1);obtain ⟨back,tc,hb2⟩:∃back:Bool,(back=false/\u=h'/\x=v\/back=true/\x=h'/\u=v)/\gm 40 (.int u) (.int h') !back:=by
    rcases p4 with⟨rfl,rfl⟩|⟨rfl,rfl⟩
    ·exact ⟨false,.inl ⟨rfl,rfl,rfl⟩,gF (x5 rfl)⟩
    ·exact ⟨true,.inr ⟨rfl,rfl,rfl⟩,gF (Ja b_)⟩
   let w0:LS H (WC y p l m b f bs++R):=w.drop.sub (List.sublist_append_right _ _);have c1:=w.at (.head _)
   refine zx<|Jb hva<|.i (w.at (.tail _ (.head _))) hg<|.t<|.mk c1<|w0.iY<|w0.w.gf<|w0.w.Bf p3<|cL<|kJ hb2 ?_;rw [Bool.not_not];refine w.x8 (v:=mQ (i,back)) (bG Nb (by simp+arith only)) λ w=>ih ((v,h',i)::nZ) k h' _ w (by refine ae e ?_;exact List.append_assoc ..) (Nat.lt_of_succ_lt_succ hk) h1 (by simp;exact bG Nb (by simp+arith only)) λ es w a3 a4 a5=>c (es++[(i,back)]) (w.bz (.of_eq (by simp))) (a3.snoc p1 h4 p3 tc) ?_ ?_
   ·rw [List.map_append,List.nodup_append];refine ⟨a4,by simp,λ z hz y hy q=>?_⟩;simp at hy;have hx:=(hT.snoc h1 h2 h3 h4).idx;rw [List.map_append,List.nodup_append]at hx;exact hx.2.2 z (a5 z hz) i (.head _) (q.trans hy)
   ·intro j hj;rw [List.map_append]at hj⊢;rcases List.mem_append.mp hj with q|q
    ·exact List.mem_append_left _ (a5 j q)
    ·exact List.mem_append_right _ (q)
  ·have lF:v∈cC a ace:=by
    rw [kY]at hv;rcases List.mem_append.mp hv with q|q
    ·exact q
    ·simp at q;exact absurd q Gb
   exact ih ((v',h',i)::nZ) (k+1) v acc w (by refine ae e ?_;exact List.append_assoc ..) (Nat.le_of_lt hk) lF (Nat.le_of_lt Nb) λ es w a3 a4 a5=>c es w a3 a4 λ j hj=>by refine ae List.map_append ?_;exact List.mem_append_left _ (a5 j hj)
theorem TC{C:Core}{F:List Nat}{T:List (Nat×Nat×Nat)}(hc:∀v∈cC a T,∀x∈eX C F v,x.1<n->x.2∈cC a T){c:Nat}(h:eF C F n a c):c∈cC a T:=by
 induction h with
 |refl=>exact .head _
 |step _ h1 h2 ih=>exact hc _ ih _ h1 h2
theorem TF(w:WS H y p l R)(hf:dc H)(hi:∀i∈H.aE,i<H.au.length)(hc:eF H.toCore H.aE n a mM)(k:∀lf es(w:WN H y p l ((lf,.list (es.map mQ))::R)),Walk H.toCore H.aE n es a mM->(es.map (·.1)).Nodup->C (.ref lf) w.w.w.σ):
  (O (d+5)).call .path [.ref y,.int a,.int mM,.int n] w.w.w.σ C:=by
 refine Wv<|w.w.sI rfl rfl<|JB w hf hi λ w=>?_;obtain ⟨b,bs,w,ok⟩:=w;have Ad:=hf.aE;let w1:=w.new (.dI []);let w2:=w1.put (.dI [((a:Nat),.tup [])]);refine ⟨w1.at (.head _),w2.qh _ λ lr w3=>.t ⟨903,JD (lr:=lr) hf ok (λ T w ht G4=>?_) 903 0 [] (w3.bz (.swap _ _ _)) (Nat.lt_succ_self _) (Nat.zero_le _) .nil λ aa h=>nomatch h⟩⟩;have hm:mM∈cC a T:=G4.elim id λ q=>TC q hc;have qV:=ht.len;refine D_ (w.at (.head _)) (λ q=>absurd hm q) λ aa=>w.qh _ λ lf w=>⟨1000,TA ht.nodup (nc (Nat.le_trans qV Ad) rfl) ht [] 1000 mM [] w (List.append_nil _).symm (eG (Nat.le_trans qV Ad) rfl) hm (by simp;exact nc (Nat.le_trans qV Ad) rfl) λ es w hw hn hT=>?_⟩
 have jV:es.length<=T.length:=by have:=jx hn hT;simpa using this
 refine XE (w.at (.head _)) (ys:=es.map mQ) (by simp) (by simp;exact e_ Ad qV jV (by simp+arith only)) ?_;exact k _ es ⟨b,bs,((w.new (.list (es.map mQ))).sub (R':=_::(WC y p l (kX H) b (eX H.toCore H.aE) bs++R)) (.cons₂ _ (.cons _ (List.sublist_append_right _ _)))).bz List.perm_middle.symm,ok⟩ hw hn
end
end
section
set_option genInjectivity false
set_option genSizeOf false
open PySem
noncomputable def d0:Nat->Nat
 |0=>0
 |n+1=>d0 n+3^n
theorem D'(n:Nat):d0 (n+1)=d0 n+3^n:=rfl
theorem Ea(n:Nat):2*d0 n+1=3^n:=by
 induction n with
 |zero=>rfl
 |succ n ih=>rw [D',Nat.pow_succ];exact Nat.le_antisymm (bG (bI ih) (by simp+arith only)) (bG (bP ih) (by simp+arith only))
noncomputable def cost(es:List (Nat×Bool)):Nat:=(es.map λ e=>3^e.1).sum
theorem jy(l:List Nat)(f:Nat->Nat)(n:Nat)(h:n∈l):(l.map f).sum=f n+((l.erase n).map f).sum:=by
 induction l with
 |nil=>simp at h
 |cons a l ih=>
  by_cases e:a=n
  ·subst e;simp
  ·refine ae (List.erase_cons_tail (by simpa using e)) ?_;rcases List.mem_cons.mp h with q|q
   ·exact absurd q.symm e
   ·simp only [List.map_cons,List.sum_cons,ih q];exact Nat.add_left_comm ..
theorem TG:∀(n:Nat)(l:List Nat),l.Nodup->(∀i∈l,i<n)->(l.map (3^·)).sum<=d0 n:=by
 intro bD;induction bD with
 |zero=>
  intro l zz h;cases l with
  |nil=>exact Nat.le_refl _
  |cons a r=>have:=h a (.head _);lia
 |succ n ih=>
  intro l hn h;by_cases hm:n∈l
  ·refine ae (jy l _ n hm) ?_;have:=ih (l.erase n) (hn.erase n) λ i hi=>by
    have h1:=h i (List.mem_of_mem_erase hi);have:i≠n:=λ e=>by rw [e]at hi;exact (List.Nodup.not_mem_erase hn) hi
    lia
   rw [D'];exact bG this (by simp+arith only)
  ·have:=ih l hn λ i hi=>by have h1:=h i hi;have:i≠n:=λ e=>hm (e▸hi);lia
   rw [D'];exact Nat.le_trans this (Nat.le_add_right _ _)
theorem Chain.snoc{Pr:Nat->AV->Nat->Nat->Prop}{s:Nat}{ps:List AV}{a x:Nat}(h:Chain Pr s ps a x):∀{m:Nat}{p:AV}{c:Nat},Pr m p x c->Chain Pr (s+m) (ps++[p]) a c:=by
 induction h with
 |nil=>intro m p c h;rw [Nat.zero_add];exact .cons h .nil
 |cons h1 _ ih=>intro m p c h;rw [Nat.add_assoc];exact .cons h1 (ih h)
theorem Walk.lt{C:Core}{F:List Nat}{n:Nat}{es:List (Nat×Bool)}{a c:Nat}(h:Walk C F n es a c):∀i∈es.map (·.1),i<n:=by
 induction h with
 |nil=>simp
 |cons _ h2 _ _ _ ih=>intro i hi;simp only [List.map_cons,List.mem_cons]at hi;rcases hi with rfl|hi;exact h2;exact ih i hi
structure yg(H:Hp):Prop where
 fit:dc H
 below:Below H.nodes
 w_:H.nodes.length<=60
 aE:∀i∈H.aE,i<H.au.length
 short:H.au.length<=8
 ends:∀(i a b:Nat)(r:Option String),H.au[i]?=some (a,b,r)->a<H.nodes.length/\b<H.nodes.length
 lC:∀(i a b:Nat),H.au[i]?=some (a,b,none)->∃ka kb,H.nodes[a]?=some ka/\H.nodes[b]?=some kb/\ka.1=kb.1/\ka.2.length=kb.2.length/\ka.2.length<=2/\∀(j x y:Nat),ka.2[j]?=some x->kb.2[j]?=some y->eF H.toCore H.aE i x y
section
variable{A:U->Prop} {H:Hp} {R:List Cell} {y p l k:Nat}
theorem WS.at(w:WS H y p l R){ao:AO}(h:(k,ao)∈R):w.w.w.σ[k]?=some ao:=w.w.at (List.mem_append_right _ h)
noncomputable def WS.sub{R':List Cell}(w:WS H y p l R)(q:R'.Sublist R):WS H y p l R':=⟨w.g,w.w.sub (.append (.refl _) q),w.ok,w.rZ⟩
noncomputable def WS.bz{R':List Cell}(w:WS H y p l R)(q:R.Perm R'):WS H y p l R':=⟨w.g,w.w.bz (.append_left _ q),w.ok,w.rZ⟩
noncomputable def WS.put{old:AO}(w:WS H y p l ((k,old)::R))(x:AO):WS H y p l ((k,x)::R):=⟨w.g,w.w.setAt x,w.ok,w.rZ⟩
noncomputable def WS.new(w:WS H y p l R)(x:AO):WS H y p l ((w.w.w.σ.length,x)::R):=⟨w.g,(w.w.new x).bz List.perm_middle.symm,w.ok,w.rZ⟩
theorem WS.x8{xs:List AV}{v:AV}(w:WS H y p l ((k,.list xs)::R))(h:xs.length<10000)(c:∀w':WS H y p l ((k,.list (xs++[v]))::R),A w'.w.w.σ):bO v w.w.w.σ A k:=.mk (w.at (.head _)) h (c (w.put _))
theorem WS.Qm(w:WS H y p l R)(x:Nat)(c:∀w':WS H y x l R,A w'.w.w.σ):bw "parts" (.int x) w.w.w.σ A (.ref y):=
 w.w.R6 (by kernel_rfl) (by kernel_rfl) (c ⟨w.g,LS.setAt (A:=[(y,.inst .dO)]) w.w (.dS (mO x l w.g.m w.g.b)),w.ok,w.rZ⟩)
theorem WS.Eb(w:WS H y p l R)(x:Nat)(c:∀w':WS H y p x R,A w'.w.w.σ):bw "level" (.int x) w.w.w.σ A (.ref y):=
 w.w.R6 (by kernel_rfl) (by kernel_rfl) (c ⟨w.g,LS.setAt (A:=[(y,.inst .dO)]) w.w (.dS (mO p x w.g.m w.g.b)),w.ok,w.rZ⟩)
end
def Y2(H:Hp)(a:Nat)(v:AV):Option String->Prop
 |some lb=>v=.tup [.str "told",.str lb]
 |none=>∃ka ps,v=.tup [.str "under",.str ka.1,.tup ps]/\H.nodes[a]?=some ka/\ps.length=ka.2.length
def Bo(H:Hp)(D i:Nat):Prop:=∀(y p l:Nat)(R:List Cell)(a b:Nat)(r:Option String)(w:WS H y p l R){C:PV},H.au[i]?=some (a,b,r)->p+3^i<=20000->l+i<100->
 (∀v p'(w':WS H y p' l R),p'<=p+3^i->fz H.toCore (i+1) (5*i+5) (3^i) v a b->Y2 H a v r->C v w'.w.w.σ)->(O D).call .By [.ref y,.int i] w.w.w.σ C
def JE(H:Hp)(D n:Nat):Prop:=∀(y p l:Nat)(R:List Cell)(a b:Nat)(w:WS H y p l R){C:PV},eF H.toCore H.aE n a b->a<H.nodes.length->p+d0 n<=20000->l+n<=100->
 (∀v p'(w':WS H y p' l R),p'<=p+d0 n->fz H.toCore n (5*n+4) (d0 n) v a b->C v w'.w.w.σ)->(O D).call .between [.ref y,.int a,.int b,.int n] w.w.w.σ C
section
variable{C:PV} {H:Hp} {R:List Cell} {y l n D lf fo a c:Nat}
theorem Qo(hE:∀i,i<n->Bo H D i)(all:List (Nat×Bool))(mf:(lf,.list (all.map mQ))∈R)(hl:l+n<=100):∀(es:List (Nat×Bool))(j x p s:Nat)(acc:List AV)(w:WS H y p l ((fo,.list acc)::R)),all.drop j=es->acc.length+es.length<=1000->Walk H.toCore H.aE n es x c->Chain (fz H.toCore n (5*n+1)) s acc a x->p+cost es<=20000->
  (∀p' gB(w':WS H y p' l ((fo,.list gB)::R)),p'<=p+cost es->gB.length=acc.length+es.length->Chain (fz H.toCore n (5*n+1)) (s+cost es) gB a c->tL (O D) C (.int a) (.ref fo) (.ref y) w'.w.w.σ)->
  gX (O D) C (.int a) (.ref fo) (.ref y) (es.length+1) (.list lf j) w.w.w.σ:=by
 intro bD;induction bD with
 |nil=>
  intro j x p s acc w hd hz hw hc hp k;cases hw;exact rF<|.le (w.at (.tail _ mf)) (by rw [List.length_map];exact List.drop_eq_nil_iff.mp hd)<|k p acc w (Nat.le_add_right _ _) rfl hc
 |cons e es ih=>
  intro j x p s acc w hd hz hw hc hp k;simp only [List.length_cons]at hz;have vB:j<all.length:=by apply Nat.lt_of_not_le;intro q;rw [List.drop_eq_nil_iff.mpr q]at hd;cases hd
  rw [List.drop_eq_getElem_cons vB]at hd;simp only [List.cons.injEq]at hd;obtain ⟨hd1,hd2⟩:=hd;have hg:all[j]?=some e:=ae (List.getElem?_eq_getElem vB)<|ae hd1 rfl;cases hw with
  |@cons i _ x' _ u v r back _ m1 m2 m3 m4 m5=>
  have ec:cost ((i,back)::es)=3^i+cost es:=rfl;rw [ec]at hp k;refine rF<|.ls (w.at (.tail _ mf)) (x:=mQ (i,back)) (by refine ae List.getElem?_map<|ae hg ?_;rfl)<|.t<|w.w.sI rfl rfl<|hE i m2 y p l _ u v r w m3 (bG hp (by simp+arith only)) (cI hl m2 (by simp+arith only)) λ pv p1 w xa qk aa=>.mk (w.at (.head _)) ?_;have hm:=qk.mono (n':=n) (d':=5*n) (m2) (by lia) (Nat.le_refl _);have nx:∀nv,fz H.toCore n (5*n+1) (3^i) nv x x'->bO nv w.w.w.σ (gX (O D) C (.int a) (.ref fo) (.ref y) (es.length+1) (.list lf (j+1))) fo:=λ nv hnv=>w.x8 (bG hz (by simp+arith only)) λ w=>ih (j+1) x' p1 (s+3^i) _ w hd2 (by simp;exact bG hz (by simp+arith only)) m5 (hc.snoc hnv) (cI hp xa (by simp+arith only)) λ p2 Qp w h1 h2 h3=>k p2 Qp w (cI xa h1 (by simp+arith only)) (by refine ae h2 ?_;simp;exact Nat.add_right_comm ..) (by rw [<-Nat.add_assoc];exact h3)
  rcases m4 with⟨rfl,rfl,rfl⟩|⟨rfl,rfl,rfl⟩
  ·exact nx _ (hm.mono (Nat.le_refl _) (Nat.le_succ _) (Nat.le_refl _))
  ·exact nx _ (.turn hm)
theorem JF(hj:yg H)(hn:n<=H.au.length)(hE:∀i,i<n->Bo H (D+5) i):JE H (D+6) n:=by
 intro y p l R a b w C hc ha hp hl k;let w1:=w.new (.list []);refine Mr<|w1.w.sI rfl rfl<|TF w1 hj.fit hj.aE hc λ lf es w2 hw hn2=>?_;have dP:=hw.lt;have hlen:es.length<=n:=by have:=ky hn2 dP;simpa using this
 have hs:=hj.short;have JG:cost es<=d0 n:=by have:=TG n _ hn2 dP;simpa [cost,Function.comp_def]using this
 refine .l (w2.st.at (.head _)) ⟨_,Qo hE es (.head _) hl es 0 a p 0 [] (w2.st.bz (.swap _ _ _)) rfl (by simp;exact cI hlen hl (by simp+arith only)) hw .nil (cI hp JG (by simp+arith only)) λ p' acc w iW vy xb=>?_⟩;simp only [List.length_nil,Nat.zero_add]at vy;exact w.w.iY<|D6 w.w hj.fit hj.w_ hj.below ha (List.mem_append_right _ (.head _)) (Bw hn hlen hs (bI vy) (by simp+arith only)) xb λ v qk w3=>k v p' (WS.sub ⟨w.g,w3,w.ok,w.rZ⟩ (.cons _ (.cons _ (.refl _)))) (cI iW JG (by simp+arith only)) (qk.mono (Nat.le_refl _) (Nat.le_refl _) (bG JG (by simp+arith only)))
end
end
section
open PySem
noncomputable def zC(z:Nat)(xs ys:List AV)(j:Nat):List Cell:=[(z,.zip),(z+1,.bY xs j),(z+2,.bY ys j),(z+3,.fD)]
section
variable{C:PV} {Q:U->Prop} {H:Hp} {R:List Cell} {y p l i D z la:Nat}
noncomputable def WS.setAt{A B:List Cell}{k:Nat}{old:AO}(w:WS H y p l (A++(k,old)::B))(x:AO):WS H y p l (A++(k,x)::B):=
 ⟨w.g,((w.w.bz (.of_eq (List.append_assoc ..).symm)).setAt x).bz (.of_eq (List.append_assoc ..)),w.ok,w.rZ⟩
theorem WS.zip(w:WS H y p l R){xs ys:List AV}(hlen:xs.length=ys.length)(k:∀z(w':WS H y p l (zC z xs ys 0++R)),C (.ref z) w'.w.w.σ):B6 w.w.w.σ C [.tup xs,.tup ys]:=by
 let w5:WS H y p l (zC w.w.w.σ.length xs ys 0++R):=((((w.new .zip).new (.bY xs 0)).new (.bY ys 0)).new .fD).bz (by refine (?_:List.Perm (((w.w.w.σ++[AO.zip]++[AO.bY xs 0]++[AO.bY ys 0]).length,AO.fD)::((w.w.w.σ++[AO.zip]++[AO.bY xs 0]).length,AO.bY ys 0)::((w.w.w.σ++[AO.zip]).length,AO.bY xs 0)::(w.w.w.σ.length,AO.zip)::R) _);simp only [List.append_assoc,List.length_append,List.length_cons,List.length_nil,List.cons_append,List.nil_append];exact (List.reverse_perm [((w.w.w.σ.length,AO.zip):Cell),(w.w.w.σ.length+1,AO.bY xs 0),(w.w.w.σ.length+2,AO.bY ys 0),(w.w.w.σ.length+3,AO.fD)]).append_right R)
 have e:w5.w.w.σ=w.w.w.σ++[.zip,.bY xs 0,.bY ys 0,.fD]:=show w.w.w.σ++[AO.zip]++[AO.bY xs 0]++[AO.bY ys 0]++[AO.fD]=_ by simp
 exact .mk hlen (e▸k _ w5)
theorem Qq{ka kb:Node}(hB:JE H D i)(hl:l+i<=100)(hlen:ka.2.length=kb.2.length)
  (hc:∀(j x y:Nat),ka.2[j]?=some x->kb.2[j]?=some y->eF H.toCore H.aE i x y/\x<H.nodes.length):
  ∀(k j p:Nat)(acc:List AV)(w:WS H y p l (zC z (nl ka.2) (nl kb.2) j++(la,.list acc)::R)),j+k=ka.2.length->acc.length=j->p+k*d0 i<=20000->j+k<=100->
   (∀(t:Nat)(v:AV)(x y:Nat),acc[t]?=some v->ka.2[t]?=some x->kb.2[t]?=some y->fz H.toCore i (5*i+4) (d0 i) v x y)->
   (∀p' gB(w':WS H y p' l ((la,.list gB)::R)),p'<=p+k*d0 i->gB.length=ka.2.length->(∀(t:Nat)(v:AV)(x y:Nat),gB[t]?=some v->ka.2[t]?=some x->kb.2[t]?=some y->fz H.toCore i (5*i+4) (d0 i) v x y)->Q w'.w.w.σ)->
   lU (O D) (.int i) (.ref y) (k+1) (.zip z) la w.w.w.σ Q:=by
 intro bD;induction bD with
 |zero=>
  intro j p acc w hj gZ hp zz qk c;exact tM<|.e (w.at (.head _)) (w.at (.tail _ (.head _))) (w.at (.tail _ (.tail _ (.head _)))) (w.at (.tail _ (.tail _ (.tail _ (.head _))))) (List.getElem?_eq_none (by rw [cx];exact (bP hj)))<|
   c p acc ((WS.setAt (A:=[(z,.zip)]) w .dead).sub (.cons _ (.cons _ (.cons _ (.cons _ (.refl _)))))) (Nat.le_add_right _ _) (Nat.le_antisymm (Nat.le_trans (bI gZ) (bI hj)) (Nat.le_trans (bP hj) (bP gZ))) qk
 |succ k ih=>
  intro j p acc w hj gZ hp hz qk c;have hx:=List.getElem?_eq_getElem (l:=ka.2) (i:=j) (ml (bI hj));have hy:=List.getElem?_eq_getElem (l:=kb.2) (i:=j) (cI (bI hlen) (bI hj) (by simp+arith only));generalize ka.2[j]'_=x at hx;generalize kb.2[j]'_=x' at hy;obtain ⟨qI,Cb⟩:=hc j x x' hx hy;have es:(k+1)*d0 i=k*d0 i+d0 i:=Nat.succ_mul _ _;rw [es]at hp c;let w1:=WS.setAt (A:=[(z,.zip)]) w (.bY (nl ka.2) (j+1));let w2:=WS.setAt (A:=[(z,.zip),(z+1,.bY (nl ka.2) (j+1))]) w1 (.bY (nl kb.2) (j+1));refine tM<|.s (w.at (.head _)) (w.at (.tail _ (.head _))) (w.at (.tail _ (.tail _ (.head _)))) (w.at (.tail _ (.tail _ (.tail _ (.head _))))) (gU hx) (gU hy)<|.t<|w2.w.sI rfl rfl<|hB y p l _ x x' w2 qI Cb (bG hp (by simp+arith only)) hl λ v p1 w3 xa kZ=>?_;refine .mk (w3.at (List.mem_append_right (zC z (nl ka.2) (nl kb.2) (j+1)) (.head _))) (cI (bI gZ) hz (by simp+arith only)) ?_;refine ih (j+1) p1 (acc++[v]) (WS.setAt (A:=zC z (nl ka.2) (nl kb.2) (j+1)) w3 _) (Nat.le_antisymm (bG (bI hj) (by simp+arith only)) (bG (bP hj) (by simp+arith only))) (by simp [gZ]) (cI hp xa (by simp+arith only)) (bG hz (by simp+arith only)) (λ t u a b ht ha hb=>?_) λ p2 Qp w h1 h2 h3=>c p2 Qp w (cI xa h1 (by simp+arith only)) h2 h3;by_cases q:t<acc.length
  ·rw [List.getElem?_append_left q]at ht;exact qk t u a b ht ha hb
  ·have:t=j:=by have:=(List.getElem?_eq_some_iff.mp ht).1;simp at this;exact Nat.le_antisymm (cI (bI gZ) this (by simp+arith only)) (Nat.le_trans (bP gZ) (Nat.le_of_not_lt q))
   subst this;rw [List.getElem?_append_right ((Nat.le_of_not_lt q)),gZ]at ht;simp at ht;subst ht;rw [hx]at ha;rw [hy]at hb;cases ha;cases hb;exact kZ
theorem Nc(hj:yg H)(hB:JE H (D+1) i):Bo H (D+2) i:=by
 intro y p l R a b r w C he hp hl k;have hs:=hj.short;have gL:i<H.au.length:=(List.getElem?_eq_some_iff.mp he).1;have Ec:=Ea i;refine Pw<|w.w.G3<|pF<|w.Qm (p+1) λ w=>w.w.G3<|jM (by lia)<|w.w.iY<|w.w.w.gf<|w.w.w.Bf he<|.t ?_;cases r with
 |some lb=>exact cL<|kJ (b:=false) (by first|exact eU (by decide)|exact eU (beq_self_eq_true _)|exact hJ.nn|exact gF (decide_eq_true rfl)|exact Ed _ _ _)<|w.w.iY<|yc w.w he<|k _ (p+1) w (bG (bI Ec) (by simp+arith only)) (.told he (Nat.lt_succ_self _) (ji (bI Ec))) rfl
 |none=>
  obtain ⟨ka,kb,lI,R9,jT,hlen,yA,qI⟩:=hj.lC i a b he;refine cL<|kJ (b:=true) (by first|exact eU (by decide)|exact eU (beq_self_eq_true _)|exact hJ.nn|exact gF (decide_eq_true rfl)|exact Ed _ _ _)<|w.w.yf<|pF<|w.Eb (l+1) λ w=>w.w.yf<|jM (by lia)<|w.w.iY<|w.w.w.gT<|w.w.w.ow<|mh w.w.w lI<|
   w.w.iY<|w.w.w.gT<|w.w.w.ow<|mh w.w.w R9<|w.zip (by rw [cx,cx];exact hlen) λ z w=>w.w.iY<|w.w.w.gT<|w.w.w.PO<|Jg w.w.w lI<|.mk (w.at (.head _)) ?_
  have hm:ka.2.length*d0 i<=2*d0 i:=Nat.mul_le_mul_right _ yA;refine ⟨_,Qq hB (bG hl (by simp+arith only)) hlen (λ j x x' hx hy=>⟨qI j x x' hx hy,?_⟩) ka.2.length 0 (p+1) [] ((w.new (.list [])).bz (R':=zC z (nl ka.2) (nl kb.2) 0++(w.w.w.σ.length,.list [])::R) List.perm_middle.symm) (Nat.add_comm ..) rfl (e_ hp (bI Ec) hm (by simp+arith only)) (nc (Nat.add_le_add_left yA _) rfl) (λ t v x y h=>nomatch h) λ p' acc w iW gZ qk=>?_⟩
  ·have:=hj.below a ka lI x (List.mem_of_getElem? hx);have:=(hj.ends i a b none he).1;lia
  refine .l (w.at (.head _))<|w.w.yf<|kq rfl<|w.Eb l λ w=>k _ p' (w.sub (.cons _ (.refl _))) (e_ (bI Ec) hm iW (by simp+arith only)) ?_ ⟨ka,acc,rfl,lI,gZ⟩;exact .under he (Nat.lt_succ_self _) lI R9 jT hlen gZ (Nat.le_trans (bI gZ) yA) (k:=d0 i) (Nat.le_of_lt (bI Ec)) qk
theorem Ee(hj:yg H):∀i,i<H.au.length->∀D,Bo H (2*i+8+D) i:=by
 intro i;induction i using Nat.strongRecOn with
 |ind i ih=>intro hi D;refine ae (show 2*i+8+D=(2*i+6+D)+2 by simp+arith only) ?_;refine Nc hj ?_;refine ae (show 2*i+6+D+1=(2*i+1+D)+6 by simp+arith only) ?_;refine JF hj (Nat.le_of_lt hi) λ j vB=>?_;refine ae (show 2*i+1+D+5=2*j+8+(2*(i -1 -j)+D) by lia) ?_;exact ih j vB (Nat.lt_trans vB hi) _
end
end
section
set_option genInjectivity false
set_option genSizeOf false
open PySem
def Ef(C:Core)(n:Nat)(ls:List String):Prop:=∀lb∈ls,∃i a b,i<n/\C.au[i]?=some (a,b,some lb)
def mR(C:Core)(n D m:Nat)(v:AV):Prop:=∀(σ:U){P:PV},(∀l t ls,(σ++t)[l]?=some (.list (ls.map .str))->ls.length<=m->Ef C n ls->P (.ref l) (σ++t))->(O D).call .kM [v] σ P
inductive yh(P:Nat->AV->Prop):Nat->List AV->Prop
 |nil:yh P 0 []
 |cons {m k:Nat} {v:AV} {vs:List AV}:P m v->yh P k vs->yh P (m+k) (v::vs)
section
variable{C:Core} {n D:Nat} {P:PV}
theorem G5{Nd:U}:∀(vs:List AV)(s:Nat),yh (mR C n D) s vs->∀(acc:List String)(t:U),acc.length+s<=9000->Ef C n acc->
  (∀(gB:List String)(t':U),gB.length<=acc.length+s->Ef C n gB->P (.ref Nd.length) (Nd++AO.list (gB.map .str)::t'))->lX (O D) P (.ref Nd.length) (vs.length+1) (.tup vs) (Nd++AO.list (acc.map .str)::t)
 |_,_,.nil,acc,t,hz,ha,k=>tT<|.te<|k acc t (Nat.le_refl _) ha
 |v::vs,_,.cons (m:=m) (k:=s) h1 h2,acc,t,hz,ha,k=>by
  refine tT<|.ts<|.mk (l:=Nd.length) (xs:=acc.map .str) (by simp)<|h1 _ λ l t' ls hl G6 Eg=>.mk (xs:=acc.map .str) (by simp) hl (by simp;exact cI G6 hz (by simp+arith only)) ?_;have es:(Nd++AO.list (acc.map .str)::t++t').set Nd.length (.list (acc.map .str++ls.map .str))=Nd++AO.list ((acc++ls).map .str)::(t++t'):=by rw [List.append_assoc,List.set_append_right _ _ (Nat.le_refl _)];simp
  refine ae es ?_;exact G5 vs s h2 (acc++ls) (t++t') (by simp;exact cI hz G6 (by simp+arith only)) (λ lb hm=>(List.mem_append.mp hm).elim (ha lb) (Eg lb)) λ gB t2 h3 h4=>k gB t2 (by simp at h3;exact cI G6 h3 (by simp+arith only)) h4
theorem mR.mono{n' m m':Nat}{v:AV}(h:mR C n D m v)(hn:n<=n')(hm:m<=m'):mR C n' D m' v:=λ σ P k=>h σ λ l t ls hl G6 Eg=>k l t ls hl (Nat.le_trans G6 hm) λ lb q=>by obtain ⟨i,a,b,h1,h2⟩:=Eg lb q;exact ⟨i,a,b,Nat.lt_of_lt_of_le h1 hn,h2⟩
theorem Eh{x y z:String}(c d:Bool)(h1:(y==x)=c)(h2:(z==x)=d):jb (.str x) [.str y,.str z] (c||(d||false)):=.cons rfl (eU h1) (.cons rfl (eU h2) .nil)
theorem mS{vs:List AV}{s:Nat}{kind:String}{r:List AV}(hk:jb (.str kind) [.str "same",.str "told"] false)(hp:(kind="under"/\∃x,r=[x,.tup vs])\/(kind=="under")=false/\r=vs)(hz:s<=9000)(h:yh (mR C n D) s vs):mR C n (D+1) s (.tup (.str kind::r)):=by
 intro σ P k;refine uK<|cL<|.tu hk ?_;have nx:pj (O D) P (.ref σ.length) (.tup vs) (σ++[AO.list []]):=.t ⟨_,G5 vs s h [] [] (by simpa using hz) (λ aa h=>nomatch h) λ acc t h1 h2=>k σ.length (AO.list (acc.map .str)::t) acc (by simp) (by simpa using h1) h2⟩;refine (?_:wJ (O D) P (.ref σ.length) _ (σ++[AO.list []]));rcases hp with⟨rfl,x,rfl⟩|⟨b_,rfl⟩
 ·exact cL<|i9<|wN nx
 ·exact cL<|gH b_<|lZ nx
theorem Fs{x:AV}:mR C n (D+1) 0 (.tup [.str "same",x]):=λ σ P k=>uK<|cL<|.tu (b:=true) (Eh true false (by decide) (by decide))<|cL<|gH (by decide)<|k σ.length [.list []] [] (by simp) (Nat.le_refl _) λ aa h=>nomatch h
theorem Ft{l:String}{i a b:Nat}(h:C.au[i]?=some (a,b,some l))(hi:i<n):mR C n (D+1) 1 (.tup [.str "told",.str l]):=λ σ P k=>uK<|cL<|.tu (b:=true) (Eh false true (by decide) (by decide))<|cL<|i9<|eA<|k σ.length [.list [.str l]] [l] (List.getElem?_concat_length ..) (Nat.le_refl _) (by intro lb hm;cases List.mem_singleton.mp hm;exact ⟨i,a,b,hi,h⟩)
theorem Nf{d m:Nat}{p:AV}{a b:Nat}(h:fz C n d m p a b):∀{D:Nat},m<=9000->d<D->mR C n D m p:=by
 induction h with
 |told h1 h2 h3=>
  intro D hm hd;obtain ⟨D,rfl⟩:∃e,D=e+1:=⟨D -1,((Nat.sub_add_cancel (ji hd:(1)<=(D)))).symm⟩
  exact (Ft h1 h2).mono (Nat.le_refl _) h3
 |same h1=>
  intro D hm hd;obtain ⟨D,rfl⟩:∃e,D=e+1:=⟨D -1,((Nat.sub_add_cancel (ji hd:(1)<=(D)))).symm⟩
  exact Fs.mono (Nat.le_refl _) (Nat.zero_le _)
 |@join n d m k a b c p q _ _ vR qu=>
  intro D hm hd;obtain ⟨D,rfl⟩:∃e,D=e+1:=⟨D -1,Bx hd⟩
  exact mS (Eh false false (by decide) (by decide)) (.inr ⟨by decide,rfl⟩) hm (.cons (vR (Bv hm) (Nat.lt_of_succ_lt_succ hd)) (.cons (k:=0) (qu (ji hm) (Nat.lt_of_succ_lt_succ hd)) .nil))
 |@turn n d m a b p _ ih=>
  intro D hm hd;obtain ⟨D,rfl⟩:∃e,D=e+1:=⟨D -1,Bx hd⟩
  exact mS (Eh false false (by decide) (by decide)) (.inr ⟨by decide,rfl⟩) hm (.cons (k:=0) (ih hm (Nat.lt_of_succ_lt_succ hd)) .nil)
 |@under n d m k i a b ka kb ps h1 h2 h3 h4 h5 h6 h7 h8 h9 _ ih=>
  intro D hm hd;obtain ⟨D,rfl⟩:∃e,D=e+1:=⟨D -1,Bx hd⟩
  have jV:∀j p,ps[j]?=some p->mR C n D k p:=λ j p hj=>by have vB:=(List.getElem?_eq_some_iff.mp hj).1;exact (ih j p _ _ hj (List.getElem?_eq_getElem (Nat.lt_of_lt_of_le vB (bI h7))) (List.getElem?_eq_getElem (e_ (bI h6) (bI h7) vB (by simp+arith only))) (cI hm h9 (by simp+arith only)) (Nat.lt_of_succ_lt_succ hd)).mono (Nat.le_of_lt h2) (Nat.le_refl _)
  have hl:∃s,s<=m/\yh (mR C n D) s ps:=by
   match ps,h8,jV with
   |[],_,_=>exact ⟨0,Nat.zero_le _,.nil⟩
   |[p],_,jV=>exact ⟨k+0,bG h9 (by simp+arith only),.cons (jV 0 p rfl) .nil⟩
   |[p,q],_,jV=>exact ⟨k+(k+0),bG h9 (by simp+arith only),.cons (jV 0 p rfl) (.cons (jV 1 q rfl) .nil)⟩
   |_::_::_::_,h8,_=>simp at h8
  obtain ⟨s,hs,hl⟩:=hl;exact (mS (Eh false false (by decide) (by decide)) (.inl ⟨rfl,_,rfl⟩) (Nat.le_trans hs hm) hl).mono (Nat.le_refl _) hs
end
end
section
set_option genInjectivity false
set_option genSizeOf false
open PySem
theorem JH{α:Type}{C:PV}{σ:U}(run:Nat->aL->Nat->U->(U->Prop)->Prop){lr:Nat}(ks:List α)(g f:α->AV)(hl:σ[lr]?=some (.list (ks.map g)))(hz:ks.length<10000)(he:∀n l s Q,s[lr]?=some (.list (ks.map g))->Q s->run (n+1) (.list lr ks.length) l s Q)
  (hs:∀x i n l t Q,(ks.map g)[i]?=some (g x)->x∈ks->(σ++t)[lr]?=some (.list (ks.map g))->(∀t',bO (f x) (σ++t++t') (λ s=>run n (.list lr (i+1)) l s Q) l)->run (n+1) (.list lr i) l (σ++t) Q)
  (k:∀l t,(σ++t)[l]?=some (.list (ks.map f))->C (.ref l) (σ++t)):d7 σ C λ n l s Q=>run n (.list lr 0) l s Q:=by
 have cg:=Jy (σ:=σ) (C:=C) (λ us l acc s=>(σ.length<=l/\s[l]?=some (.list acc))/\(∃t,s=σ++t)/\∃pre,ks=pre++us/\acc=pre.map f) run (λ us=>.list lr (ks.length -us.length)) ks
  (λ n l acc s Q ⟨_,⟨t,e⟩,_⟩ q=>he _ _ _ _ (e▸eW hl t) q) ?_ ⟨⟨Nat.le_refl _,List.getElem?_concat_length ..⟩,⟨_,rfl⟩,[],rfl,rfl⟩ ?_
 ·rw [Nat.sub_self]at cg;exact cg
 ·rintro x us n l acc s Q ⟨⟨h1,h2⟩,⟨t,rfl⟩,pre,e,rfl⟩ q;have hi:ks.length -(x::us).length=pre.length:=by refine ae e<|ae List.length_append ?_;exact Nat.le_antisymm (Nat.le_of_add_le_add_right (bI (Nat.sub_add_cancel (Nat.le_add_left ..:((x::us).length)<=(pre.length+(x::us).length))))) (Nat.le_of_add_le_add_right (bP (Nat.sub_add_cancel (Nat.le_add_left ..:((x::us).length)<=(pre.length+(x::us).length)))))
  have Xx:ks.length -us.length=pre.length+1:=by refine ae e<|ae List.length_append<|ae List.length_cons ?_;exact Nat.le_antisymm (bG (bI (Nat.sub_add_cancel (by simp+arith only:(us.length)<=(pre.length+(us.length+1))))) (by simp+arith only)) (bG (bP (Nat.sub_add_cancel (by simp+arith only:(us.length)<=(pre.length+(us.length+1))))) (by simp+arith only))
  have hp:pre.length<ks.length:=by refine ae e<|ae List.length_append<|ae List.length_cons ?_;exact Nat.lt_add_of_pos_right (Nat.succ_pos _)
  refine ae hi ?_;rw [Xx]at q;refine hs x _ _ _ _ _ (by refine ae e ?_;simp) (by refine ae e ?_;exact List.mem_append_right _ (.head _)) (eW hl t) λ t'=>.mk (eW h2 t') (by simp;exact Nat.lt_trans hp hz) (q _ _ ⟨⟨h1,List.getElem?_set_self (List.getElem?_eq_some_iff.mp (eW h2 t')).1⟩,⟨(t++t').set (l -σ.length) (.list (pre.map f++[f x])),?_⟩,pre++[x],by refine ae e ?_;simp,by simp⟩);rw [List.append_assoc,List.set_append_right _ _ h1]
 ·rintro l acc s ⟨⟨h1,h2⟩,⟨t,rfl⟩,pre,e,rfl⟩;rw [List.append_nil]at e;exact k l t (by refine ae e ?_;exact h2)
theorem Ei{R:AV->AV->Bool->Prop}:∀{vs:List AV},(∀v∈vs,R v v true)->lE R vs vs true:=by
 intro bD;induction bD with
 |nil=>
  intro zz;exact .nil
 |cons v _ ih=>intro h;exact .tt (h v (.head _)) (ih λ w hw=>h w (.tail _ hw))
theorem u4{ns:List Node}(hb:Below ns):∀(i:Nat)(k:Node)(n:Nat),ns[i]?=some k->i+1<n->gm n (cU ns i) (cU ns i) true:=by
 intro i;induction i using Nat.strongRecOn with
 |ind i ih=>
  intro k n hk hn;obtain ⟨m,rfl⟩:=Nat.exists_eq_add_of_le' (Nat.le_trans (Nat.succ_le_succ (Nat.succ_pos i)) hn:2<=n);refine ae (mj hb hk) ?_;refine sz (n:=m+1) (Ei λ v hv=>?_);rcases List.mem_cons.mp hv with rfl|hv
  ·exact eU (beq_self_eq_true _)
  ·obtain ⟨j,hj,rfl⟩:=List.mem_map.mp hv;have Ej:=hb i k hk j hj;have gL:=(List.getElem?_eq_some_iff.mp hk).1;exact ih j Ej _ _ (List.getElem?_eq_getElem (Nat.lt_trans Ej gL)) (Nat.lt_of_le_of_lt Ej (Nat.lt_of_succ_lt_succ hn))
theorem Qr:∀{vs:List AV},(∀v∈vs,kQ v=true)->nG vs=true:=by
 intro bD;induction bD with
 |nil=>
  intro zz;exact rfl
 |cons v vs ih=>intro h;rw [qE,h v (.head _),ih λ w hw=>h w (.tail _ hw)];rfl
theorem Ek{ns:List Node}(hb:Below ns):∀(i:Nat)(k:Node),ns[i]?=some k->kQ (cU ns i)=true:=by
 intro i;induction i using Nat.strongRecOn with
 |ind i ih=>
  intro k hk;rw [mj hb hk,Hu];refine Qr λ v hv=>?_;rcases List.mem_cons.mp hv with rfl|hv
  ·rfl
  ·obtain ⟨j,hj,rfl⟩:=List.mem_map.mp hv;have Ej:=hb i k hk j hj;have gL:=(List.getElem?_eq_some_iff.mp hk).1;exact ih j Ej _ (List.getElem?_eq_getElem (Nat.lt_trans Ej gL))
noncomputable def oA(ns:List Node)(a b:Nat):AV:=.tup [cU ns a,cU ns b]
theorem TH{vs:List AV}(h:∀v∈vs,∃a b,v=.tup [a,b]/\kQ a=true/\kQ b=true):jb .none vs false:=by
 induction vs with
 |nil=>exact .nil
 |cons v vs ih=>obtain ⟨a,b,rfl,h1,h2⟩:=h v (.head _);exact jb.cons (a:=false) (b:=false) (by rw [Hu,qE,qE,h1,h2];rfl) hJ.tn (ih λ w hw=>h w (.tail _ hw))
section
variable{C:Core} {ln lt N:Nat} {kvs:List (String×AV)}
def jR(C:Core)(ln lt:Nat)(kvs:List (String×AV))(D:Nat)(p:AV)(a b:Nat):Prop:=∀(σ:U){P:PV},σ[ln]?=some (.list (C.nodes.map bg))->σ[lt]?=some (.dS kvs)->(∀t,P (oA C.nodes a b) (σ++t))->(O D).call .lN [p,.ref ln,.ref lt] σ P
structure Laid(C:Core)(N:Nat)(kvs:List (String×AV)):Prop where
 below:Below C.nodes
 w_:C.nodes.length<=35
 node:∀k∈C.nodes,k.2.length<=900
 ends:∀(i a b:Nat)(r:Option String),C.au[i]?=some (a,b,r)->a<C.nodes.length/\b<C.nodes.length
 told:∀(i a b:Nat)(lb:String),C.au[i]?=some (a,b,some lb)->i<N->br kvs lb=some (.tup [.int a,.int b])
theorem fz.ends{n d m:Nat}{p:AV}{a b:Nat}(h:fz C n d m p a b)(he:∀(i a b:Nat)(r:Option String),C.au[i]?=some (a,b,r)->a<C.nodes.length/\b<C.nodes.length):a<C.nodes.length/\b<C.nodes.length:=by
 induction h with
 |told h1=>exact he _ _ _ _ h1
 |same h=>exact ⟨h,h⟩
 |join _ _ vR qu=>exact ⟨vR.1,qu.2⟩
 |turn _ ih=>exact ⟨ih.2,ih.1⟩
 |under h1=>exact he _ _ _ _ h1
theorem pJ(hL:Laid C N kvs){D a:Nat}{σ:U}{P:PV}(ha:a<C.nodes.length)(hD:a<D)(h:σ[ln]?=some (.list (C.nodes.map bg)))(k:∀t,P (cU C.nodes a) (σ++t)):(O D).call .gr [.ref ln,.int a] σ P:=by
 obtain ⟨d,rfl⟩:∃d,D=a+d+1:=⟨D -a -1,nsy hD⟩
 exact Qh hL.below hL.node a d σ ha h k
theorem JI(D a:Nat):jR C ln lt kvs (D+1) (.tup [.str "same",cU C.nodes a]) a a:=λ σ P h1 h2 k=>xY<|cL<|i9<|eA<|eA<|List.append_nil σ▸k []
theorem JJ(hL:Laid C N kvs){D i a b:Nat}{l:String}(hD:35<=D)(he:C.au[i]?=some (a,b,some l))(hi:i<N):jR C ln lt kvs (D+1) (.tup [.str "told",.str l]) a b:=λ σ P h1 h2 k=>by have hf:=hL.w_;obtain ⟨ha,hb⟩:=hL.ends i a b _ he;refine xY<|cL<|gH (by decide) ?_;refine (?_:pg (O D) P _ _ _ _ _);refine i9<|.mk h2 ⟨_,rfl⟩<|eA<|.mk h2 ?_;refine ae (hL.told i a b l he hi) ?_;exact .tn<|cL<|pJ hL ha (e_ hD hf ha (by simp+arith only)) h1 λ t1=>eA<|pJ hL hb (e_ hD hf hb (by simp+arith only)) (eW h1 t1) λ t2=>List.append_assoc ..▸k (t1++t2)
theorem nJ(hL:Laid C N kvs){D:Nat}{kind:String}{r:List AV}{ks:List (AV×Nat×Nat)}(XF:(kind=="same")=false)(yA:(kind=="told")=false)(hk3:(kind=="rule")=false)(hp:(kind="under"/\∃x,r=[x,.tup (ks.map (·.1))])\/(kind=="under")=false/\r=ks.map (·.1))(dQ:ks.length<=900)(fB:∀x∈ks,x.2.1<C.nodes.length/\x.2.2<C.nodes.length)(h:∀x∈ks,jR C ln lt kvs D x.1 x.2.1 x.2.2)
  {σ:U}{P:PV}(h1:σ[ln]?=some (.list (C.nodes.map bg)))(h2:σ[lt]?=some (.dS kvs))(k:∀l t,(σ++t)[l]?=some (.list (ks.map λ x=>oA C.nodes x.2.1 x.2.2))->wH (O D) P (.str kind) (.tup (.str kind::r)) (.ref l) (σ++t)):
  (O (D+1)).call .lN [.tup (.str kind::r),.ref ln,.ref lt] σ P:=by
 have hni:jb .none (ks.map λ x=>oA C.nodes x.2.1 x.2.2) false:=TH λ v hv=>by obtain ⟨x,hx,rfl⟩:=List.mem_map.mp hv;obtain ⟨b1,b2⟩:=fB x hx;exact ⟨_,_,rfl,Ek hL.below _ _ (List.getElem?_eq_getElem b1),Ek hL.below _ _ (List.getElem?_eq_getElem b2)⟩
 have nx:pf (O D) P (.str kind) (.ref ln) (.tup (.str kind::r)) (.ref lt) (.tup (ks.map (·.1))) σ:=.t<|R5 σ (ni (O D) (.ref ln) (.ref lt)) ks (·.1) (λ x=>oA C.nodes x.2.1 x.2.2) (eG dQ rfl) (λ aa aa aa aa q=>wD<|.te q)
  (λ x vs n l t Q hx q=>wD<|.ts<|h x hx _ (eW h1 t) (eW h2 t) q) λ l t cl=>.l cl hni<|gH hk3<|k l t cl
 refine xY<|cL<|gH XF ?_;refine (?_:pg (O D) P _ _ _ _ _);refine gH yA ?_;refine (?_:wI (O D) P _ _ _ _ _);rcases hp with⟨rfl,x,rfl⟩|⟨b_,rfl⟩
 ·exact i9<|wN nx
 ·exact gH b_<|lZ nx
theorem JK(hL:Laid C N kvs){D a b:Nat}{p:AV}(fB:a<C.nodes.length/\b<C.nodes.length)(h:jR C ln lt kvs D p a b):jR C ln lt kvs (D+1) (.tup [.str "turn",p]) b a:=λ σ P h1 h2 k=>
 nJ (ks:=[(p,a,b)]) hL (by decide) (by decide) (by decide) (.inr ⟨by decide,rfl⟩) (Nat.succ_pos _) (by simpa using fB) (by simpa using h) h1 h2 λ l t cl=>i9<|ez cl (i:=0) rfl<|eA<|ez cl (i:=0) rfl<|cL<|k t
theorem JL(hL:Laid C N kvs){D a b c:Nat}{p q:AV}(ha:a<C.nodes.length)(hb:b<C.nodes.length)(hc:c<C.nodes.length)(h:jR C ln lt kvs D p a b)(h':jR C ln lt kvs D q b c):jR C ln lt kvs (D+1) (.tup [.str "join",p,q]) a c:=λ σ P h1 h2 k=>by
 have hf:=hL.w_;exact nJ (ks:=[(p,a,b),(q,b,c)]) hL (by decide) (by decide) (by decide) (.inr ⟨by decide,rfl⟩) (by simp) (by simp [ha,hb,hc]) (by simpa using⟨h,h'⟩) h1 h2 λ l t cl=>gH (by decide)<|i9<|ez cl (i:=0) rfl<|eA<|ez cl (i:=1) rfl<|cL<|wV (b:=true) (u4 hL.below b _ 40 (List.getElem?_eq_getElem hb) (eG (Nat.le_trans hb hf) rfl))<|ez cl (i:=0) rfl<|cL<|ez cl (i:=1) rfl<|eA<|k t
theorem Fu(hL:Laid C N kvs){D a b:Nat}{ka kb:Node}{ks:List (AV×Nat×Nat)}(lI:C.nodes[a]?=some ka)(R9:C.nodes[b]?=some kb)(jT:ka.1=kb.1)(hz:ks.length<=2)(e1:ks.map (·.2.1)=ka.2)(e2:ks.map (·.2.2)=kb.2)(fB:∀x∈ks,x.2.1<C.nodes.length/\x.2.2<C.nodes.length)(h:∀x∈ks,jR C ln lt kvs D x.1 x.2.1 x.2.2):jR C ln lt kvs (D+1) (.tup [.str "under",.str ka.1,.tup (ks.map (·.1))]) a b:=λ σ P h1 h2 k=>by
 refine nJ (ks:=ks) hL (by decide) (by decide) (by decide) (.inl ⟨rfl,_,rfl⟩) (nc hz rfl) fB h h1 h2 λ l t cl=>gH (by decide)<|gH (by decide)<|eA<|.l cl ?_;refine JH (nj (O D)) ks (λ x=>oA C.nodes x.2.1 x.2.2) (λ x=>cU C.nodes x.2.1) cl (eG hz rfl) (λ aa aa aa aa c q=>wF<|.le c (by simp) q) (λ x i n l t Q hi aa c q=>wF<|.ls c hi<|cL<|by simpa using q []) λ l2 t2 c2=>.l c2<|.t (by simp;exact nc (Nat.add_le_add_left hz _) rfl)<|eA<|.l (eW cl t2) ?_;refine JH (nk (O D)) ks (λ x=>oA C.nodes x.2.1 x.2.2) (λ x=>cU C.nodes x.2.2) (eW cl t2) (eG hz rfl) (λ aa aa aa aa c q=>wG<|.le c (by simp) q) (λ x i n l t Q hi aa c q=>wG<|.ls c hi<|eA<|by simpa using q []) λ l3 t3 c3=>.l c3<|.t (by simp;exact nc (Nat.add_le_add_left hz _) rfl) ?_;have t1:AV.tup ([.str ka.1]++ks.map λ x=>cU C.nodes x.2.1)=cU C.nodes a:=by refine ae (mj hL.below lI)<|cA e1<|ae List.map_map ?_;rfl
 have t2':AV.tup ([.str ka.1]++ks.map λ x=>cU C.nodes x.2.2)=cU C.nodes b:=by refine ae (mj hL.below R9)<|cA e2<|ae jT<|ae List.map_map ?_;rfl
 rw [t1,t2',List.append_assoc,List.append_assoc];exact k _
theorem Qt(hL:Laid C N kvs){n d m:Nat}{p:AV}{a b:Nat}(h:fz C n d m p a b):∀{D:Nat},n<=N->d+36<=D->jR C ln lt kvs D p a b:=by
 induction h with
 |told h1 h2 h3=>
  intro D hn hd;obtain ⟨D,rfl⟩:∃e,D=e+1:=⟨D -1,((Nat.sub_add_cancel (ji hd:(1)<=(D)))).symm⟩
  exact JJ hL (bG hd (by simp+arith only)) h1 (Nat.lt_of_lt_of_le h2 hn)
 |same h1=>
  intro D hn hd;obtain ⟨D,rfl⟩:∃e,D=e+1:=⟨D -1,((Nat.sub_add_cancel (ji hd:(1)<=(D)))).symm⟩
  exact JI D _
 |@join n d m k a b c p q hp hq vR qu=>
  intro D hn hd;obtain ⟨D,rfl⟩:∃e,D=e+1:=⟨D -1,Bx hd⟩
  exact JL hL (hp.ends hL.ends).1 (hp.ends hL.ends).2 (hq.ends hL.ends).2 (vR hn (Nat.le_of_lt_succ hd)) (qu hn (Nat.le_of_lt_succ hd))
 |@turn n d m a b p hp ih=>
  intro D hn hd;obtain ⟨D,rfl⟩:∃e,D=e+1:=⟨D -1,Bx hd⟩
  exact JK hL (hp.ends hL.ends) (ih hn (Nat.le_of_lt_succ hd))
 |@under n d m k i a b ka kb ps h1 h2 h3 h4 h5 h6 h7 h8 h9 mG ih=>
  intro D hn hd;obtain ⟨D,rfl⟩:∃e,D=e+1:=⟨D -1,Bx hd⟩
  have z0:(ps.zip (ka.2.zip kb.2)).map (·.1)=ps:=List.map_fst_zip (by refine ae List.length_zip ?_;lia);have z3:(ps.zip (ka.2.zip kb.2)).map (·.2)=ka.2.zip kb.2:=List.map_snd_zip (by refine ae List.length_zip ?_;exact Nat.le_trans (Nat.min_le_left (ka.snd.length) (kb.snd.length)) (bP h7));have z1:(ps.zip (ka.2.zip kb.2)).map (·.2.1)=ka.2:=by
   have:=congrArg (List.map Prod.fst) z3
   rwa [List.map_map,List.map_fst_zip ((bI h6))]at this
  have z2:(ps.zip (ka.2.zip kb.2)).map (·.2.2)=kb.2:=by
   have:=congrArg (List.map Prod.snd) z3
   rwa [List.map_map,List.map_snd_zip ((bP h6))]at this
  have ea:=hL.ends i a b none h1;have key:∀x∈ps.zip (ka.2.zip kb.2),∃j:Nat,ps[j]?=some x.1/\ka.2[j]?=some x.2.1/\kb.2[j]?=some x.2.2:=λ x hx=>by obtain ⟨j,hj⟩:=List.mem_iff_getElem?.mp hx;obtain ⟨g1,g2⟩:=List.getElem?_zip_eq_some.mp hj;obtain ⟨g3,g4⟩:=List.getElem?_zip_eq_some.mp g2;exact ⟨j,g1,g3,g4⟩
  have:=Fu (ln:=ln) (lt:=lt) (D:=D) hL h3 h4 h5 (ks:=ps.zip (ka.2.zip kb.2)) (by refine ae List.length_zip ?_;exact Nat.le_trans (Nat.min_le_left (ps.length) ((ka.snd.zip kb.snd).length)) h8) z1 z2 (λ x hx=>?_) λ x hx=>?_
  ·rwa [z0]at this
  ·obtain ⟨j,_,g1,g2⟩:=key x hx;have b1:=hL.below a ka h3 _ (List.mem_of_getElem? g1);have b2:=hL.below b kb h4 _ (List.mem_of_getElem? g2);lia
  ·obtain ⟨j,g0,g1,g2⟩:=key x hx;exact ih j _ _ _ g0 g1 g2 (Nat.le_of_lt (Nat.lt_of_lt_of_le h2 hn)) (Nat.le_of_lt_succ hd)
end
end
section
set_option genInjectivity false
set_option genSizeOf false
open PySem
section
variable{K:Type} [DecidableEq K]
theorem xc{kvs:List (K×AV)}{k:K}{v:AV}(h:k∉kvs.map (·.1)):dz kvs k v=kvs++[(k,v)]:=by unfold dz;rw [if_neg];rw [List.any_eq_true];rintro ⟨x,hx,e⟩;simp only [decide_eq_true_eq]at e;exact h (List.mem_map.mpr ⟨x,hx,e⟩)
theorem Qu{k:K}{v:AV}:∀{kvs:List (K×AV)},(kvs.map (·.1)).Nodup->(k,v)∈kvs->br kvs k=some v:=by
 intro kvs hn hm;obtain ⟨A,B,rfl⟩:=List.append_of_mem hm;unfold br;rw [List.find?_append,List.find?_eq_none.mpr]
 ·simp
 ·intro x hx e;simp only [decide_eq_true_eq]at e;rw [List.map_append,List.nodup_append]at hn;exact hn.2.2 x.1 (List.mem_map.mpr ⟨x,hx,rfl⟩) k (.head _) e
theorem Fv{kvs:List (K×AV)}{k:K}:(br kvs k).isSome=decide (k∈kvs.map (·.1)):=by
 unfold br;rw [Option.isSome_map,Bool.eq_iff_iff,List.find?_isSome,decide_eq_true_eq];constructor
 ·rintro ⟨x,hx,e⟩;simp only [decide_eq_true_eq]at e;exact List.mem_map.mpr ⟨x,hx,e⟩
 ·intro h;obtain ⟨x,hx,e⟩:=List.mem_map.mp h;exact ⟨x,hx,decide_eq_true e⟩
end
noncomputable def gI(e:String×Nat×Nat):AV:=.tup [.str e.1,.int e.2.1,.int e.2.2]
noncomputable def aV(E:List (Nat×Nat×Option String)):List (String×Nat×Nat):=E.filterMap λ e=>e.2.2.map λ lb=>(lb,e.1,e.2.1)
noncomputable def mT(dn:List (String×Nat×Nat)):List (String×AV):=dn.map λ e=>(e.1,.tup [.int e.2.1,.int e.2.2])
theorem Ng{dn:List (String×Nat×Nat)}(hn:(dn.map (·.1)).Nodup){lb:String}{a b:Nat}(h:(lb,a,b)∈dn):br (mT dn) lb=some (.tup [.int a,.int b]):=by refine Qu ?_ (List.mem_map.mpr ⟨_,h,rfl⟩);simpa [mT,Function.comp_def]using hn
theorem TJ(dn:List (String×Nat×Nat)):(mT dn).map (·.1)=dn.map (·.1):=List.map_map ..
theorem r5{E:List (Nat×Nat×Option String)}{i a b:Nat}{lb:String}(h:E[i]?=some (a,b,some lb)):(lb,a,b)∈aV E:=
 List.mem_filterMap.mpr ⟨_,List.mem_of_getElem? h,rfl⟩
theorem xd{E:List (Nat×Nat×Option String)}{i:Nat}{e:Nat×Nat×Option String}(h:E[i]?=some e):aV (E.take (i+1))=aV (E.take i)++(e.2.2.map λ lb=>(lb,e.1,e.2.1)).toList:=by refine ae List.take_add_one<|ae h ?_;simp only [aV,List.filterMap_append,Option.toList_some];cases hc:e.2.2<;>simp [hc]
theorem Ed(n:Nat)(a b:Nat):gm (n+2) (.tup [.int a,.int b]) (.tup [.int a,.int b]) true:=sz (.tt (gF (x5 rfl)) (.tt (gF (x5 rfl)) .nil))
theorem Nh(n:Nat)(a b:String):gm (n+2) (.tup [.str a,.str b]) (.tup [.str a,.str b]) true:=sz (.tt (eU (beq_self_eq_true _)) (.tt (eU (beq_self_eq_true _)) .nil))
structure oB(H:Hp)(dn:List (String×Nat×Nat))(R:List Cell)(ln lt:Nat):Prop where
 lD:yg H
 w_:H.nodes.length<=35
 Bp:aV H.au=dn
 nodup:(dn.map (·.1)).Nodup
 nodes:(ln,.list (H.nodes.map bg))∈R
 told:(lt,.dS (mT dn))∈R
theorem oB.laid{dn:List (String×Nat×Nat)}{ln lt:Nat}(h:oB H dn R ln lt):Laid H.toCore H.au.length (mT dn):=
 ⟨h.lD.below,h.w_,λ k hk=>h.lD.fit.node k hk,h.lD.ends,λ i a b lb he aa=>Ng h.nodup (h.Bp▸r5 he)⟩
theorem aa2(i:Nat):1<=3^i:=by have:=Ea i;exact ji (bI this)
theorem TK{i:Nat}(h:i<=7):3^i<=2187:=by
 have:∀i:Nat,i<8->3^i<=2187:=by decide
 exact this i (Nat.lt_succ_of_le h)
section
variable{P:PV} {Q:U->Prop} {s:U} {H:Hp} {R:List Cell} {y p l k lt le ln lp D n2:Nat} {x2:aL} {ve vh vn vp vw:AV} {dn:List (String×Nat×Nat)}
noncomputable def WS.app(w:WS H y p l R)(t:U):WS H y p l R:=⟨w.g,w.w.app t,w.ok,w.rZ⟩
theorem Qv(hn:(dn.map (·.1)).Nodup)(hz:dn.length<=900)(hle:(le,.list (dn.map gI))∈R)(c:∀w':WS H y p l ((lt,.dS (mT dn))::R),qf (O D) P ve vh vn vp (.ref lt) vw w'.w.w.σ):∀(k j:Nat)(w:WS H y p l ((lt,.dS (mT (dn.take j)))::R)),j+k=dn.length->jI (O D) P ve vh vn vp (.ref lt) vw (k+1) (.list le j) w.w.w.σ:=by
 intro bD;induction bD with
 |zero=>
  intro j w hj;refine qg<|.le (w.at (.tail _ hle)) (by rw [List.length_map];exact (bP hj)) ?_;revert w;refine ae (List.take_of_length_le ((bP hj))) ?_;exact c
 |succ k ih=>
  intro j w hj;have he:=List.getElem?_eq_getElem (l:=dn) (i:=j) (ml (bI hj));generalize dn[j]'_=e at he;obtain ⟨lb,a,b⟩:=e;have et:dn.take (j+1)=dn.take j++[(lb,a,b)]:=by refine ae List.take_add_one<|ae he ?_;rfl
  have El:lb∉(mT (dn.take j)).map (·.1):=by rw [TJ];have h1:((dn.take (j+1)).map (·.1)).Nodup:=((List.take_sublist _ _).map _).nodup hn;rw [et,List.map_append,List.nodup_append]at h1;exact λ q=>h1.2.2 lb q lb (.head _) rfl
  have ea:dz (mT (dn.take j)) lb (.tup [.int a,.int b])=mT (dn.take (j+1)):=by refine ae (xc El)<|ae et ?_;simp [mT]
  exact qg<|.ls (w.at (.tail _ hle)) (x:=gI (lb,a,b)) (by refine ae List.getElem?_map<|ae he ?_;rfl)<|.t<|.s (w.at (.head _)) (by simp [mT];exact nc (Nat.le_trans (Nat.min_le_right (j) (dn.length)) hz) rfl)<|ea▸ih (j+1) (w.put _) (Nat.le_antisymm (bG (bI hj) (by simp+arith only)) (bG (bP hj) (by simp+arith only)))
theorem JM{i a b:Nat}{lb:String}{pv:List (String×AV)}(hr:oB H dn R ln lt)(he:H.au[i]?=some (a,b,some lb))(hp:p+3^i<=20000)(kZ:pv.map (·.1)=(aV (H.au.take i)).map (·.1))(w:WS H y p 0 ((lp,.dS pv)::R))
  (k:∀p'(w':WS H y p' 0 ((lp,.dS (pv++[(lb,.int i)]))::R)),p'<=p+3^i->f' (O (D+120)) P ve vh (.ref ln) (.ref lp) (.ref lt) (.ref y) n2 x2 w'.w.w.σ):lA (O (D+120)) P n2 x2 (.int a) (.int b) ve vh (.int i) (.ref ln) (.ref lp) (je (some lb)) (.ref lt) (.ref y) w.w.w.σ:=by
 have hs:=hr.lD.short;have gL:=(List.getElem?_eq_some_iff.mp he).1;have hE:=Ee hr.lD i gL (D+112 -2*i);rw [show 2*i+8+(D+112 -2*i)=D+120 by exact Zv gL hs]at hE;have El:lb∉pv.map (·.1):=by refine ae kZ ?_;have hn:=hr.nodup;rw [<-hr.Bp]at hn;have h2:((aV (H.au.take (i+1))).map (·.1)).Nodup:=(((List.take_sublist _ _).filterMap _).map _).nodup hn;rw [xd he,List.map_append,List.nodup_append]at h2;exact λ q=>h2.2.2 lb q lb (.head _) rfl
 have fK:pv.length<=8:=by
  have h2:pv.length=(aV (H.au.take i)).length:=by have:=congrArg List.length kZ;simpa using this
  have h3:(aV (H.au.take i)).length<=(H.au.take i).length:=List.length_filterMap_le _ _;rw [List.length_take]at h3;exact Bw hs (bI h2) h3 (Nat.min_le_right (i) (H.au.length)) (by simp+arith only)
 refine w.w.sI rfl rfl<|hE y p 0 _ a b _ w he hp (cI hs gL (by simp+arith only)) λ v p1 w xa aa hv=>?_;cases hv;have ct:=(w.put (.dS (pv++[(lb,.int i)]))).at (.tail _ hr.told)
 refine cL<|i9<|eA<|.s (w.at (.head _)) (nc fK rfl) ?_;refine ae (xc El) ?_;refine eA<|kJ (b:=true) (by first|exact eU (by decide)|exact eU (beq_self_eq_true _)|exact hJ.nn|exact gF (decide_eq_true rfl)|exact Nh _ _ _)<|.mk ct ⟨_,rfl⟩<|eA<|.mk ct ?_;refine ae (Ng hr.nodup (hr.Bp▸r5 he)) ?_;exact kJ (b:=true) (Ed _ _ _)<|k p1 (w.put _) xa
theorem Ni{ls:List String}{pv:List (String×AV)}{la lr:Nat}(fg:∀lb∈ls,lb∈pv.map (·.1))(c1:s[lr]?=some (.list (ls.map .str)))(c2:s[lp]?=some (.dS pv))(q:Q s):∀(k i:Nat),i+k=ls.length->ix (O D) (.ref lp) (k+1) (.list lr i) la s Q:=by
 intro bD;induction bD with
 |zero=>
  intro i e;exact qc<|.le c1 (by rw [List.length_map];exact (bP e)) q
 |succ k ih=>intro i e;have he:=List.getElem?_eq_getElem (l:=ls) (i:=i) (ml (bI e));refine qc<|.ls c1 (by refine ae List.getElem?_map<|ae he ?_;rfl)<|.s c2 ?_;refine ae Fv<|ae (decide_eq_true (fg _ (List.mem_of_getElem? he))) ?_;exact ih (i+1) (Nat.le_antisymm (bG (bI e) (by simp+arith only)) (bG (bP e) (by simp+arith only)))
theorem JN{i a b:Nat}{pv:List (String×AV)}(hr:oB H dn R ln lt)(he:H.au[i]?=some (a,b,none))(hp:p+3^i<=20000)(kZ:pv.map (·.1)=(aV (H.au.take i)).map (·.1))(w:WS H y p 0 ((lp,.dS pv)::R))
  (k:∀p'(w':WS H y p' 0 ((lp,.dS pv)::R)),p'<=p+3^i->f' (O (D+120)) P ve vh (.ref ln) (.ref lp) (.ref lt) (.ref y) n2 x2 w'.w.w.σ):lA (O (D+120)) P n2 x2 (.int a) (.int b) ve vh (.int i) (.ref ln) (.ref lp) (je none) (.ref lt) (.ref y) w.w.w.σ:=by
 have hs:=hr.lD.short;have gL:=(List.getElem?_eq_some_iff.mp he).1;have JO:=hr.w_;have hE:=Ee hr.lD i gL (D+112 -2*i);rw [show 2*i+8+(D+112 -2*i)=D+120 by exact Zv gL hs]at hE;have fB:=hr.lD.ends i a b none he;have h3:=TK (i:=i) (cI hs gL (by simp+arith only));refine w.w.sI rfl rfl<|hE y p 0 _ a b _ w he hp (cI hs gL (by simp+arith only)) λ v p1 w xa qk hv=>?_;obtain ⟨ka,ps,rfl,lI,mG⟩:=hv;refine cL<|gH (by decide) ?_;refine (?_:qd (O _) P _ _ _ _ _ _ _ _ _ _ _ _);refine cL<|kJ (b:=true) (by first|exact eU (by decide)|exact eU (beq_self_eq_true _)|exact hJ.nn|exact gF (decide_eq_true rfl)|exact Nh _ _ _)<|wN<|.t<|ez (w.at (.tail _ hr.nodes)) (v:=bg ka) (by simp [lI])<|.t<|kq (b:=ka.2.length) (by simp [cx])<|x6 mG<|Nf qk (D:=D+120) (nc h3 rfl) (by lia) _ λ l t ls hl G6 Eg=>?_;have fg:∀lb∈ls,lb∈pv.map (·.1):=by
  intro lb hm;obtain ⟨j,x,y,hj,XG⟩:=Eg lb hm;have Ej:j≠i:=λ q=>by rw [q,he]at XG;cases XG
  have:(H.au.take i)[j]?=some (x,y,some lb):=by refine ae (List.getElem?_take_of_lt (by lia)) ?_;exact XG
  refine ae kZ ?_;exact List.mem_map.mpr ⟨_,r5 this,rfl⟩
 let w1:=w.app t;let w2:=w1.new (.list []);let w3:=w2.new (.list []);refine .l hl ⟨_,Ni fg (eW hl _) (w2.at (.tail _ (.head _))) ?_ ls.length 0 (Nat.zero_add _)⟩;refine .mk (w3.at (.tail _ (.head _))) (w3.at (.head _)) rfl rfl ?_;refine (?_:rK (O _) P _ _ _ _ _ _ _ _ _ _ _ w3.w.w.σ);have mn:(ln,AO.list (H.nodes.map bg))∈(w2.w.w.σ.length,.list [])::(w1.w.w.σ.length,.list [])::(lp,.dS pv)::R:=.tail _ (.tail _ (.tail _ hr.nodes));have mt:(lt,AO.dS (mT dn))∈(w2.w.w.σ.length,.list [])::(w1.w.w.σ.length,.list [])::(lp,.dS pv)::R:=.tail _ (.tail _ (.tail _ hr.told));refine Qt hr.laid qk (D:=D+120) (gL) (by lia) _ (w3.at mn) (w3.at mt) λ t4=>pJ hr.laid fB.1 (nc (Nat.le_trans fB.1 JO) rfl) ((w3.app t4).at mn) λ t5=>pJ hr.laid fB.2 (nc (Nat.le_trans fB.2 JO) rfl) (((w3.app t4).app t5).at mn) λ t6=>?_;refine kJ (b:=true) ?_<|k p1 ((((w3.app t4).app t5).app t6).sub (.cons _ (.cons _ (.refl _)))) xa;refine sz (n:=39) (Ei λ u hu=>?_);simp only [List.mem_cons,List.not_mem_nil,or_false]at hu;rcases hu with rfl|rfl
 ·exact u4 hr.lD.below a _ 39 lI (eG (Nat.le_trans fB.1 JO) rfl)
 ·exact u4 hr.lD.below b _ 39 (List.getElem?_eq_getElem fB.2) (eG (Nat.le_trans fB.2 JO) rfl)
end
end
section
open PySem
section
variable{C:PV} {H:Hp} {R:List Cell} {y p k lt le ln lp D:Nat} {ve vh:AV} {dn:List (String×Nat×Nat)}
theorem Nj{m n:Nat}(h:m<=n):d0 m<=d0 n:=by
 induction h with
 |refl=>exact Nat.le_refl _
 |step _ ih=>exact Nat.le_trans ih (Nat.le_add_right _ _)
theorem Nk(hr:oB H dn R ln lt){T:Nat}(c:∀p' pv(w':WS H y p' 0 ((lp,.dS pv)::R)),p'<=T->pv.map (·.1)=dn.map (·.1)->rI (O (D+120)) C ve vh (.ref ln) (.ref lp) w'.w.w.σ)(hT:T<=20000):
  ∀(k i p:Nat)(pv:List (String×AV))(w:WS H y p 0 ((lp,.dS pv)::R)),i+k=H.au.length->p+d0 H.au.length<=T+d0 i->pv.map (·.1)=(aV (H.au.take i)).map (·.1)->f' (O (D+120)) C ve vh (.ref ln) (.ref lp) (.ref lt) (.ref y) (k+1) (.enum 16 i) w.w.w.σ:=by
 intro bD;induction bD with
 |zero=>
  intro i p pv w hi hp kZ;have mz:i=H.au.length:=hi;subst mz;rw [List.take_length,hr.Bp]at kZ;exact qe<|.ee w.w.w.rep.rP (by simp)<|c p pv w (Nat.le_of_add_le_add_right hp) kZ
 |succ k ih=>
  intro i p pv w hi hp kZ;have gL:i<H.au.length:=ml (bI hi);have he:=List.getElem?_eq_getElem gL;generalize H.au[i]=e at he;obtain ⟨a,b,r⟩:=e;have hs3:d0 i+3^i<=d0 H.au.length:=Nj (m:=i+1) gL;have e3:d0 (i+1)=d0 i+3^i:=rfl;have et:=xd he;refine qe<|.es w.w.w.rep.rP (x:=gR (a,b,r)) (by refine ae List.getElem?_map<|ae he ?_;rfl)<|.t<|.t ?_;cases r with
  |some lb=>exact JM hr he (e_ hT hp hs3 (by simp+arith only)) kZ w λ p' w iW=>ih (i+1) p' _ w (Nat.le_antisymm (bG (bI hi) (by simp+arith only)) (bG (bP hi) (by simp+arith only))) (e_ hp (bP e3) iW (by simp+arith only)) (by refine ae et<|ae List.map_append<|ae List.map_append<|ae kZ ?_;rfl)
  |none=>exact JN hr he (e_ hT hp hs3 (by simp+arith only)) kZ w λ p' w iW=>ih (i+1) p' _ w (Nat.le_antisymm (bG (bI hi) (by simp+arith only)) (bG (bP hi) (by simp+arith only))) (e_ hp (bP e3) iW (by simp+arith only)) (by refine ae et<|ae kZ ?_;simp)
theorem Qw:∀ls:List String,F8 (ls.map .str) (ls.map .str) true:=by
 intro bD;induction bD with
 |nil=>
  skip;exact .nil
 |cons l ls ih=>skip;exact .cons (a:=true) (eU (beq_self_eq_true l)) (ih)
theorem Fw(hj:yg H)(w_:H.nodes.length<=35)(ht:aV H.au=dn)(hn:(dn.map (·.1)).Nodup)(mn:(ln,.list (H.nodes.map bg))∈R)(me:(le,.list (dn.map gI))∈R)(w:WS H y p 0 R)(hp:p+d0 H.au.length<=20000)(k:∀p'(w':WS H y p' 0 R),p'<=p+d0 H.au.length->C (.bool true) w'.w.w.σ):
  (O (D+121)).call .gw [.ref 3,.ref y,.ref ln,.ref le] w.w.w.σ C:=by
 have hs:=hj.short;have jV:dn.length<=8:=by
  have:dn.length<=H.au.length:=by refine cA ht ?_;exact List.length_filterMap_le _ _
  exact Nat.le_trans this hs
 let w1:=w.new (.dS []);let w2:WS H y p 0 ((w.w.w.σ.length,.dS (mT (dn.take 0)))::(w1.w.w.σ.length,.dS [])::R):=(w1.new (.dS [])).bz (.swap _ _ _);refine I4<|.t<|.l (w2.at (.tail _ (.tail _ me))) ⟨_,Qv hn (nc jV rfl) (.tail _ me) (λ v=>?_) dn.length 0 w2 (Nat.zero_add _)⟩;have hr:oB H dn ((w.w.w.σ.length,.dS (mT dn))::R) ln w.w.w.σ.length:=⟨hj,w_,ht,hn,.tail _ mn,.head _⟩
 refine v.w.w.gf<|.mk v.w.w.rep.rP ⟨_,Nk hr (T:=p+d0 H.au.length) (λ p' pv w iW kZ=>?_) hp H.au.length 0 p [] (v.bz (.swap _ _ _)) (Nat.zero_add _) (Nat.le_refl _) rfl⟩;have fK:pv.length<=8:=by have:=congrArg List.length kZ;simp at this;exact Nat.le_trans (bI this) jV
 have Y3:pv.map (λ p=>AV.str p.1)=(dn.map (·.1)).map .str:=by refine cA kZ<|ae List.map_map ?_;rfl
 refine .d (w.at (.head _)) (nc fK rfl) ?_;refine ae Y3 ?_;let w3:=w.new (.list ((dn.map (·.1)).map .str));refine .l (w3.at (.tail _ (.tail _ (.tail _ me))))<|JH (jJ (O (D+120))) dn gI (λ e=>.str e.1) (w3.at (.tail _ (.tail _ (.tail _ me)))) (eG jV rfl) (λ aa aa aa aa c q=>qb<|.le c (by simp) q) (λ x i n l t Q hi aa c q=>qb<|.ls c hi<|.t<|by have q:=q [];rw [List.append_nil]at q;exact q) λ l t cl=>?_;refine .eq (b:=true) (eW (w3.at (.head _)) t) cl (by simp) ?_ ?_
 ·refine ae (show(dn.map λ e=>AV.str e.1)=(dn.map (·.1)).map .str by rw [List.map_map];rfl) ?_;exact Qw _
 exact (w3.app t).w.w.wM<|tV (w3.app t).w.w<|cX ((w3.app t).at (.tail _ (.tail _ (.tail _ mn)))) (List.length_map ..)<|wV (b:=true) (gF (decide_eq_true rfl))<|k p' ((w3.app t).sub (.cons _ (.cons _ (.cons _ (.refl _))))) iW
end
end
section
open PySem
theorem Em{par:List Nat}{a:Nat}(h:a<par.length):∃p,par[a]?=some p:=⟨_,List.getElem?_eq_getElem h⟩
theorem dH.set{par:List Nat}(hp:dH par){g k:Nat}(tZ:k<=g):dH (par.set g k):=by
 intro i p h;rw [List.getElem?_set]at h;split at h
 ·rename_i e;split at h
  ·cases h;exact Nat.le_trans tZ (bI e)
  ·cases h
 ·exact hp i p h
theorem Qx{par:List Nat}(hp:dH par){g k:Nat}(hg:par[g]?=some g)(hk:par[k]?=some k)(tZ:k<g):∀a,a<par.length->root (par.set g k) a=if root par a=g then k else root par a:=by
 have iW:=hp.set (g:=g) (k:=k) (Nat.le_of_lt tZ);have F1:=(List.getElem?_eq_some_iff.mp hg).1;intro a;induction a using Nat.strongRecOn with
 |ind a ih=>
  intro ha;refine dM (Em ha) λ p ql=>?_;by_cases e:p=a
  ·subst e;rw [fM ql];by_cases e2:p=g
   ·subst e2;rw [if_pos rfl];have h1:(par.set p k)[p]?=some k:=List.getElem?_set_self (by assumption);have h2:(par.set p k)[k]?=some k:=by rw [List.getElem?_set_ne (Nat.ne_of_gt tZ)];exact hk
    exact ae (jt iW h1 (Nat.ne_of_lt tZ))<|ae (fM h2) rfl
   ·refine ae (if_neg e2) ?_;exact fM (by refine ae (List.getElem?_set_ne (Ne.symm e2)) ?_;exact ql)
  ·have hle:=hp a p ql;have b_:a≠g:=λ q=>by subst q;rw [hg]at ql;cases ql;exact e rfl
   have h1:(par.set g k)[a]?=some p:=by refine ae (List.getElem?_set_ne (Ne.symm b_)) ?_;exact ql
   refine ae (jt iW h1 e)<|ae (jt hp ql e) ?_;exact ih p ((Nat.lt_of_le_of_ne hle e)) (Nat.lt_of_le_of_lt hle ha)
theorem dH.snoc{par:List Nat}(hp:dH par):dH (par++[par.length]):=by
 intro i p h;rw [List.getElem?_append]at h;split at h
 ·exact hp i p h
 ·rename_i hi;have:=(List.getElem?_eq_some_iff.mp h).1;simp at this;have:i=par.length:=Nat.le_antisymm (cI (bI this) (bP (Nat.sub_add_cancel ((Nat.le_of_not_lt hi):(par.length)<=(i)))) (by simp+arith only)) ((Nat.le_of_not_lt hi));subst this;simp at h;exact (bP h)
theorem nB{par:List Nat}(hp:dH par):∀a,a<par.length->root (par++[par.length]) a=root par a:=by
 have iW:=hp.snoc;intro a;induction a using Nat.strongRecOn with
 |ind a ih=>
  intro ha;refine dM (Em ha) λ p ql=>?_;have h1:(par++[par.length])[a]?=some p:=by rw [List.getElem?_append_left ha];exact ql
  by_cases e:p=a
  ·subst e;exact ae (fM ql)<|ae (fM h1) rfl
  ·have hle:=hp a p ql;refine ae (jt iW h1 e)<|ae (jt hp ql e) ?_;exact ih p ((Nat.lt_of_le_of_ne hle e)) (Nat.lt_of_le_of_lt hle ha)
theorem En{par:List Nat}:root (par++[par.length]) par.length=par.length:=fM (List.getElem?_concat_length ..)
theorem Ae{par:List Nat}(hp:dH par){a:Nat}(h:a<par.length):root par (root par a)=root par a:=fM (eD hp h)
section
variable{C C':Core} {F F':List Nat} {n n' a b c:Nat}
theorem eF.trans(h1:eF C F n a b)(h2:eF C F n b c):eF C F n a c:=by
 induction h2 with
 |refl=>exact h1
 |step _ k1 k2 ih=>exact .step ih k1 k2
theorem Qy{x i y:Nat}(h:(i,y)∈eX C F x):(i,x)∈eX C F y:=by
 obtain ⟨h1,u,v,r,h2,h3⟩:=jw.mp h;refine jw.mpr ⟨h1,u,v,r,h2,?_⟩;rcases h3 with⟨rfl,rfl⟩|⟨rfl,rfl⟩
 ·exact .inr ⟨rfl,rfl⟩
 ·exact .inl ⟨rfl,rfl⟩
theorem eF.symm(h:eF C F n a b):eF C F n b a:=by
 induction h with
 |refl=>exact .refl
 |@step x i y _ k1 k2 ih=>exact eF.trans (.step .refl (Qy k1) k2) ih
theorem eF.mono(he:∀(i:Nat)(e:Nat×Nat×Option String),C.au[i]?=some e->C'.au[i]?=some e)(hF:∀i∈F,i∈F')(hn:n<=n')(h:eF C F n a b):eF C' F' n' a b:=by
 induction h with
 |refl=>exact .refl
 |@step x i y _ k1 k2 ih=>obtain ⟨h1,u,v,r,h2,h3⟩:=jw.mp k1;exact .step ih (jw.mpr ⟨hF i h1,u,v,r,he i _ h2,h3⟩) (Nat.lt_of_lt_of_le k2 hn)
theorem eF.iP{i:Nat}{r:Option String}(hi:i∈F)(hn:i<n)(he:C.au[i]?=some (a,b,r)):eF C F n a b:=
 .step .refl (jw.mpr ⟨hi,a,b,r,he,.inl ⟨rfl,rfl⟩⟩) hn
end
theorem Af{l:List Nat}{f g:Nat->Nat}(h:∀x∈l,f x=g x):(l.map f).sum=(l.map g).sum:=by exact ae (List.map_congr_left h) rfl
theorem abH{l:List Nat}{f g:Nat->Nat}(h:∀x∈l,f x<=g x):(l.map f).sum<=(l.map g).sum:=by
 induction l with
 |nil=>exact Nat.le_refl _
 |cons a l ih=>have h1:=h a (.head _);have h2:=ih λ x hx=>h x (.tail _ hx);simp only [List.map_cons,List.sum_cons];exact Nat.add_le_add h1 h2
theorem sum_add(l:List Nat)(f g:Nat->Nat):(l.map λ x=>f x+g x).sum=(l.map f).sum+(l.map g).sum:=by
 induction l with
 |nil=>exact rfl
 |cons a l ih=>simp only [List.map_cons,List.sum_cons,ih];simp+arith only
theorem TL(l CS:List Nat):(l.map λ x=>if x∈CS then 1 else 0).sum=(l.filter λ x=>decide (x∈CS)).length:=by
 induction l with
 |nil=>exact rfl
 |cons a l ih=>
  simp only [List.map_cons,List.sum_cons,ih,List.filter_cons];by_cases h:a∈CS
  ·simp [h];exact Nat.add_comm ..
  ·simp [h]
theorem TM{l:List Nat}{f:Nat->Nat}{x:Nat}(h:x∈l):f x<=(l.map f).sum:=by refine ae (jy l f x h) ?_;exact Nat.le_add_right ..
theorem Qz{l:List Nat}(hn:l.Nodup){f g:Nat->Nat}{x y:Nat}(hx:x∈l)(hy:y∈l)(iH:x≠y)(h1:g x=f x+f y)(h2:g y=0)(h:∀z,z≠x->z≠y->g z=f z):(l.map g).sum=(l.map f).sum:=by
 have hy':y∈l.erase x:=(List.mem_erase_of_ne (Ne.symm iH)).mpr hy;refine ae (jy l g x hx)<|ae (jy l f x hx)<|ae (jy _ g y hy')<|ae (jy _ f y hy')<|ae h1<|ae h2 ?_;have:(((l.erase x).erase y).map g).sum=(((l.erase x).erase y).map f).sum:=Af λ z hz=>by
  have n1:=hn.erase x;have z1:z≠y:=λ e=>by subst e;exact List.Nodup.not_mem_erase n1 hz
  have z2:z≠x:=λ e=>by subst e;exact List.Nodup.not_mem_erase hn (List.mem_of_mem_erase hz)
  exact h z z2 z1
 lia
noncomputable def dl(l:List Nat):Nat:=(du l).length
theorem TN(l:List Nat)(x:Nat):dl (l++[x])<=dl l+1:=by
 have:=jx (l:=du (l++[x])) (m:=du l++[x]) (gh _) λ b hb=>by
  rw [eO]at hb;rcases List.mem_append.mp hb with q|q
  ·exact List.mem_append_left _ (eO.mpr q)
  ·exact List.mem_append_right _ q
 simpa [dl]using this
theorem XH(l:List Nat)(φ:Nat->Nat):dl (l.map φ)<=dl l:=by
 have:=jx (l:=du (l.map φ)) (m:=(du l).map φ) (gh _) λ b hb=>by rw [eO]at hb;obtain ⟨x,hx,rfl⟩:=List.mem_map.mp hb;exact List.mem_map.mpr ⟨x,eO.mpr hx,rfl⟩
 simpa [dl]using this
theorem TP(l:List Nat)(φ:Nat->Nat){g k:Nat}(hg:g∈l)(hk:k∈l)(b_:k≠g)(h1:φ g=k)(h2:φ k=k):dl (l.map φ)+1<=dl l:=by
 have r6:g∈du l:=eO.mpr hg;have:=jx (l:=du (l.map φ)) (m:=((du l).erase g).map φ) (gh _) λ b hb=>by
  rw [eO]at hb;obtain ⟨x,hx,rfl⟩:=List.mem_map.mp hb;by_cases e:x=g
  ·subst e;exact List.mem_map.mpr ⟨k,(List.mem_erase_of_ne b_).mpr (eO.mpr hk),ae h1<|ae h2 rfl⟩
  ·exact List.mem_map.mpr ⟨x,(List.mem_erase_of_ne e).mpr (eO.mpr hx),rfl⟩
 have hl:=List.length_erase_of_mem r6;have j8:0<(du l).length:=List.length_pos_of_mem r6;simp only [List.length_map]at this;unfold dl;exact e_ (bI hl) this (bI (Nat.sub_add_cancel (j8:(1)<=((du l).length)))) (by simp+arith only)
theorem XI{l:List Nat}{x:Nat}(h:x∈l):1<=dl l:=List.length_pos_of_mem (eO.mpr h)
theorem Nl(f:List Nat->Nat)(hf:∀l:List Nat,l.length<=2->∀m,(∀x∈l,x<=m)->f l<=2*m+1):∀(ns:List Node)(acc:List Nat),(∀k∈ns,k.2.length<=2)->(∀w∈acc,w+1<=2^acc.length)->∀w∈tU f ns acc,w+1<=2^(acc.length+ns.length):=by
 intro bD;induction bD with
 |nil=>
  intro acc zz h w hw;exact h w hw
 |cons k r ih=>
  intro acc h2 h w hw;rw [Bd]at hw;have:=ih (acc++[f (k.2.map λ i=>acc.getD i 0)]) (λ k' eB=>h2 k' (.tail _ eB)) (λ w' hw'=>by
   have j8:1<=2^acc.length:=Nat.one_le_two_pow;have e:(acc++[f (k.2.map λ i=>acc.getD i 0)]).length=acc.length+1:=List.length_append ..;rw [e,Nat.pow_succ];rcases List.mem_append.mp hw' with q|q
   ·have:=h w' q;exact Nat.le_trans this (Nat.le_add_left ..)
   ·simp only [List.mem_singleton]at q;subst q;have:=hf (k.2.map λ i=>acc.getD i 0) (by simpa using h2 k (.head _)) (2^acc.length -1) (λ x hx=>by
     obtain ⟨i,_,rfl⟩:=List.mem_map.mp hx;refine ae List.getD_eq_getElem?_getD ?_;cases e:acc[i]?with
     |none=>simp
     |some v=>have:=h v (List.mem_of_getElem? e);simp;exact cI this (bP (Nat.sub_add_cancel (j8:(1)<=(2^acc.length)))) (by simp+arith only))
    exact e_ this (bI (Nat.sub_add_cancel (j8:(1)<=(2^acc.length)))) (bI (Nat.sub_add_cancel (j8:(1)<=(2^acc.length)))) (by simp+arith only)) w hw
  simp only [List.length_append,List.length_cons,List.length_nil]at this⊢;have e:acc.length+(0+1)+r.length=acc.length+(r.length+1):=Nat.add_right_comm ..;rw [e]at this;exact this
theorem AZ{ns:List Node}(h2:∀k∈ns,k.2.length<=2)(hz:ns.length<=12):∀w∈dK ns,w<=100000:=by
 intro w hw;have:=Nl (λ l=>1+l.sum) (λ l hl m hm=>by
  match l,hl,hm with
  |[],_,_=>simp
  |[a],_,hm=>have:=hm a (.head _);simp;exact bG this (by simp+arith only)
  |[a,b],_,hm=>have:=hm a (.head _);have:=hm b (.tail _ (.head _));simp;lia
  |_::_::_::_,hl,_=>simp at hl) ns [] h2 (by decide) w hw
 rw [List.length_nil,Nat.zero_add]at this;have e:2^ns.length<=2^12:=Nat.pow_le_pow_right (by decide) hz;lia
end
section
open PySem
noncomputable def r7(C:Core):Nat:=((List.range C.par.length).map λ c=>(d4 C c).length).sum
noncomputable def isApp(ns:List Node)(i:Nat):Bool:=(ns.getD i ("",[])).2.length !=0
noncomputable def d1(ns:List Node):List Nat:=(List.range ns.length).filter (isApp ns)
noncomputable def AN(C:Core):Nat:=dl ((d1 C.nodes).map (root C.par))
noncomputable def iZ(C:Core):Nat:=C.au.countP λ e=>e.2.2.isNone
structure Good(C:Core):Prop where
 nodup:C.nodes.Nodup
 nodes:C.nodes.length=C.par.length
 below:Below C.nodes
 two:∀k∈C.nodes,k.2.length<=2
 par:dH C.par
 a6:C.a6.length=C.par.length
 dg:∀l∈C.a6,l.length<=2^C.aE.length
 merged:C.merged.length=C.aE.length
 aE:C.aE.length<=C.au.length
 yi:∀i∈C.aE,i<C.au.length
 ends:∀(i a b:Nat)(r:Option String),C.au[i]?=some (a,b,r)->a<C.par.length/\b<C.par.length
 conn:∀x y,x<C.par.length->y<C.par.length->root C.par x=root C.par y->eF C C.aE C.au.length x y
 lC:∀(i a b:Nat),C.au[i]?=some (a,b,none)->∃ka kb,C.nodes[a]?=some ka/\C.nodes[b]?=some kb/\ka.1=kb.1/\ka.2.length=kb.2.length/\∀(j x y:Nat),ka.2[j]?=some x->kb.2[j]?=some y->eF C C.aE i x y
 known:∀p∈C.known,∃kv,C.nodes[p.2]?=some kv/\p.1.1=kv.1/\p.1.2.map (root C.par)=kv.2.map (root C.par)/\∀x∈p.1.2,x<C.par.length
 aQ:∀c,C.par[c]?=some c->∃L,C.aQ c=some L
 eb:∀c L,C.aQ c=some L->C.par[c]?=some c
 elems:∀c L,C.aQ c=some L->∀n∈L,n<C.par.length
 JP:r7 C<=2*C.nodes.length
 Ag:iZ C+AN C<=(d1 C.nodes).length
section
variable{C:Core}
theorem Good.lt(h:Good C){n:Nat}{k:Node}(hn:C.nodes[n]?=some k):n<C.par.length:=by refine cA h.nodes ?_;exact (List.getElem?_eq_some_iff.mp hn).1
theorem Good.Eo(h:Good C){n:Nat}{k:Node}(hn:C.nodes[n]?=some k){x:Nat}(hx:x∈k.2):x<C.par.length:=Nat.lt_trans (h.below n k hn x hx) (h.lt hn)
theorem Good.usc(h:Good C)(c:Nat):(d4 C c).length<=2*C.nodes.length:=by
 by_cases hc:c<C.par.length
 ·exact Nat.le_trans (TM (f:=λ c=>(d4 C c).length) (List.mem_range.mpr hc)) h.JP
 ·unfold d4;cases e:C.aQ c with
  |none=>simp
  |some L=>exact absurd (List.getElem?_eq_some_iff.mp (h.eb c L e)).1 hc
theorem Good.knw(h:Good C){key:Node}{n:Nat}{k:Node}(hn:C.nodes[n]?=some k)(hk:key=ia C.par k):Good {C with known:=C.known++[(key,n)]}:=by
 refine {h with conn:=λ x y h1 h2 h3=>(h.conn x y h1 h2 h3).mono (C:=C) (λ aa aa e=>e) (λ aa e=>e) (Nat.le_refl _),lC:=?_,known:=?_}
 ·intro i a b he;refine uc (h.lC i a b he) λ ka kb h1 h2 h3 h4 h5=>?_;exact ⟨ka,kb,h1,h2,h3,h4,λ j x y e1 e2=>(h5 j x y e1 e2).mono (C:=C) (λ aa aa e=>e) (λ aa e=>e) (Nat.le_refl _)⟩
 ·intro p hp;rcases List.mem_append.mp hp with q|q
  ·exact h.known p q
  ·simp only [List.mem_singleton]at q;subst q;refine ⟨k,hn,by refine ae hk ?_;rfl,?_,?_⟩
   ·refine ae hk ?_;simp only [ia,List.map_map];apply List.map_congr_left;intro x hx;exact Ae h.par (h.Eo hn hx)
   ·intro x hx;rw [hk]at hx;obtain ⟨y,hy,rfl⟩:=List.mem_map.mp hx;exact ox h.par (h.Eo hn hy)
theorem Nm{ns:List Node}{k:Node}{i:Nat}(h:i<ns.length):isApp (ns++[k]) i=isApp ns i:=by unfold isApp;exact ae List.getD_eq_getElem?_getD<|ae List.getD_eq_getElem?_getD<|ae (List.getElem?_append_left h) rfl
theorem Ah(ns:List Node)(k:Node):d1 (ns++[k])=d1 ns++if k.2.length !=0 then[ns.length]else[]:=by
 unfold d1;rw [List.length_append,List.length_cons,List.length_nil,Nat.zero_add,List.range_succ,List.filter_append];congr 1
 ·apply List.filter_congr;intro i hi;exact Nm (List.mem_range.mp hi)
 ·simp only [List.filter_cons,List.filter_nil,isApp,List.getD_eq_getElem?_getD,List.getElem?_append_right (Nat.le_refl _),Nat.sub_self];rfl
theorem yj{ns:List Node}{i:Nat}(h:i∈d1 ns):i<ns.length:=List.mem_range.mp (List.mem_filter.mp h).1
theorem XJ(hp:dH C.par){ks:List Nat}(hk:∀x∈ks,x<C.par.length){c:Nat}:c∈fU (C.par++[C.par.length]) ks↔∃x∈ks,root C.par x=c:=by
 rw [uV];constructor
 ·rintro ⟨x,hx,e⟩;exact ⟨x,hx,by rw [nB hp x (hk x hx)]at e;exact e⟩
 ·rintro ⟨x,hx,e⟩;exact ⟨x,hx,by refine ae (nB hp x (hk x hx)) ?_;exact e⟩
theorem pK(k:Node)(x:Nat):(cM C k).aQ x=if x∈fU (C.par++[C.par.length]) k.2 then some ((upd C.aQ C.par.length (some []) x).getD []++[C.par.length])else upd C.aQ C.par.length (some []) x:=by refine (?_:uU _ _ _ x=_);refine ae (G2 _ _ _ (w6 _ _)) ?_;rfl
theorem Good.made(h:Good C){k:Node}(hk:∀x∈k.2,x<C.par.length)(h2:k.2.length<=2)(fu:k∉C.nodes):Good (cM C k):=by
 have XK:∀{c},c∈fU (C.par++[C.par.length]) k.2->C.par[c]?=some c:=λ hc=>by obtain ⟨x,hx,rfl⟩:=(XJ h.par hk).mp hc;exact eD h.par (hk x hx)
 have n6:∀{c},c∈fU (C.par++[C.par.length]) k.2->c<C.par.length:=λ hc=>(List.getElem?_eq_some_iff.mp (XK hc)).1;have fK:(cM C k).par.length=C.par.length+1:=List.length_append ..;have nA:∀x,x<C.par.length->root (cM C k).par x=root C.par x:=nB h.par;have JQ:∀(i:Nat)(kv:Node),C.nodes[i]?=some kv->(cM C k).nodes[i]?=some kv:=λ i kv e=>by show(C.nodes++[k])[i]?=_;rw [List.getElem?_append_left (List.getElem?_eq_some_iff.mp e).1];exact e
 have hu0:∀x,C.par.length<=x->C.aQ x=none:=λ x hx=>by
  cases e:C.aQ x with
  |none=>rfl
  |some L=>have:=(List.getElem?_eq_some_iff.mp (h.eb x L e)).1;lia
 refine ⟨?_,?_,?_,?_,h.par.snoc,?_,?_,h.merged,h.aE,h.yi,?_,?_,?_,?_,?_,?_,?_,?_,?_⟩
 ·show(C.nodes++[k]).Nodup;rw [List.nodup_append];exact ⟨h.nodup,by simp,λ x hx y hy e=>by simp at hy;subst hy;exact fu (e▸hx)⟩
 ·refine (?_:(C.nodes++[k]).length=_);refine ae fK ?_;simp [h.nodes]
 ·intro n kn hn i hi;have fa:(C.nodes++[k])[n]?=some kn:=hn;rw [List.getElem?_append]at fa;split at fa
  ·exact h.below n kn fa i hi
  ·rename_i sX;have:=(List.getElem?_eq_some_iff.mp fa).1;simp at this;have e:n -C.nodes.length=0:=this;rw [e]at fa;simp at fa;subst fa;have:=hk i hi;have:=h.nodes;lia
 ·intro kn qj;have:kn∈C.nodes++[k]:=qj;rcases List.mem_append.mp this with q|q
  ·exact h.two kn q
  ·simp at q;subst q;exact h2
 ·simp [cM,h.a6]
 ·intro l hl;have:l∈C.a6++[[C.par.length]]:=hl;rcases List.mem_append.mp this with q|q
  ·exact h.dg l q
  ·simp only [List.mem_singleton]at q;subst q;exact Nat.one_le_two_pow
 ·intro i a b r he;have:=h.ends i a b r he;refine ae fK ?_;lia
 ·intro x y hx hy e;rw [fK]at hx hy;by_cases h1:x<C.par.length
  ·by_cases h2:y<C.par.length
   ·rw [nA x h1,nA y h2]at e;exact (h.conn x y h1 h2 e).mono (C:=C) (λ aa aa e=>e) (λ aa e=>e) (Nat.le_refl _)
   ·have:y=C.par.length:=Nat.le_antisymm (Nat.le_of_lt_succ hy) ((Nat.le_of_not_lt h2));subst this;rw [nA x h1]at e;have h3:root (cM C k).par C.par.length=C.par.length:=En;have:=ox h.par h1;lia
  ·have yt:x=C.par.length:=Nat.le_antisymm (Nat.le_of_lt_succ hx) ((Nat.le_of_not_lt h1));subst yt;have h3:root (cM C k).par C.par.length=C.par.length:=En;by_cases h2:y<C.par.length
   ·rw [nA y h2,h3]at e;have:=ox h.par h2;lia
   ·have:y=C.par.length:=Nat.le_antisymm (Nat.le_of_lt_succ hy) ((Nat.le_of_not_lt h2));subst this;exact .refl
 ·intro i a b he;refine uc (h.lC i a b he) λ ka kb h1 h2 h3 h4 h5=>?_;exact ⟨ka,kb,JQ _ _ h1,JQ _ _ h2,h3,h4,λ j x y e1 e2=>(h5 j x y e1 e2).mono (C:=C) (λ aa aa e=>e) (λ aa e=>e) (Nat.le_refl _)⟩
 ·intro p hp;refine NG (h.known p hp) λ kv h1 h2 h3 h4=>?_;refine ⟨kv,JQ _ _ h1,h2,?_,λ x hx=>by have:=h4 x hx;refine ae fK ?_;exact Nat.lt_succ_of_lt this⟩;have e1:p.1.2.map (root (cM C k).par)=p.1.2.map (root C.par):=List.map_congr_left λ x hx=>nA x (h4 x hx);have e2:kv.2.map (root (cM C k).par)=kv.2.map (root C.par):=List.map_congr_left λ x hx=>nA x (h.Eo h1 hx);refine ae e1<|ae e2 ?_;exact h3
 ·intro c hc;rw [pK];split
  ·exact ⟨_,rfl⟩
  ·unfold upd;split
   ·exact ⟨_,rfl⟩
   ·rename_i b_;have mX:(C.par++[C.par.length])[c]?=some c:=hc;rw [List.getElem?_append]at mX;split at mX
    ·exact h.aQ c mX
    ·have:=(List.getElem?_eq_some_iff.mp mX).1;simp at this;lia
 ·intro c L hL;refine (?_:(C.par++[C.par.length])[c]?=some c);rw [pK]at hL;by_cases q:c∈fU (C.par++[C.par.length]) k.2
  ·have h3:=XK q;refine ae (List.getElem?_append_left (List.getElem?_eq_some_iff.mp h3).1) ?_;exact h3
  ·rw [if_neg q]at hL;unfold upd at hL;split at hL
   ·rename_i e;subst e;exact List.getElem?_concat_length ..
   ·have h3:=h.eb c L hL;refine ae (List.getElem?_append_left (List.getElem?_eq_some_iff.mp h3).1) ?_;exact h3
 ·intro c L hL n hn;refine ae fK ?_;have hb:∀M,upd C.aQ C.par.length (some []) c=some M->∀n∈M,n<C.par.length:=λ M hM n hn=>by
   unfold upd at hM;split at hM
   ·cases hM;simp at hn
   ·exact h.elems c M hM n hn
  rw [pK]at hL;split at hL
  ·cases hL;rcases List.mem_append.mp hn with q|q
   ·cases e:upd C.aQ C.par.length (some []) c with
    |none=>rw [e]at q;simp at q
    |some M=>rw [e]at q;have:=hb M e n q;exact Nat.lt_succ_of_lt this
   ·simp at q;exact Nat.lt_succ_of_le (bI q)
  ·have:=hb L hL n hn;exact Nat.lt_succ_of_lt this
 ·have hlen:∀x,x<C.par.length+1->(d4 (cM C k) x).length=(d4 C x).length+(if x∈fU (C.par++[C.par.length]) k.2 then 1 else 0):=λ x hx=>by
   unfold d4;rw [pK];have hux:((upd C.aQ C.par.length (some []) x).getD []).length=((C.aQ x).getD []).length:=by
    unfold upd;split
    ·rename_i e;subst e;refine ae (hu0 _ (Nat.le_refl _)) ?_;rfl
    ·rfl
   split
   ·simp only [Option.getD_some,List.length_append,List.length_cons,List.length_nil,hux]
   ·exact hux
  have e1:r7 (cM C k)=((List.range (C.par.length+1)).map λ x=>(d4 C x).length+(if x∈fU (C.par++[C.par.length]) k.2 then 1 else 0)).sum:=by unfold r7;refine ae fK ?_;exact Af λ x hx=>hlen x (List.mem_range.mp hx)
  have e2:((List.range (C.par.length+1)).map λ x=>(d4 C x).length).sum=r7 C:=by
   refine ae List.range_succ<|ae List.map_append<|ae List.sum_append ?_;have:(d4 C C.par.length).length=0:=by unfold d4;refine ae (hu0 _ (Nat.le_refl _)) ?_;rfl
   exact congrArg _ this
  have e3:((List.range (C.par.length+1)).map λ x=>if x∈fU (C.par++[C.par.length]) k.2 then 1 else 0).sum<=2:=by
   rw [TL];have h4:=jx (l:=(List.range (C.par.length+1)).filter λ x=>decide (x∈fU (C.par++[C.par.length]) k.2)) (m:=fU (C.par++[C.par.length]) k.2) (List.nodup_range.filter _) λ b hb=>by simpa using(List.mem_filter.mp hb).2
   have h5:=D0 (C.par++[C.par.length]) k.2;exact e_ h2 h4 h5 (by simp+arith only)
  rw [e1,sum_add,e2];have:=h.JP;have R_:(cM C k).nodes.length=C.nodes.length+1:=List.length_append ..;refine ae R_ ?_;exact Nat.add_le_add this e3
 ·have h1:=h.Ag;have e1:iZ (cM C k)=iZ C:=rfl;have e2:(cM C k).nodes=C.nodes++[k]:=rfl;have e3:(cM C k).par=C.par++[C.par.length]:=rfl;refine ae e1 ?_;unfold AN at h1⊢;rw [e2,e3,Ah,List.map_append];have e4:(d1 C.nodes).map (root (C.par++[C.par.length]))=(d1 C.nodes).map (root C.par):=List.map_congr_left λ x hx=>nB h.par x (by refine cA h.nodes ?_;exact yj hx);refine ae e4 ?_;split
  ·have:=TN ((d1 C.nodes).map (root C.par)) (root (C.par++[C.par.length]) C.nodes.length);simp only [List.map_cons,List.map_nil,List.length_append,List.length_cons,List.length_nil];exact cI h1 this (by simp+arith only)
  ·simpa using h1
end
end
section
open PySem
def xf(C:Core)(a b:Nat):Prop:=root C.par a≠root C.par b/\∃ka kb,C.nodes[a]?=some ka/\C.nodes[b]?=some kb/\ka.1=kb.1/\ka.2.map (root C.par)=kb.2.map (root C.par)/\ka.2≠[]
section
variable{C:Core}
theorem Ai(E:List (Nat×Nat×Option String))(e:Nat×Nat×Option String):(E++[e]).countP (λ e=>e.2.2.isNone)=E.countP (λ e=>e.2.2.isNone)+if e.2.2.isNone then 1 else 0:=by refine ae List.countP_append ?_;simp [List.countP_cons]
theorem mU{E:List (Nat×Nat×Option String)}{e:Nat×Nat×Option String}(i:Nat)(x:Nat×Nat×Option String)(h:E[i]?=some x):(E++[e])[i]?=some x:=by refine ae (List.getElem?_append_left (List.getElem?_eq_some_iff.mp h).1) ?_;exact h
theorem l5{E:List (Nat×Nat×Option String)}{e x:Nat×Nat×Option String}{i:Nat}(h:(E++[e])[i]?=some x):E[i]?=some x\/i=E.length/\x=e:=by
 rw [List.getElem?_append]at h;split at h
 ·exact .inl h
 ·rename_i hi;have:=(List.getElem?_eq_some_iff.mp h).1;simp at this;have e0:i -E.length=0:=this;rw [e0]at h;simp at h;exact .inr ⟨Nat.le_antisymm (cI (bI this) (bP (Nat.sub_add_cancel ((Nat.le_of_not_lt hi):(E.length)<=(i)))) (by simp+arith only)) ((Nat.le_of_not_lt hi)),h.symm⟩
noncomputable def jC(C:Core)(k g a b:Nat)(r:Option String):Core:={C with par:=C.par.set g k,a6:=C.a6.set k (C.a6.getD k []++C.a6.getD g []),merged:=C.merged++[(k,g)],au:=C.au++[(a,b,r)],aE:=C.aE++[C.au.length],aQ:=upd (upd C.aQ g none) k (some (d4 C k++d4 C g))}
structure JV(C:Core)(a b k g:Nat):Prop where
 kg:k<g
 k_:C.par[k]?=some k
 g_:C.par[g]?=some g
 or_:k=root C.par a/\g=root C.par b\/k=root C.par b/\g=root C.par a
section
variable{a b k g:Nat} {r:Option String} (h:Good C) (v:JV C a b k g)
include h v
theorem JV.rt(x:Nat)(hx:x<C.par.length):root (C.par.set g k) x=(λ z=>if z=g then k else z) (root C.par x):=Qx h.par v.g_ v.k_ v.kg x hx
theorem JV.old{x y:Nat}(hx:x<C.par.length)(hy:y<C.par.length)(e:root C.par x=root C.par y):eF (jC C k g a b r) (C.aE++[C.au.length]) (C.au++[(a,b,r)]).length x y:=
 (h.conn x y hx hy e).mono mU (λ aa q=>List.mem_append_left _ q) (by refine ae List.length_append ?_;exact Nat.le_add_right ..)
theorem JV.to{x:Nat}(ha:a<C.par.length)(hb:b<C.par.length)(hx:x<C.par.length)(q:root C.par x=k\/root C.par x=g):eF (jC C k g a b r) (C.aE++[C.au.length]) (C.au++[(a,b,r)]).length x a:=by
 have fB:eF (jC C k g a b r) (C.aE++[C.au.length]) (C.au++[(a,b,r)]).length a b:=.iP (i:=C.au.length) (r:=r) (List.mem_append_right _ (.head _)) (by refine ae List.length_append ?_;exact Nat.lt_succ_self _) (List.getElem?_concat_length ..);have q':root C.par x=root C.par a\/root C.par x=root C.par b:=by
  rcases v.or_ with⟨e1,e2⟩|⟨e1,e2⟩
  ·refine cA e1<|cA e2 ?_;exact q
  ·refine cA e1<|cA e2 ?_;exact q.symm
 exact q'.elim (λ q=>v.old h hx ha q) λ q=>(v.old h hx hb q).trans fB.symm
theorem JV.conn(ha:a<C.par.length)(hb:b<C.par.length)(x y:Nat)(hx:x<C.par.length)(hy:y<C.par.length)(e:(if root C.par x=g then k else root C.par x)=if root C.par y=g then k else root C.par y):eF (jC C k g a b r) (C.aE++[C.au.length]) (C.au++[(a,b,r)]).length x y:=by
 by_cases q:root C.par x=root C.par y
 ·exact v.old h hx hy q
 ·by_cases q1:root C.par x=g
  ·refine (v.to h ha hb hx (.inr q1)).trans (v.to h ha hb hy ?_).symm;by_cases q2:root C.par y=g
   ·exact .inr q2
   ·rw [if_pos q1,if_neg q2]at e;exact .inl e.symm
  ·rw [if_neg q1]at e;by_cases q2:root C.par y=g
   ·rw [if_pos q2]at e;exact (v.to h ha hb hx (.inl e)).trans (v.to h ha hb hy (.inr q2)).symm
   ·rw [if_neg q2]at e;exact absurd e q
omit v in
theorem JV.get(c:Nat):(C.a6.getD c []).length<=2^C.aE.length:=by
 refine ae List.getD_eq_getElem?_getD ?_;cases e:C.a6[c]?with
 |none=>exact Nat.zero_le _
 |some L=>exact h.dg L (List.mem_of_getElem? e)
theorem JV.dg(l:List Nat)(hl:l∈C.a6.set k (C.a6.getD k []++C.a6.getD g [])):l.length<=2^(C.aE++[C.au.length]).length:=by
 rw [show(C.aE++[C.au.length]).length=C.aE.length+1 from List.length_append ..,Nat.pow_succ,Nat.mul_two];rcases List.mem_or_eq_of_mem_set hl with q|rfl
 ·exact Nat.le_trans (h.dg l q) (Nat.le_add_right ..)
 ·refine ae List.length_append ?_;exact Nat.add_le_add (JV.get h k) (JV.get h g)
theorem JV.lC(hr:r=none->xf C a b)(i x y:Nat)(he:(C.au++[(a,b,r)])[i]?=some (x,y,none)):∃ka kb,C.nodes[x]?=some ka/\C.nodes[y]?=some kb/\ka.1=kb.1/\ka.2.length=kb.2.length/\∀(j x y:Nat),ka.2[j]?=some x->kb.2[j]?=some y->eF (jC C k g a b r) (C.aE++[C.au.length]) i x y:=by
 rcases l5 he with q|⟨hi,q⟩
 ·refine uc (h.lC i x y q) λ ka kb h1 h2 h3 h4 h5=>?_;exact ⟨ka,kb,h1,h2,h3,h4,λ j x y e1 e2=>(h5 j x y e1 e2).mono mU (λ aa q=>List.mem_append_left _ q) (Nat.le_refl _)⟩
 ·cases q;refine uc (hr rfl).2 λ ka kb h1 h2 h3 h4 aa=>?_;refine ⟨ka,kb,h1,h2,h3,by have:=congrArg List.length h4;simpa using this,λ j x y e1 e2=>?_⟩;have iH:root C.par x=root C.par y:=by have:=congrArg (·[j]?) h4;simp only [List.getElem?_map,e1,e2,Option.map_some,Option.some.injEq]at this;exact this
  exact (h.conn x y (h.Eo h1 (List.mem_of_getElem? e1)) (h.Eo h2 (List.mem_of_getElem? e2)) iH).mono mU (λ aa q=>List.mem_append_left _ q) (bP hi)
theorem JV.map(l:List Nat)(hl:∀x∈l,x<C.par.length):l.map (root (C.par.set g k))=(l.map (root C.par)).map (λ z=>if z=g then k else z):=by refine ae List.map_map ?_;exact List.map_congr_left λ x hx=>v.rt h x (hl x hx)
theorem JV.known(p:Node×Nat)(hp:p∈C.known):∃kv,C.nodes[p.2]?=some kv/\p.1.1=kv.1/\p.1.2.map (root (C.par.set g k))=kv.2.map (root (C.par.set g k))/\∀x∈p.1.2,x<(C.par.set g k).length:=
 NG (h.known p hp) λ kv h1 h2 h3 h4=>⟨kv,h1,h2,ae (v.map h _ h4)<|ae (v.map h _ λ x hx=>h.Eo h1 hx)<|ae h3 rfl,λ x hx=>by refine ae List.length_set ?_;exact h4 x hx⟩
theorem JV.aQ(c:Nat)(hc:(C.par.set g k)[c]?=some c):∃L,upd (upd C.aQ g none) k (some (d4 C k++d4 C g)) c=some L:=by
 unfold upd;by_cases q1:c=k
 ·refine ae (if_pos q1) ?_;exact ⟨_,rfl⟩
 ·refine ae (if_neg q1) ?_;by_cases q2:c=g
  ·subst q2;rw [List.getElem?_set_self (List.getElem?_eq_some_iff.mp v.g_).1]at hc;exact absurd (Option.some.inj hc).symm q1
  ·refine ae (if_neg q2) ?_;rw [List.getElem?_set_ne (Ne.symm q2)]at hc;exact h.aQ c hc
theorem JV.eb(c:Nat)(L:List Nat)(hL:upd (upd C.aQ g none) k (some (d4 C k++d4 C g)) c=some L):(C.par.set g k)[c]?=some c:=by
 unfold upd at hL;by_cases q1:c=k
 ·subst q1;refine ae (List.getElem?_set_ne (Nat.ne_of_gt v.kg)) ?_;exact v.k_
 ·rw [if_neg q1]at hL;by_cases q2:c=g
  ·rw [if_pos q2]at hL;cases hL
  ·rw [if_neg q2]at hL;refine ae (List.getElem?_set_ne (Ne.symm q2)) ?_;exact h.eb c L hL
omit v in
theorem JV.us(c n:Nat)(hn:n∈d4 C c):n<C.par.length:=by
 unfold d4 at hn;cases e:C.aQ c with
 |none=>rw [e]at hn;cases hn
 |some M=>rw [e]at hn;exact h.elems c M e n hn
theorem JV.elems(c:Nat)(L:List Nat)(hL:upd (upd C.aQ g none) k (some (d4 C k++d4 C g)) c=some L)(n:Nat)(hn:n∈L):n<C.par.length:=by
 unfold upd at hL;by_cases q1:c=k
 ·rw [if_pos q1]at hL;cases Option.some.inj hL;exact (List.mem_append.mp hn).elim (JV.us h _ n) (JV.us h _ n)
 ·rw [if_neg q1]at hL;by_cases q2:c=g
  ·rw [if_pos q2]at hL;cases hL
  ·rw [if_neg q2]at hL;exact h.elems c L hL n hn
theorem JV.sum:r7 (jC C k g a b r)=r7 C:=by
 have XM:∀c,d4 (jC C k g a b r) c=if c=k then d4 C k++d4 C g else if c=g then[]else d4 C c:=λ c=>by
  refine (?_:(upd (upd C.aQ g none) k (some (d4 C k++d4 C g)) c).getD []=_);unfold upd;by_cases q1:c=k
  ·refine ae (if_pos q1)<|ae (if_pos q1) ?_;rfl
  ·refine ae (if_neg q1)<|ae (if_neg q1) ?_;by_cases q2:c=g
   ·refine ae (if_pos q2)<|ae (if_pos q2) ?_;rfl
   ·refine ae (if_neg q2)<|ae (if_neg q2) ?_;rfl
 unfold r7;refine ae (show(jC C k g a b r).par.length=C.par.length from List.length_set ..) ?_;refine Qz (x:=k) (y:=g) List.nodup_range (List.mem_range.mpr (List.getElem?_eq_some_iff.mp v.k_).1) (List.mem_range.mpr (List.getElem?_eq_some_iff.mp v.g_).1) (Nat.ne_of_lt v.kg) ?_ ?_ λ z h1 h2=>?_
 ·rw [XM,if_pos rfl,List.length_append]
 ·rw [XM,if_neg (Nat.ne_of_gt v.kg),if_pos rfl];rfl
 ·rw [XM,if_neg h1,if_neg h2]
theorem JV.Ag(hr:r=none->xf C a b):iZ (jC C k g a b r)+AN (jC C k g a b r)<=(d1 C.nodes).length:=by
 have h1:=h.Ag;have e1:iZ (jC C k g a b r)=iZ C+if r.isNone then 1 else 0:=Ai ..
 have e2:(d1 C.nodes).map (root (C.par.set g k))=((d1 C.nodes).map (root C.par)).map (λ z=>if z=g then k else z):=v.map h _ λ x hx=>by refine cA h.nodes ?_;exact yj hx
 refine ae e1 ?_;unfold AN at h1⊢;refine (?_:_+dl ((d1 C.nodes).map (root (C.par.set g k)))<=_);refine ae e2 ?_;cases r with
 |some lb=>exact cI h1 (XH ((d1 C.nodes).map (root C.par)) (λ z=>if z=g then k else z)) (by simp+arith only [Option.isNone_some,Bool.false_eq_true,if_false,Nat.add_zero])
 |none=>
  refine uc (hr rfl).2 λ ka kb k1 k2 k3 k4 k5=>?_;have lI:ka.2.length≠0:=λ q=>k5 (List.length_eq_zero_iff.mp q);have hA:∀{i ki},C.nodes[i]?=some ki->ki.2.length≠0->root C.par i∈(d1 C.nodes).map (root C.par):=λ{i ki}e1 e2=>by refine List.mem_map.mpr ⟨i,List.mem_filter.mpr ⟨List.mem_range.mpr (List.getElem?_eq_some_iff.mp e1).1,?_⟩,rfl⟩;unfold isApp;refine ae List.getD_eq_getElem?_getD<|ae e1 ?_;simpa using e2
  have hAa:=hA k1 lI;have hAb:=hA k2 (by have:=congrArg List.length k4;rw [List.length_map,List.length_map]at this;exact this▸lI);have hgk:g∈(d1 C.nodes).map (root C.par)/\k∈(d1 C.nodes).map (root C.par):=by
   rcases v.or_ with⟨q1,q2⟩|⟨q1,q2⟩
   ·refine ae q1<|ae q2 ?_;exact ⟨hAb,hAa⟩
   ·refine ae q1<|ae q2 ?_;exact ⟨hAa,hAb⟩
  exact cI h1 (TP ((d1 C.nodes).map (root C.par)) (λ z=>if z=g then k else z) hgk.1 hgk.2 (Nat.ne_of_lt v.kg) (if_pos rfl) (if_neg (Nat.ne_of_lt v.kg))) (by simp+arith only [Option.isNone_none,if_true])
theorem Good.jC(ha:a<C.par.length)(hb:b<C.par.length)(hr:r=none->xf C a b):Good (jC C k g a b r) where
 nodup:=h.nodup
 nodes:=h.nodes.trans (List.length_set ..).symm
 below:=h.below
 two:=h.two
 par:=h.par.set (Nat.le_of_lt v.kg)
 a6:=(List.length_set ..).trans (h.a6.trans (List.length_set ..).symm)
 dg:=v.dg h
 merged:=by refine (?_:(C.merged++[_]).length=(C.aE++[_]).length);refine ae List.length_append<|ae List.length_append<|ae h.merged ?_;rfl
 aE:=Nat.le_trans (bI (List.length_append ..)) (Nat.le_trans (Nat.succ_le_succ h.aE) (bP (List.length_append ..)))
 yi:=λ i hi=>Nat.lt_of_lt_of_le ((List.mem_append.mp hi).elim (λ q=>Nat.lt_succ_of_lt (h.yi i q)) λ q=>Nat.lt_succ_of_le (bI (List.mem_singleton.mp q))) (bP (List.length_append ..))
 ends:=λ i x y r' he=>by
  refine ae (show(Mine.jC C k g a b r).par.length=C.par.length from List.length_set ..) ?_;rcases l5 he with q|⟨_,q⟩
  ·exact h.ends i x y r' q
  ·cases q;exact ⟨ha,hb⟩
 conn:=λ x y hx hy e=>by have hx:x<C.par.length:=(List.length_set ..)▸hx;have hy:y<C.par.length:=(List.length_set ..)▸hy;exact v.conn h ha hb x y hx hy ((v.rt h x hx).symm.trans (e.trans (v.rt h y hy)))
 lC:=v.lC h hr
 known:=v.known h
 aQ:=v.aQ h
 eb:=v.eb h
 elems:=λ c L hL n hn=>Nat.lt_of_lt_of_le (v.elems h c L hL n hn) (bP (List.length_set ..))
 JP:=Nat.le_trans (bI (v.sum h)) h.JP
 Ag:=v.Ag h hr
end
theorem Good.joined(h:Good C){a b:Nat}(ha:a<C.par.length)(hb:b<C.par.length)(r:Option String)(hr:r=none->xf C a b):Good (dm C a b r):=by
 by_cases hs:root C.par a=root C.par b
 ·obtain ⟨lb,rfl⟩:∃lb,r=some lb:=by
   cases r with
   |none=>exact absurd hs (hr rfl).1
   |some lb=>exact ⟨lb,rfl⟩
  have e0:dm C a b (some lb)={C with au:=C.au++[(a,b,some lb)]}:=by unfold dm;exact if_pos (by assumption)
  refine ae e0 ?_;refine {h with aE:=?_,yi:=?_,ends:=?_,conn:=?_,lC:=?_,Ag:=?_}
  ·have:=h.aE;simp;exact Nat.le_succ_of_le this
  ·intro i hi;have:=h.yi i hi;simp;exact Nat.lt_succ_of_lt this
  ·intro i x y r he;rcases l5 he with q|⟨_,q⟩
   ·exact h.ends i x y r q
   ·cases q;exact ⟨ha,hb⟩
  ·intro x y hx hy e;exact (h.conn x y hx hy e).mono (C:=C) mU (λ aa e=>e) (by simp)
  ·intro i x y he;rcases l5 he with q|⟨_,q⟩
   ·refine uc (h.lC i x y q) λ ka kb h1 h2 h3 h4 h5=>?_;exact ⟨ka,kb,h1,h2,h3,h4,λ j x y e1 e2=>(h5 j x y e1 e2).mono (C:=C) mU (λ aa e=>e) (Nat.le_refl _)⟩
   ·cases q
  ·have:=h.Ag;have e1:iZ {C with au:=C.au++[(a,b,some lb)]}=iZ C:=by refine (?_:(C.au++[(a,b,some lb)]).countP _=_);rw [Ai];rfl
   refine ae e1 ?_;exact this
 ·have hra:=eD h.par ha;have hrb:=eD h.par hb;have e0:dm C a b r={tW C (root C.par a) (root C.par b)with
   au:=C.au++[(a,b,r)],aE:=C.aE++[C.au.length]
   aQ:=upd (upd C.aQ (max (root C.par a) (root C.par b)) none) (min (root C.par a) (root C.par b)) (some (d4 C (min (root C.par a) (root C.par b))++d4 C (max (root C.par a) (root C.par b))))}:=by unfold dm;exact if_neg (by assumption)
  have G4:(min (root C.par a) (root C.par b)=root C.par a/\max (root C.par a) (root C.par b)=root C.par b)\/(min (root C.par a) (root C.par b)=root C.par b/\max (root C.par a) (root C.par b)=root C.par a):=by lia
  have tZ:min (root C.par a) (root C.par b)<max (root C.par a) (root C.par b):=by lia
  have hk:C.par[min (root C.par a) (root C.par b)]?=some (min (root C.par a) (root C.par b)):=by rcases G4 with⟨q,_⟩|⟨q,_⟩<;>refine ae q ?_<;>assumption
  have hg:C.par[max (root C.par a) (root C.par b)]?=some (max (root C.par a) (root C.par b)):=by rcases G4 with⟨_,q⟩|⟨_,q⟩<;>refine ae q ?_<;>assumption
  refine ae e0 ?_;unfold tW;refine Good.jC (k:=min (root C.par a) (root C.par b)) (g:=max (root C.par a) (root C.par b)) h ⟨tZ,hk,hg,G4.imp id id⟩ ha hb hr
end
end
section
open PySem
def ie(C:Core):Prop:=C.nodes.length<=12/\(aV C.au).length+((d1 C.nodes).length -1)<=8
structure jh(C:Core):Prop where
 good:Good C
 lim:ie C
 known:C.known.length<=300
theorem Fx(E:List (Nat×Nat×Option String)):(aV E).length+E.countP (λ e=>e.2.2.isNone)=E.length:=by
 induction E with
 |nil=>rfl
 |cons e E ih=>
  obtain ⟨a,b,r⟩:=e;refine ae List.countP_cons ?_;unfold aV at ih⊢;cases r with
  |none=>exact congrArg _ ih
  |some lb=>simp only [List.filterMap_cons,Option.map_some,Option.isNone_some,Bool.false_eq_true,if_false,List.length_cons];exact Nat.le_antisymm (bG (bI ih) (by simp+arith only)) (bG (bP ih) (by simp+arith only))
section
variable{C C':Core} {w W:List Nat} {b:Nat} {m:List (Nat×List Nat)} {ch:List df}
theorem Good.i0(h:Good C)(hl:ie C):C.au.length<=8:=by
 have h1:=Fx C.au;have h2:=h.Ag;have h3:=hl.2;have e:iZ C=C.au.countP (λ e=>e.2.2.isNone):=rfl;by_cases q:d1 C.nodes=[]
 ·rw [q]at h2 h3;simp at h2 h3;exact Bw (bP h1) (bP e) (bI h2.1) h3 (by simp+arith only)
 ·refine dM (List.exists_mem_of_ne_nil _ q) λ x hx=>?_;have:1<=AN C:=XI (List.mem_map.mpr ⟨x,hx,rfl⟩);lia
theorem Good.ok(h:Good C):Ok (b9 C w b m ch):=
 ⟨h.par,h.a6,h.nodes,h.below,h.aQ,λ p hp=>by refine bp (h.known p hp) λ kv h1 aa=>?_;exact h.lt h1,λ c L hL=>(List.getElem?_eq_some_iff.mp (h.eb c L hL)).1⟩
theorem jh.fit(h:jh C)(hw:w.length<=1000)(hm:m.length<=1000):dc (b9 C w b m ch):=by
 have h8:=h.good.i0 h.lim;have hf:=h.good.aE;have hN:=h.lim.1;have hp:=h.good.nodes;refine ⟨?_,?_,?_,?_,?_,?_,?_,?_,?_,?_,?_,?_,hw,hm⟩
 ·refine (?_:C.nodes.length<=1000);exact nc hN rfl
 ·intro k hk;have:=h.good.two k hk;exact nc this rfl
 ·exact AZ h.good.two hN
 ·refine (?_:C.par.length<=1000);exact nc (Nat.le_trans (bP hp) hN) rfl
 ·refine (?_:C.a6.length<=1000);have:=h.good.a6;exact e_ hN (bP hp) (bI this) (by simp+arith only)
 ·intro l hl;have h1:=h.good.dg l hl;have h2:2^C.aE.length<=2^8:=Nat.pow_le_pow_right (by decide) (Nat.le_trans hf h8);lia
 ·refine (?_:C.merged.length<=1000);have:=h.good.merged;exact e_ h8 hf (bI this) (by simp+arith only)
 ·refine (?_:C.au.length<=1000);exact nc h8 rfl
 ·refine (?_:C.aE.length<=400);exact nc (Nat.le_trans hf h8) rfl
 ·refine (?_:C.known.length<=1000);have:=h.known;exact nc this rfl
 ·intro c L hL;have:=(List.getElem?_eq_some_iff.mp (h.good.eb c L hL)).1;exact e_ hN (bP hp) this (by simp+arith only)
 ·intro c;have:=h.good.usc c;refine (?_:(d4 C c).length<=1000);exact e_ hN hN this (by simp+arith only)
structure Small(C:Core)(w:List Nat)(s:Nat)(ch:List df):Prop where
 kw:C.known.length+w.length+s<=C.nodes.length+24*C.aE.length
 ch:ch.length<=C.nodes.length+C.known.length+C.au.length
 wait:∀n∈w,n<C.par.length
theorem Small.known(h:Small C w s ch)(hg:Good C)(hl:ie C):C.known.length+w.length+s<=204:=by have h1:=h.kw;have h2:=hg.aE;have h3:=hg.i0 hl;have h4:=hl.1;lia
theorem Small.gJ{s:Nat}(h:Small C w s ch)(hg:Good C)(hl:ie C):jh C:=⟨hg,hl,by have:=h.known hg hl;exact bG this (by simp+arith only)⟩
theorem Small.changes{s:Nat}(h:Small C w s ch)(hg:Good C)(hl:ie C):ch.length<=300:=by have h1:=h.ch;have h2:=h.known hg hl;have h3:=hg.i0 hl;have h4:=hl.1;exact Bw h1 h2 h3 h4 (by simp+arith only)
theorem Small.safe{s:Nat}(h:Small C w s ch)(hg:Good C)(hl:ie C)(hm:m.length<=900):P' (b9 C w b m ch):=by
 have h1:=h.known hg hl;have h2:=h.changes hg hl;have h3:=hg.i0 hl;refine ⟨(h.gJ hg hl).fit (bG h1 (by simp+arith only)) (nc hm rfl),hg.ok,?_,?_,?_,h.wait⟩
 ·refine (?_:C.au.length<1000);exact eG h3 rfl
 ·refine (?_:ch.length<=900);exact nc h2 rfl
 ·refine (?_:C.known.length<1000);exact bG h1 (by simp+arith only)
theorem Path.trans{P:Core->Prop}{C C1 C2:Core}{cs ds:List df}(h1:Path P C cs C1)(h2:Path P C1 ds C2):Path P C (cs++ds) C2:=by
 induction h2 with
 |nil _=>rw [List.append_nil];exact h1
 |snoc _ k1 k2 ih=>rw [<-List.append_assoc];exact .snoc ih k1 k2
theorem JR(E:List (Nat×Nat×Option String))(a b:Nat):aV (E++[(a,b,none)])=aV E:=by simp [aV]
theorem xg(E:List (Nat×Nat×Option String))(a b:Nat)(lb:String):aV (E++[(a,b,some lb)])=aV E++[(lb,a,b)]:=by simp [aV]
theorem i3{a b:Nat}{r:Option String}:(dm C a b r).au=C.au++[(a,b,r)]:=by unfold dm;split<;>rfl
theorem ua{a b:Nat}{r:Option String}:(dm C a b r).known=C.known:=by unfold dm tW;split<;>rfl
theorem Ep{a b:Nat}{r:Option String}:(dm C a b r).aE=if root C.par a=root C.par b then C.aE else C.aE++[C.au.length]:=by unfold dm;split<;>rfl
theorem Er{x y:Nat}{r:Option String}:eV (b9 C w b m ch) x y r=b9 (dm C x y r) (jN (b9 C w b m ch) x y) b m (ch++[jv C x y]):=by unfold eV b9;refine ae rX ?_;rfl
theorem XN(h:Good C){c:Nat}:∀n∈d4 C c,n<C.par.length:=λ n hn=>by
 unfold d4 at hn;cases e:C.aQ c with
 |none=>rw [e]at hn;simp at hn
 |some M=>rw [e]at hn;exact h.elems c M e n hn
theorem xh{x y:Nat}{r:Option String}{s:Nat}(h:Small C w s ch)(hg:Good C)(hl:ie C)(hx:x<C.par.length)(hy:y<C.par.length):Small (dm C x y r) (jN (b9 C w b m ch) x y) 0 (ch++[jv C x y])/\(jN (b9 C w b m ch) x y).length<=w.length+24:=by
 have h4:=hl.1;have hu:=hg.usc (max (root C.par x) (root C.par y));have xi:(jN (b9 C w b m ch) x y).length<=w.length+24/\(root C.par x=root C.par y->jN (b9 C w b m ch) x y=w):=by
  unfold jN;refine (?_:(if root C.par x=root C.par y then w else w++d4 C (max (root C.par x) (root C.par y))).length<=_/\_);split
  ·rename_i e;exact ⟨Nat.le_add_right ..,λ aa=>if_pos e⟩
  ·rename_i e;exact ⟨by refine ae List.length_append ?_;exact e_ h4 h4 hu (by simp+arith only),λ q=>absurd q e⟩
 refine ⟨⟨?_,?_,?_⟩,xi.1⟩
 ·refine ae ua<|ae fi<|ae Ep ?_;have h1:=h.kw;by_cases e:root C.par x=root C.par y
  ·refine ae (if_pos e)<|ae (xi.2 e) ?_;exact Bv h1
  ·refine ae (if_neg e)<|ae List.length_append<|ae List.length_cons<|ae List.length_nil ?_;have:=xi.1;exact cI h1 this (by simp+arith only)
 ·refine ae ua<|ae fi<|ae i3 ?_;have:=h.ch;simp only [List.length_append,List.length_cons,List.length_nil];exact Nat.add_le_add_right this _
 ·intro n hn;refine ae rX ?_;unfold jN at hn;have fa:n∈(if root C.par x=root C.par y then w else w++d4 C (max (root C.par x) (root C.par y))):=hn;split at fa
  ·exact h.wait n fa
  ·rcases List.mem_append.mp fa with q|q
   ·exact h.wait n q
   ·exact XN hg n q
inductive JS(C:Core)(b:Nat)(m:List (Nat×List Nat))(ch:List df)(H':Hp)(T:List (String×Nat×Nat))(N:List Node):Prop
 |mk (C':Core) (w':List Nat) (cs:List df):H'=b9 C' w' b m (ch++cs)->Path jh C cs C'->Good C'->ie C'->aV C'.au=T->C'.nodes=N->Small C' w' 0 (ch++cs)->JS C b m ch H' T N
inductive JT(C:Core)(w:List Nat)(b:Nat)(m:List (Nat×List Nat))(ch:List df)(H':Hp):Prop
 |mk (C':Core) (w':List Nat) (cs:List df):H'=b9 C' w' b m (ch++cs)->Path jh C cs C'->Good C'->ie C'->aV C'.au=aV C.au->C'.nodes=C.nodes->Small C' w' 0 (ch++cs)->((C'.au.length=C.au.length/\w'.length=w.length)\/(C'.au.length=C.au.length+1/\w'.length<=w.length+24))->JT C w b m ch H'
inductive G7(μ:Nat)(C:Core)(w:List Nat)(b:Nat)(m:List (Nat×List Nat))(ch:List df):Prop
 |mk (k:Nat) (C':Core) (cs:List df):k<=μ->oy (b9 C w b m ch) (b9 C' [] b m (ch++cs)) k->Path jh C cs C'->Good C'->ie C'->aV C'.au=aV C.au->C'.nodes=C.nodes->Small C' [] 0 (ch++cs)->G7 μ C w b m ch
theorem Aj{n:Nat}(h:Small C w 1 ch)(hg:Good C)(hl:ie C)(hn:n<C.par.length):JT C w b m ch (jP (b9 C w b m ch) n):=by
 have JU:=h.gJ hg hl;obtain ⟨kn,qj⟩:∃k,C.nodes[n]?=some k:=⟨_,List.getElem?_eq_getElem (by rw [hg.nodes];exact hn)⟩
 have ij:rV (b9 C w b m ch) n=kn:=by unfold rV;show C.nodes.getD n _=_;rw [List.getD_eq_getElem?_getD,qj];rfl
 have eZ:keyOf (b9 C w b m ch) n=ia C.par kn:=by unfold keyOf;rw [ij];rfl
 have Nn:gG (b9 C w b m ch) n=b9 C w b m ch:=by unfold gG;rw [if_neg];show¬n=C.par.length;exact Nat.ne_of_lt hn
 unfold jP;rw [eZ,Nn];show JT C w b m ch (match fN C.known (ia C.par kn)with
  |none=>{b9 C w b m ch with known:=C.known++[(ia C.par kn,n)],changes:=ch++[df.known (ia C.par kn)]}
  |some v=>if root C.par v=root C.par n then b9 C w b m ch else eV (b9 C w b m ch) v n none)
 cases e:fN C.known (ia C.par kn)with
 |none=>
  have r6:=hg.knw qj rfl;have Ak:Small {C with known:=C.known++[(ia C.par kn,n)]} w 0 (ch++[df.known (ia C.par kn)]):=⟨by have:=h.kw;simp;exact bG this (by simp+arith only),by have:=h.ch;simp;exact bG this (by simp+arith only),h.wait⟩
  refine ⟨{C with known:=C.known++[(ia C.par kn,n)]},w,[.known (ia C.par kn)],rfl,?_,r6,hl,rfl,rfl,Ak,.inl ⟨rfl,rfl⟩⟩;exact .snoc (cs:=[]) (.nil JU) (.known (wZ e)) (Ak.gJ r6 hl)
 |some v=>
  simp only;by_cases q:root C.par v=root C.par n
  ·rw [if_pos q];exact ⟨C,w,[],by rw [List.append_nil],.nil JU,hg,hl,rfl,rfl,by rw [List.append_nil];exact ⟨by have:=h.kw;exact Nat.le_of_lt this,h.ch,h.wait⟩,.inl ⟨rfl,rfl⟩⟩
  ·rw [if_neg q];refine NG (hg.known _ (z' e)) λ kv h1 h2 h3 h4=>?_;simp only at h1 h2 h3 h4;have hv:=hg.lt h1;have Rg:kv.2.map (root C.par)=kn.2.map (root C.par):=by rw [<-h3];simp only [ia,List.map_map];apply List.map_congr_left;intro x hx;exact Ae hg.par (hg.Eo qj hx)
   have jT:kv.1=kn.1:=h2.symm;have hlr:xf C v n:=by
    refine ⟨q,kv,kn,h1,qj,jT,Rg,λ HV=>?_⟩;have hlen:kv.2.length=kn.2.length:=by have:=congrArg List.length Rg;simpa using this
    rw [HV]at hlen;have aa3:kn.2=[]:=List.length_eq_zero_iff.mp hlen.symm;have:kv=kn:=Prod.ext jT (by rw [HV,aa3]);subst this;have:=(List.getElem?_inj (by rw [hg.nodes];exact hv) hg.nodup).mp (h1.trans qj.symm);subst this;exact q rfl
   have r6:=hg.joined hv hn none λ aa=>hlr;refine Bs (xh (b:=b) (m:=m) (r:=none) h hg hl hv hn) λ Ak xi=>?_;have ht:aV (dm C v n none).au=aV C.au:=by rw [i3,JR]
   have eH:ie (dm C v n none):=⟨by rw [fi];exact hl.1,by rw [ht,fi];exact hl.2⟩
   refine ⟨_,_,[jv C v n],Er,?_,r6,eH,ht,fi,Ak,.inr ⟨by rw [i3];exact List.length_append ..,xi⟩⟩;exact .snoc (cs:=[]) (.nil JU) (.iP hv hn) (Ak.gJ r6 eH)
theorem Fy(hm:m.length<=900):∀(μ:Nat)(C:Core)(w:List Nat)(ch:List df),30*(8 -C.au.length)+w.length<=μ->Small C w 0 ch->Good C->ie C->
  G7 μ C w b m ch:=by
 intro μ;induction μ with
 |zero=>
  intro C w ch hμ h hg hl;have hw:w=[]:=List.length_eq_zero_iff.mp (Nat.le_antisymm (ji hμ) (Nat.zero_le _));subst hw;exact ⟨0,C,[],Nat.le_refl _,by rw [List.append_nil];exact .done (h.safe hg hl hm) rfl,.nil (h.gJ hg hl),hg,hl,rfl,rfl,by rw [List.append_nil];exact h⟩
 |succ μ ih=>
  intro C w ch hμ h hg hl;rcases List.eq_nil_or_concat w with hw|⟨W,n,hw⟩
  ·subst hw;exact ⟨0,C,[],Nat.zero_le _,by rw [List.append_nil];exact .done (h.safe hg hl hm) rfl,.nil (h.gJ hg hl),hg,hl,rfl,rfl,by rw [List.append_nil];exact h⟩
  ·rw [List.concat_eq_append]at hw;subst hw;have h1:Small C W 1 ch:=⟨by have:=h.kw;simp at this;exact this,h.ch,λ x hx=>h.wait x (List.mem_append_left _ hx)⟩
   have hn:n<C.par.length:=h.wait n (List.mem_append_right _ (.head _));obtain ⟨C1,w1,cs1,e1,p1,g1,l1,t1,n1,s1,G4⟩:=Aj (b:=b) (m:=m) h1 hg hl hn;have h8:=g1.i0 l1;simp only [List.length_append,List.length_cons,List.length_nil]at hμ;obtain ⟨k,C2,XO,hk,hs,p2,g2,l2,t2,n2,s2⟩:=ih C1 w1 (ch++cs1) (by lia) s1 g1 l1;refine ⟨k+1,C2,cs1++XO,Nat.lt_succ_of_le hk,?_,p1.trans p2,g2,l2,t2.trans t1,n2.trans n1,by rw [<-List.append_assoc];exact s2⟩;rw [<-List.append_assoc];refine .step (W:=W) (n:=n) (h.safe hg hl hm) rfl ?_;have:({b9 C (W++[n]) b m ch with waiting:=W}:Hp)=b9 C W b m ch:=rfl;refine ae this<|ae e1 ?_;exact hs
theorem Es{k:Node}(h:Small C w 0 ch)(hg:Good C)(hl:ie C)(eH:ie (cM C k))(hk:∀x∈k.2,x<C.par.length)(h2:k.2.length<=2)(fu:k∉C.nodes):JS C b m ch (uW (b9 C w b m ch) k) (aV C.au) (C.nodes++[k]):=by
 have Al:=hg.made hk h2 fu;have s1:Small (cM C k) w 1 (ch++[.made C.par.length]):=⟨by have:=h.kw;simp [cM];exact bG this (by simp+arith only),by have:=h.ch;simp [cM];exact bG this (by simp+arith only),λ x hx=>by have:=h.wait x hx;simp [cM];exact Nat.lt_succ_of_lt this⟩
 have hn:C.par.length<(cM C k).par.length:=by simp [cM]
 obtain ⟨C',w',cs,e,p,g,l,t,n,s,_⟩:=Aj (b:=b) (m:=m) s1 Al eH hn;refine ⟨C',w',[.made C.par.length]++cs,?_,?_,g,l,t,n,by rw [<-List.append_assoc];exact s⟩
 ·rw [<-List.append_assoc,<-e];have e1:gG {b9 C w b m ch with toCore:=cM C k} C.par.length=b9 (cM C k) w b m (ch++[.made C.par.length]):=by unfold gG;refine (if_pos (rfl:C.par.length=C.par.length)).trans ?_;unfold b9;simp [cM]
  have e2:gG (b9 (cM C k) w b m (ch++[.made C.par.length])) C.par.length=b9 (cM C k) w b m (ch++[.made C.par.length]):=by unfold gG;rw [if_neg];refine (?_:¬C.par.length=(cM C k).par.length);exact Nat.ne_of_lt hn
  refine (?_:jP {b9 C w b m ch with toCore:=cM C k} C.par.length=_);unfold jP;refine ae e1<|ae e2 ?_;rfl
 ·exact Path.trans (.snoc (cs:=[]) (.nil (h.gJ hg hl)) (.made hk h2 fu) (s1.gJ Al eH)) p
theorem JW{x y:Nat}{lb:String}(h:Small C w 0 ch)(hg:Good C)(hl:ie C)(eH:ie (dm C x y (some lb)))(hx:x<C.par.length)(hy:y<C.par.length):JS C b m ch (eV (b9 C w b m ch) x y (some lb)) (aV C.au++[(lb,x,y)]) C.nodes:=by have r6:=hg.joined hx hy (some lb) (λ q=>by cases q);refine Bs (xh (b:=b) (m:=m) (r:=some lb) h hg hl hx hy) λ Ak aa=>?_;refine ⟨_,_,[jv C x y],Er,.snoc (cs:=[]) (.nil (h.gJ hg hl)) (.iP hx hy) (Ak.gJ r6 eH),r6,eH,by rw [i3,xg],fi,Ak⟩
end
end
section
set_option genInjectivity false
set_option genSizeOf false
open PySem
section
variable{C C':Core} {w W:List Nat} {b:Nat} {m:List (Nat×List Nat)} {ch:List df} {R:List Cell} {P:PV} {A:U->Prop} {H:Hp}
theorem jh.lD(h:jh C)(hw:w.length<=1000)(hm:m.length<=1000):yg (b9 C w b m ch):=by
 have hN:=h.lim.1;refine ⟨h.fit hw hm,h.good.below,?_,h.good.yi,h.good.i0 h.lim,?_,?_⟩
 ·refine (?_:C.nodes.length<=60);exact nc hN rfl
 ·intro i x y r he;have:=h.good.ends i x y r he;have e:=h.good.nodes;refine (?_:x<C.nodes.length/\y<C.nodes.length);lia
 ·intro i x y he;refine uc (h.good.lC i x y he) λ ka kb h1 h2 h3 h4 h5=>?_;exact ⟨ka,kb,h1,h2,h3,h4,h.good.two ka (List.mem_of_getElem? h1),h5⟩
theorem LS.si{n:Nat}{kvs kvs':List (String×AV)}{x:String}{u:AV}(v:LS H ((n,.inst .dO)::(n+1,.dS kvs)::R))(h1:(attrsOf .dO).contains x=true)(h2:dz kvs x u=kvs')(hz:kvs.length<=100)(k:∀v':LS H ((n,.inst .dO)::(n+1,.dS kvs')::R),A v'.w.σ):bw x u v.w.σ A (.ref n):=by subst h2;exact .mk (v.at (.head _)) (v.at (.tail _ (.head _))) h1 hz (k (LS.setAt (A:=[(n,.inst .dO)]) v _))
theorem TQ(v:LS H R)(d:Nat)(k:∀y b(v':LS H (WC y 0 0 .none b (λ aa=>[]) []++R)),P (.ref y) v'.w.σ):(O (d+2)).make .dO [.ref 3] v.w.σ P:=by
 obtain ⟨v1,e⟩:∃v1:LS H ((v.w.σ.length,.inst .dO)::(v.w.σ.length+1,.dS [])::R),v1.w.σ=v.w.σ++[.inst .dO,.dS []]:=⟨((v.new (.inst .dO)).new (.dS [])).bz (by
  refine (?_:List.Perm (((v.w.σ++[AO.inst .dO]).length,AO.dS [])::(v.w.σ.length,AO.inst .dO)::R) _);refine ae List.length_append ?_;exact .swap _ _ _),by
  refine (?_:v.w.σ++[AO.inst .dO]++[AO.dS []]=_);exact List.append_assoc ..⟩
 refine (?_:(O (d+1)).call .uf [.ref v.w.σ.length,.ref 3] (v.w.σ++[.inst .dO,.dS []]) λ u σ'=>u=.none/\P (.ref v.w.σ.length) σ');refine cA e ?_;generalize v.w.σ.length=n at v1;refine IZ<|v1.si (by kernel_rfl) (by simp [dz];rfl) (by decide) λ v=>v.si (by kernel_rfl) (by simp [dz];rfl) (Nat.le_of_ble_eq_true rfl) λ v=>v.si (by kernel_rfl) (by simp [dz];rfl) (Nat.le_of_ble_eq_true rfl) λ v=>v.si (by kernel_rfl) (by simp [dz];rfl) (Nat.le_of_ble_eq_true rfl) λ v=>?_;let v2:LS H ((n,.inst .dO)::(n+1,_)::(v.w.σ.length,.dI [])::R):=(v.new (.dI [])).bz (List.perm_middle (l₁:=[_,_])).symm;exact LS.si v2 (kvs':=mO 0 0 .none v.w.σ.length) (by kernel_rfl) (by kernel_rfl) (Nat.le_of_ble_eq_true rfl) λ v=>⟨rfl,k n _ v⟩
theorem QA{op:String}{ks:List Nat}(v:LS (b9 C w b m ch) R)(hs:Small C w 0 ch)(hg:Good C)(hl:ie C)(eH:ie (cM C (op,ks)))(hm:m.length<=900)(hw:w.length<=900)(jT:ef op=true)(fu:(op,ks)∉C.nodes)(hk:∀i∈ks,i<C.nodes.length)(hz:ks.length<=2)(d:Nat)
  (k:∀C' w' cs(v':LS (b9 C' w' b m (ch++cs)) R),Path jh C cs C'->Good C'->ie C'->aV C'.au=aV C.au->C'.nodes=C.nodes++[(op,ks)]->Small C' w' 0 (ch++cs)->P (.int C.par.length) v'.w.σ):(O (d+7)).call .add [.ref 3,.str op,.tup (nl ks)] v.w.σ P:=by
 have eB:∀x∈ks,x<C.par.length:=λ x hx=>by refine cA hg.nodes ?_;exact hk x hx
 obtain ⟨C',w',cs,e,p,g,l,t,n,s⟩:=Es (b:=b) (m:=m) hs hg hl eH eB hz fu;have Al:=hg.made eB hz fu;have s1:Small (cM C (op,ks)) w 1 (ch++[.made C.par.length]):=⟨by have:=hs.kw;simp [cM];exact bG this (by simp+arith only),by have:=hs.ch;simp [cM];exact bG this (by simp+arith only),λ x hx=>by have:=hs.wait x hx;simp [cM];exact Nat.lt_succ_of_lt this⟩
 have Xp:=s1.gJ Al eH;have Hm:dc {b9 C w b m ch with toCore:=cM C (op,ks)}:=by have:=Xp.fit (w:=w) (b:=b) (m:=m) (ch:=ch) (nc hw rfl) (nc hm rfl);exact ⟨this.nodes,this.node,this.wt,this.par,this.a6,this.dg,this.merged,this.au,this.aE,this.known,this.aQ,this.user,this.waiting,this.marks⟩
 have ik:Ok {b9 C w b m ch with toCore:=cM C (op,ks)}:=by have:=Al.ok (w:=w) (b:=b) (m:=m) (ch:=ch);exact ⟨this.le,this.a6,this.nodes,this.below,this.aQ,this.known,this.eb⟩
 have h1:=hs.known hg hl;have h2:=hs.changes hg hl;have h3:=hg.i0 hl;have key:∀v':LS (b9 C' w' b m (ch++cs)) R,P (.int C.par.length) v'.w.σ:=λ v'=>k C' w' cs v' p g l t n s;rw [<-e]at key;exact G0 v ((hs.gJ hg hl).fit (nc hw rfl) (nc hm rfl)) hg.ok jT fu hk hz Hm ik (show C.au.length<1000 by exact eG h3 rfl) (show ch.length<=900 by exact nc h2 rfl) (show C.known.length<1000 by exact bG h1 (by simp+arith only)) key
end
noncomputable def nK(l:Nat):String:="t"++toString ((l:Nat):Int)
abbrev Ev:=String×Nat×Nat
structure jS(C:Core)(L:Nat):Prop where
 nodes:C.nodes.length<=6+L
 told:(aV C.au).length+(d1 C.nodes).length<=3+L
 app:1<=(d1 C.nodes).length
 nodup:((aV C.au).map (·.1)).Nodup
 Et:∀lb∈(aV C.au).map (·.1),∃l,l<L/\lb=nK l
theorem jS.mono{C:Core}{L L':Nat}(h:jS C L)(hL:L<=L'):jS C L':=⟨by have:=h.nodes;exact cI this hL (by simp+arith only),by have:=h.told;exact cI this hL (by simp+arith only),h.app,h.nodup,λ lb hl=>by refine bp (h.Et lb hl) λ l h1 h2=>?_;exact ⟨l,Nat.lt_of_lt_of_le h1 hL,h2⟩⟩
theorem jS.lim{C:Core}{L:Nat}(h:jS C L)(hL:L<=6):ie C:=⟨by have:=h.nodes;exact cI hL this (by simp+arith only),by have:=h.told;have:=h.app;lia⟩
theorem jS.same{C C':Core}{L:Nat}(h:jS C L)(h1:aV C'.au=aV C.au)(h2:C'.nodes=C.nodes):jS C' L:=⟨by refine ae h2 ?_;exact h.nodes,by refine ae h1<|ae h2 ?_;exact h.told,by refine ae h2 ?_;exact h.app,by refine ae h1 ?_;exact h.nodup,by refine ae h1 ?_;exact h.Et⟩
inductive oC(L:Nat):Core->List df->List (Nat×List Nat)->List (List Node×List Ev)->Prop
 |nil {C:Core} {ch:List df}:oC L C ch [] []
 |push {C0 C:Core} {w0:List Nat} {jX cs:List df} {m0:List (Nat×List Nat)} {yk:List (List Node×List Ev)}:oC L C0 jX m0 yk->Good C0->Small C0 w0 0 jX->jS C0 L->Path jh C0 cs C->oC L C (jX++cs) (m0++[(jX.length,w0)]) (yk++[(C0.nodes,aV C0.au)])
theorem oC.ext{L:Nat}{C C':Core}{ch cs:List df}{m:List (Nat×List Nat)}{sts:List (List Node×List Ev)}(h:oC L C ch m sts)(p:Path jh C cs C'):oC L C' (ch++cs) m sts:=by
 cases h with
 |nil=>exact .nil
 |push h1 h2 h3 h4 h5=>rw [List.append_assoc];exact .push h1 h2 h3 h4 (h5.trans p)
theorem oC.mono{L L':Nat}(hL:L<=L'){C:Core}{ch:List df}{m:List (Nat×List Nat)}{sts:List (List Node×List Ev)}(h:oC L C ch m sts):oC L' C ch m sts:=by
 induction h with
 |nil=>exact .nil
 |push _ h2 h3 h4 h5 ih=>exact .push ih h2 h3 (h4.mono hL) h5
theorem oC.len{L:Nat}{C:Core}{ch:List df}{m:List (Nat×List Nat)}{sts:List (List Node×List Ev)}(h:oC L C ch m sts):sts.length=m.length:=by
 induction h with
 |nil=>rfl
 |push _ _ _ _ _ ih=>simp [ih]
noncomputable def hG(R:List Cell):List (Nat×Nat)->List (List Node×List Ev)->Prop
 |[],[]=>True
 |s::ss,c::cs=>(s.1,AO.list (c.1.map bg))∈R/\(s.2,AO.list (c.2.map gI))∈R/\hG R ss cs
 |_,_=>False
theorem hG.len{R:List Cell}{ss:List (Nat×Nat)}{cs:List (List Node×List Ev)}(h:hG R ss cs):ss.length=cs.length:=by
 induction ss generalizing cs with
 |nil=>cases cs with
  |nil=>rfl
  |cons=>exact h.elim
 |cons t ss ih=>cases cs with
  |nil=>exact h.elim
  |cons d cs=>exact congrArg Nat.succ (ih h.2.2)
theorem hG.mono{R R':List Cell}(hR:∀c∈R,c∈R'){ss:List (Nat×Nat)}{cs:List (List Node×List Ev)}(h:hG R ss cs):hG R' ss cs:=by
 induction ss generalizing cs with
 |nil=>cases cs with
  |nil=>trivial
  |cons=>exact h.elim
 |cons t ss ih=>cases cs with
  |nil=>exact h.elim
  |cons d cs=>exact ⟨hR _ h.1,hR _ h.2.1,ih h.2.2⟩
theorem hG.last{R:List Cell}{c:List Node×List Ev}{ss:List (Nat×Nat)}{cs:List (List Node×List Ev)}(h:hG R ss (cs++[c])):∃iJ s,ss=iJ++[s]/\hG R iJ cs/\(s.1,AO.list (c.1.map bg))∈R/\(s.2,AO.list (c.2.map gI))∈R:=by
 induction cs generalizing ss with
 |nil=>cases ss with
  |nil=>exact h.elim
  |cons s r=>cases r with
   |nil=>exact ⟨[],s,rfl,trivial,h.1,h.2.1⟩
   |cons=>exact h.2.2.elim
 |cons d cs ih=>cases ss with
  |nil=>exact h.elim
  |cons s ss=>exact xn (ih h.2.2) λ iJ t e h1 h2=>⟨s::iJ,t,congrArg _ e,⟨h.1,h.2.1,h1⟩,h2⟩
theorem hG.snoc{R:List Cell}{c:List Node×List Ev}{s:Nat×Nat}(h1:(s.1,AO.list (c.1.map bg))∈R)(h2:(s.2,AO.list (c.2.map gI))∈R){ss:List (Nat×Nat)}{cs:List (List Node×List Ev)}(h:hG R ss cs):hG R (ss++[s]) (cs++[c]):=by
 induction ss generalizing cs with
 |nil=>cases cs with
  |nil=>exact ⟨h1,h2,trivial⟩
  |cons=>exact h.elim
 |cons t ss ih=>cases cs with
  |nil=>exact h.elim
  |cons d cs=>exact ⟨h.1,h.2.1,ih h.2.2⟩
noncomputable def d2(s:Nat×Nat):AV:=.tup [.ref s.1,.ref s.2]
structure e8(L:Nat)(C:Core)(w:List Nat)(m:List (Nat×List Nat))(ch:List df)(sts:List (List Node×List Ev)):Prop where
 good:Good C
 small:Small C w 0 ch
 cnt:jS C L
 Eu:oC L C ch m sts
 marks:m.length<=L
theorem e8.step{L L':Nat}{C C':Core}{w w':List Nat}{m:List (Nat×List Nat)}{ch cs:List df}{sts:List (List Node×List Ev)}(h:e8 L C w m ch sts)(hL:L<=L')(p:Path jh C cs C')(g:Good C')(s:Small C' w' 0 (ch++cs))(c:jS C' L'):e8 L' C' w' m (ch++cs) sts:=⟨g,s,c,(h.Eu.mono hL).ext p,by have:=h.marks;exact Nat.le_trans this hL⟩
theorem e8.mono{L L':Nat}{C:Core}{w:List Nat}{m:List (Nat×List Nat)}{ch:List df}{sts:List (List Node×List Ev)}(h:e8 L C w m ch sts)(hL:L<=L'):e8 L' C w m ch sts:=⟨h.good,h.small,h.cnt.mono hL,h.Eu.mono hL,by have:=h.marks;exact Nat.le_trans this hL⟩
theorem e8.push{L:Nat}{C:Core}{w:List Nat}{m:List (Nat×List Nat)}{ch:List df}{sts:List (List Node×List Ev)}(h:e8 L C w m ch sts)(hL:L<=6):e8 (L+1) C w (m++[(ch.length,w)]) ch (sts++[(C.nodes,aV C.au)]):=by refine ⟨h.good,h.small,h.cnt.mono (Nat.le_succ _),?_,by have:=h.marks;simp;exact this⟩;have:=oC.push (cs:=[]) (h.Eu.mono (L':=L+1) (Nat.le_succ _)) h.good h.small (h.cnt.mono (Nat.le_succ _)) (.nil (h.small.gJ h.good (h.cnt.lim hL)));rw [List.append_nil]at this;exact this
end
section
open PySem
theorem QB:∀i,i<7->∀j,j<7->nK i=nK j->i=j:=by decide+kernel
section
variable{P:PV} {A:U->Prop} {s:U} {R:List Cell} {C:Core} {w:List Nat} {b:Nat} {m:List (Nat×List Nat)} {ch:List df} {L:Nat} {sts:List (List Node×List Ev)}
theorem Ew(n:Nat):Idx (-1) (n+1) n:=⟨Nat.lt_succ_self _,.inr (by lia)⟩
theorem getLast{xs:List AV}{l:Nat}{u:AV}(h:s[l]?=some (.list (xs++[u])))(k:P u s):ah s P (.ref l) (.int (-1)):=.l h (by refine ae List.length_append ?_;exact Ew _) (List.getElem?_concat_length ..) k
theorem G8{xs:List AV}{l:Nat}{u v:AV}(h:s[l]?=some (.list (xs++[u])))(k:A (s.set l (.list (xs++[v])))):cz v s A (.ref l) (.int (-1)):=.l h (by refine ae List.length_append ?_;exact Ew _) (by simpa using k)
theorem e8.gJ(h:e8 L C w m ch sts)(hL:L<=6):jh C:=h.small.gJ h.good (h.cnt.lim hL)
theorem e8.Ex(h:e8 L C w m ch sts)(hL:L<=6):w.length<=204:=by have:=h.small.known h.good (h.cnt.lim hL);exact ji this
theorem e8.fit(h:e8 L C w m ch sts)(hL:L<=6):dc (b9 C w b m ch):=(h.gJ hL).fit (by have:=h.Ex hL;exact nc this rfl) (by have:=h.marks;exact nc (Nat.le_trans this hL) rfl)
theorem nL(v:LS (b9 C w b m ch) R)(ht:e8 L C w m ch sts)(hL:L<=6)(d:Nat)(k:∀C' cs(v':LS (b9 C' [] b m (ch++cs)) R),e8 L C' [] m (ch++cs) sts->aV C'.au=aV C.au->C'.nodes=C.nodes->P .none v'.w.σ):(O (d+7)).call .settle [.ref 3] v.w.σ P:=by have hm:=ht.marks;have hw:=ht.Ex hL;obtain ⟨q,C',cs,hk,hs,p,g,l,t,n,s⟩:=Fy (b:=b) (m:=m) (nc (Nat.le_trans hm hL) rfl) _ C w ch (Nat.le_refl _) ht.small ht.good (ht.cnt.lim hL);exact Ab hs v λ v'=>k C' cs v' (ht.step (Nat.le_refl _) p g s (ht.cnt.same t n)) t n
theorem Ey{L':Nat}{k:Node}(hc:jS C L')(h1:C.nodes.length+1<=6+L')(h2:(aV C.au).length+(d1 C.nodes).length+1<=3+L'):∀C':Core,C'.nodes=C.nodes++[k]->aV C'.au=aV C.au->jS C' L':=by
 intro C' e1 e2;have hl:(d1 (C.nodes++[k])).length<=(d1 C.nodes).length+1/\(d1 C.nodes).length<=(d1 (C.nodes++[k])).length:=by rw [Ah,List.length_append];split<;>simp
 have:=hc.app;exact ⟨by refine ae e1 ?_;simp;exact h1,by refine ae e1<|ae e2 ?_;exact cI h2 hl.1 (by simp+arith only),by refine ae e1 ?_;exact Nat.le_trans this hl.2,by refine ae e2 ?_;exact hc.nodup,by refine ae e2 ?_;exact hc.Et⟩
theorem Am{n ln L':Nat}{row:List Int}(v:LS (b9 C w b m ch) ((0,di n)::(2,dW row)::R))(hn:n<=900)(ht:e8 L C w m ch sts)(Np:L<=L')(hL:L'<=6)(h1:C.nodes.length+1<=6+L')(h2:(aV C.au).length+(d1 C.nodes).length+1<=3+L')(j8:0<C.nodes.length)(hl:(ln,.list (C.nodes.map bg))∈R)(d:Nat)
  (k:∀C' w' cs n' iX X(v':LS (b9 C' w' b m (ch++cs)) ((0,di n')::(2,dW row)::(X++R))),n'<=n+3->e8 L' C' w' m (ch++cs) sts->(iX,AO.list (C'.nodes.map bg))∈X++R->aV C'.au=aV C.au->P (.ref iX) v'.w.σ):
  (O (d+8)).call .more [.ref 0,.ref 3,.ref ln] v.w.σ P:=by
 have hg:=ht.good;have hs:=ht.small;have hc:=ht.cnt.mono Np;have r8:=hc.lim hL;have hw:=hs.known hg r8;have hm:=ht.marks;have XF:=hs.changes hg r8;have h8:=hg.i0 r8;have XQ:∀k,w8 C.nodes.length k->(∀x∈k.2,x<C.par.length)/\k.2.length<=2/\ie (cM C k):=λ k hd=>by obtain ⟨ho,hk⟩:=hd;refine ⟨λ x hx=>by refine cA hg.nodes ?_;have:=hk x hx;exact Nat.lt_of_lt_of_le this (Nat.min_le_left (C.nodes.length) (4)),by rcases ho with⟨_,q⟩|⟨_,q⟩<;>lia,?_⟩;exact (Ey (k:=k) hc h1 h2 (cM C k) rfl rfl).lim hL
 have Y4:R3 (b9 C w b m ch):=by
  refine ⟨(hs.gJ hg r8).fit (nc (ji hw) rfl) (e_ Np hL hm (by simp+arith only)),hg.ok,show C.au.length<1000 by exact eG h8 rfl,show ch.length<=900 by exact nc XF rfl,show C.known.length<1000 by exact bG hw (by simp+arith only),hg.nodup,j8,λ k hd fu=>?_⟩;obtain ⟨a1,a2,a3⟩:=XQ k hd;have Al:=hg.made a1 a2 fu;have s1:Small (cM C k) w 1 (ch++[.made C.par.length]):=⟨by have:=hs.kw;simp [cM];exact bG this (by simp+arith only),by have:=hs.ch;simp [cM];exact bG this (by simp+arith only),λ x hx=>by have:=hs.wait x hx;simp [cM];exact Nat.lt_succ_of_lt this⟩
  have f1:=(s1.gJ Al a3).fit (w:=w) (b:=b) (m:=m) (ch:=ch) (nc (ji hw) rfl) (e_ Np hL hm (by simp+arith only));have o1:=Al.ok (w:=w) (b:=b) (m:=m) (ch:=ch);exact ⟨⟨f1.nodes,f1.node,f1.wt,f1.par,f1.a6,f1.dg,f1.merged,f1.au,f1.aE,f1.known,f1.aQ,f1.user,f1.waiting,f1.marks⟩,⟨o1.le,o1.a6,o1.nodes,o1.below,o1.aQ,o1.known,o1.eb⟩⟩
 refine Tw v hn Y4 hl λ kk n' iX X hd fa An=>?_;obtain ⟨a1,a2,a3⟩:=XQ kk hd;by_cases fg:kk∈C.nodes
 ·rw [show i_ (b9 C w b m ch) kk=b9 C w b m (ch++[]) by unfold i_;rw [List.append_nil];exact if_pos fg]at An⊢;exact λ v'=>k C w [] n' iX X v' fa (by rw [List.append_nil];exact ht.mono Np) An rfl
 ·obtain ⟨C',w',cs,e1,p,g,l,t,nn,s⟩:=Es (b:=b) (m:=m) hs hg r8 a3 a1 a2 fg;rw [show i_ (b9 C w b m ch) kk=b9 C' w' b m (ch++cs) by unfold i_;refine cA e1 ?_;exact if_neg fg]at An⊢;exact λ v'=>k C' w' cs n' iX X v' fa (ht.step Np p g s (Ey (k:=kk) hc h1 h2 C' nn t)) An t
end
end
section
set_option genInjectivity false
set_option genSizeOf false
open PySem
noncomputable def nC(n:Nat)(row:List Int)(ls:Nat)(ss:List (Nat×Nat))(wl bb:Nat)(R:List Cell):List Cell:=(0,di n)::(2,dW row)::(ls,.list (ss.map d2))::(WC wl 0 0 .none bb (λ aa=>[]) []++R)
structure jZ(row:List Int)(wl bb ls L n:Nat)where
 C:Core
 w:List Nat
 b:Nat
 m:List (Nat×List Nat)
 ch:List df
 sts:List (List Node×List Ev)
 ss:List (Nat×Nat)
 R:List Cell
 v:LS (b9 C w b m ch) (nC n row ls ss wl bb R)
 nM:e8 L C w m ch sts
 locs:hG R ss (sts++[(C.nodes,aV C.au)])
section
variable{P:PV} {row:List Int} {wl bb ls L n n2 ln le D:Nat} {x2:aL} {iJ:List (Nat×Nat)} (E:jZ row wl bb ls L n)
theorem jZ.XR:E.ss.length=E.m.length+1:=by have:=E.locs.len;refine ae this<|ae List.length_append<|ae E.nM.Eu.len ?_;rfl
theorem jZ.top(k6:E.ss=iJ++[(ln,le)]):hG E.R iJ E.sts/\(ln,AO.list (E.C.nodes.map bg))∈E.R/\(le,AO.list ((aV E.C.au).map gI))∈E.R:=by obtain ⟨s2,s,e,h3,h4,h5⟩:=E.locs.last;rw [k6]at e;obtain ⟨e1,e2⟩:=List.append_inj' e rfl;cases e2;subst e1;exact ⟨h3,h4,h5⟩
theorem Fz(hL:L<=5)(k6:E.ss=iJ++[(ln,le)])(k:∀E':jZ row wl bb ls (L+1) n,gC (O (D+121)) P n2 x2 (.ref 0) (.ref 3) (.ref ln) (.ref ls) (.ref wl) E'.v.w.σ):
  zO (O (D+121)) P n2 x2 (.ref le) (.ref 0) (.ref 3) (.ref ln) (.ref ls) (.ref wl) E.v.w.σ:=by
 have ht:=E.nM;have xb:=ht.small.changes ht.good (ht.cnt.lim (Nat.le_succ_of_le hL));have vq:=E.XR;have hm:=ht.marks;obtain ⟨h3,h4,h5⟩:=E.top k6;refine E.v.w.WT<|Tr E.v (ht.fit (Nat.le_succ_of_le hL)) (by show E.ch.length<=900;exact nc xb rfl) λ v=>?_;have cl:=v.at (l:=ls) (.tail _ (.tail _ (.head _)))
 exact .mk cl<|.mk cl (by simp;exact e_ hL (bI vq) hm (by simp+arith only))<|k ⟨E.C,E.w,E.b,_,E.ch,_,E.ss++[(ln,le)],E.R,(LS.setAt (A:=[(0,di n),(2,dW row)]) v (.list (E.ss.map d2++[d2 (ln,le)]))).bz (.of_eq (by unfold nC;refine ae List.map_append ?_;rfl)),ht.push (Nat.le_succ_of_le hL),E.locs.snoc h4 h5⟩
theorem JX(hL:L<=5)(h2s:1<E.ss.length)(k:∀E':jZ row wl bb ls (L+1) n,gC (O (D+121)) P n2 x2 (.ref 0) (.ref 3) (.ref ln) (.ref ls) (.ref wl) E'.v.w.σ):
  rL (O (D+121)) P n2 x2 (.ref 0) (.ref 3) (.ref ln) (.ref ls) (.ref wl) E.v.w.σ:=by
 have vq:=E.XR;obtain ⟨C,w,b,m,ch,sts,ss,R,v,ht,Y5⟩:=E;simp only at h2s vq;refine (?_:rL (O (D+121)) P n2 x2 (.ref 0) (.ref 3) (.ref ln) (.ref ls) (.ref wl) v.w.σ);have hm:=ht.marks;have hw:=ht.Ex (Nat.le_succ_of_le hL);have xb:=ht.small.changes ht.good (ht.cnt.lim (Nat.le_succ_of_le hL));have M6:=ht.Eu;cases M6 with
 |nil=>simp at vq;lia
 |@push C0 _ w0 jX cs m0 yk h1 g0 s0 c0 p0=>simp only [List.length_append,List.length_cons,List.length_nil]at hm xb;refine v.w.RR<|M7 (P:=jh) (λ C ch hC=>⟨hC.good.ok,hC.fit (nc hw rfl) (cI hL hm (by simp+arith only))⟩) p0 v λ v=>?_;obtain ⟨XS,s,rfl,k1,k2,k3⟩:=Y5.last;have cl:v.w.σ[ls]?=some (.list (XS.map d2++[d2 s])):=(v.at (l:=ls) (.tail _ (.tail _ (.head _)))).trans (by refine ae List.map_append ?_;rfl);exact .mk cl<|.mk cl<|k ⟨C0,w0,b+1,m0,jX,yk,XS,R,LS.setAt (A:=[(0,di n),(2,dW row)]) v (.list (XS.map d2)),⟨g0,s0,c0.mono (Nat.le_succ _),h1.mono (Nat.le_succ _),bG hm (by simp+arith only)⟩,k1⟩
theorem jS.pos{C:Core}{L:Nat}(h:jS C L):0<C.nodes.length:=by have:=h.app;obtain ⟨x,hx⟩:=List.exists_mem_of_length_pos (show 0<(d1 C.nodes).length by exact this);have:=yj hx;exact ji this
theorem FA(hL:L<=5)(hn:n<=800)(k6:E.ss=iJ++[(ln,le)])(k:∀n'(E':jZ row wl bb ls (L+1) n'),n'<=n+3->gC (O (D+121)) P n2 x2 (.ref 0) (.ref 3) (.ref ln) (.ref ls) (.ref wl) E'.v.w.σ):
  zP (O (D+121)) P n2 x2 (.ref le) (.ref 0) (.ref 3) (.ref ln) (.ref ls) (.ref wl) E.v.w.σ:=by
 have ht:=E.nM;have hc:=ht.cnt;obtain ⟨h3,h4,h5⟩:=E.top k6;refine Am (L':=L+1) E.v (nc hn rfl) ht (Nat.le_succ _) (Nat.lt_succ_of_le hL) (by have:=hc.nodes;exact Nat.add_le_add_right this _) (by have:=hc.told;exact Nat.add_le_add_right this _) hc.pos (.tail _ (List.mem_append_right _ h4)) (D+113) λ C' w' cs n' iX X v fa mD An Nq=>?_;have hm:(iX,AO.list (C'.nodes.map bg))∈X++E.R:=by
  rcases List.mem_append.mp An with q|q
  ·exact List.mem_append_left _ q
  ·rcases List.mem_cons.mp q with q|q
   ·have e:=(Prod.mk.inj q).2;have hp:=mD.cnt.pos;rw [k6]at e;cases qI:C'.nodes with
    |nil=>rw [qI]at hp;exact absurd hp (Nat.lt_irrefl _)
    |cons x xs=>
     rw [qI]at e;have e:=AO.list.inj e;cases iJ with
     |nil=>simp [d2,bg]at e
     |cons z zs=>simp [d2,bg]at e
   ·simp [WC,lK]at q;exact List.mem_append_right _ q
 let v1:LS (b9 C' w' E.b E.m (E.ch++cs)) ([(0,di n'),(2,dW row)]++(ls,.list (E.ss.map d2))::(X++(WC wl 0 0 .none bb (λ aa=>[]) []++E.R))):=v.bz (.cons _ (.cons _ List.perm_middle));have cl:v1.w.σ[ls]?=some (.list (iJ.map d2++[d2 (ln,le)])):=(v1.at (l:=ls) (.tail _ (.tail _ (.head _)))).trans (by rw [k6,List.map_append];rfl);refine G8 cl<|k n' ⟨C',w',E.b,E.m,E.ch++cs,E.sts,iJ++[(iX,le)],X++E.R,(LS.setAt v1 (.list (iJ.map d2++[d2 (iX,le)]))).bz ?_,mD,hG.snoc hm ?_ (h3.mono λ c hc=>List.mem_append_right _ hc)⟩ fa
 ·unfold nC;rw [List.map_append];refine .cons _ (.cons _ (.cons _ ?_));rw [<-List.append_assoc,<-List.append_assoc];exact .append_right _ List.perm_append_comm
 ·refine ae Nq ?_;exact List.mem_append_right _ h5
end
end
section
open PySem
theorem TR:∀i,i<7->("t":String).length+(toString ((i:Nat):Int)).length<=10000:=by decide+kernel
section
variable{P:PV} {row:List Int} {wl bb ls L n n2 ln le D:Nat} {x2:aL} {iJ:List (Nat×Nat)} {C:Core}
theorem Ez(hc:jS C L)(hL:L<=5){x y:Nat}:∀C':Core,C'.nodes=C.nodes->aV C'.au=aV C.au++[(nK L,x,y)]->jS C' (L+1):=by
 intro C' e1 e2;refine ⟨by refine ae e1 ?_;have:=hc.nodes;exact Nat.le_succ_of_le this,by refine ae e1<|ae e2 ?_;have:=hc.told;simp;exact bG this (by simp+arith only),by refine ae e1 ?_;exact hc.app,?_,?_⟩
 ·rw [e2,List.map_append,List.nodup_append];refine ⟨hc.nodup,by simp,λ p hp q hq e=>?_⟩;simp at hq;subst hq;refine bp (hc.Et p hp) λ l hl e3=>?_;have:=QB l (nc (Nat.le_trans hl hL) rfl) L (eG hL rfl) (e3.symm.trans e);lia
 ·refine ae e2<|ae List.map_append ?_;intro lb Eg;rcases List.mem_append.mp Eg with q|q
  ·refine bp (hc.Et lb q) λ l hl e3=>?_;exact ⟨l,Nat.lt_succ_of_lt hl,e3⟩
  ·simp at q;exact ⟨L,Nat.lt_succ_self _,q⟩
theorem EA(E:jZ row wl bb ls L n)(hL:L<=5)(hn:n<=800)(k6:E.ss=iJ++[(ln,le)])(k:∀E':jZ row wl bb ls (L+1) (n+2),gC (O (D+121)) P n2 x2 (.ref 0) (.ref 3) (.ref ln) (.ref ls) (.ref wl) E'.v.w.σ):
  zQ (O (D+121)) P n2 x2 (.ref le) (.ref 0) (.ref 3) (.int L) (.ref ln) (.ref ls) (.ref wl) E.v.w.σ:=by
 have ht:=E.nM;have hc:=ht.cnt;have hg:=ht.good;have j8:=hc.pos;have hN:=(hc.lim (Nat.le_succ_of_le hL)).1;obtain ⟨h3,h4,h5⟩:=E.top k6;have mn:∀n,(ln,AO.list (E.C.nodes.map bg))∈nC n row ls E.ss wl bb E.R:=λ n=>.tail _ (.tail _ (.tail _ (List.mem_append_right _ h4)));have h8:=hg.i0 (hc.lim (Nat.le_succ_of_le hL));have xb:=ht.small.changes hg (hc.lim (Nat.le_succ_of_le hL));have Nq:(aV E.C.au).length<=8:=by have:=hc.told;exact cI hL this (by simp+arith only)
 refine cX (E.v.at (mn _)) (List.length_map ..)<|kB E.v (nc hn rfl) j8 λ x hx v=>cX (v.at (mn (n+1))) (List.length_map ..)<|kB v (eG hn rfl) j8 λ y hy v=>?_;have Cb:x<E.C.par.length:=by rw [<-hg.nodes];exact hx
 have hyl:y<E.C.par.length:=by rw [<-hg.nodes];exact hy
 have qI:jS (dm E.C x y (some (nK L))) (L+1):=Ez hc hL _ fi (by rw [i3,xg]);obtain ⟨C',w',cs,ej,pp,gg,ll,tt,nn,sm⟩:=JW (b:=E.b) (m:=E.m) (lb:=nK L) ht.small hg (hc.lim (Nat.le_succ_of_le hL)) (qI.lim (Nat.lt_succ_of_le hL)) Cb hyl;refine .mk (by lia) (by lia)<|.s (TR L (eG hL rfl))<|.t<|v.w.S7<|Qa v (ht.fit (Nat.le_succ_of_le hL)) hg.ok Cb hyl (some (nK L)) (show E.C.au.length<1000 by exact eG h8 rfl) (show E.ch.length<=1000 by exact nc xb rfl) ?_;refine ae ej ?_;intro q v;let v1:=v.new (.list [gI (nK L,x,y)]);refine v1.Qg (xs:=(aV E.C.au).map gI) (ys:=[gI (nK L,x,y)]) (v1.at (.tail _ (.tail _ (.tail _ (.tail _ (List.mem_append_right _ h5)))))) (v1.at (.head _)) (by simp;exact nc Nq rfl) ?_;refine ae (show(aV E.C.au).map gI++[gI (nK L,x,y)]=(aV C'.au).map gI by rw [tt,List.map_append];rfl) ?_;intro lq v;let v3:LS (b9 C' w' E.b E.m (E.ch++cs)) (nC (n+2) row ls E.ss wl bb ((lq,.list ((aV C'.au).map gI))::E.R)):=v.pC.bz (List.perm_middle (l₁:=[(0,di (n+2)),(2,dW row),(ls,.list (E.ss.map d2))]++WC wl 0 0 .none bb (λ aa=>[]) [])).symm;have cl:v3.w.σ[ls]?=some (.list (iJ.map d2++[d2 (ln,le)])):=(v3.at (l:=ls) (.tail _ (.tail _ (.head _)))).trans (by refine ae k6<|ae List.map_append ?_;rfl);refine G8 cl<|k ⟨C',w',E.b,E.m,E.ch++cs,E.sts,iJ++[(ln,lq)],(lq,.list ((aV C'.au).map gI))::E.R,(LS.setAt (A:=[(0,di (n+2)),(2,dW row)]) v3 (.list (iJ.map d2++[d2 (ln,lq)]))).bz (.of_eq (by unfold nC;refine ae List.map_append ?_;rfl)),ht.step (Nat.le_succ _) pp gg sm (Ez hc hL C' nn tt),hG.snoc (c:=(C'.nodes,aV C'.au)) (s:=(ln,lq)) ?_ (.head _) (h3.mono λ c hc=>List.mem_cons_of_mem _ hc)⟩;show(ln,AO.list (C'.nodes.map bg))∈_;refine ae nn ?_;exact List.mem_cons_of_mem _ h4
end
end
section
open PySem
section
variable{P:PV} {row:List Int} {wl bb ls L n n2 D:Nat} {x2:aL} {vn:AV}
theorem sJ(E:jZ row wl bb ls L n)(hL:L<=6)(hn:n<=900)(k:∀E':jZ row wl bb ls L (n+1),jd (O (D+121)) P (.ref 0) (.ref 3) vn (.ref ls) (.ref wl) n2 x2 E'.v.w.σ):
  gC (O (D+121)) P n2 x2 (.ref 0) (.ref 3) vn (.ref ls) (.ref wl) E.v.w.σ:=by
 refine kB (m:=3) E.v (nc hn rfl) (by decide) λ x hx v=>?_;by_cases q:(0:Int)<(x:Int)
 ·refine pB q<|v.w.uO<|nL (L:=L) (sts:=E.sts) v E.nM hL (D+114) λ C' cs v h4 h5 h6=>k ⟨C',[],E.b,E.m,E.ch++cs,E.sts,E.ss,E.R,v,h4,?_⟩;refine ae h5<|ae h6 ?_;exact E.locs
 ·exact jM (by lia)<|k ⟨E.C,E.w,E.b,E.m,E.ch,E.sts,E.ss,E.R,v,E.nM,E.locs⟩
theorem XT(E:jZ row wl bb ls L n)(hL:L<=5)(hn:n<=700)(k:∀n' vn(E':jZ row wl bb ls (L+1) n'),n'<=n+5->jd (O (D+121)) P (.ref 0) (.ref 3) vn (.ref ls) (.ref wl) n2 x2 E'.v.w.σ):
  zS (O (D+121)) P n2 x2 (.ref 0) (.ref 3) (.int L) (.ref ls) (.ref wl) E.v.w.σ:=by
 have main:∀(r n1:Nat)(E:jZ row wl bb ls L n1),n1<=n+1->rN (O (D+121)) P n2 x2 (.ref 0) (.ref 3) (.int L) (.ref ls) (.ref wl) (.int r) E.v.w.σ:=λ r n1 E ub=>by
  obtain ⟨iJ,s,k6,_⟩:=E.locs.last;obtain ⟨ln,le⟩:=s;have cl:E.v.w.σ[ls]?=some (.list (iJ.map d2++[d2 (ln,le)])):=(E.v.at (l:=ls) (.tail _ (.tail _ (.head _)))).trans (by refine ae k6<|ae List.map_append ?_;rfl);refine getLast cl<|.t<|.t ?_;by_cases w5:r=5
  ·exact x7 (b:=5) w5<|Fz E hL k6 λ E=>sJ E (Nat.lt_succ_of_le hL) (cI hn ub (by simp+arith only)) λ E=>k _ _ E (bG ub (by simp+arith only))
  refine uP (b:=5) w5 ?_;have last:rM (O (D+121)) P n2 x2 (.ref le) (.ref 0) (.ref 3) (.int L) (.ref ln) (.ref ls) (.int r) (.ref wl) E.v.w.σ:=by
   by_cases w3:r=3
   ·exact x7 (b:=3) w3<|FA E hL (cI hn ub (by simp+arith only)) k6 λ n' E fa=>sJ E (Nat.lt_succ_of_le hL) (e_ hn ub fa (by simp+arith only)) λ E=>k _ _ E (cI ub fa (by simp+arith only))
   ·exact uP (b:=3) w3<|EA E hL (cI hn ub (by simp+arith only)) k6 λ E=>sJ E (Nat.lt_succ_of_le hL) (cI hn ub (by simp+arith only)) λ E=>k _ _ E (bG ub (by simp+arith only))
  refine (?_:zR (O (D+121)) P _ _ _ _ _ _ _ _ _ _ _);by_cases w4:r=4
  ·refine x7 (b:=4) w4<|cX (E.v.at (l:=ls) (.tail _ (.tail _ (.head _)))) (List.length_map ..) ?_;by_cases q:1<E.ss.length
   ·exact pB (by lia)<|JX E hL q λ E=>sJ E (Nat.lt_succ_of_le hL) (cI hn ub (by simp+arith only)) λ E=>k _ _ E (bG ub (by simp+arith only))
   ·exact jM (by lia) last
  ·exact uP (b:=4) w4 last
 by_cases q:(0:Int)<(L:Int)
 ·exact pB q<|kB (m:=6) E.v (nc hn rfl) (by decide) λ r hr v=>main r (n+1) ⟨E.C,E.w,E.b,E.m,E.ch,E.sts,E.ss,E.R,v,E.nM,E.locs⟩ (Nat.le_refl _)
 ·exact jM (by lia)<|main 0 n E (Nat.le_succ _)
theorem TS(N:Nat)(k:∀n'(E':jZ row wl bb ls N n'),n'<=700->pz (O (D+121)) P (.ref 3) (.ref ls) (.ref wl) E'.v.w.σ):∀(r L n:Nat)(vn:AV)(E:jZ row wl bb ls L n),L+r=N->N<=6->n+5*r<=700->jd (O (D+121)) P (.ref 0) (.ref 3) vn (.ref ls) (.ref wl) (r+1) (.lG L 1 r) E.v.w.σ:=by
 intro bD;induction bD with
 |zero=>
  intro L n vn E e hN hn;obtain rfl:L=N:=e;exact zT<|.re<|k n E (hn)
 |succ r ih=>
  intro L n vn E e hN hn;exact zT<|.rs<|XT E (cI (bI e) hN (by simp+arith only)) (Bv hn) λ n' vn E fa=>by have:=ih (L+1) n' vn E (Nat.le_antisymm (bG (bI e) (by simp+arith only)) (bG (bP e) (by simp+arith only))) hN (cI hn fa (by simp+arith only));exact this
end
end
section
open PySem
noncomputable def iG:List Node:=[("a",[]),("b",[]),("c",[]),("f",[0]),("f",[1])]
theorem TU:∀i,i<5->∀k,iG[i]?=some k->k∉iG.take i/\(∀x∈k.2,x<i)/\k.2.length<=2/\ef k.1=true/\iG.take (i+1)=iG.take i++[k]:=by decide
theorem TV(ns:List Node):(d1 ns).length<=ns.length:=by unfold d1;have:=List.length_filter_le (isApp ns) (List.range ns.length);simpa using this
theorem TX:Good pH.toCore:=by refine ⟨?_,?_,?_,?_,?_,?_,?_,?_,?_,?_,?_,?_,?_,?_,?_,?_,?_,?_,?_⟩<;>simp [pH,Below,dH,r7,iZ,AN,d1,dl,Qb]
theorem QC:Small pH.toCore [] 0 []:=⟨by simp [pH],by simp [pH],by decide⟩
section
variable{P:PV} {R:List Cell} {row:List Int} {l D:Nat}
theorem QD(hl:(l,.list (iG.map bg))∈R)(k:∀C w ch(v:LS (b9 C w 0 [] ch) R),Good C->Small C w 0 ch->C.nodes=iG->aV C.au=[]->zV (O (D+121)) P (.ref 0) (.ref 3) (.ref l) v.w.σ):
  ∀(r i:Nat)(C:Core)(w:List Nat)(ch:List df)(v:LS (b9 C w 0 [] ch) R),i+r=5->Good C->Small C w 0 ch->C.nodes=iG.take i->aV C.au=[]->pq (O (D+121)) P (.ref 0) (.ref 3) (.ref l) (r+1) (.list l i) v.w.σ:=by
 intro bD;induction bD with
 |zero=>
  intro i C w ch v hi hg hs hn ht;obtain rfl:i=5:=hi;exact zW<|.le (v.at hl) (Nat.le_refl _)<|k C w ch v hg hs hn ht
 |succ r ih=>
  intro i C w ch v hi hg hs hn ht;obtain ⟨kn,qj⟩:∃k,iG[i]?=some k:=⟨_,List.getElem?_eq_getElem (show i<5 by exact ml (bI hi))⟩
  obtain ⟨b1,b2,b3,b4,b5⟩:=TU i (ml (bI hi)) kn qj;have hlen:C.nodes.length=i:=by rw [hn,List.length_take];show min i 5=i;lia
  have r8:∀C':Core,aV C'.au=[]->C'.nodes.length<=9->ie C':=λ C' e1 e2=>⟨Nat.le_trans e2 (Nat.le_add_left ..),by rw [e1];have:=TV C'.nodes;simp;exact Nat.le_trans this e2⟩
  have jq:=r8 C ht (cI (bI hlen) (bI hi) (by simp+arith only));have f6:ie (cM C kn):=r8 _ (by show aV C.au=[];exact ht) (by show(C.nodes++[kn]).length<=9;simp;exact cI (bI hlen) (bI hi) (by simp+arith only));have z9:=hs.known hg jq;obtain ⟨op,ks⟩:=kn;exact zW<|.ls (v.at hl) (x:=bg (op,ks)) (by rw [List.getElem?_map,qj];rfl)<|v.w.RQ<|cL<|lZ<|QA v hs hg jq f6 (by simp) (nc (ji z9) rfl) b4 (by rw [hn];exact b1) (λ x hx=>by rw [hlen];exact b2 x hx) b3 (D+114) λ C' w' cs v p g l' t n s=>ih (i+1) C' w' (ch++cs) v (Nat.le_antisymm (bG (bI hi) (by simp+arith only)) (bG (bP hi) (by simp+arith only))) g s (ae n<|ae hn<|ae b5 rfl) (t.trans ht)
theorem Nr(x:AO)(k:∀wl bb ls n vn(E:jZ row wl bb ls 0 n),n<=3->zU (O (D+121)) P (.ref 0) (.ref 3) vn (.ref ls) (.ref wl) E.v.w.σ):wK (O (D+121)) P (.ref 0) [di 0,x,dW row]:=by
 refine M8 (d:=D+116) (di 0) x (dW row) λ v=>?_;let v1:LS (b9 pH.toCore [] 0 [] []) ((0,di 0)::(2,dW row)::[(v.w.σ.length,.list (iG.map bg)),(1,x)]):=(v.new (.list (iG.map bg))).bz ((List.Perm.swap _ _ _).trans (.cons _ ((List.Perm.cons _ (.swap _ _ _)).trans (.swap _ _ _))));have hl:(v.w.σ.length,AO.list (iG.map bg))∈(0,di 0)::(2,dW row)::[(v.w.σ.length,AO.list (iG.map bg)),(1,x)]:=.tail _ (.tail _ (.head _));refine .t<|.l (v1.at hl) ⟨6,QD hl (λ C w ch v hg hs hn ht=>?_) 5 0 pH.toCore [] [] v1 rfl TX QC rfl rfl⟩;have QE:(d1 C.nodes).length=2:=by refine ae hn ?_;decide
 have aa4:jS C 0:=⟨by refine ae hn ?_;decide,by refine ae ht<|ae QE ?_;decide,Nat.le_of_lt (bP QE),by refine ae ht ?_;exact List.nodup_nil,by refine ae ht ?_;decide⟩
 have nM:e8 0 C w [] ch []:=⟨hg,hs,aa4,.nil,by simp⟩
 have R_:C.nodes.length=5:=by refine ae hn ?_;rfl
 refine Am (L':=0) v (Nat.zero_le _) nM (Nat.le_refl _) (Nat.zero_le _) (Nat.lt_succ_of_le (bI R_)) (by refine ae ht<|ae QE ?_;decide) (ji (bP R_)) (by refine ae hn ?_;exact .head _) (D+113) λ C' w' cs n' iX X v fa mD An Nq=>?_;refine TQ v (D+119) λ y b v=>?_;let v1:=v.new (.list []);let v2:=v1.new (.list [d2 (iX,v.w.σ.length)]);refine .t<|k y b v1.w.σ.length n' (.ref iX) ⟨C',w',0,[],ch++cs,[],[(iX,v.w.σ.length)],(v.w.σ.length,.list [])::(X++[(_,.list (iG.map bg)),(1,x)]),v2.bz ?_,mD,⟨.tail _ An,?_,trivial⟩⟩ (fa)
 ·unfold nC;refine (?_:List.Perm ((v1.w.σ.length,AO.list [d2 (iX,v.w.σ.length)])::(v.w.σ.length,AO.list [])::(WC y 0 0 .none b (λ aa=>[]) []++((0,di n')::(2,dW row)::(X++_)))) ((0,di n')::(2,dW row)::(v1.w.σ.length,AO.list [d2 (iX,v.w.σ.length)])::(WC y 0 0 .none b (λ aa=>[]) []++((v.w.σ.length,AO.list [])::(X++_)))));generalize (v1.w.σ.length,AO.list [d2 (iX,v.w.σ.length)])=c1;generalize (v.w.σ.length,AO.list [])=c2;generalize WC y 0 0 .none b (λ aa=>[]) []=W;generalize X++_=Y;have p1:List.Perm (W++((0,di n')::(2,dW row)::Y)) ((0,di n')::(2,dW row)::(W++Y)):=List.perm_middle.trans (.cons _ List.perm_middle);refine (List.Perm.cons _ (.cons _ p1)).trans ((List.perm_middle (l₁:=[c1,c2]) (a:=((0,di n'):Cell))).trans (.cons _ ((List.perm_middle (l₁:=[c1,c2]) (a:=((2,dW row):Cell))).trans (.cons _ (.cons _ (List.perm_middle (a:=c2) (l₁:=W) (l₂:=Y)).symm)))))
 ·show(v.w.σ.length,AO.list ((aV C'.au).map gI))∈_;refine ae (Nq.trans ht) ?_;exact .head _
end
end
section
open PySem
theorem XU:∀i,i<9->d0 i<=3280:=by decide
section
variable{P:PV} {R:List Cell} {D:Nat} {C:Core} {w:List Nat} {b:Nat} {m:List (Nat×List Nat)} {ch:List df} {L:Nat} {sts:List (List Node×List Ev)}
theorem QF(hL:L<=6){va vb:AV}:∀(k:Nat)(i:Int)(C:Core)(w:List Nat)(b:Nat)(m:List (Nat×List Nat))(ch:List df)(sts:List (List Node×List Ev))(v:LS (b9 C w b m ch) R),m.length=k->e8 L C w m ch sts->
  (∀C0 w0 jX(v':LS (b9 C0 w0 (b+k) [] jX) R),e8 L C0 w0 [] jX []->(sts++[(C.nodes,aV C.au)])[0]?=some (C0.nodes,aV C0.au)->(k=0->C0=C/\w0=w/\jX=ch)->DB (O (D+121)) P (.ref 3) va vb v'.w.σ)->px (O (D+121)) P (.ref 3) va vb (k+1) (.lG i 1 k) v.w.σ:=by
 intro bD;induction bD with
 |zero=>
  intro i C w b m ch sts v hm ht c;have em:m=[]:=List.length_eq_zero_iff.mp hm;subst em;have es:sts=[]:=List.length_eq_zero_iff.mp (by refine ae ht.Eu.len ?_;rfl);subst es;exact zN<|.re<|c C w ch v ht rfl λ aa=>⟨rfl,rfl,rfl⟩
 |succ k ih=>
  intro i C w b m ch sts v hm ht c;have Nn:=ht.marks;have hw:=ht.Ex hL;have xb:=ht.small.changes ht.good (ht.cnt.lim hL);have M6:=ht.Eu;cases M6 with
  |nil=>simp at hm
  |@push C0 _ w0 jX cs m0 yk h1 g0 s0 c0 p0=>simp only [List.length_append,List.length_cons,List.length_nil]at hm Nn xb;refine zN<|.rs<|v.w.RR<|M7 (P:=jh) (λ C ch hC=>⟨hC.good.ok,hC.fit (nc hw rfl) (cI hL Nn (by simp+arith only))⟩) p0 v λ v=>ih _ C0 w0 (b+1) m0 jX yk v (Nat.le_antisymm (Nat.le_of_lt_succ (bI hm)) (Nat.le_of_lt_succ (bP hm))) ⟨g0,s0,c0,h1,Nat.le_of_lt Nn⟩ ?_;refine ae (show b+1+k=b+(k+1) by exact Nat.add_right_comm ..) ?_;exact λ C1 w1 XW v a4 a5 aa=>c C1 w1 XW v a4 (by refine ae (List.getElem?_append_left (by simp)) ?_;exact a5) λ q=>by lia
theorem xj{p wl ln le:Nat}(v:WS (b9 C w b m ch) wl p 0 R)(ht:e8 L C w m ch sts)(hL:L<=6)(mn:(ln,AO.list (C.nodes.map bg))∈R)(me:(le,AO.list ((aV C.au).map gI))∈R)(hp:p<=3280)(k:∀p'(v':WS (b9 C w b m ch) wl p' 0 R),p'<=p+3280->P (.bool true) v'.w.w.σ):
  (O (D+121)).call .gw [.ref 3,.ref wl,.ref ln,.ref le] v.w.w.σ P:=by
 have hf:=ht.gJ hL;have xi:=ht.Ex hL;have hm:=ht.marks;have hN:=hf.lim.1;have h8:=hf.good.i0 hf.lim;have hs:=XU C.au.length (Nat.lt_succ_of_le h8);exact Fw (H:=b9 C w b m ch) (dn:=aV C.au) (hf.lD (nc xi rfl) (nc (Nat.le_trans hm hL) rfl)) (by show C.nodes.length<=35;exact nc hN rfl) rfl ht.cnt.nodup mn me v (by show p+d0 C.au.length<=20000;exact QX hp hs rfl) λ p' v' iW=>k p' v' (by have:p'<=p+d0 C.au.length:=iW;exact cI this hs (by simp+arith only))
theorem hG.first{c:List Node×List Ev}:∀{ss:List (Nat×Nat)}{cs:List (List Node×List Ev)},hG R ss cs->cs[0]?=some c->∃s,ss[0]?=some s/\(s.1,AO.list (c.1.map bg))∈R/\(s.2,AO.list (c.2.map gI))∈R
 |s::ss,d::cs,h,e=>by
  simp only [List.getElem?_cons_zero,Option.some.injEq]at e;subst e;exact ⟨s,rfl,h.1,h.2.1⟩
 |[],[],_,e=>by simp at e
 |[],_::_,h,_=>h.elim
 |_::_,[],h,_=>h.elim
theorem TY{row:List Int}{wl bb ls n:Nat}(E:jZ row wl bb ls L n)(hL:L<=6)(k:∀s,P (.bool true) s):pz (O (D+121)) P (.ref 3) (.ref ls) (.ref wl) E.v.w.σ:=by
 obtain ⟨C0,w0,b,m,jX,sts,ss,R,v0,ht0,kW⟩:=E;refine (?_:pz (O (D+121)) P (.ref 3) (.ref ls) (.ref wl) v0.w.σ);refine v0.w.uO<|nL v0 ht0 hL (D+114) λ C cs v ht h3 h4=>?_;rw [<-h3,<-h4]at kW;let E:jZ row wl bb ls L n:=⟨C,[],b,m,jX++cs,sts,ss,R,v,ht,kW⟩
 have vq:ss.length=m.length+1:=E.XR;have hm:=ht.marks;obtain ⟨iJ,s,k6,k1,k2,k3⟩:=kW.last;obtain ⟨ln,le⟩:=s;let v1:WS (b9 C [] b m (jX++cs)) wl 0 0 ([(0,di n),(2,dW row),(ls,.list (ss.map d2))]++R):=⟨⟨.none,bb,_,[]⟩,v.bz (by unfold nC;refine (?_:List.Perm ([(0,di n),(2,dW row),(ls,AO.list (ss.map d2))]++(WC wl 0 0 .none bb (λ aa=>[]) []++R)) _);dsimp only [WG.C];rw [<-List.append_assoc,<-List.append_assoc];exact List.Perm.append_right _ List.perm_append_comm),⟨.nil,λ aa aa=>rfl⟩,.inl rfl⟩
 have cl:v1.w.w.σ[ls]?=some (.list (iJ.map d2++[d2 (ln,le)])):=(v1.at (k:=ls) (.tail _ (.tail _ (.head _)))).trans (by refine ae k6<|ae List.map_append ?_;rfl);refine getLast cl<|cL<|getLast cl<|eA<|xj v1 ht hL (List.mem_append_right _ k2) (List.mem_append_right _ k3) (Nat.zero_le _) λ p' v2 iW=>?_;refine (?_:DC (O (D+121)) P (.ref 3) (.ref ls) (.ref wl) v2.w.w.σ);have XX:∀A:List Cell,(ls,AO.list (ss.map d2))∈A++([(0,di n),(2,dW row),(ls,.list (ss.map d2))]++R):=λ A=>List.mem_append_right _ (.tail _ (.tail _ (.head _)));refine cX (v2.w.at (XX (WC wl p' 0 v2.g.m v2.g.b v2.g.f v2.g.bs))) (List.length_map ..)<|kq vq<|yb (nc (Nat.le_trans hm hL) rfl) ⟨_,QF hL m.length 0 C [] b m (jX++cs) sts v2.w rfl ht λ C1 w1 XW v3 mD aa5 hz=>?_⟩;obtain ⟨⟨ln1,le1⟩,j1,j2,j3⟩:=kW.first aa5;have fin:∀C2 Sa(v4:LS (b9 C2 [] (b+m.length) [] Sa) (v2.g.C wl p' 0 ([(0,di n),(2,dW row),(ls,.list (ss.map d2))]++R))),e8 L C2 [] [] Sa []->C2.nodes=C1.nodes->aV C2.au=aV C1.au->D7 (b9 C2 [] (b+m.length) [] Sa) v2.g.m v2.g.f->DA (O (D+121)) P (.ref 3) (.ref ls) (.ref wl) v4.w.σ:=λ C2 Sa v4 vL n2 t2 aa6=>by
  have e0:(ss.map d2)[0]?=some (d2 (ln1,le1)):=by refine ae List.getElem?_map<|ae j1 ?_;rfl
  exact ez (v4.at (XX (WC wl p' 0 v2.g.m v2.g.b v2.g.f v2.g.bs))) (i:=0) e0<|cL<|ez (v4.at (XX (WC wl p' 0 v2.g.m v2.g.b v2.g.f v2.g.bs))) (i:=0) e0<|eA<|xj (C:=C2) (m:=[]) ⟨v2.g,v4,v2.ok,aa6⟩ vL hL (List.mem_append_right _ (by refine ae n2 ?_;exact j2)) (List.mem_append_right _ (by refine ae t2 ?_;exact j3)) (iW) λ aa aa aa=>k _
 refine v3.w.uO ?_;by_cases q:m.length=0
 ·obtain ⟨rfl,rfl,rfl⟩:=hz q;refine Ab (.done (mD.small.safe (b:=b+m.length) (m:=[]) mD.good (mD.cnt.lim hL) (by simp)) rfl) v3 λ v4=>fin _ _ v4 mD rfl rfl ?_;rcases v2.rZ with EB|⟨n',e',k',EB,eB,himp⟩
  ·exact .inl EB
  ·exact .inr ⟨n',e',k',EB,Nat.le_trans eB (Nat.le_add_right _ _),λ q1 q2(q3:k'=b+m.length)=>himp q1 q2 (by show k'=b;exact Nat.le_antisymm (cI (bI q) (bI q3) (by simp+arith only)) (Bv (bP q3)))⟩
 ·refine nL v3 mD hL (D+114) λ C2 XO v4 vL t2 n2=>fin C2 (XW++XO) v4 vL n2 t2 ?_;rcases v2.rZ with EB|⟨n',e',k',EB,eB,himp⟩
  ·exact .inl EB
  ·refine .inr ⟨n',e',k',EB,Nat.le_trans eB (Nat.le_add_right _ _),λ q1 q2(q3:k'=b+m.length)=>?_⟩;have:k'<=b:=eB;lia
theorem QG{row:List Int}(x:AO)(k:∀s,P (.bool true) s):wK (O (D+121)) P (.ref 0) [di 0,x,dW row]:=
 Nr x λ wl bb ls n vn E hn=>kB (m:=3) E.v (nc hn rfl) (by decide) λ r hr v=>.i<|by
  have e:(4:Int)+(r:Int)=((4+r:Nat):Int):=by lia
  refine ae e ?_;exact yb (bG hr (by simp+arith only)) ⟨_,TS (4+r) (λ n' E aa=>TY E (bG hr (by simp+arith only)) k) (4+r) 0 (n+1) vn ⟨E.C,E.w,E.b,E.m,E.ch,E.sts,E.ss,E.R,v,E.nM,E.locs⟩ (Nat.zero_add _) (bG hr (by simp+arith only)) (by lia)⟩
end
end
end Mine
end
section
open PySem PySem.W PyProof.Rows PySem.Calls
namespace Mine
section
inductive sL(a₀:Addr)(xs:List AV)(lo hi st:Option Int)(σ:U)(P:PV):AV->Prop
 |mk:st≠some 0->xs.length<=10000->(hV xs lo hi st).length<=10000->P (.ref σ.length) (σ++[.list (hV xs lo hi st)])->sL a₀ xs lo hi st σ P (.base a₀)
def G9(a₀:Addr)(xs:List AV)(o:AE)(lo hi st:Option AE):AE:=λ F ρ σ P=>o F ρ σ λ ov σ=>BU lo F ρ σ λ l σ=>BU hi F ρ σ λ h σ=>BU st F ρ σ λ k σ=>sL a₀ xs l h k σ P ov
def Bq(G:Places)(a₀:Addr)(xs:List AV):Prop:=∃o items n,G.h₀.get? a₀=some o/\o.cls=.type "list"/\o.data=.seq items n/\∀h lam,bq h lam xs items.toList
section
variable{Γ:cZ} {a₀:Addr} {xs:List AV}
theorem FC(hB:Bq Γ.G a₀ xs)(K:Cx Γ){value slice:Expr}{ov:AV}{v vl vh vk:Value}{l h k:Option Int}{sl:Addr}{P:PV}{Q:Value->Shared->Prop}(Rd:K.w.s.heap.IsSliceOf sl vl vh vk)(pl:IsPart vl l)(ph:IsPart vh h)(pk:IsPart vk k)(p:sL a₀ xs l h k K.w.σ P ov)(hv:K.w.R ov v)(kk:K.KV P Q):
  K.wp (subscriptTail value slice v (.ref sl)) Q:=by
 obtain ⟨o,items,n,g1,gc,gd,g2⟩:=hB;have g1:=K.w.H.base _ _ g1;have g2:=g2 K.w.s.heap K.w.lam;have hlen:=g2.length;simp only [Array.length_toList]at hlen;have my:=cN;induction p with
 |mk h0 hx hz p=>cases hv;refine gz (T:="list") ⟨_,g1,gc⟩ slot_list_getitem (by simp) (wpAny_getItem_list_slice ⟨_,g1,gc,_,gd⟩ Rd pl ph pk h0 (K.Hh kk p ?_ hz _) (by omega));unfold slicePick hV;refine ae hlen ?_;exact bq.filterMap g2 _
theorem Nt(hB:Bq Γ.G a₀ xs){e:Expr}{lower upper step:Option Expr}{p pos:Pos}{c:AE}{lo hi st:Option AE}(ho:aZ Γ e c)(hl:kE Γ lower lo)(hh:kE Γ upper hi)(hs:kE Γ step st):
  aZ Γ (.Subscript e (.Slice lower upper step p) pos) (G9 a₀ xs c lo hi st):=λ K P Q hc k=>
 Subscript_ (ho K.r hc λ v ov xv kO p hv=>wpAny_Slice (hl.run (K.up xv kO).r p λ vl l dx dC p pl=>hh.run (K.up dx (kO.tr dC)).r p λ vh h mw oI p ph=>hs.run (K.up mw ((kO.tr dC).tr oI)).r p λ vk kk nF HC p pk=>
  have h5:=nF.H.grow (s':={nF.s with heap:=nF.s.heap.push {cls:=.type "slice",data:=.fields #[vl,vh,vk]}}) (λ b o e=>Heap.get?_push_of_some _ e) rfl rfl
  FC hB (K.up ⟨_,_,_,h5.1⟩ ((((kO.tr dC).tr oI).tr HC).tr h5.2)) (Heap.IsSliceOf.new ..) pl ph pk p (VR.mono h5.2.kx (St.R.up hv (St.Le.tr dC (St.Le.tr oI HC)))) k))
end
end
section
def G_:Nat->AR:=dk [] (aW "cell") (jG (ay (aCall [af "cell"] Ht) (aT 1000003) oMod))
def XY(a₀:Addr)(xs:List AV):AS:=aF (Gd "row" "at" (dE (eP (G9 a₀ xs (af "script") none (some (aT 50)) none)) [] G_) (aT 0)) (aW "feed")
def JY(a₀:Addr)(xs:List AV):AS:=aq (XY a₀ xs) CN
noncomputable def EC:List String:=["script"]
section
variable{G:Places} {d:Nat} {F:bS} {a₀:Addr} {xs:List AV}
theorem Y6(hB:Bq G a₀ xs)(W:Wd G)(V:Gl G)(O:∀sc,mv ⟨G,d,F,sc⟩)(OM:∀sc,xJ ⟨G,d,F,sc⟩):SB G d F [31] (JY a₀ xs):=
 ag (az (KN (eq_false (by decide)) (i6 (ns:=[]) (fs:=[]) rfl (c_ (Nt hB (ab rfl rfl) .none (.some aA) .none)) (λ env x=>rfl) (aD rfl) (bQ (aX W V.int rfl rfl (cF _) (.cons (ab rfl rfl) rfl .nil) NU) aA Hg)) aA) (aD rfl) rfl rfl rfl) (VZ W V O OM)
end
end
end Mine
end
section
namespace Mine
section
open PySem
section
variable{F:bS} {P:PV} {a₀:Addr} {xs:List AV} {s:U}
def sM(F:bS)(n:Nat)(x:aL)(l:Nat)(s:U)(Q:U->Prop):Prop:=G_ n x l F (cP []) s Q
def QH(F:bS)(n:Nat)(x:aL)(l:Nat)(s:U)(Q:U->Prop):Prop:=cw s (Q s) (λ t x=>Ht s (λ u s=>oMod s (λ v s=>bO v s (λ s=>sM F n x l s Q) l) u (.int 1000003)) [t]) x
theorem ED{n:Nat}{x:aL}{l:Nat}{Q:U->Prop}(h:QH F n x l s Q):sM F (n+1) x l s Q:=Eq.mp (by kernel_rfl) h
def Y7(F:bS)(P:PV)(a₀:Addr)(xs:List AV)(s:U):Prop:=sL a₀ xs none (some 50) none (s++[.dS []]) (λ t1 s1=>dD s1 (λ x=>d7 s1 (λ t2 s2=>s2[s.length]?=some (.dS [])/\wK F P (.ref s.length) (s2.set s.length (.dS [("row",t2),("at",.int 0)]))) λ n l s3 Q=>sM F n x l s3 Q) t1) (.base a₀)
theorem Y8(h:Y7 F P a₀ xs s):FZ EC (JY a₀ xs) F [.base a₀] s P:=⟨rfl,Eq.mp (by kernel_rfl) h⟩
theorem JZ{a:AO}{zs:List Int}(hz:zs.length<=50){Q:U->Prop}(q:Q [a,.list (zs.map AV.int),dW (zs.map (· %1000003))]):∀r i,i+r=zs.length->sM F (r+1) (.list 1 i) 2 [a,.list (zs.map AV.int),dW ((zs.take i).map (· %1000003))] Q:=by
 intro bD;induction bD with
 |zero=>
  intro i e;refine ED<|.le rfl (by rw [List.length_map];exact (bP e)) ?_;refine ae (List.take_of_length_le ((bP e))) ?_;exact q
 |succ r ih=>intro i e;have he:=List.getElem?_eq_getElem (l:=zs) (i:=i) (ml (bI e));generalize zs[i]'_=z at he;refine ED<|.ls (x:=.int z) rfl (by refine ae List.getElem?_map<|ae he ?_;rfl)<|.i<|.mk ⟨by decide,.mk rfl (by simp;exact eG (Nat.le_trans (Nat.min_le_right (i) (zs.length)) hz) rfl) ?_⟩;have:=ih (i+1) (Nat.le_antisymm (bG (bI e) (by simp+arith only)) (bG (bP e) (by simp+arith only)));rw [List.take_add_one,he,List.map_append]at this;simp only [dW,List.map_append]at this⊢;exact this
theorem QI{zs:List Int}(hz:zs.length<=63):FZ EC (JY a₀ (zs.map AV.int)) (O 121) [.base a₀] [] λ v aa=>v=.bool true:=by
 have e:hV (zs.map AV.int) none (some 50) none=(zs.take 50).map AV.int:=by refine ae List.map_take ?_;exact G1 _ 50
 refine Y8<|.mk (by decide) (by simp;exact nc hz rfl) (by refine ae e ?_;simp;exact nc (Nat.min_le_left (50) (zs.length)) rfl) ?_;refine ae e ?_;exact .l rfl ⟨(zs.take 50).length+1,JZ (zs:=zs.take 50) (List.length_take_le ..) ⟨rfl,QG (D:=0) _ λ aa=>rfl⟩ _ 0 (Nat.zero_add _)⟩
end
end
end Mine
end
section
open PySem PySem.W PyProof.Rows PySem.Calls
namespace Mine
section
section
variable{α:Type} {Q:List α->Prop}
theorem lS{n:Nat}(h:∀a(vs:List α),vs.length=n->Q (a::vs)):∀vs:List α,vs.length=n+1->Q vs:=λ vs e=>by
 cases vs with
 |nil=>cases e
 |cons a vs=>exact h a vs (Nat.succ.inj e)
theorem l0(h:Q []):∀vs:List α,vs.length=0->Q vs:=λ aa e=>List.eq_nil_of_length_eq_zero e▸h
theorem l1(h:∀a,Q [a]):∀vs:List α,vs.length=1->Q vs:=lS λ a=>l0 (Q:=λ vs=>Q (a::vs)) (h a)
theorem l2(h:∀a b,Q [a,b]):∀vs:List α,vs.length=2->Q vs:=lS λ a=>l1 (Q:=λ vs=>Q (a::vs)) (h a)
theorem l3(h:∀a b c,Q [a,b,c]):∀vs:List α,vs.length=3->Q vs:=lS λ a=>l2 (Q:=λ vs=>Q (a::vs)) (h a)
theorem l4(h:∀a b c d,Q [a,b,c,d]):∀vs:List α,vs.length=4->Q vs:=lS λ a=>l3 (Q:=λ vs=>Q (a::vs)) (h a)
end
theorem b2{a b:Bool}(h:(a&&b)=true):a=true/\b=true:=Bool.and_eq_true_iff.mp h
theorem bn{a:Bool}(h:(!a)=true):a=false:=(Bool.not_eq_true' a).mp h
noncomputable def Y9(sc:Scope)(ns:List String):Bool:=
 (ns.all λ n=>sc.names.lookup (Str.ofString n)==some .local||sc.names.lookup (Str.ofString n)==some .cell)&&sc.names.all (λ x=>x.2!=.free)&&decide (sc.names.map (·.1)).Nodup&&(sc.kind==.function)&&!sc.isCoroutine&&!sc.isGenerator
noncomputable def Sb(VH:List (Str×Addr))(ct:Value)(A:Addr)(iw:List Nat)(n q m:String)(t:Tok):FuncData:=
 {name:=Str.ofString n,qualname:=Str.ofString q,params:=mH (aO pw iw),body:=.stmts (bj (aO pw iw)),scope:=aY (aO pw iw),globals:=mainGlobals,closure:=VH,defaults:=.none,kwdefaults:=.none,doc:=.none,pyModule:=vS m t,annotations:=none,code:=.ref (A -1),closureTuple:=ct,builtins:=builtinsNs}
noncomputable def XZ:Addr->List Nat->String->String->String->Tok->FuncData:=Sb [] .none
noncomputable def QJ:List (Str×Addr):=[(Str.ofString "__class__",513)]
section
variable{G:Places} {P:Params} (hK:G.K=KA pw P)
include hK
theorem fo{ns:List String}(A:Addr)(iw:List Nat)(n q m:String)(t:Tok)(hl:(KA pw P).lookup A=some ⟨.type "function",none,.func (XZ A iw n q m t),#[]⟩)(J0:codeIn (KA pw P) (.ref (A -1)) (Str.ofString q)=true)
  (ck:Y9 (aY (aO pw iw)) ns=true)(hb:∀vs:List Value,vs.length=ns.length->bindArgs (XZ A iw n q m t) ⟨vs,[]⟩=pure ((ns.map Str.ofString).zip vs)):cE G A ns (aY (aO pw iw)) (bj (aO pw iw)):=
 have c5:=b2 ck;have c4:=b2 c5.1;have c3:=b2 c4.1;have c2:=b2 c3.1;have c1:=b2 c2.1
 ⟨⟨_,XZ A iw n q m t,hK▸hl,rfl,hK▸J0,rfl,rfl,rfl,rfl,rfl,hb⟩,λ x hx=>(Bool.or_eq_true_iff.mp (List.all_eq_true.mp c1.1 x hx)).imp eq_of_beq eq_of_beq,λ x hx=>bne_iff_ne.mp (List.all_eq_true.mp c1.2 _ (fQ hx)) rfl,of_decide_eq_true c2.2,eq_of_beq c3.2,bn c4.2,bn c5.2⟩
noncomputable def X0(sc:Scope)(ns:List String):Bool:=
 (ns.all λ n=>sc.names.lookup (Str.ofString n)==some .local)&&sc.names.all (λ x=>x.2!=.cell)&&sc.names.all (λ x=>x.2!=.free||x.1==Str.ofString "__class__")&&
 (sc.names.lookup ("super":Str)==some .globalImplicit)&&(sc.names.lookup ("__class__":Str)==some .free)&&(sc.names.lookup (Str.ofString "self")==some .local)&&(sc.kind==.function)&&!sc.isCoroutine&&!sc.isGenerator
theorem fs{ns:List String}(hp:G.prog=pw)(A:Addr)(iw:List Nat)(n q m:String)(t:Tok)(c:Value)(t2 u:Nat)(ln ac:Int){ar:Arg}(hl:(KA pw P).lookup A=some ⟨.type "function",none,.func (Sb QJ c A iw n q m t),#[]⟩)(J0:codeIn (KA pw P) (.ref (A -1)) (Str.ofString q)=true)
  (ck:X0 (aY (aO pw iw)) ns=true)(hb:∀vs:List Value,vs.length=ns.length->bindArgs (Sb QJ c A iw n q m t) ⟨vs,[]⟩=pure ((ns.map Str.ofString).zip vs))
  (har:((mH (aO pw iw)).posonlyargs++(mH (aO pw iw)).args).head?=some ar)(ear:ar.arg=Str.ofString "self")
  (hc:(KA pw P).lookup (A -1)=some (cS (A -1) n q t2 ln ac u).2)(Y_:((pw.main.file:Str)==Str.ofString "/claim/cut.py")=true):iB G A ns (aY (aO pw iw)) (bj (aO pw iw)):=
 have c8:=b2 ck;have c7:=b2 c8.1;have c6:=b2 c7.1;have c5:=b2 c6.1;have c4:=b2 c5.1;have c3:=b2 c4.1;have c2:=b2 c3.1;have c1:=b2 c2.1
 ⟨⟨_,_,Sb QJ c A iw n q m t,_,A -1,_,_,_,_,_,_,ar,hK▸hl,rfl,hK▸J0,rfl,rfl,rfl,rfl,rfl,hb,har,ear,hK▸hc,rfl,hp▸Y_⟩,λ x hx=>eq_of_beq (List.all_eq_true.mp c1.1 x hx),λ x hx=>bne_iff_ne.mp (List.all_eq_true.mp c1.2 x hx),
  λ x hx=>(Bool.or_eq_true_iff.mp (List.all_eq_true.mp c2.2 _ (fQ hx))).elim (λ h=>absurd rfl (bne_iff_ne.mp h)) λ h=>cq (eq_of_beq h),eq_of_beq c3.2,eq_of_beq c4.2,eq_of_beq c5.2,eq_of_beq c6.2,bn c7.2,bn c8.2⟩
end
section
variable{G:Places} {P:Params} (hK:G.K=KA pw P) (hp:G.prog=pw)
include hK hp
theorem Nu:cE G 109 yM (aY (aO pw [10])) (bj (aO pw [10])):=fo hK 109 [10] "mark_of" "mark_of" "alikeheap.whys" 301 (by kernel_rfl) (by kernel_rfl) (by kernel_rfl) (l1 (λ aa=>by kernel_rfl))
theorem FD:cE G 116 tj (aY (aO pw [11])) (bj (aO pw [11])):=fo hK 116 [11] "told_term" "told_term" "alikeheap.whys" 301 (by kernel_rfl) (by kernel_rfl) (by kernel_rfl) (l2 (λ aa aa=>by kernel_rfl))
theorem yl:cE G 121 og (aY (aO pw [12])) (bj (aO pw [12])):=fo hK 121 [12] "paper_of_edge" "paper_of_edge" "alikeheap.whys" 301 (by kernel_rfl) (by kernel_rfl) (by kernel_rfl) (l2 (λ aa aa=>by kernel_rfl))
theorem EE:cE G 126 q9 (aY (aO pw [13])) (bj (aO pw [13])):=fo hK 126 [13] "joined_row" "joined_row" "alikeheap.whys" 301 (by kernel_rfl) (by kernel_rfl) (by kernel_rfl) (l3 (λ aa aa aa=>by kernel_rfl))
theorem FE:cE G 140 tv (aY (aO pw [14,0])) (bj (aO pw [14,0])):=fo hK 140 [14,0] "__init__" "Whys.__init__" "alikeheap.whys" 301 (by kernel_rfl) (by kernel_rfl) (by kernel_rfl) (l2 (λ aa aa=>by kernel_rfl))
theorem J1:cE G 147 vY (aY (aO pw [14,1])) (bj (aO pw [14,1])):=fo hK 147 [14,1] "renewed" "Whys.renewed" "alikeheap.whys" 301 (by kernel_rfl) (by kernel_rfl) (by kernel_rfl) (l1 (λ aa=>by kernel_rfl))
theorem TZ:cE G 154 Gn (aY (aO pw [14,2])) (bj (aO pw [14,2])):=fo hK 154 [14,2] "path" "Whys.path" "alikeheap.whys" 301 (by kernel_rfl) (by kernel_rfl) (by kernel_rfl) (l4 (λ aa aa aa aa=>by kernel_rfl))
theorem J2:cE G 168 vZ (aY (aO pw [14,4])) (bj (aO pw [14,4])):=fo hK 168 [14,4] "between" "Whys.between" "alikeheap.whys" 301 (by kernel_rfl) (by kernel_rfl) (by kernel_rfl) (l4 (λ aa aa aa aa=>by kernel_rfl))
theorem Nv:cE G 173 yU (aY (aO pw [14,5])) (bj (aO pw [14,5])):=fo hK 173 [14,5] "of_edge" "Whys.of_edge" "alikeheap.whys" 301 (by kernel_rfl) (by kernel_rfl) (by kernel_rfl) (l2 (λ aa aa=>by kernel_rfl))
theorem T1:cE G 185 Gp (aY (aO pw [16])) (bj (aO pw [16])):=fo hK 185 [16] "is_op" "is_op" "alikeheap.terms" 427 (by kernel_rfl) (by kernel_rfl) (by kernel_rfl) (l1 (λ aa=>by kernel_rfl))
theorem FF:cE G 199 tw (aY (aO pw [17,0])) (bj (aO pw [17,0])):=fo hK 199 [17,0] "__init__" "Bank.__init__" "alikeheap.terms" 427 (by kernel_rfl) (by kernel_rfl) (by kernel_rfl) (l1 (λ aa=>by kernel_rfl))
theorem FG:cE G 206 tx (aY (aO pw [17,1])) (bj (aO pw [17,1])):=fo hK 206 [17,1] "size" "Bank.size" "alikeheap.terms" 427 (by kernel_rfl) (by kernel_rfl) (by kernel_rfl) (l1 (λ aa=>by kernel_rfl))
theorem T3:cE G 211 Gq (aY (aO pw [17,2])) (bj (aO pw [17,2])):=fo hK 211 [17,2] "take" "Bank.take" "alikeheap.terms" 427 (by kernel_rfl) (by kernel_rfl) (by kernel_rfl) (l3 (λ aa aa aa=>by kernel_rfl))
theorem J3:cE G 218 v9 (aY (aO pw [17,3])) (bj (aO pw [17,3])):=fo hK 218 [17,3] "require" "Bank.require" "alikeheap.terms" 427 (by kernel_rfl) (by kernel_rfl) (by kernel_rfl) (l2 (λ aa aa=>by kernel_rfl))
theorem J4:cE G 239 v_ (aY (aO pw [17,6])) (bj (aO pw [17,6])):=fo hK 239 [17,6] "cut" "Bank.cut" "alikeheap.terms" 427 (by kernel_rfl) (by kernel_rfl) (by kernel_rfl) (l2 (λ aa aa=>by kernel_rfl))
theorem Y':cE G 246 RJ (aY (aO pw [17,7])) (bj (aO pw [17,7])):=fo hK 246 [17,7] "op" "Bank.op" "alikeheap.terms" 427 (by kernel_rfl) (by kernel_rfl) (by kernel_rfl) (l2 (λ aa aa=>by kernel_rfl))
theorem T4:cE G 253 Gr (aY (aO pw [17,8])) (bj (aO pw [17,8])):=fo hK 253 [17,8] "kids" "Bank.kids" "alikeheap.terms" 427 (by kernel_rfl) (by kernel_rfl) (by kernel_rfl) (l2 (λ aa aa=>by kernel_rfl))
theorem T5:cE G 265 Gs (aY (aO pw [17,10])) (bj (aO pw [17,10])):=fo hK 265 [17,10] "term" "Bank.term" "alikeheap.terms" 427 (by kernel_rfl) (by kernel_rfl) (by kernel_rfl) (l2 (λ aa aa=>by kernel_rfl))
theorem Nw:cE G 272 y5 (aY (aO pw [17,11])) (bj (aO pw [17,11])):=fo hK 272 [17,11] "weight" "Bank.weight" "alikeheap.terms" 427 (by kernel_rfl) (by kernel_rfl) (by kernel_rfl) (l2 (λ aa aa=>by kernel_rfl))
theorem A4:cE G 307 pX (aY (aO pw [19,0])) (bj (aO pw [19,0])):=fo hK 307 [19,0] "__init__" "Unions.__init__" "alikeheap.unions" 566 (by kernel_rfl) (by kernel_rfl) (by kernel_rfl) (l1 (λ aa=>by kernel_rfl))
theorem T6:cE G 314 Gu (aY (aO pw [19,1])) (bj (aO pw [19,1])):=fo hK 314 [19,1] "make" "Unions.make" "alikeheap.unions" 566 (by kernel_rfl) (by kernel_rfl) (by kernel_rfl) (l1 (λ aa=>by kernel_rfl))
theorem A5:cE G 321 pY (aY (aO pw [19,2])) (bj (aO pw [19,2])):=fo hK 321 [19,2] "size" "Unions.size" "alikeheap.unions" 566 (by kernel_rfl) (by kernel_rfl) (by kernel_rfl) (l1 (λ aa=>by kernel_rfl))
theorem QK:cE G 328 Cs (aY (aO pw [19,3])) (bj (aO pw [19,3])):=fo hK 328 [19,3] "find" "Unions.find" "alikeheap.unions" 566 (by kernel_rfl) (by kernel_rfl) (by kernel_rfl) (l2 (λ aa aa=>by kernel_rfl))
theorem Nx:cE G 335 y6 (aY (aO pw [19,4])) (bj (aO pw [19,4])):=fo hK 335 [19,4] "merge" "Unions.merge" "alikeheap.unions" 566 (by kernel_rfl) (by kernel_rfl) (by kernel_rfl) (l3 (λ aa aa aa=>by kernel_rfl))
theorem J5:cE G 342 wd (aY (aO pw [19,5])) (bj (aO pw [19,5])):=fo hK 342 [19,5] "members" "Unions.members" "alikeheap.unions" 566 (by kernel_rfl) (by kernel_rfl) (by kernel_rfl) (l2 (λ aa aa=>by kernel_rfl))
theorem T7:cE G 361 Gw (aY (aO pw [19,8])) (bj (aO pw [19,8])):=fo hK 361 [19,8] "back" "Unions.back" "alikeheap.unions" 566 (by kernel_rfl) (by kernel_rfl) (by kernel_rfl) (l2 (λ aa aa=>by kernel_rfl))
theorem T8:cE G 368 Gx (aY (aO pw [19,9])) (bj (aO pw [19,9])):=fo hK 368 [19,9] "cut" "Unions.cut" "alikeheap.unions" 566 (by kernel_rfl) (by kernel_rfl) (by kernel_rfl) (l2 (λ aa aa=>by kernel_rfl))
theorem FH:cE G 389 tA (aY (aO pw [21,0])) (bj (aO pw [21,0])):=fo hK 389 [21,0] "__init__" "Heap.__init__" "alikeheap.heap" 671 (by kernel_rfl) (by kernel_rfl) (by kernel_rfl) (l1 (λ aa=>by kernel_rfl))
theorem FI:cE G 396 tB (aY (aO pw [21,1])) (bj (aO pw [21,1])):=fo hK 396 [21,1] "size" "Heap.size" "alikeheap.heap" 671 (by kernel_rfl) (by kernel_rfl) (by kernel_rfl) (l1 (λ aa=>by kernel_rfl))
theorem T9:cE G 401 Gy (aY (aO pw [21,2])) (bj (aO pw [21,2])):=fo hK 401 [21,2] "node" "Heap.node" "alikeheap.heap" 671 (by kernel_rfl) (by kernel_rfl) (by kernel_rfl) (l2 (λ aa aa=>by kernel_rfl))
theorem X1:cE G 406 Lj (aY (aO pw [21,3])) (bj (aO pw [21,3])):=fo hK 406 [21,3] "add" "Heap.add" "alikeheap.heap" 671 (by kernel_rfl) (by kernel_rfl) (by kernel_rfl) (l3 (λ aa aa aa=>by kernel_rfl))
theorem J6:cE G 420 wi (aY (aO pw [21,5])) (bj (aO pw [21,5])):=fo hK 420 [21,5] "look_at" "Heap.look_at" "alikeheap.heap" 671 (by kernel_rfl) (by kernel_rfl) (by kernel_rfl) (l2 (λ aa aa=>by kernel_rfl))
theorem T_:cE G 427 GA (aY (aO pw [21,6])) (bj (aO pw [21,6])):=fo hK 427 [21,6] "find" "Heap.find" "alikeheap.heap" 671 (by kernel_rfl) (by kernel_rfl) (by kernel_rfl) (l2 (λ aa aa=>by kernel_rfl))
theorem QL:cE G 441 Cz (aY (aO pw [21,8])) (bj (aO pw [21,8])):=fo hK 441 [21,8] "merge" "Heap.merge" "alikeheap.heap" 671 (by kernel_rfl) (by kernel_rfl) (by kernel_rfl) (l4 (λ aa aa aa aa=>by kernel_rfl))
theorem QM:cE G 448 CA (aY (aO pw [21,9])) (bj (aO pw [21,9])):=fo hK 448 [21,9] "join" "Heap.join" "alikeheap.heap" 671 (by kernel_rfl) (by kernel_rfl) (by kernel_rfl) (l4 (λ aa aa aa aa=>by kernel_rfl))
theorem Ny:cE G 455 zc (aY (aO pw [21,10])) (bj (aO pw [21,10])):=fo hK 455 [21,10] "settle" "Heap.settle" "alikeheap.heap" 671 (by kernel_rfl) (by kernel_rfl) (by kernel_rfl) (l1 (λ aa=>by kernel_rfl))
theorem qm:iB G 525 ly (aY (aO pw [23,0])) (bj (aO pw [23,0])):=fs hK hp 525 [23,0] "__init__" "Levels.__init__" "alikeheap.levels" 842 (.ref 518) 856 861 318 1 (by kernel_rfl) (by kernel_rfl) (by kernel_rfl) (l1 (λ aa=>by kernel_rfl)) rfl (by kernel_rfl) (by kernel_rfl) (by kernel_rfl)
theorem Ua:cE G 539 GD (aY (aO pw [23,2])) (bj (aO pw [23,2])):=fo hK 539 [23,2] "push" "Levels.push" "alikeheap.levels" 842 (by kernel_rfl) (by kernel_rfl) (by kernel_rfl) (l1 (λ aa=>by kernel_rfl))
theorem X2:cE G 546 Lo (aY (aO pw [23,3])) (bj (aO pw [23,3])):=fo hK 546 [23,3] "pop" "Levels.pop" "alikeheap.levels" 842 (by kernel_rfl) (by kernel_rfl) (by kernel_rfl) (l1 (λ aa=>by kernel_rfl))
theorem Ao:iB G 554 ry (aY (aO pw [23,4])) (bj (aO pw [23,4])):=fs hK hp 554 [23,4] "look_at" "Levels.look_at" "alikeheap.levels" 842 (.ref 547) 888 895 345 2 (by kernel_rfl) (by kernel_rfl) (by kernel_rfl) (l2 (λ aa aa=>by kernel_rfl)) rfl (by kernel_rfl) (by kernel_rfl) (by kernel_rfl)
theorem G':iB G 562 xR (aY (aO pw [23,5])) (bj (aO pw [23,5])):=fs hK hp 562 [23,5] "join" "Levels.join" "alikeheap.levels" 842 (.ref 555) 898 908 354 4 (by kernel_rfl) (by kernel_rfl) (by kernel_rfl) (l4 (λ aa aa aa aa=>by kernel_rfl)) rfl (by kernel_rfl) (by kernel_rfl) (by kernel_rfl)
theorem Nz:cE G 567 zd (aY (aO pw [23,6])) (bj (aO pw [23,6])):=fo hK 567 [23,6] "unmake" "Levels.unmake" "alikeheap.levels" 842 (by kernel_rfl) (by kernel_rfl) (by kernel_rfl) (l2 (λ aa aa=>by kernel_rfl))
theorem NA:cE G 574 ze (aY (aO pw [23,7])) (bj (aO pw [23,7])):=fo hK 574 [23,7] "unjoin" "Levels.unjoin" "alikeheap.levels" 842 (by kernel_rfl) (by kernel_rfl) (by kernel_rfl) (l2 (λ aa aa=>by kernel_rfl))
theorem Ub:cE G 586 GF (aY (aO pw [25])) (bj (aO pw [25])):=fo hK 586 [25] "_law_pick" "_law_pick" "law_rh0019_01" 940 (by kernel_rfl) (by kernel_rfl) (by kernel_rfl) (l2 (λ aa aa=>by kernel_rfl))
theorem QN:cE G 591 CJ (aY (aO pw [26])) (bj (aO pw [26])):=fo hK 591 [26] "_law_term" "_law_term" "law_rh0019_01" 940 (by kernel_rfl) (by kernel_rfl) (by kernel_rfl) (l2 (λ aa aa=>by kernel_rfl))
theorem Uc:cE G 596 GH (aY (aO pw [27])) (bj (aO pw [27])):=fo hK 596 [27] "_law_more" "_law_more" "law_rh0019_01" 940 (by kernel_rfl) (by kernel_rfl) (by kernel_rfl) (l3 (λ aa aa aa=>by kernel_rfl))
theorem QO:cE G 601 CL (aY (aO pw [28])) (bj (aO pw [28])):=fo hK 601 [28] "_law_sides" "_law_sides" "law_rh0019_01" 940 (by kernel_rfl) (by kernel_rfl) (by kernel_rfl) (l3 (λ aa aa aa=>by kernel_rfl))
theorem NB:cE G 608 zj (aY (aO pw [29])) (bj (aO pw [29])):=fo hK 608 [29] "_law_labels" "_law_labels" "law_rh0019_01" 940 (by kernel_rfl) (by kernel_rfl) (by kernel_rfl) (l1 (λ aa=>by kernel_rfl))
theorem FJ:cE G 613 tK (aY (aO pw [30])) (bj (aO pw [30])):=fo hK 613 [30] "_law_are_right" "_law_are_right" "law_rh0019_01" 940 (by kernel_rfl) (by kernel_rfl) (by kernel_rfl) (l4 (λ aa aa aa aa=>by kernel_rfl))
end
end
section
section
variable{G:Places} {P:Params} (hK:G.K=KA pw P) (hp:G.prog=pw)
theorem aa7(P:Params):∀f:Fn,fnIn (KA pw P) f.addr=true:=Kb (by kernel_rfl)
theorem QP(P:Params):∀f:Fn,typeIn (KA pw P) (.ref f.addr)=some (.type "function"):=λ f=>eq_of_beq (Kb (Q:=λ n=>typeIn (KA pw P) (.ref n)==some (.type "function")) (by kernel_rfl) f)
theorem aa8(P:Params):∀c:dN,findIn (KA pw P) (.ref c.addr) "__getattribute__"=some (some (.builtin "object.__getattribute__")):=by intro c;cases c<;>kernel_rfl
theorem aa9(P:Params):∀c:dN,findIn (KA pw P) (.ref c.addr) "__getattr__"=some none:=by intro c;cases c<;>kernel_rfl
theorem aa_(P:Params):∀c:dN,findIn (KA pw P) (.ref c.addr) "__setattr__"=some (some (.builtin "object.__setattr__")):=by intro c;cases c<;>kernel_rfl
theorem aa'(P:Params):∀c:dN,hasDictIn (KA pw P) c.addr=true:=by intro c;cases c<;>kernel_rfl
theorem aba(P:Params):∀c:dN,plainOver (KA pw P) c.addr=true:=by intro c;cases c<;>kernel_rfl
theorem abb(P:Params):∀c:dN,makesIn (KA pw P) c.addr=true:=by intro c;cases c<;>kernel_rfl
theorem k_in(P:Params):∀c:dN,findIn (KA pw P) (.ref c.addr) "__init__"=some (some (.ref (qp c).addr)):=by intro c;cases c<;>kernel_rfl
theorem X3(P:Params):∀c:dN,keepIn (KA pw P) (.ref c.addr)=true:=by intro c;cases c<;>kernel_rfl
theorem k_meth(P:Params):∀c m f,vd c m=some f->findIn (KA pw P) (.ref c.addr) (Str.ofString m)=some (some (.ref f.addr)):=λ c m f h=>by have:=FO (P:=λ m f=>findIn (KA pw P) (.ref c.addr) (Str.ofString m)==some (some (.ref f.addr))) m f (QY c) h (by cases c<;>kernel_rfl);simpa using this
theorem X4(P:Params):∀(c:dN)(x:String),(attrsOf c).contains x=true->findIn (KA pw P) (.ref c.addr) (Str.ofString x)=some none:=by
 intro c x h;have key:∀(l:List String),(l.all λ y=>findIn (KA pw P) (.ref c.addr) (Str.ofString y)==some none)=true->l.contains x=true->findIn (KA pw P) (.ref c.addr) (Str.ofString x)=some none:=λ l h1 h2=>by rw [List.all_eq_true]at h1;have:=h1 x (by simpa using h2);simpa using this
 refine key _ ?_ h;cases c<;>kernel_rfl
theorem Za(P:Params):(KA pw P).lookup sysModules=some (boot_o_1 P):=by kernel_rfl
theorem X5(P:Params):(KA pw P).lookup 513=some ⟨.type "cell",none,.cell (some (.ref 577)),#[]⟩:=by kernel_rfl
theorem k_cls(P:Params):(clsIn (KA pw P) 577).isSome=true:=by kernel_rfl
theorem k_sub(P:Params):mroIn (KA pw P) 577 (.ref 577)=some true:=by kernel_rfl
theorem NC(P:Params):nsIn (KA pw P) mainGlobals "super"=some none:=by kernel_rfl
theorem J7(P:Params):nsIn (KA pw P) cStatics "thirdparty.any"=some none:=by kernel_rfl
theorem Zb:(pw.main.scope.names.lookup ("super":Str)).isSome=false:=by kernel_rfl
theorem Zc(P:Params):∀m f,HN m=some f->ks_superIn (KA pw P) 577 577 (Str.ofString m)=some (some (.ref f.addr)):=λ m f h=>by have:=FO (P:=λ m f=>ks_superIn (KA pw P) 577 577 (Str.ofString m)==some (some (.ref f.addr))) m f Vl h (by kernel_rfl);simpa using this
theorem abc(hK:G.K=KA pw P)(X:G.K.In G.h₀)(b:∃mb,G.h₀.Ns builtinsNs mb/\∀x:Str,x≠"__name__"->mb x=bootBuiltins x)(nolimit:G.h₀.NoLimit)(nodigits:∃mc,G.h₀.Ns cStatics mc/\mc "sys.int_max_str_digits"=none):Wd G where
 X:=X
 b:=b
 nolimit:=nolimit
 sys:=⟨boot_o_1 P,X _ _ (hK▸Za P)⟩
 nodigits:=nodigits
 fn:=hK▸aa7 P
 vf:=hK▸QP P
 BA:=hK▸k_meth P
 mq:=hK▸aa8 P
 getattr:=hK▸aa9 P
 setattr:=hK▸aa_ P
 attr:=hK▸X4 P
 hasDict:=hK▸aa' P
 over:=hK▸aba P
 makes:=hK▸abb P
 init:=hK▸k_in P
theorem Zd(hK:G.K=KA pw P)(hp:G.prog=pw):sY G where
 cell:=⟨_,_,_,hK▸X5 P⟩
 cls:=Option.isSome_iff_exists.mp (hK▸k_cls P)
 sub:=hK▸k_sub P
 Ge:=hK▸NC P
 B_:=hK▸J7 P
 top:=hp▸Zb
 BA:=hK▸Zc P
theorem ND(P:Params):nsIn (KA pw P) mainGlobals (Str.ofString "mark_of")=some (some (.ref Fn.nQ.addr)):=by kernel_rfl
theorem FK(P:Params):nsIn (KA pw P) mainGlobals (Str.ofString "told_term")=some (some (.ref Fn.j0.addr)):=by kernel_rfl
theorem xk(P:Params):nsIn (KA pw P) mainGlobals (Str.ofString "paper_of_edge")=some (some (.ref Fn.gV.addr)):=by kernel_rfl
theorem EF(P:Params):nsIn (KA pw P) mainGlobals (Str.ofString "joined_row")=some (some (.ref Fn.jj.addr)):=by kernel_rfl
theorem Ud(P:Params):nsIn (KA pw P) mainGlobals (Str.ofString "is_op")=some (some (.ref Fn.xq.addr)):=by kernel_rfl
theorem J8(P:Params):nsIn (KA pw P) mainGlobals (Str.ofString "_law_pick")=some (some (.ref Fn.pick.addr)):=by kernel_rfl
theorem J9(P:Params):nsIn (KA pw P) mainGlobals (Str.ofString "_law_term")=some (some (.ref Fn.gr.addr)):=by kernel_rfl
theorem J_(P:Params):nsIn (KA pw P) mainGlobals (Str.ofString "_law_more")=some (some (.ref Fn.more.addr)):=by kernel_rfl
theorem FL(P:Params):nsIn (KA pw P) mainGlobals (Str.ofString "_law_sides")=some (some (.ref Fn.lN.addr)):=by kernel_rfl
theorem EG(P:Params):nsIn (KA pw P) mainGlobals (Str.ofString "_law_labels")=some (some (.ref Fn.kM.addr)):=by kernel_rfl
theorem xl(P:Params):nsIn (KA pw P) mainGlobals (Str.ofString "_law_are_right")=some (some (.ref Fn.gw.addr)):=by kernel_rfl
theorem X6(P:Params):nsIn (KA pw P) mainGlobals (Str.ofString "Whys")=some (some (.ref dN.dO.addr)):=by kernel_rfl
theorem X7(P:Params):nsIn (KA pw P) mainGlobals (Str.ofString "Bank")=some (some (.ref dN.bank.addr)):=by kernel_rfl
theorem QQ(P:Params):nsIn (KA pw P) mainGlobals (Str.ofString "Unions")=some (some (.ref dN.fY.addr)):=by kernel_rfl
theorem QR(P:Params):nsIn (KA pw P) mainGlobals (Str.ofString "Levels")=some (some (.ref dN.levels.addr)):=by kernel_rfl
theorem EH(P:Params):nsIn (KA pw P) mainGlobals (Str.ofString "MOST_NODES")=some (some (.int 100000 303)):=by kernel_rfl
theorem EI(P:Params):nsIn (KA pw P) mainGlobals (Str.ofString "MOST_PARTS")=some (some (.int 20000 305)):=by kernel_rfl
theorem A6(P:Params):nsIn (KA pw P) mainGlobals (Str.ofString "MOST_LEVELS")=some (some (.int 100 307)):=by kernel_rfl
theorem Ze(P:Params):nsIn (KA pw P) mainGlobals (Str.ofString "len")=some none:=by kernel_rfl
theorem Zf(P:Params):nsIn (KA pw P) mainGlobals (Str.ofString "max")=some none:=by kernel_rfl
theorem Zg(P:Params):nsIn (KA pw P) mainGlobals (Str.ofString "min")=some none:=by kernel_rfl
theorem Zh(P:Params):nsIn (KA pw P) mainGlobals (Str.ofString "sum")=some none:=by kernel_rfl
theorem QS(P:Params):nsIn (KA pw P) mainGlobals (Str.ofString "sorted")=some none:=by kernel_rfl
theorem Ue(P:Params):nsIn (KA pw P) mainGlobals (Str.ofString "tuple")=some none:=by kernel_rfl
theorem X8(P:Params):nsIn (KA pw P) mainGlobals (Str.ofString "list")=some none:=by kernel_rfl
theorem Zi(P:Params):nsIn (KA pw P) mainGlobals (Str.ofString "int")=some none:=by kernel_rfl
theorem Zj(P:Params):nsIn (KA pw P) mainGlobals (Str.ofString "str")=some none:=by kernel_rfl
theorem Zk(P:Params):nsIn (KA pw P) mainGlobals (Str.ofString "set")=some none:=by kernel_rfl
theorem Zl(P:Params):nsIn (KA pw P) mainGlobals (Str.ofString "zip")=some none:=by kernel_rfl
theorem Ug(P:Params):nsIn (KA pw P) mainGlobals (Str.ofString "range")=some none:=by kernel_rfl
theorem FN(P:Params):nsIn (KA pw P) mainGlobals (Str.ofString "enumerate")=some none:=by kernel_rfl
theorem abd(hK:G.K=KA pw P):Gl G where
 keep:=hK▸X3 P
 Gm:=.own (hK▸ND P)
 yL:=.own (hK▸FK P)
 pU:=.own (hK▸xk P)
 vT:=.own (hK▸EF P)
 RI:=.own (hK▸Ud P)
 iu:=.own (hK▸J8 P)
 j':=.own (hK▸J9 P)
 uG:=.own (hK▸J_ P)
 q8:=.own (hK▸FL P)
 oX:=.own (hK▸EG P)
 lx:=.own (hK▸xl P)
 VG:=.own (hK▸X6 P)
 Bank:=.own (hK▸X7 P)
 K0:=.own (hK▸QQ P)
 K1:=.own (hK▸QR P)
 vU:=⟨_,.own (hK▸EH P)⟩
 vV:=⟨_,.own (hK▸EI P)⟩
 th:=⟨_,.own (hK▸A6 P)⟩
 len:=.boot (hK▸Ze P) (by kernel_rfl) (by decide)
 max:=.boot (hK▸Zf P) (by kernel_rfl) (by decide)
 min:=.boot (hK▸Zg P) (by kernel_rfl) (by decide)
 sum:=.boot (hK▸Zh P) (by kernel_rfl) (by decide)
 sorted:=.boot (hK▸QS P) (by kernel_rfl) (by decide)
 tuple:=.boot (hK▸Ue P) (by kernel_rfl) (by decide)
 list:=.boot (hK▸X8 P) (by kernel_rfl) (by decide)
 int:=.boot (hK▸Zi P) (by kernel_rfl) (by decide)
 str:=.boot (hK▸Zj P) (by kernel_rfl) (by decide)
 set:=.boot (hK▸Zk P) (by kernel_rfl) (by decide)
 zip:=.boot (hK▸Zl P) (by kernel_rfl) (by decide)
 range:=.boot (hK▸Ug P) (by kernel_rfl) (by decide)
 enumerate:=.boot (hK▸FN P) (by kernel_rfl) (by decide)
end
theorem NF{G:Places}{P:Params}(hK:G.K=KA pw P)(hp:G.prog=pw)(W:Wd G)(WS:sY G)(V:Gl G):∀d sc,mv ⟨G,d,Mine.O d,sc⟩/\xJ ⟨G,d,Mine.O d,sc⟩:=by
 intro bD;induction bD with
 |zero=>
  intro sc;exact ⟨λ f=>by intro A E w x v P Q R hv hc;exact hc.elim,λ c=>by intro A E w x v P Q R hv hc;exact hc.elim⟩
 |succ d ih=>intro sc;have O:∀sc,mv ⟨G,d,Mine.O d,sc⟩:=λ sc=>(ih sc).1;have OM:∀sc,xJ ⟨G,d,Mine.O d,sc⟩:=λ sc=>(ih sc).2;refine ⟨(?_:xr (λ n=>qy ⟨G,d+1,Mine.O (d+1),sc⟩ (.ref n) (FZ (RM n).1 (RM n).2 (Mine.O d))) A7).fn,λ c=>Sr W (O sc) c rfl rfl⟩;exact And.intro (b8 W (Nu hK hp) (Oq W V O OM) rfl rfl)<|And.intro (b8 W (FD hK hp) (HX W V O OM) rfl rfl)<|And.intro (b8 W (yl hK hp) (Aw W V O OM) rfl rfl)<|And.intro (b8 W (EE hK hp) (ES W V O OM) rfl rfl)<|And.intro (b8 W (FE hK hp) (HY W V O OM) rfl rfl)<|And.intro (b8 W (J1 hK hp) (K4 W V O OM) rfl rfl)<|And.intro (b8 W (TZ hK hp) (VI W V O OM) rfl rfl)<|And.intro (b8 W (J2 hK hp) (K6 W V O OM) rfl rfl)<|And.intro (b8 W (Nv hK hp) (Ot W V O OM) rfl rfl)<|And.intro (b8 W (T1 hK hp) (VJ W V O OM) rfl rfl)<|And.intro (b8 W (FF hK hp) (HZ W V O OM) rfl rfl)<|And.intro (b8 W (FG hK hp) (H2 W V O OM) rfl rfl)<|And.intro (b8 W (T3 hK hp) (VK W V O OM) rfl rfl)<|And.intro (b8 W (J3 hK hp) (K9 W V O OM) rfl rfl)<|And.intro (b8 W (J4 hK hp) (K_ W V O OM) rfl rfl)<|And.intro (b8 W (Y' hK hp) (aaI W V O OM) rfl rfl)<|And.intro (b8 W (T4 hK hp) (VM W V O OM) rfl rfl)<|And.intro (b8 W (T5 hK hp) (VN W V O OM) rfl rfl)<|And.intro (b8 W (Nw hK hp) (Ou W V O OM) rfl rfl)<|And.intro (b8 W (A4 hK hp) (Cq W V O OM) rfl rfl)<|And.intro (b8 W (T6 hK hp) (VO W V O OM) rfl rfl)<|And.intro (b8 W (A5 hK hp) (Cr W V O OM) rfl rfl)<|And.intro (b8 W (QK hK hp) (Sx W V O OM) rfl rfl)<|And.intro (b8 W (Nx hK hp) (Ov W V O OM) rfl rfl)<|And.intro (b8 W (J5 hK hp) (Ld W V O OM) rfl rfl)<|And.intro (b8 W (T7 hK hp) (VP W V O OM) rfl rfl)<|And.intro (b8 W (T8 hK hp) (VQ W V O OM) rfl rfl)<|And.intro (b8 W (FH hK hp) (H3 W V O OM) rfl rfl)<|And.intro (b8 W (FI hK hp) (H4 W V O OM) rfl rfl)<|And.intro (b8 W (T9 hK hp) (VS W V O OM) rfl rfl)<|And.intro (b8 W (X1 hK hp) (YA W V O OM) rfl rfl)<|And.intro (b8 W (J6 hK hp) (Ll W V O OM) rfl rfl)<|And.intro (b8 W (T_ hK hp) (VT W V O OM) rfl rfl)<|And.intro (b8 W (QL hK hp) (Sy W V O OM) rfl rfl)<|And.intro (b8 W (QM hK hp) (Sz W V O OM) rfl rfl)<|And.intro (b8 W (Ny hK hp) (Ow W V O OM) rfl rfl)<|And.intro (uD W WS (qm hK hp) (λ fd oc od gp h=>CC W V O OM WS h (qm hK hp)) rfl rfl)<|And.intro (b8 W (Ua hK hp) (VU W V O OM) rfl rfl)<|And.intro (b8 W (X2 hK hp) (s_pop W V O OM) rfl rfl)<|And.intro (uD W WS (Ao hK hp) (λ fd oc od gp h=>Ox W V O OM WS h (Ao hK hp)) rfl rfl)<|And.intro (uD W WS (G' hK hp) (λ fd oc od gp h=>VV W V O OM WS h (G' hK hp)) rfl rfl)<|And.intro (b8 W (Nz hK hp) (Oy W V O OM) rfl rfl)<|And.intro (b8 W (NA hK hp) (Oz W V O OM) rfl rfl)<|And.intro (b8 W (Ub hK hp) (VX W V O OM) rfl rfl)<|And.intro (b8 W (QN hK hp) (SA W V O OM) rfl rfl)<|And.intro (b8 W (Uc hK hp) (VY W V O OM) rfl rfl)<|And.intro (b8 W (QO hK hp) (SD W V O OM) rfl rfl)<|And.intro (b8 W (NB hK hp) (OA W V O OM) rfl rfl)<|And.intro (b8 W (FJ hK hp) (H5 W V O OM) rfl rfl)<|True.intro
end
section
section
variable{G:Places} {P:Params} (hK:G.K=KA pw P)
include hK
theorem X9:cE G 618 EC (aY (aO pw [31])) (bj (aO pw [31])):=
 fo hK 618 [31] "law" "law" "law_rh0019_01" 940 (by kernel_rfl) (by kernel_rfl) (by kernel_rfl) (l1 (λ aa=>by kernel_rfl))
theorem QT(hp:G.prog=pw)(W:Wd G)(WS:sY G)(V:Gl G){a₀:Addr}{zs:List Int}(hz:zs.length<=63)(hB:Bq G a₀ (zs.map AV.int)){A:Around}{E:Value->Shared->Prop}{s:Shared}(R:iK 122 A)(H:HS G s [] []):
  wpAny (model G.prog G.w) A (PySem.call (.ref 618) [.ref a₀]) (λ v s'=>v=.bool true/\∃bK σ',HS G s' bK σ') E s:=by
 have hc:=b8 (Γ:=⟨G,122,Mine.O 121,aY (aO pw [31])⟩) W (X9 hK) (Y6 hB W V (λ sc=>(NF hK hp W WS V 121 sc).1) λ sc=>(NF hK hp W WS V 121 sc).2) rfl rfl;refine wpAny_call (hc A E ⟨s,[],[],H⟩ (x:=[.base a₀]) (v:=[.ref a₀]) R (.cons (.base a₀) .nil) (QI hz) λ u y w S p hv=>?_);cases p;cases hv;exact ⟨rfl,w.lam,w.σ,w.H⟩
end
end
end Mine
end
section
open PySem PySem.W PySem.Calls PyProof.Rows
namespace Mine
section
set_option maxRecDepth 1000000
set_option maxHeartbeats 0
theorem k7(p:Program)(P:Params):ti=(KA p P).map (·.1):=by kernel_rfl
theorem opens:opening pw=plainProg pw.main.scope.names:=by kernel_rfl
theorem X_(s:Shared):fenceModules? pw s=some s:=by kernel_rfl
noncomputable def QU(s:SharedT)(a:Addr):Option Obj:=match Nat.blt a s.n with
  |true=>alive ((s.tree.get a).getD default)
  |false=>none
theorem Uh:QU=λ s=>s.abs.heap.get?:=by
  funext s a;unfold QU SharedT.abs Heap.get?;rw [absHeap_at];by_cases h:a<s.n
  · rw [if_pos h,Nat.blt_eq.mpr h]
    generalize (s.tree.get a).getD default=o;obtain ⟨c,d,dt,sl⟩:=o;cases dt<;>rfl
  · rw [if_neg h,Bool.eq_false_iff.mpr λ e=>h (Nat.blt_eq.mp e)]
theorem Yb(w:World):(λ os=>(xQ (Fast.tw10156331382660048174 (Fast.tw11892475500146522536 Fast.tw14364793385576792824) pw w) (Fast.tw6613529449190102663 11 (some (.ref 6))) 8622 (K3 w os) (topStub pw)).map
      λ s=>((staticsOk (Fast.tw5923862056798008813 pw.main.body) (boot_heap w.params) s.abs.heap&&namesBound pw s.abs.heap&&gensDone s.abs&&laidKept (boot_heap w.params) s.abs.heap),
        Fast.tw4187177175401517315 (oY pw) kR (Fast.tw5923862056798008813 pw.main.body) (λ s=>recOk [] s) true s.abs,
        ti.map (QU s)))=λ aa=>some (true,openGood (oY pw) kR,(KA pw w.params).map λ p=>some p.2):=by kernel_rfl
theorem QV(w:World):(λ os=>(xQ (stepT (denote treeTable) pw w) (stepOk 11 (some (.ref 6))) 8622 (K3 w os) (topStub pw)).map λ s=>
      Cf (importedModules pw.main.body) pw (oY pw) kR (λ s=>recOk [] s) (kHook (KA pw) ti (k7 pw)).obs (boot_heap w.params) s.abs)
       =λ aa=>some (true,openGood (oY pw) kR,(kHook (KA pw) ti (k7 pw)).val w):=by
  have h:=Yb w;rw [<-Fast.te10156331382660048174,<-Fast.te11892475500146522536,<-Fast.te14364793385576792824,<-Fast.te6613529449190102663,<-Fast.te5923862056798008813,<-Fast.te4187177175401517315,Uh]at h;exact h
theorem left:LeftO pw (oY pw) kR (λ s=>recOk [] s) (kHook (KA pw) ti (k7 pw)).obs (kHook (KA pw) ti (k7 pw)).val 8622:=
  Sw opens rfl X_ Yz QV
noncomputable def Br:Stmt:=aO pw [31]
noncomputable def Zm:Stmt->Pos
  |.FunctionDef _ _ _ _ _ _ _ _ _ p=>p
  |_=>default
noncomputable def r9:DefRec:={name:="law",params:=mH Br,body:=bj Br,scope:=aY Br,pos:=Zm Br}
abbrev i4:=PySem.Challenge.rw_rh0019_01.row
theorem Yc:defOf (oY pw) i4.name=some (r9,[]):=by kernel_rfl
theorem Yd:i4.prog.theDef i4.name=some (r9.params,r9.body,r9.scope):=by kernel_rfl
theorem Zn:kwWritten? r9.params.kwonlyargs r9.params.kw_defaults=some []:=by kernel_rfl
theorem row_holds(said:i4.wellSaid=true)(wit:i4.toRowW.promised)
    (core:WalkO (oY pw) kR (λ aa aa=>True) (kHook (KA pw) ti (k7 pw)).says i4.toRowW r9 [] λ f vs=>PySem.call f vs):i4.Holds:=
  holds_open (q:=oY pw) (loose:=kR) (Xt:=λ s=>recOk [] s) (XP:=λ aa aa=>True) (N:=8622) left (kHook (KA pw) ti (k7 pw)).of (kHook (KA pw) ti (k7 pw)).keeps
    (λ aa aa=>trivial) (λ aa aa aa aa aa=>trivial) Yc Yd Zn (λ s e=>recFacts_of e) rfl said (by kernel_rfl) ⟨rfl,rfl,rfl,rfl,rfl,by decide+kernel⟩ wit core
end
section
set_option maxRecDepth 100000
theorem J'{K:Frag}{h:Heap}{N:Addr}{mg:Str->Option Value}{n:Str}{v:Value}(X:K.In h)(G:h.Ns N mg)(e:nsIn K N n=some (some v)):mg n=some v:=by
 refine ue G λ o es ep ho hd aa hf=>?_;unfold nsIn at e;cases q:K.lookup N with
 |none=>rw [q]at e;exact nomatch e
 |some o'=>
  rw [q]at e;cases Option.some.inj (ho.symm.trans (X _ _ q));obtain ⟨c,d,dt,sl⟩:=o;cases hd;dsimp only at e;cases he:es.toList.find? (λ x=>x.key.isStr n)with
  |some e'=>
   rw [he]at e;rw [<-hf];unfold nsFind findBy;refine cA Array.find?_toList<|ae he ?_;exact Option.some.inj e
  |none=>
   rw [he]at e;dsimp only at e;by_cases hq:es.toList.any (λ x=>x.refKey)=true
   ·rw [if_pos hq]at e;exact nomatch e
   ·rw [if_neg hq]at e;exact nomatch e
theorem QW{h:Heap}{lam:List Addr}{vs:List Value}{zs:List Int}(hI:IntsAre vs zs):bq h lam (zs.map AV.int) vs:=by
 induction hI with
 |nil=>exact .nil
 |cons n t _ ih=>exact .cons (.int n t) ih
theorem core:WalkO (oY pw) kR (λ aa aa=>True) (kHook (KA pw) ti (k7 pw)).says i4.toRowW r9 [] λ f vs=>PySem.call f vs:=by
 intro w abI fA mg mb G Y a o pm cd doc dV kV ho hd F0 hD hmg hg args vals as ur abe hrd xi R7;have X:=kIn_of Y
 wrow_args ur abe hrd xi R7
 rename_i zs hs abP ZU hrA f6 as4 as3 a₀ vs asx hL ra w1 r0 hI hrB sO yn;have hz:zs.length<=63:=by omega
 have abf:nsIn (KA pw w.params) mainGlobals (Str.ofString "law")=some (some (.ref 618)):=by kernel_rfl
 have abg:mg (Str.ofString "law")=some (.ref 618):=J' X G.T.g abf;have Ye:mg (Str.ofString "law")=some (.ref a):=hmg;rw [abg]at Ye;cases Ye;obtain ⟨ol,jq,abh,nl,B8⟩:=hL;have hw:=QT (G:=⟨pw,w,fA.heap,fA.os,KA pw w.params⟩) (P:=w.params) rfl rfl (abc rfl X ⟨mb,G.T.b,G.T.builtins⟩ G.T.nolimit G.T.nodigits) (Zd rfl rfl) (abd rfl) (a₀:=a₀) (zs:=zs) hz ⟨ol,vs.toArray,nl,jq,abh,B8,λ h lam=>by simpa using QW hI⟩ (A:=callerA)
  (E:=λ e s'=>GoodWG i4.claim (classAt abI.heap) (ExcName.means abI.heap) [ofPy (PyData.list (List.map PyData.int zs))] fA (Except.error e) s') (s:=fA) ⟨rfl,by decide,by decide⟩ ⟨λ aa aa h=>h,hg,rfl,rfl,List.nodup_nil,by simp,by simp⟩
 refine wpAny_mono hw (λ v s' ⟨hv,bK,σ',H'⟩=>?_) (λ aa aa h=>h);subst hv;refine ⟨.inl ⟨.bool true,.bool true,[],rfl,λ cls=>rfl,.bool true,?_,λ aa=>⟨List.nodup_nil,by simp⟩⟩,.of_keep H'.base,H'.os,.of_eq H'.gens⟩;kernel_rfl
theorem sd1:(namesMeet pw pw.main.body λ aa n=>attrL n)=true:=by kernel_rfl
theorem sd2:noRoadLSs {strict:=!(importedModules pw.main.body).all cThrough.contains,foot:=none,bare:=(["vars","dir","locals"]:List Str).filter (readsOut pw pw.main.body)} pw.main.body=true:=by kernel_rfl
theorem sd3:namesResolve pw=true:=by kernel_rfl
theorem sd4:looksOpen pw=true:=look_both (look_both (look_both (look_both (by kernel_rfl) sd3) (by kernel_rfl)) sd2) sd1
theorem Zo:i4.wellSaid=true:=by
 refine look_both (look_both ?_ (by kernel_rfl)) (by kernel_rfl)
 iterate 13 refine look_both ?_ (by kernel_rfl)
 exact sd4
end
end Mine
theorem Mine.said:PySem.Challenge.rw_rh0019_01.wellSaid=true:=by
 iterate 18 refine look_both ?_ (by kernel_rfl)
 exact Mine.Zo
theorem PySem.Challenge.cw_rh0019_01_holds : PySem.Challenge.rw_rh0019_01.Holds := by
 refine holds_law Mine.said fun h => Mine.row_holds h ?_ Mine.core
 w_witness2
end
