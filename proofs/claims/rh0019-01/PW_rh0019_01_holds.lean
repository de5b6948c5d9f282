import PyProof.Rows.All
import Wide.All
import OpenK.AllK
import Wide.FinOn
import Lean
import PySem.Challenge.RW_rh0019_01
set_option Elab.async false
set_option linter.all false
set_option maxHeartbeats 1000000
set_option maxRecDepth 100000
section
namespace Mine
section
@[elab_as_elim] theorem ae.{u} {α:Sort u} {P:α->Prop} {a b:α} (h:a=b) (k:P b):P a:=h▸k
@[elab_as_elim] theorem cQ.{u} {α:Sort u} {P:α->Prop} {a b:α} (h:b=a) (k:P b):P a:=h▸k
theorem ns_.{u} {α:Type u} {a:α} {P:Prop} (h:none=some a):P:=nomatch h
theorem uC.{u} {α:Type u} {a:α} {P:Prop} (h:some a=none):P:=nomatch h
theorem V_{P:Prop}(h:false=true):P:=nomatch h
theorem tf_{P:Prop}(h:true=false):P:=nomatch h
theorem V'.{u} {α:Type u} {a c:α} {P:Prop} (h:some a=some c) (k:a=c->P):P:=k (Option.some.inj h)
theorem pp_.{u,v} {α:Type u} {β:Type v} {a c:α} {b d:β} {P:Prop} (h:(a,b)=(c,d)) (k:a=c->b=d->P):P:=k (Prod.mk.inj h).1 (Prod.mk.inj h).2
theorem CX{P0 P1:Prop}{G:Prop}(e:P0/\P1)(f:P0->P1->G):G:=by obtain ⟨h0,h1⟩:=e;exact f h0 h1
theorem Wa{P0 P1 P2:Prop}{G:Prop}(e:P0/\P1/\P2)(f:P0->P1->P2->G):G:=by obtain ⟨h0,h1,h2⟩:=e;exact f h0 h1 h2
theorem adp{P0 P1 P2 P3 P4:Prop}{G:Prop}(e:P0/\P1/\P2/\P3/\P4)(f:P0->P1->P2->P3->P4->G):G:=by obtain ⟨h0,h1,h2,h3,h4⟩:=e;exact f h0 h1 h2 h3 h4
theorem d9.{u0} {A0:Sort u0} {P0:A0->Prop} {G:Prop} (e:∃x0,P0 x0) (f:∀x0,P0 x0->G):G:=by obtain ⟨x0,h0⟩:=e;exact f x0 h0
theorem bA.{u0} {A0:Sort u0} {P0 P1:A0->Prop} {G:Prop} (e:∃x0,P0 x0/\P1 x0) (f:∀x0,P0 x0->P1 x0->G):G:=by obtain ⟨x0,h0,h1⟩:=e;exact f x0 h0 h1
theorem gy.{u0} {A0:Sort u0} {P0 P1 P2:A0->Prop} {G:Prop} (e:∃x0,P0 x0/\P1 x0/\P2 x0) (f:∀x0,P0 x0->P1 x0->P2 x0->G):G:=by obtain ⟨x0,h0,h1,h2⟩:=e;exact f x0 h0 h1 h2
theorem Pz.{u0} {A0:Sort u0} {P0 P1 P2 P3:A0->Prop} {G:Prop} (e:∃x0,P0 x0/\P1 x0/\P2 x0/\P3 x0) (f:∀x0,P0 x0->P1 x0->P2 x0->P3 x0->G):G:=by obtain ⟨x0,h0,h1,h2,h3⟩:=e;exact f x0 h0 h1 h2 h3
theorem Wb.{u0,u1} {A0:Sort u0} {A1:Sort u1} {P0:A0->A1->Prop} {G:Prop} (e:∃x0 x1,P0 x0 x1) (f:∀x0 x1,P0 x0 x1->G):G:=by obtain ⟨x0,x1,h0⟩:=e;exact f x0 x1 h0
theorem yK.{u0,u1} {A0:Sort u0} {A1:Sort u1} {P0 P1:A0->A1->Prop} {G:Prop} (e:∃x0 x1,P0 x0 x1/\P1 x0 x1) (f:∀x0 x1,P0 x0 x1->P1 x0 x1->G):G:=by obtain ⟨x0,x1,h0,h1⟩:=e;exact f x0 x1 h0 h1
theorem yL.{u0,u1} {A0:Sort u0} {A1:Sort u1} {P0 P1 P2:A0->A1->Prop} {G:Prop} (e:∃x0 x1,P0 x0 x1/\P1 x0 x1/\P2 x0 x1) (f:∀x0 x1,P0 x0 x1->P1 x0 x1->P2 x0 x1->G):G:=by obtain ⟨x0,x1,h0,h1,h2⟩:=e;exact f x0 x1 h0 h1 h2
theorem oM.{u0,u1} {A0:Sort u0} {A1:Sort u1} {P0 P1 P2 P3:A0->A1->Prop} {G:Prop} (e:∃x0 x1,P0 x0 x1/\P1 x0 x1/\P2 x0 x1/\P3 x0 x1) (f:∀x0 x1,P0 x0 x1->P1 x0 x1->P2 x0 x1->P3 x0 x1->G):G:=by obtain ⟨x0,x1,h0,h1,h2,h3⟩:=e;exact f x0 x1 h0 h1 h2 h3
theorem vJ.{u0,u1} {A0:Sort u0} {A1:Sort u1} {P0 P1 P2 P3 P4:A0->A1->Prop} {G:Prop} (e:∃x0 x1,P0 x0 x1/\P1 x0 x1/\P2 x0 x1/\P3 x0 x1/\P4 x0 x1) (f:∀x0 x1,P0 x0 x1->P1 x0 x1->P2 x0 x1->P3 x0 x1->P4 x0 x1->G):G:=by obtain ⟨x0,x1,h0,h1,h2,h3,h4⟩:=e;exact f x0 x1 h0 h1 h2 h3 h4
theorem adq.{u0,u1} {A0:Sort u0} {A1:Sort u1} {P0 P1 P2 P3 P4 P5:A0->A1->Prop} {G:Prop} (e:∃x0 x1,P0 x0 x1/\P1 x0 x1/\P2 x0 x1/\P3 x0 x1/\P4 x0 x1/\P5 x0 x1) (f:∀x0 x1,P0 x0 x1->P1 x0 x1->P2 x0 x1->P3 x0 x1->P4 x0 x1->P5 x0 x1->G):G:=by obtain ⟨x0,x1,h0,h1,h2,h3,h4,h5⟩:=e;exact f x0 x1 h0 h1 h2 h3 h4 h5
theorem Wc.{u0,u1,u2} {A0:Sort u0} {A1:Sort u1} {A2:Sort u2} {P0:A0->A1->A2->Prop} {G:Prop} (e:∃x0 x1 x2,P0 x0 x1 x2) (f:∀x0 x1 x2,P0 x0 x1 x2->G):G:=by obtain ⟨x0,x1,x2,h0⟩:=e;exact f x0 x1 x2 h0
theorem CY.{u0,u1,u2} {A0:Sort u0} {A1:Sort u1} {A2:Sort u2} {P0 P1:A0->A1->A2->Prop} {G:Prop} (e:∃x0 x1 x2,P0 x0 x1 x2/\P1 x0 x1 x2) (f:∀x0 x1 x2,P0 x0 x1 x2->P1 x0 x1 x2->G):G:=by obtain ⟨x0,x1,x2,h0,h1⟩:=e;exact f x0 x1 x2 h0 h1
theorem rH.{u0,u1,u2} {A0:Sort u0} {A1:Sort u1} {A2:Sort u2} {P0 P1 P2:A0->A1->A2->Prop} {G:Prop} (e:∃x0 x1 x2,P0 x0 x1 x2/\P1 x0 x1 x2/\P2 x0 x1 x2) (f:∀x0 x1 x2,P0 x0 x1 x2->P1 x0 x1 x2->P2 x0 x1 x2->G):G:=by obtain ⟨x0,x1,x2,h0,h1,h2⟩:=e;exact f x0 x1 x2 h0 h1 h2
theorem vK.{u0,u1,u2} {A0:Sort u0} {A1:Sort u1} {A2:Sort u2} {P0 P1 P2 P3:A0->A1->A2->Prop} {G:Prop} (e:∃x0 x1 x2,P0 x0 x1 x2/\P1 x0 x1 x2/\P2 x0 x1 x2/\P3 x0 x1 x2) (f:∀x0 x1 x2,P0 x0 x1 x2->P1 x0 x1 x2->P2 x0 x1 x2->P3 x0 x1 x2->G):G:=by obtain ⟨x0,x1,x2,h0,h1,h2,h3⟩:=e;exact f x0 x1 x2 h0 h1 h2 h3
theorem PA.{u0,u1,u2} {A0:Sort u0} {A1:Sort u1} {A2:Sort u2} {P0 P1 P2 P3 P4:A0->A1->A2->Prop} {G:Prop} (e:∃x0 x1 x2,P0 x0 x1 x2/\P1 x0 x1 x2/\P2 x0 x1 x2/\P3 x0 x1 x2/\P4 x0 x1 x2) (f:∀x0 x1 x2,P0 x0 x1 x2->P1 x0 x1 x2->P2 x0 x1 x2->P3 x0 x1 x2->P4 x0 x1 x2->G):G:=by obtain ⟨x0,x1,x2,h0,h1,h2,h3,h4⟩:=e;exact f x0 x1 x2 h0 h1 h2 h3 h4
theorem CZ.{u0,u1,u2} {A0:Sort u0} {A1:Sort u1} {A2:Sort u2} {P0 P1 P2 P3 P4 P5:A0->A1->A2->Prop} {G:Prop} (e:∃x0 x1 x2,P0 x0 x1 x2/\P1 x0 x1 x2/\P2 x0 x1 x2/\P3 x0 x1 x2/\P4 x0 x1 x2/\P5 x0 x1 x2) (f:∀x0 x1 x2,P0 x0 x1 x2->P1 x0 x1 x2->P2 x0 x1 x2->P3 x0 x1 x2->P4 x0 x1 x2->P5 x0 x1 x2->G):G:=by obtain ⟨x0,x1,x2,h0,h1,h2,h3,h4,h5⟩:=e;exact f x0 x1 x2 h0 h1 h2 h3 h4 h5
theorem We.{u0,u1,u2,u3} {A0:Sort u0} {A1:Sort u1} {A2:Sort u2} {A3:Sort u3} {P0 P1:A0->A1->A2->A3->Prop} {G:Prop} (e:∃x0 x1 x2 x3,P0 x0 x1 x2 x3/\P1 x0 x1 x2 x3) (f:∀x0 x1 x2 x3,P0 x0 x1 x2 x3->P1 x0 x1 x2 x3->G):G:=by obtain ⟨x0,x1,x2,x3,h0,h1⟩:=e;exact f x0 x1 x2 x3 h0 h1
theorem ads.{u0,u1,u2,u3} {A0:Sort u0} {A1:Sort u1} {A2:Sort u2} {A3:Sort u3} {P0 P1 P2:A0->A1->A2->A3->Prop} {G:Prop} (e:∃x0 x1 x2 x3,P0 x0 x1 x2 x3/\P1 x0 x1 x2 x3/\P2 x0 x1 x2 x3) (f:∀x0 x1 x2 x3,P0 x0 x1 x2 x3->P1 x0 x1 x2 x3->P2 x0 x1 x2 x3->G):G:=by obtain ⟨x0,x1,x2,x3,h0,h1,h2⟩:=e;exact f x0 x1 x2 x3 h0 h1 h2
theorem Wf.{u0,u1,u2,u3} {A0:Sort u0} {A1:Sort u1} {A2:Sort u2} {A3:Sort u3} {P0 P1 P2 P3:A0->A1->A2->A3->Prop} {G:Prop} (e:∃x0 x1 x2 x3,P0 x0 x1 x2 x3/\P1 x0 x1 x2 x3/\P2 x0 x1 x2 x3/\P3 x0 x1 x2 x3) (f:∀x0 x1 x2 x3,P0 x0 x1 x2 x3->P1 x0 x1 x2 x3->P2 x0 x1 x2 x3->P3 x0 x1 x2 x3->G):G:=by obtain ⟨x0,x1,x2,x3,h0,h1,h2,h3⟩:=e;exact f x0 x1 x2 x3 h0 h1 h2 h3
theorem adt.{u0,u1,u2,u3} {A0:Sort u0} {A1:Sort u1} {A2:Sort u2} {A3:Sort u3} {P0 P1 P2 P3 P4:A0->A1->A2->A3->Prop} {G:Prop} (e:∃x0 x1 x2 x3,P0 x0 x1 x2 x3/\P1 x0 x1 x2 x3/\P2 x0 x1 x2 x3/\P3 x0 x1 x2 x3/\P4 x0 x1 x2 x3) (f:∀x0 x1 x2 x3,P0 x0 x1 x2 x3->P1 x0 x1 x2 x3->P2 x0 x1 x2 x3->P3 x0 x1 x2 x3->P4 x0 x1 x2 x3->G):G:=by obtain ⟨x0,x1,x2,x3,h0,h1,h2,h3,h4⟩:=e;exact f x0 x1 x2 x3 h0 h1 h2 h3 h4
section
variable{a b c d a1 b1 a2 b2 a3 b3 n m k l r:Nat}
theorem nc(h:a<=n)(e:Nat.ble n m=true):a<=m:=Nat.le_trans h (Nat.le_of_ble_eq_true e)
theorem fb(h:a<=n)(e:Nat.ble (n+1) m=true):a<m:=nc (Nat.succ_le_succ h) e
theorem SQ(h:a<=n)(h':b<=m)(e:Nat.ble (n+m) k=true):a+b<=k:=nc (Nat.add_le_add h h') e
theorem nsl(h:a<=n)(h':b<=m)(e:Nat.ble (n+m+1) k=true):a+b<k:=fb (Nat.add_le_add h h') e
theorem npp(h:a<=n)(e:Nat.ble (n+c) k=true):a+c<=k:=nc (Nat.add_le_add_right h c) e
theorem npl(h:a<=n)(e:Nat.ble (n+c+1) k=true):a+c<k:=fb (Nat.add_le_add_right h c) e
theorem C3(h:a+c<=b):a<=b:=Nat.le_trans (Nat.le_add_right a c) h
theorem j5(h:c+a<=b):a<=b:=Nat.le_trans (Nat.le_add_left a c) h
theorem nC(h:a+c<b):a<b:=Nat.lt_of_le_of_lt (Nat.le_add_right a c) h
theorem bS(h:a=b):a<=b:=h▸Nat.le_refl a
theorem b7(h:a=b):b<=a:=h▸Nat.le_refl a
theorem bQ(h:a<=b)(e:l+b<=r+a):l<=r:=Nat.le_of_add_le_add_right (Nat.le_trans (Nat.add_le_add_left h l) e)
theorem dc(h:a<=b)(h1:a1<=b1)(e:l+(b+b1)<=r+(a+a1)):l<=r:=bQ (Nat.add_le_add h h1) e
theorem fJ(h:a<=b)(h1:a1<=b1)(h2:a2<=b2)(e:l+(b+(b1+b2))<=r+(a+(a1+a2))):l<=r:=dc h (Nat.add_le_add h1 h2) e
theorem C4(h:a<=b)(h1:a1<=b1)(h2:a2<=b2)(h3:a3<=b3)(e:l+(b+(b1+(b2+b3)))<=r+(a+(a1+(a2+a3)))):l<=r:=fJ h h1 (Nat.add_le_add h2 h3) e
end
end
section
theorem L8{x y:Nat}(h:x≠y):min x y≠max x y:=λ e=>h (Nat.le_antisymm (Nat.le_trans (Nat.le_max_left x y) (Nat.le_trans (b7 e) (Nat.min_le_right x y))) (Nat.le_trans (Nat.le_max_right x y) (Nat.le_trans (b7 e) (Nat.min_le_left x y))))
theorem mlx{x y:Nat}(h:x≠y):min x y<max x y:=Nat.lt_of_le_of_ne (Nat.le_trans (Nat.min_le_left x y) (Nat.le_max_left x y)) (L8 h)
theorem mml{x y n:Nat}(h:x<n):min x y<n:=Nat.lt_of_le_of_lt (Nat.min_le_left x y) h
theorem mxl{x y n:Nat}(h:x<n)(h':y<n):max x y<n:=Nat.max_lt.2 ⟨h,h'⟩
theorem C5{k n:Nat}(h:k<n):n=n -1+1:=(Nat.succ_pred_eq_of_pos (Nat.zero_lt_of_lt h)).symm
theorem nev(r:Nat):r+1+1 -(r+1+1) %2=r -r %2+2:=(congrArg (r+2 -·) (Nat.add_mod_right r 2)).trans (Nat.sub_add_comm (Nat.mod_le r 2))
theorem Wg(r:Nat):(r+1+1)/2=r/2+1:=Nat.add_div_right r (Nat.succ_pos 1)
theorem nhl{i r:Nat}(h:i+1<=r/2):2*i+1<r:=Nat.lt_of_lt_of_le (Nat.lt_succ_self (2*i+1)) (Nat.le_trans (Nat.mul_le_mul_left 2 h) (Nat.mul_div_le r 2))
theorem nmi(m n:Nat):min (m:Int) n=(min m n:Nat):=by
 rcases Nat.le_total m n with h|h
 ·rw [Nat.min_eq_left h,Int.min_eq_left (Int.ofNat_le.2 h)]
 ·exact ae (Nat.min_eq_right h)<|ae (Int.min_eq_right (Int.ofNat_le.2 h)) rfl
theorem nxx(m n:Nat):max (m:Int) n=(max m n:Nat):=by
 rcases Nat.le_total m n with h|h
 ·rw [Nat.max_eq_right h,Int.max_eq_right (Int.ofNat_le.2 h)]
 ·exact ae (Nat.max_eq_left h)<|ae (Int.max_eq_left (Int.ofNat_le.2 h)) rfl
theorem nmx(m n:Nat):(max 0 (min (m:Int) n)).toNat=min m n:=by rw [nmi,Int.max_eq_right (Int.natCast_nonneg _)];rfl
theorem nsb{a b c d:Nat}(h:a<=b):c+(b -a)=d->c+b=d+a:=λ e=>by rw [<-e,Nat.add_assoc,Nat.sub_add_cancel h]
theorem nsx{x n d:Nat}(h:x<n):x+(n -x -1+d)+1=n+d:=by rw [Nat.sub_sub,Nat.add_right_comm,<-Nat.add_assoc,Nat.add_sub_cancel' h]
theorem rzN(a n:Nat):(PySem.Builtin.Range.rangeSize a (a+n:Nat) 1).toNat=n:=by
 unfold PySem.Builtin.Range.rangeSize;rw [if_pos (by decide),Int.ediv_one];cases n with
 |zero=>refine ae (if_neg (Int.lt_irrefl _)) ?_;rfl
 |succ m=>rw [if_pos (Int.ofNat_lt.2 (Nat.lt_add_of_pos_right (Nat.succ_pos m))),Int.sub_add_cancel,Int.natCast_add,Int.add_comm,Int.add_sub_cancel];rfl
theorem rz2{n:Nat}(h:2<=n):(PySem.Builtin.Range.rangeSize 0 ((n:Int) -1) 2).toNat=n/2:=by obtain ⟨m,rfl⟩:=Nat.exists_eq_add_of_le' h;rw [show((m+2:Nat):Int) -1=((m+1:Nat):Int) from Int.add_sub_cancel ((m+1:Nat):Int) 1,Wg];unfold PySem.Builtin.Range.rangeSize;rw [if_pos (by decide),if_pos (show(0:Int)<((m+1:Nat):Int) from Int.ofNat_lt.2 (Nat.succ_pos m)),Int.sub_zero,show((m+1:Nat):Int) -1=(m:Int) from Int.add_sub_cancel (m:Int) 1];rfl
theorem rok{a b:Nat}(h:a<=b)(hb:b<=100000):0<(1:Int)/\(1:Int)<=1000/\-1000000<=(a:Int)/\(a:Int)<=1000000/\-1000000<=(b:Int)/\(b:Int)<=1000000:=
 ⟨by decide,by decide,Int.le_trans (by decide) (Int.natCast_nonneg a),Int.ofNat_le.2 (nc (Nat.le_trans h hb) rfl),Int.le_trans (by decide) (Int.natCast_nonneg b),Int.ofNat_le.2 (nc hb rfl)⟩
theorem nrv{n k:Nat}(h:k<n):((n:Int) -1+-1*(k:Int)).toNat=n -1 -k:=by obtain ⟨m,rfl⟩:=Nat.exists_eq_add_of_lt h;rw [Int.neg_mul,Int.one_mul,show((k+m+1:Nat):Int) -1=(k:Int)+m from Int.add_sub_cancel ((k:Int)+m) 1,Int.add_comm (k:Int),Int.add_neg_cancel_right,Nat.add_sub_cancel,Nat.add_sub_cancel_left];rfl
theorem nsy{a n:Nat}(h:a<n):n=a+(n -a -1)+1:=by rw [Nat.sub_sub,Nat.add_right_comm,Nat.add_sub_cancel' h]
theorem n96{i m D:Nat}(h:i<m)(h':m<=8):2*i+8+(D+112 -2*i)=D+120:=by rw [Nat.add_right_comm,Nat.add_sub_cancel' (Nat.le_trans (Nat.mul_le_mul_left 2 (Nat.le_trans (Nat.le_of_lt h) h')) (Nat.le_trans (by decide) (Nat.le_add_left 112 D)))]
end
end Mine
end
section
open PySem PySem.W PyProof.Rows PySem.Calls
namespace Mine
section
inductive AV where
 |none
 |bool(b:Bool)
 |int(i:Int)
 |str(x:String)
 |tup(vs:List AV)
 |ref(l:Nat)
 |base(a:Addr)
inductive AK where
 |i(n:Int)
 |s(x:String)
 deriving DecidableEq
inductive d_ where
 |eb|bank|gI|levels
inductive AO where
 |list(xs:List AV)
 |dI(kvs:List (Int×AV))
 |dS(kvs:List (String×AV))
 |dT(kvs:List (List AK×AV))
 |inst(c:d_)
 |zip
 |zin
 |gb
 |cv(xs:List AV)(i:Nat)
 |dead
 |set(ns:List Int)
abbrev U:=List AO
abbrev dy:=String->Option AV
def TT(h:Heap)(lam:List Addr)(a:Addr)(items:Array Value)(n:Nat):Prop:=a∉lam/\IsT h a items n
mutual
inductive VR(h:Heap)(lam:List Addr):AV->Value->Prop
 |none:VR h lam .none .none
 |bool (b:Bool):VR h lam (.bool b) (.bool b)
 |int (i:Int) (t:Tok):VR h lam (.int i) (.int i t)
 |str (x:String) {X:Str} (t:Tok) (e:X=Str.ofString x):VR h lam (.str x) (.str X t)
 |tup {vs:List AV} {a:Addr} {items:Array Value} {n:Nat}:TT h lam a items n->bB h lam vs items.toList->vs.length<=10000->VR h lam (.tup vs) (.ref a)
 |ref {l:Nat} {a:Addr}:lam[l]?=some a->VR h lam (.ref l) (.ref a)
 |base (a:Addr):VR h lam (.base a) (.ref a)
inductive bB(h:Heap)(lam:List Addr):List AV->List Value->Prop
 |nil:bB h lam [] []
 |cons {av:AV} {v:Value} {cT:List AV} {vs:List Value}:VR h lam av v->bB h lam cT vs->bB h lam (av::cT) (v::vs)
end
def my(lam bV:List Addr):Prop:=∀(l:Nat)(a:Addr),lam[l]?=some a->bV[l]?=some a
theorem my.refl(lam:List Addr):my lam lam:=λ aa aa h=>h
theorem my.trans{a b c:List Addr}(x:my a b)(y:my b c):my a c:=λ l v h=>y l v (x l v h)
theorem my.snoc(lam:List Addr)(a:Addr):my lam (lam++[a]):=λ l v h=>by have:=(List.getElem?_eq_some_iff.mp h).1;refine ae (List.getElem?_append_left this) ?_;exact h
structure Kx(h:Heap)(lam:List Addr)(h':Heap)(bV:List Addr):Prop where
 ext:my lam bV
 tup:∀a o items n,a∉lam->o.cls=.type "tuple"->o.data=.seq items n->h.get? a=some o->h'.get? a=some o
 fresh:∀a∈bV,a∈lam\/h.get? a=none
theorem Kx.tt{h h':Heap}{lam bV:List Addr}(k:Kx h lam h' bV){a:Addr}{items:Array Value}{n:Nat}(x:TT h lam a items n):TT h' bV a items n:=
 ⟨λ hm=>(k.fresh a hm).elim x.1 λ e=>(by have:=x.2;unfold IsT at this;rw [e]at this;exact ns_ this),k.tup _ _ _ _ x.1 rfl rfl x.2⟩
theorem Kx.out{h h':Heap}{lam bV:List Addr}(k:Kx h lam h' bV){a:Addr}{o:Obj}(hn:a∉lam)(ho:h.get? a=some o):a∉bV:=λ hm=>(k.fresh a hm).elim hn λ e=>by rw [ho]at e;exact uC e
theorem bB.ind{h:Heap}{lam:List Addr}(P:List AV->List Value->Prop)(n:P [] [])(c:∀{a v as vs},VR h lam a v->bB h lam as vs->P as vs->P (a::as) (v::vs)){as vs}(x:bB h lam as vs):P as vs:=
 @bB.rec h lam (λ aa aa aa=>True) (λ as vs aa=>P as vs) trivial (λ aa=>trivial) (λ aa aa=>trivial) (λ aa aa aa aa=>trivial) (λ aa aa aa aa=>trivial) (λ aa=>trivial) (λ aa=>trivial) n (λ a b aa r=>c a b r) _ _ x
theorem VR.bo{h h':Heap}{lam bV:List Addr}(k:Kx h lam h' bV){av v}(x:VR h lam av v):VR h' bV av v:=
 @VR.rec h lam (λ av v aa=>VR h' bV av v) (λ as vs aa=>bB h' bV as vs) .none .bool .int (λ x aa t e=>.str x t e) (λ ht aa hz hv=>.tup (k.tt ht) hv hz) (λ hl=>.ref (k.ext _ _ hl)) .base .nil (λ aa aa a b=>.cons a b) _ _ x
theorem bB.bo{h h':Heap}{lam bV:List Addr}(k:Kx h lam h' bV){cT vs}(x:bB h lam cT vs):bB h' bV cT vs:=x.ind (bB h' bV) .nil λ a aa r=>.cons (a.bo k) r
theorem bB.length{h:Heap}{lam:List Addr}{cT vs}(x:bB h lam cT vs):cT.length=vs.length:=x.ind (λ a b=>a.length=b.length) rfl λ aa aa e=>congrArg Nat.succ e
theorem bB.get{h:Heap}{lam:List Addr}{cT vs}(x:bB h lam cT vs):∀(i:Nat){av},cT[i]?=some av->∃v,vs[i]?=some v/\VR h lam av v:=by
 refine x.ind (λ cT vs=>∀(i:Nat){av},cT[i]?=some av->∃v,vs[i]?=some v/\VR h lam av v) (λ aa aa e=>nomatch e) λ h1 aa ih i=>?_;cases i with
 |zero=>exact λ e=>⟨_,rfl,Option.some.inj e▸h1⟩
 |succ i=>exact λ e=>ih i e
theorem bB.append{h:Heap}{lam:List Addr}{a b c d}(x:bB h lam a b)(y:bB h lam c d):bB h lam (a++c) (b++d):=x.ind (λ a b=>bB h lam (a++c) (b++d)) y λ h1 aa r=>.cons h1 r
theorem bB.drop{h:Heap}{lam:List Addr}{a b}(x:bB h lam a b):∀(n:Nat),bB h lam (a.drop n) (b.drop n):=by
 refine x.ind (λ a b=>∀n:Nat,bB h lam (a.drop n) (b.drop n)) (λ n=>?_) λ h1 h2 ih n=>?_
 ·cases (n)<;>exact .nil
 ·cases n with
  |zero=>exact .cons h1 h2
  |succ n=>exact ih n
theorem bB.take{h:Heap}{lam:List Addr}{a b}(x:bB h lam a b):∀(n:Nat),bB h lam (a.take n) (b.take n):=by
 refine x.ind (λ a b=>∀n:Nat,bB h lam (a.take n) (b.take n)) (λ n=>?_) λ h1 aa ih n=>?_
 ·cases (n)<;>exact .nil
 ·cases n with
  |zero=>exact .nil
  |succ n=>exact .cons h1 (ih n)
theorem bB.rev{h:Heap}{lam:List Addr}{a b}(x:bB h lam a b):bB h lam a.reverse b.reverse:=
 x.ind (λ a b=>bB h lam a.reverse b.reverse) .nil λ h1 aa r=>by refine ae List.reverse_cons<|ae List.reverse_cons ?_;exact r.append (.cons h1 .nil)
inductive KR{K K':Type}(f:K->K')(h:Heap)(lam:List Addr):List (K×AV)->List (K'×Value)->Prop
 |nil:KR f h lam [] []
 |cons {k:K} {av:AV} {v:Value} {r r'}:VR h lam av v->KR f h lam r r'->KR f h lam ((k,av)::r) ((f k,v)::r')
theorem KR.bo{K K':Type}{f:K->K'}{h h':Heap}{lam bV:List Addr}(k:Kx h lam h' bV){r r'}(x:KR f h lam r r'):KR f h' bV r r':=by
 induction x with
 |nil=>exact .nil
 |cons a _ ih=>exact .cons (a.bo k) ih
end
section
theorem cH{x y:String}(h:Str.ofString x=Str.ofString y):x=y:=by
 rw [Str.ofString_eq_toList,Str.ofString_eq_toList]at h;injection h with h
 have h1:x.toList.map Char.toNat=y.toList.map Char.toNat:=by simpa using congrArg Array.toList h
 have inj:∀a b:List Char,a.map Char.toNat=b.map Char.toNat->a=b:=by
  intro a;induction a with
  |nil=>intro b hb;cases b with|nil=>rfl|cons _ _=>simp at hb
  |cons c r ih=>
   intro b hb;cases b with
   |nil=>simp at hb
   |cons d q=>simp only [List.map_cons,List.cons.injEq]at hb;exact ae (ih q hb.2)<|ae (Char.toNat_inj.mp hb.1) rfl
 exact String.toList_inj.mp (inj _ _ h1)
theorem ob{x y:String}:Str.ofString x=Str.ofString y↔x=y:=⟨cH,λ e=>e▸rfl⟩
noncomputable def IW:AK->Value->Bool
 |.i n,v=>Value.isInt n v
 |.s x,v=>Value.isStrOf (Str.ofString x) v
theorem hG{k:AK}{v:Value}(h:IW k v=true):(∃n t,k=.i n/\v=.int n t)\/∃x t,k=.s x/\v=.str (Str.ofString x) t:=by
 cases k with
 |i n=>obtain ⟨t,rfl⟩:=Value.isInt_shape h;exact .inl ⟨n,t,rfl,rfl⟩
 |s x=>obtain ⟨t,rfl⟩:=Value.isStrOf_shape h;exact .inr ⟨x,t,rfl,rfl⟩
section
variable{prog:Program} {w:World} {A:Around} {E:Value->Shared->Prop} {s:Shared}
theorem oX{a:Int}{t:Tok}{b:Str}{u:Tok}{Q:Bool->Shared->Prop}(h:Q false s):wpAny (model prog w) A (eqBool (.int a t) (.str b u)) Q E s:=by
 unfold eqBool
 try with_reducible refine wpAny_holding ?_
 refine (?_:wpAny _ _ (if(Value.int a t==Value.str b u)=true then _ else _) Q E s);refine ae (if_neg (by simp)) ?_;exact wpAny_bind (EqMixed.eq_int_str (wpAny_truthy_bool h))
theorem oY{a:Str}{t:Tok}{b:Int}{u:Tok}{Q:Bool->Shared->Prop}(h:Q false s):wpAny (model prog w) A (eqBool (.str a t) (.int b u)) Q E s:=by
 unfold eqBool
 try with_reducible refine wpAny_holding ?_
 refine (?_:wpAny _ _ (if(Value.str a t==Value.int b u)=true then _ else _) Q E s);refine ae (if_neg (by simp)) ?_;exact wpAny_bind (EqMixed.eq_str_int (wpAny_truthy_bool h))
end
noncomputable def oZ(prog:Program)(w:World):KeyKind prog w AK where
 is:=IW
 hash:=λ k=>match k with|.i n=>hashInt n|.s x=>hashStr w (Str.ofString x)
 inj:=λ v a b ha hb=>by
  rcases hG ha with⟨n,t,rfl,rfl⟩|⟨x,t,rfl,rfl⟩<;>rcases hG hb with⟨n',t',rfl,e⟩|⟨x',t',rfl,e⟩
  ·injection e with e;rw [e]
  ·exact nomatch e
  ·exact nomatch e
  ·injection e with e;exact ae (cH e) rfl
 byValue:=λ k v h=>by rcases hG h with⟨n,t,rfl,rfl⟩|⟨x,t,rfl,rfl⟩<;>rfl
 pyHash:=λ hv h=>by
  rcases hG hv with⟨n,t,rfl,rfl⟩|⟨x,t,rfl,rfl⟩
  ·exact wpAny_pyHash_int h
  ·exact wpAny_pyHash_str h
 eqBool:=λ{A E s a b u v Q}hu hv h=>by
  rcases hG hu with⟨n,t,rfl,rfl⟩|⟨x,t,rfl,rfl⟩<;>rcases hG hv with⟨n',t',rfl,rfl⟩|⟨x',t',rfl,rfl⟩
  ·refine wpAny_eqBool_int ?_;have e:(n==n')=decide (AK.i n=AK.i n'):=by simp;rfl
   refine ae e ?_;exact h
  ·refine oX ?_;simpa using h
  ·refine oY ?_;simpa using h
  ·refine wpAny_eqBool_str ?_;simpa [ob]using h
 «strs»:=λ k x t v h=>by
  rcases hG h with⟨n,t',rfl,e⟩|⟨x',t',rfl,e⟩
  ·exact nomatch e
  ·injection e with e;subst e
   cases (v)<;>simp [IW,Value.isStrOf,Value.isStr]
noncomputable abbrev cI(prog:Program)(w:World):HeapKind prog w (List AK):=tupleKind (oZ prog w)
inductive KT(h:Heap)(lam:List Addr):List (List AK×AV)->List (List AK×Addr×Value)->Prop
 |nil:KT h lam [] []
 |cons {k:List AK} {av:AV} {a:Addr} {v:Value} {r r'}:VR h lam av v->KT h lam r r'->KT h lam ((k,av)::r) ((k,a,v)::r')
theorem KT.bo{h h':Heap}{lam bV:List Addr}(k:Kx h lam h' bV){r r'}(x:KT h lam r r'):KT h' bV r r':=by
 induction x with
 |nil=>exact .nil
 |cons a _ ih=>exact .cons (a.bo k) ih
noncomputable def Cz:List Nat:=[109,116,121,126,140,147,154,168,173,185,199,206,211,218,239,246,253,265,272,307,314,321,328,335,342,361,368,389,396,401,406,420,427,441,448,455,525,539,546,554,562,567,574,586,591,596,601,608,613]
structure Fn where
 bw:Addr
 ok:Cz.contains bw=true
namespace Fn
noncomputable def o2:Fn:=⟨109,rfl⟩
noncomputable def lB:Fn:=⟨116,rfl⟩
noncomputable def iJ:Fn:=⟨121,rfl⟩
noncomputable def j6:Fn:=⟨126,rfl⟩
noncomputable def vL:Fn:=⟨140,rfl⟩
noncomputable def yM:Fn:=⟨147,rfl⟩
noncomputable def PB:Fn:=⟨154,rfl⟩
noncomputable def yN:Fn:=⟨168,rfl⟩
noncomputable def C6:Fn:=⟨173,rfl⟩
noncomputable def yO:Fn:=⟨185,rfl⟩
noncomputable def C7:Fn:=⟨199,rfl⟩
noncomputable def pS:Fn:=⟨206,rfl⟩
noncomputable def take:Fn:=⟨211,rfl⟩
noncomputable def o3:Fn:=⟨218,rfl⟩
noncomputable def tV:Fn:=⟨239,rfl⟩
noncomputable def op:Fn:=⟨246,rfl⟩
noncomputable def IX:Fn:=⟨253,rfl⟩
noncomputable def IY:Fn:=⟨265,rfl⟩
noncomputable def weight:Fn:=⟨272,rfl⟩
noncomputable def wL:Fn:=⟨307,rfl⟩
noncomputable def jS:Fn:=⟨314,rfl⟩
noncomputable def mS:Fn:=⟨321,rfl⟩
noncomputable def CA:Fn:=⟨328,rfl⟩
noncomputable def rI:Fn:=⟨335,rfl⟩
noncomputable def tW:Fn:=⟨342,rfl⟩
noncomputable def fN:Fn:=⟨361,rfl⟩
noncomputable def IZ:Fn:=⟨368,rfl⟩
noncomputable def vM:Fn:=⟨389,rfl⟩
noncomputable def pT:Fn:=⟨396,rfl⟩
noncomputable def gf:Fn:=⟨401,rfl⟩
noncomputable def add:Fn:=⟨406,rfl⟩
noncomputable def ni:Fn:=⟨420,rfl⟩
noncomputable def find:Fn:=⟨427,rfl⟩
noncomputable def merge:Fn:=⟨441,rfl⟩
noncomputable def wM:Fn:=⟨448,rfl⟩
noncomputable def rJ:Fn:=⟨455,rfl⟩
noncomputable def wN:Fn:=⟨525,rfl⟩
noncomputable def push:Fn:=⟨539,rfl⟩
noncomputable def pop:Fn:=⟨546,rfl⟩
noncomputable def wO:Fn:=⟨554,rfl⟩
noncomputable def join:Fn:=⟨562,rfl⟩
noncomputable def wQ:Fn:=⟨567,rfl⟩
noncomputable def wR:Fn:=⟨574,rfl⟩
noncomputable def dH:Fn:=⟨586,rfl⟩
noncomputable def hJ:Fn:=⟨591,rfl⟩
noncomputable def more:Fn:=⟨596,rfl⟩
noncomputable def mT:Fn:=⟨601,rfl⟩
noncomputable def l7:Fn:=⟨608,rfl⟩
noncomputable def hO:Fn:=⟨613,rfl⟩
end Fn
def yP(Q:Nat->Prop):List Nat->Prop
 |[]=>True
 |n::r=>Q n/\yP Q r
theorem yP.mem{Q:Nat->Prop}{L:List Nat}(h:yP Q L){n:Nat}(m:n∈L):Q n:=by
 induction L with
 |nil=>cases m
 |cons a r ih=>exact (List.mem_cons.mp m).elim (λ e=>e▸h.1) (ih h.2)
theorem yP.fn{Q:Nat->Prop}(h:yP Q Cz)(f:Fn):Q f.bw:=h.mem (List.contains_iff_mem.mp f.ok)
theorem L9{Q:Nat->Bool}(h:Cz.all Q=true)(f:Fn):Q f.bw=true:=List.all_eq_true.mp h _ (List.contains_iff_mem.mp f.ok)
noncomputable def d_.bw:d_->Addr
 |.eb=>176|.bank=>289|.gI=>371|.levels=>577
noncomputable def SR:d_->List (String×Fn)
 |.eb=>[("renewed",.yM),("path",.PB),("between",.yN),("of_edge",.C6)]
 |.bank=>[("size",.pS),("take",.take),("require",.o3),("cut",.tV),("op",.op),("kids",.IX),("term",.IY),("weight",.weight)]
 |.gI=>[("make",.jS),("size",.mS),("find",.CA),("merge",.rI),("members",.tW),("back",.fN),("cut",.IZ)]
 |.levels=>[("size",.pT),("node",.gf),("add",.add),("find",.find),("merge",.merge),("settle",.rJ),("push",.push),("pop",.pop),("look_at",.wO),("join",.join),("unmake",.wQ),("unjoin",.wR)]
noncomputable def Wh(L:List (String×Fn))(m:String):Option Fn:=(L.find? λ p=>decide (p.1=m)).map (·.2)
theorem Hr{P:String->Fn->Bool}(m:String)(f:Fn):∀(L:List (String×Fn)),Wh L m=some f->(L.all λ p=>P p.1 p.2)=true->P m f=true:=by intro L e h;obtain ⟨p,hp,rfl⟩:=Option.map_eq_some_iff.mp e;have h1:=List.all_eq_true.mp h p (List.mem_of_find?_eq_some hp);have h2:p.1=m:=of_decide_eq_true (p:=p.1=m) (List.find?_some (p:=λ p:String×Fn=>decide (p.1=m)) hp);exact h2▸h1
noncomputable def wU(c:d_)(m:String):Option Fn:=Wh (SR c) m
noncomputable def rK:d_->Fn
 |.eb=>.vL|.bank=>.C7|.gI=>.wL|.levels=>.wN
noncomputable def fT:d_->List String
 |.eb=>["heap","parts","level","mark","beside"]
 |.bank=>["nodes","numbers","weights","depths"]
 |.gI=>["above","lots","merged"]
 |.levels=>["bank","unions","edges","forest","known","above","waiting","backs","changes","marks","made"]
structure bC where
 prog:Program
 w:World
 h₀:Heap
 os:OsState
 K:Frag
structure Wd(G:bC):Prop where
 X:G.K.In G.h₀
 b:∃mb,G.h₀.Ns builtinsNs mb/\∀x:Str,x≠"__name__"->mb x=bootBuiltins x
 nolimit:G.h₀.NoLimit
 sys:∃o,G.h₀.get? sysModules=some o
 nodigits:∃mc,G.h₀.Ns cStatics mc/\mc "sys.int_max_str_digits"=none
 fn:∀f:Fn,fnIn G.K f.bw=true
 wV:∀f:Fn,typeIn G.K (.ref f.bw)=some (.type "function")
 C8:∀c m f,wU c m=some f->findIn G.K (.ref c.bw) (Str.ofString m)=some (some (.ref f.bw))
 nD:∀c:d_,findIn G.K (.ref c.bw) "__getattribute__"=some (some (.builtin "object.__getattribute__"))
 Hs:∀c:d_,findIn G.K (.ref c.bw) "__getattr__"=some none
 Ht:∀c:d_,findIn G.K (.ref c.bw) "__setattr__"=some (some (.builtin "object.__setattr__"))
 PC:∀(c:d_)(x:String),(fT c).contains x=true->findIn G.K (.ref c.bw) (Str.ofString x)=some none
 hasDict:∀c:d_,hasDictIn G.K c.bw=true
 Wi:∀c:d_,plainOver G.K c.bw=true
 SS:∀c:d_,makesIn G.K c.bw=true
 init:∀c:d_,findIn G.K (.ref c.bw) "__init__"=some (some (.ref (rK c).bw))
def Wj(G:bC)(h:Heap)(a:Addr)(ns:List Int):Prop:=∃es ep t ms,h.get? a=some {cls:=.type "set",dict:=none,data:=.set es ep t,slots:=#[]}/\t.fits es.size=true/\(t.led=true\/G.w.params.followText "set-order"=true)/\
 (es.size=2->t.plain=true->∃a b,t.place=#[a,b]/\a<b)/\IntsAre (es.toList.map (·.2)) ms/\ms.Perm ns/\ns.length<=2
inductive OR(G:bC)(h:Heap)(lam:List Addr)(l:Nat)(a:Addr):AO->Prop
 |list {xs:List AV} {items:Array Value} {n:Nat}:IsL h a items n->bB h lam xs items.toList->xs.length<=10000->OR G h lam l a (.list xs)
 |dI {kvs:List (Int×AV)} {kvs'}:h.DictOf (intKind G.prog G.w) a kvs'->KR id h lam kvs kvs'->OR G h lam l a (.dI kvs)
 |dS {kvs:List (String×AV)} {kvs'}:h.DictOf (PySem.strKind G.prog G.w) a kvs'->KR Str.ofString h lam kvs kvs'->OR G h lam l a (.dS kvs)
 |dT {kvs:List (List AK×AV)} {xs}:h.DictOfH (cI G.prog G.w) a xs->KT h lam kvs xs->(∀x∈xs,x.2.1∉lam)->OR G h lam l a (.dT kvs)
 |inst {c:d_} {b:Addr}:h.get? a=some (instObj c.bw b)->lam[l+1]?=some b->OR G h lam l a (.inst c)
 |zip {TI TO i1 i2:Addr}:IsZip h a TI TO .none->TI∉lam->IsPair h TI (.ref i1) (.ref i2)->lam[l+1]?=some i1->lam[l+2]?=some i2->lam[l+3]?=some TO->OR G h lam l a .zip
 |gb {x y:Value}:IsPair h a x y->OR G h lam l a .gb
 |cv {xs:List AV} {i:Nat} {t:Addr} {items:Array Value} {n:Nat}:h.IsTupleIter a t i->TT h lam t items n->bB h lam xs items.toList->OR G h lam l a (.cv xs i)
 |dead {o:Obj}:h.get? a=some o->(∀v,o.data≠.cell v)->OR G h lam l a .dead
 |set {ns:List Int}:Wj G h a ns->OR G h lam l a (.set ns)
def wW(a:Addr)(h h':Heap):Prop:=∀o,h.get? a=some o->h'.get? a=some o
theorem DictOf.at'{prog:Program}{w:World}{K:Type}[DecidableEq K]{knd:KeyKind prog w K}{h h':Heap}{a:Addr}{kvs}(x:h.DictOf knd a kvs)(e:wW a h h'):h'.DictOf knd a kvs:=
 let⟨o,es,ep,ho,r⟩:=x;⟨o,es,ep,e _ ho,r⟩
theorem vN{prog:Program}{w:World}{h h':Heap}{lam bV:List Addr}(k:Kx h lam h' bV){ks:List AK}{a:Addr}(hn:a∉lam)(x:(cI prog w).is h ks a):(cI prog w).is h' ks a:=
 let⟨o,items,n,ho,hc,hd,hi⟩:=(x:IsTupleKey (oZ prog w) h ks a);show IsTupleKey (oZ prog w) h' ks a from⟨o,items,n,k.tup _ _ _ _ hn hc hd ho,hc,hd,hi⟩
theorem DictOfH.at'{prog:Program}{w:World}{h h':Heap}{lam bV:List Addr}{a:Addr}{xs}(x:h.DictOfH (cI prog w) a xs)(e:wW a h h')(k:Kx h lam h' bV)(hn:∀x∈xs,x.2.1∉lam):h'.DictOfH (cI prog w) a xs:=
 let⟨o,es,ep,ho,hx,hd,he,hk,fK⟩:=x;⟨o,es,ep,e _ ho,hx,hd,he,λ y hy=>vN k (hn y hy) (hk y hy),fK⟩
theorem DictOfH.out{prog:Program}{w:World}{h h':Heap}{lam bV:List Addr}{a:Addr}{xs}(x:h.DictOfH (cI prog w) a xs)(k:Kx h lam h' bV)(hn:∀x∈xs,x.2.1∉lam):∀x∈xs,x.2.1∉bV:=λ y hy=>by refine CZ x λ o es ep ho hx hd he hk fK=>?_;refine CY ((hk y hy:IsTupleKey (oZ prog w) h y.1 y.2.1)) λ o' items n ix aa=>?_;exact k.out (hn y hy) ix
theorem OR.keep{G:bC}{h h':Heap}{lam bV:List Addr}{l:Nat}{a:Addr}{ao:AO}(x:OR G h lam l a ao)(e:wW a h h')(k:Kx h lam h' bV):OR G h' bV l a ao:=by
 cases x with
 |list h1 h2 h3=>exact .list (e _ h1) (h2.bo k) h3
 |dI h1 h2=>exact .dI (DictOf.at' h1 e) (h2.bo k)
 |dS h1 h2=>exact .dS (DictOf.at' h1 e) (h2.bo k)
 |dT h1 h2 h3=>exact .dT (DictOfH.at' h1 e k h3) (h2.bo k) (DictOfH.out h1 k h3)
 |inst h1 h2=>exact .inst (e _ h1) (k.ext _ _ h2)
 |zip h1 h2 h3 h4 h5 h6=>exact .zip (e _ h1) (k.out h2 h3) (k.tup _ _ _ _ h2 rfl rfl h3) (k.ext _ _ h4) (k.ext _ _ h5) (k.ext _ _ h6)
 |gb h1=>exact .gb (e _ h1)
 |cv h1 h2 h3=>
  refine bA h1 λ o ho hr=>?_;exact .cv ⟨o,e o ho,hr⟩ (k.tt h2) (h3.bo k)
 |dead h1 h2=>exact .dead (e _ h1) h2
 |set h1=>refine We h1 λ es ep t ms ho r=>?_;exact .set ⟨es,ep,t,ms,e _ ho,r⟩
theorem OR.some{G:bC}{h:Heap}{lam:List Addr}{l:Nat}{a:Addr}{ao:AO}(x:OR G h lam l a ao):∃o,h.get? a=some o/\(∀v,o.data≠.cell v):=by
 cases x with
 |list h1 h2=>exact ⟨_,h1,by simp⟩
 |dI h1 h2=>refine vK h1 λ o es ep ho hx hd aa=>?_;exact ⟨o,ho,by refine ae hd ?_;simp⟩
 |dS h1 h2=>refine vK h1 λ o es ep ho hx hd aa=>?_;exact ⟨o,ho,by refine ae hd ?_;simp⟩
 |dT h1 h2=>refine vK h1 λ o es ep ho hx hd aa=>?_;exact ⟨o,ho,by refine ae hd ?_;simp⟩
 |inst h1 h2=>exact ⟨_,h1,by simp⟩
 |zip h1=>exact ⟨_,h1,by simp⟩
 |gb h1=>exact ⟨_,h1,by simp⟩
 |cv h1=>refine gy h1 λ o ho aa hd=>?_;exact ⟨o,ho,by refine ae hd ?_;simp⟩
 |dead h1 h2=>exact ⟨_,h1,h2⟩
 |set h1=>refine We h1 λ es ep t ms ho aa=>?_;exact ⟨_,ho,by simp⟩
end
section
structure HS(G:bC)(s:Shared)(lam:List Addr)(σ:U):Prop where
 base:∀b o,G.h₀.get? b=some o->s.heap.get? b=some o
 gens:s.gens=#[]
 os:s.os=G.os
 len:lam.length=σ.length
 nodup:lam.Nodup
 above:∀a∈lam,G.h₀.get? a=none
 gJ:∀l a ao,lam[l]?=some a->σ[l]?=some ao->OR G s.heap lam l a ao
structure Step(s:Shared)(lam:List Addr)(s':Shared)(bV:List Addr):Prop where
 ext:my lam bV
 keep:∀a o,a∉lam->s.heap.get? a=some o->s'.heap.get? a=some o
 fresh:∀a∈bV,a∈lam\/s.heap.get? a=none
theorem Step.refl(s:Shared)(lam:List Addr):Step s lam s lam:=⟨.refl _,λ aa aa aa e=>e,λ aa h=>.inl h⟩
theorem Step.trans{s s' zK:Shared}{lam bV og:List Addr}(x:Step s lam s' bV)(y:Step s' bV zK og):Step s lam zK og where
 ext:=x.ext.trans y.ext
 keep:=λ a o hn e=>y.keep a o (λ hm=>(x.fresh a hm).elim hn λ hs=>by rw [e]at hs;exact uC hs) (x.keep a o hn e)
 fresh:=λ a hm=>(y.fresh a hm).elim (λ h=>x.fresh a h) λ h=>by
  by_cases hl:a∈lam
  ·exact .inl hl
  ·refine .inr ?_;cases e:s.heap.get? a with
   |none=>rfl
   |some o=>rw [x.keep a o hl e]at h;exact uC h
theorem HS.has{G:bC}{s:Shared}{lam:List Addr}{σ:U}(H:HS G s lam σ){a:Addr}(ha:a∈lam):∃(l:Nat)(ao:AO),lam[l]?=some a/\σ[l]?=some ao/\OR G s.heap lam l a ao:=by
 refine d9 (List.mem_iff_getElem?.mp ha) λ l hl=>?_;have ed:l<σ.length:=by refine cQ H.len ?_;exact (List.getElem?_eq_some_iff.mp hl).1
 exact ⟨l,σ[l],hl,List.getElem?_eq_getElem ed,H.gJ _ _ _ hl (List.getElem?_eq_getElem ed)⟩
theorem HS.yQ{G:bC}{s:Shared}{lam:List Addr}{σ:U}(H:HS G s lam σ){a:Addr}{v:Option Value}(hx:s.heap.IsCell a v):a∉lam:=λ ha=>by refine yL (H.has ha) λ l ao aa aa x=>?_;refine bA hx λ o ho hd=>?_;refine bA x.some λ o' ix oh=>?_;rw [ho]at ix;(refine V' ix ?_;clear ix;intro e9;subst e9);exact oh _ hd
theorem Step.kx{s s':Shared}{lam bV:List Addr}(x:Step s lam s' bV):Kx s.heap lam s'.heap bV:=⟨x.ext,λ a o aa aa hn aa aa ho=>x.keep a o hn ho,x.fresh⟩
theorem Step.vr{G:bC}{s s':Shared}{lam bV:List Addr}{σ:U}{av:AV}{v:Value}(x:Step s lam s' bV)(H:HS G s lam σ)(h:VR s.heap lam av v):VR s'.heap bV av v:=h.bo x.kx
theorem Step.vrs{G:bC}{s s':Shared}{lam bV:List Addr}{σ:U}{av:List AV}{v:List Value}(x:Step s lam s' bV)(H:HS G s lam σ)(h:bB s.heap lam av v):bB s'.heap bV av v:=h.bo x.kx
theorem Kx.refl(h:Heap)(lam:List Addr):Kx h lam h lam:=⟨.refl _,λ aa aa aa aa aa aa aa e=>e,λ aa h=>.inl h⟩
theorem Kx.trans{h h' oi:Heap}{lam bV og:List Addr}(x:Kx h lam h' bV)(y:Kx h' bV oi og)(al:∀a o,h.get? a=some o->∃o',h'.get? a=some o'):Kx h lam oi og:=
 ⟨x.ext.trans y.ext,λ a o items n hn hc hd ho=>y.tup a o items n (x.out hn ho) hc hd (x.tup a o items n hn hc hd ho),λ a hm=>(y.fresh a hm).elim (λ h=>x.fresh a h) λ hs=>by
  cases e:h.get? a with
  |none=>exact .inr rfl
  |some o=>refine d9 (al a o e) λ o' e'=>?_;rw [e']at hs;exact uC hs⟩
theorem Kx.i6{h h':Heap}{lam:List Addr}(hk:∀b o,h.get? b=some o->h'.get? b=some o):Kx h lam h' lam:=⟨.refl _,λ a o aa aa aa aa aa e=>hk a o e,λ aa h=>.inl h⟩
theorem Kx.snoc{h h':Heap}{lam:List Addr}{a:Addr}(hk:∀b o,h.get? b=some o->h'.get? b=some o)(ha:h.get? a=none):Kx h lam h' (lam++[a]):=
 ⟨.snoc _ _,λ a o aa aa aa aa aa e=>hk a o e,λ b hb=>by
  rcases List.mem_append.mp hb with h|h
  ·exact .inl h
  ·simp at h;subst h;exact .inr ha⟩
theorem Kx.cM{h h':Heap}{lam:List Addr}{d:Addr}(hd:d∈lam)(hs:Heap.SameBut d h h'):Kx h lam h' lam:=
 ⟨.refl _,λ a o aa aa hn aa aa ho=>by refine ae (hs.2 a (λ e=>hn (e▸hd))) ?_;exact ho,λ aa h=>.inl h⟩
structure FR(G:bC)(h:Heap)(lam:List Addr)(env:Env)(ρ:dy):Prop where
 o4:∃m,h.Ns env.locals m/\∀x av,env.kindOf (Str.ofString x)=some .local->ρ x=some av->∃v,m (Str.ofString x)=some v/\VR h lam av v
 cell:∀x,(env.kindOf (Str.ofString x)=some .cell\/(env.kindOf (Str.ofString x)=some .free/\x≠"__class__"))->
  ∃c ov,env.cells.lookup (Str.ofString x)=some c/\h.IsCell c ov/\G.h₀.get? c=none/\∀av,ρ x=some av->∃v,ov=some v/\VR h lam av v
 apart:env.cells.Pairwise λ x y=>x.2≠y.2
 new:env.locals∉lam
 base:G.h₀.get? env.locals=none
 cells:∀p∈env.cells,∃v,h.IsCell p.2 v
theorem FR.step{G:bC}{s s':Shared}{lam bV:List Addr}{σ:U}{env:Env}{ρ:dy}(F:FR G s.heap lam env ρ)(H:HS G s lam σ)(x:Step s lam s' bV):FR G s'.heap bV env ρ where
 o4:=by refine bA F.o4 λ m hn hv=>?_;refine ⟨m,hn.at' λ o e=>x.keep _ o F.new e,λ y av hk hr=>?_⟩;refine bA (hv y av hk hr) λ v hm j7=>?_;exact ⟨v,hm,x.vr H j7⟩
 cell:=λ y hk=>by
  refine oM (F.cell y hk) λ c ov hl hc hb hv=>?_;refine ⟨c,ov,hl,?_,hb,λ av hr=>?_⟩
  ·refine bA hc λ o ho hd=>?_;exact ⟨o,x.keep _ _ (H.yQ ⟨o,ho,hd⟩) ho,hd⟩
  ·refine bA (hv av hr) λ v e j7=>?_;exact ⟨v,e,x.vr H j7⟩
 apart:=F.apart
 new:=λ hm=>(x.fresh _ hm).elim F.new λ hs=>by obtain ⟨m,⟨o,es,ep,ho,_⟩,_⟩:=F.o4;rw [ho]at hs;exact uC hs
 base:=F.base
 cells:=λ p hp=>by refine yK (F.cells p hp) λ v o ho hd=>?_;exact ⟨v,o,x.keep _ _ (H.yQ ⟨o,ho,hd⟩) ho,hd⟩
theorem FR.kD{G:bC}{h:Heap}{lam:List Addr}{env:Env}{ρ ρ':dy}(F:FR G h lam env ρ)(hw:∀y av,ρ' y=some av->ρ y=some av):FR G h lam env ρ' where
 o4:=let⟨m,hn,hv⟩:=F.o4;⟨m,hn,λ x av hk hr=>hv x av hk (hw _ _ hr)⟩
 cell:=λ x hk=>let⟨c,ov,a,b,c',hv⟩:=F.cell x hk;⟨c,ov,a,b,c',λ av hr=>hv av (hw _ _ hr)⟩
 apart:=F.apart
 new:=F.new
 base:=F.base
 cells:=F.cells
theorem HS.i6{G:bC}{s s':Shared}{lam:List Addr}{σ:U}(H:HS G s lam σ)(hk:∀b o,s.heap.get? b=some o->s'.heap.get? b=some o)(hg:s'.gens=s.gens)(ho:s'.os=s.os):
  HS G s' lam σ/\Step s lam s' lam:=
 ⟨⟨λ b o e=>hk b o (H.base b o e),hg.trans H.gens,ho.trans H.os,H.len,H.nodup,H.above,λ l a ao h1 h2=>(H.gJ l a ao h1 h2).keep (λ o e=>hk a o e) (.i6 hk)⟩,
  .refl _,λ a o aa e=>hk a o e,λ aa h=>.inl h⟩
theorem HS.toks{G:bC}{s:Shared}{lam:List Addr}{σ:U}(H:HS G s lam σ)(tk:Nat):HS G {s with toks:=tk} lam σ/\Step s lam {s with toks:=tk} lam:=
 H.i6 (s':={s with toks:=tk}) (λ aa aa e=>e) rfl rfl
theorem HS.new{G:bC}{s s':Shared}{lam:List Addr}{σ:U}{a:Addr}{ao:AO}(H:HS G s lam σ)(hk:∀b o,s.heap.get? b=some o->s'.heap.get? b=some o)(ha:s.heap.get? a=none)
  (hg:s'.gens=s.gens)(ho:s'.os=s.os)(hr:OR G s'.heap (lam++[a]) lam.length a ao):HS G s' (lam++[a]) (σ++[ao])/\Step s lam s' (lam++[a]):=by
 have Wk:a∉lam:=λ hm=>by refine yL (H.has hm) λ l wX aa aa x=>?_;refine bA x.some λ o ho aa=>?_;rw [ho]at ha;exact uC ha
 refine ⟨⟨λ b o e=>hk b o (H.base b o e),hg.trans H.gens,ho.trans H.os,by simp [H.len],?_,?_,?_⟩,my.snoc _ _,λ a o aa e=>hk a o e,?_⟩
 ·rw [List.nodup_append];exact ⟨H.nodup,by simp,λ x hx y hy e=>by simp at hy;subst hy;subst e;exact Wk hx⟩
 ·intro b hb;rcases List.mem_append.mp hb with h|h
  ·exact H.above b h
  ·simp at h;subst h;cases e:G.h₀.get? b with
   |none=>rfl
   |some o=>rw [H.base _ _ e]at ha;exact uC ha
 ·intro l b wX h1 h2;by_cases hl:l<lam.length
  ·rw [List.getElem?_append_left hl]at h1;rw [List.getElem?_append_left (H.len▸hl)]at h2;exact (H.gJ l b wX h1 h2).keep (λ o e=>hk b o e) (.snoc hk ha)
  ·have fc:lam.length<=l:=Nat.not_lt.mp hl;rw [List.getElem?_append_right fc]at h1;rw [List.getElem?_append_right (H.len▸fc)]at h2;have e0:l -lam.length=0:=by have:=(List.getElem?_eq_some_iff.mp h1).1;simp at this;exact this
   have e1:l=lam.length:=Nat.le_antisymm (dc (bS e0) (b7 (Nat.sub_add_cancel ((Nat.le_of_not_lt hl):(lam.length)<=(l)))) (by simp+arith only)) ((Nat.le_of_not_lt hl));rw [e0]at h1;rw [<-H.len,e0]at h2;simp at h1 h2;subst h1;subst h2;subst e1;exact hr
 ·intro b hb;rcases List.mem_append.mp hb with h|h
  ·exact .inl h
  ·simp at h;subst h;exact .inr ha
theorem j8{l:List Addr}(hn:l.Nodup){i j:Nat}{a:Addr}(hi:l[i]?=some a)(hj:l[j]?=some a):i=j:=
 (List.getElem?_inj (List.getElem?_eq_some_iff.mp hi).1 hn).mp (hi.trans hj.symm)
theorem HS.cM{G:bC}{s s':Shared}{lam:List Addr}{σ:U}{d:Addr}{l:Nat}{ao:AO}(H:HS G s lam σ)(hd:lam[l]?=some d)(hs:Heap.SameBut d s.heap s'.heap)(hg:s'.gens=s.gens)(ho:s'.os=s.os)(hr:OR G s'.heap lam l d ao):
  HS G s' lam (σ.set l ao)/\Step s lam s' lam:=by
 have hm:d∈lam:=List.mem_of_getElem? hd;have kc:=Kx.cM hm hs;refine ⟨⟨λ b o e=>?_,hg.trans H.gens,ho.trans H.os,by simp [H.len],H.nodup,H.above,λ l' a wX h1 h2=>?_⟩,.refl _,λ a o hn e=>?_,λ aa h=>.inl h⟩
 ·have:b≠d:=λ e'=>by subst e';rw [H.above _ hm]at e;exact ns_ e
  refine ae (hs.2 b this) ?_;exact H.base b o e
 ·by_cases e:l'=l
  ·subst e;rw [hd]at h1;(refine V' h1 ?_;clear h1;intro e9;subst e9);rw [List.getElem?_set_self (by refine cQ H.len ?_;exact (List.getElem?_eq_some_iff.mp hd).1)]at h2
   (refine V' h2 ?_;clear h2;intro e9;subst e9);exact hr
  ·rw [List.getElem?_set_ne (Ne.symm e)]at h2;have cD:a≠d:=λ e'=>e (j8 H.nodup h1 (e'▸hd));exact (H.gJ l' a wX h1 h2).keep (λ o e=>by refine ae (hs.2 a cD) ?_;exact e) kc
 ·have:a≠d:=λ e'=>hn (e'▸hm);refine ae (hs.2 a this) ?_;exact e
end
section
inductive mK(R:AV->AV->Bool->Prop):List AV->List AV->Bool->Prop
 |nil:mK R [] [] true
 |l {x:AV} {xs:List AV}:mK R (x::xs) [] false
 |r {x:AV} {xs:List AV}:mK R [] (x::xs) false
 |ff {x y:AV} {xs ys:List AV}:R x y false->mK R (x::xs) (y::ys) false
 |tt {x y:AV} {xs ys:List AV} {b:Bool}:R x y true->mK R xs ys b->mK R (x::xs) (y::ys) b
inductive iP(R:AV->AV->Bool->Prop):AV->AV->Bool->Prop
 |nn:iP R .none .none true
 |nt {vs:List AV}:iP R .none (.tup vs) false
 |tn {vs:List AV}:iP R (.tup vs) .none false
 |ii {a b:Int}:iP R (.int a) (.int b) (decide (a=b))
 |is {a:Int} {x:String}:iP R (.int a) (.str x) false
 |si {a:Int} {x:String}:iP R (.str x) (.int a) false
 |ss {x y:String}:iP R (.str x) (.str y) (x==y)
 |tt {xs ys:List AV} {b:Bool}:mK R xs ys b->iP R (.tup xs) (.tup ys) b
def gX:Nat->AV->AV->Bool->Prop
 |0=>λ aa aa aa=>False
 |n+1=>iP (gX n)
theorem mK.C9{R:AV->AV->Bool->Prop}(ih:∀{x y b},R x y b->(b=true↔x=y)){xs ys:List AV}{b:Bool}(h:mK R xs ys b):b=true↔xs=ys:=by
 induction h with
 |nil=>exact ⟨λ aa=>rfl,λ aa=>rfl⟩
 |l=>exact ⟨λ e=>(nomatch e),λ e=>(nomatch e)⟩
 |r=>exact ⟨λ e=>(nomatch e),λ e=>(nomatch e)⟩
 |ff hf=>exact ⟨λ e=>(nomatch e),λ e=>(ih hf).2 (List.cons.inj e).1⟩
 |tt hf _ i2=>exact ⟨λ e=>(ih hf).1 rfl▸i2.1 e▸rfl,λ e=>i2.2 (List.cons.inj e).2⟩
theorem iP.C9{R:AV->AV->Bool->Prop}(ih:∀{x y b},R x y b->(b=true↔x=y)){x y:AV}{b:Bool}(h:iP R x y b):b=true↔x=y:=by
 cases h with
 |nn=>exact ⟨λ aa=>rfl,λ aa=>rfl⟩
 |ii=>exact ⟨λ e=>congrArg _ (of_decide_eq_true e),λ e=>decide_eq_true (AV.int.inj e)⟩
 |ss=>exact ⟨λ e=>congrArg _ (eq_of_beq e),λ e=>AV.str.inj e▸beq_self_eq_true _⟩
 |tt h=>exact ⟨λ e=>congrArg _ ((h.C9 ih).1 e),λ e=>(h.C9 ih).2 (AV.tup.inj e)⟩
 |_=>exact ⟨λ e=>(nomatch e),λ e=>(nomatch e)⟩
theorem gX.C9:∀{n:Nat}{x y:AV}{b:Bool},gX n x y b->(b=true↔x=y):=λ{n}=>by
 induction n with
 |zero=>exact λ h=>h.elim
 |succ n ih=>exact iP.C9 ih
section
variable{prog:Program} {w:World} {A:Around} {E:Value->Shared->Prop} {s:Shared}
theorem jL{a b:Value}{Ta Tb L_ Ma:String}{Q:Value->Shared->Prop}(hu:A.units<cLine)(ha:s.TypeIs a Ta)(hb:s.TypeIs b Tb)
  (cD:(Value.type Ta !=Value.type Tb)=true)(yR:isSubtype (.type Tb) (.type Ta)=pure false)(h1:Slot Ta (cmpInfo .Eq).2.1 L_)(h2:Slot Tb (cmpInfo .Eq).2.2 Ma)(hk:isSame a b=pure false)
  (uD:∀Q:Value->Shared->Prop,Q .notImplemented s->wpAny (model prog w) A (call (.builtin L_) [a,b]) Q E s)
  (zL:∀Q:Value->Shared->Prop,Q .notImplemented s->wpAny (model prog w) A (call (.builtin Ma) [b,a]) Q E s)(h:Q (.bool false) s):
  wpAny (model prog w) A (richCompare .Eq a b) Q E s:=by
 rcases hi:cmpInfo CmpOp.Eq with⟨sym,f,r⟩
 rw [hi]at h1 h2;unfold richCompare;refine ae hi ?_;dsimp only;rw [ha.oneThing_none]
 try with_reducible refine wpAny_holding ?_
 refine wpAny_bind (wpAny_cRoomFor_or (.inr hu) ?_);refine wpAny_bind (wpAny_typeOf ha (wpAny_bind (wpAny_typeOf hb ?_)));refine ae (if_pos cD) ?_;refine wpAny_bind (wpAny_of_eq yR ?_);refine ae (if_neg Bool.false_ne_true)<|ae (if_pos (show(!false)=true from rfl)) ?_;refine wpAny_bind (m:=tryCompare a _ b) (wpAny_tryCompare_declines ha h1 (uD _ ⟨rfl,?_⟩));refine wpAny_bind (m:=tryCompare b _ a) (wpAny_tryCompare_declines hb h2 (zL _ ⟨rfl,?_⟩));exact wpAny_bind (wpAny_rule (wpAny_bind (wpAny_of_eq hk (wpAny_pure h))))
theorem qU{a b:Value}{Ta Tb L_ Ma:String}{Q:Value->Shared->Prop}(hu:A.units<cLine)(ha:s.TypeIs a Ta)(hb:s.TypeIs b Tb)
  (cD:(Value.type Ta !=Value.type Tb)=true)(yR:isSubtype (.type Tb) (.type Ta)=pure false)(h1:Slot Ta (cmpInfo .NotEq).2.1 L_)(h2:Slot Tb (cmpInfo .NotEq).2.2 Ma)(hk:isSame a b=pure false)
  (uD:∀Q:Value->Shared->Prop,Q .notImplemented s->wpAny (model prog w) A (call (.builtin L_) [a,b]) Q E s)
  (zL:∀Q:Value->Shared->Prop,Q .notImplemented s->wpAny (model prog w) A (call (.builtin Ma) [b,a]) Q E s)(h:Q (.bool true) s):
  wpAny (model prog w) A (richCompare .NotEq a b) Q E s:=by
 rcases hi:cmpInfo CmpOp.NotEq with⟨sym,f,r⟩
 rw [hi]at h1 h2;unfold richCompare;refine ae hi ?_;dsimp only;rw [ha.oneThing_none]
 try with_reducible refine wpAny_holding ?_
 refine wpAny_bind (wpAny_cRoomFor_or (.inr hu) ?_);refine wpAny_bind (wpAny_typeOf ha (wpAny_bind (wpAny_typeOf hb ?_)));refine ae (if_pos cD) ?_;refine wpAny_bind (wpAny_of_eq yR ?_);refine ae (if_neg Bool.false_ne_true)<|ae (if_pos (show(!false)=true from rfl)) ?_;refine wpAny_bind (m:=tryCompare a _ b) (wpAny_tryCompare_declines ha h1 (uD _ ⟨rfl,?_⟩));refine wpAny_bind (m:=tryCompare b _ a) (wpAny_tryCompare_declines hb h2 (zL _ ⟨rfl,?_⟩));exact wpAny_bind (wpAny_rule (wpAny_bind (wpAny_of_eq hk (wpAny_pure h))))
theorem kE{b:Value}(hb:b=.ref a)(Q:Value->Shared->Prop)(h:Q .notImplemented s):wpAny (model prog w) A (call (.builtin "NoneType.__eq__") [.none,b]) Q E s:=by subst hb;exact wpAny_call_entry (T:="NoneType") PySem.F.slot_NoneType_eq rfl PySem.F.entry_NoneType_eq (wpAny_pure ⟨_,rfl,h⟩) (PySem.F.args_NoneType_eq_2 _ _)
theorem rL{b:Value}(hb:b=.ref a)(Q:Value->Shared->Prop)(h:Q .notImplemented s):wpAny (model prog w) A (call (.builtin "NoneType.__ne__") [.none,b]) Q E s:=by subst hb;exact wpAny_call_entry (T:="NoneType") PySem.F.slot_NoneType_ne rfl PySem.F.entry_NoneType_ne (wpAny_pure ⟨_,rfl,h⟩) (PySem.F.args_NoneType_ne_2 _ _)
theorem IsT.typeIs{lam:List Addr}{a:Addr}{items:Array Value}{n:Nat}(x:TT s.heap lam a items n):s.TypeIs (.ref a) "tuple":=⟨_,x.2,rfl⟩
theorem kF{lam:List Addr}{a:Addr}{b:Value}{Tb:String}{items:Array Value}{n:Nat}(x:TT s.heap lam a items n)(hb:s.TypeIs b Tb)(hs:isSubtype (.type Tb) (.type "tuple")=pure false)(Q:Value->Shared->Prop)(h:Q .notImplemented s):
  wpAny (model prog w) A (call (.builtin "tuple.__eq__") [.ref a,b]) Q E s:=by
 refine wpAny_call_entry PySem.F.slot_tuple_eq (IsT.typeIs x) PySem.F.entry_tuple_eq ?_ (PySem.F.args_tuple_eq_2 _ _);refine (?_:wpAny _ _ (isInstance b (.type "tuple")>>=_) _ _ s);refine wpAny_bind (wpAny_isInstance hb hs ?_);refine ae (if_pos (show(!false)=true from rfl)) ?_;exact wpAny_bind (wpAny_pure (wpAny_pure ⟨_,rfl,h⟩))
theorem rM{lam:List Addr}{a:Addr}{b:Value}{Tb:String}{items:Array Value}{n:Nat}(x:TT s.heap lam a items n)(hb:s.TypeIs b Tb)(hs:isSubtype (.type Tb) (.type "tuple")=pure false)(Q:Value->Shared->Prop)(h:Q .notImplemented s):
  wpAny (model prog w) A (call (.builtin "tuple.__ne__") [.ref a,b]) Q E s:=by
 refine wpAny_call_entry PySem.F.slot_tuple_ne (IsT.typeIs x) PySem.F.entry_tuple_ne ?_ (PySem.F.args_tuple_ne_2 _ _);refine (?_:wpAny _ _ (isInstance b (.type "tuple")>>=_) _ _ s);refine wpAny_bind (wpAny_isInstance hb hs ?_);refine ae (if_pos (show(!false)=true from rfl)) ?_;exact wpAny_bind (wpAny_pure (wpAny_pure ⟨_,rfl,h⟩))
theorem SU(a:Addr):isSame .none (.ref a)=pure false:=rfl
theorem SV(a:Addr):isSame (.ref a) .none=pure false:=rfl
theorem bB.kn{h:Heap}{lam:List Addr}{vs:List Value}{C:List Value->Prop}(x:bB h lam [] vs)(k:C []):C vs:=by cases (x);exact k
theorem bB.kc{h:Heap}{lam:List Addr}{a:AV}{as:List AV}{vs:List Value}{C:List Value->Prop}(x:bB h lam (a::as) vs)(k:∀v us,VR h lam a v->bB h lam as us->C (v::us)):C vs:=by cases x with|cons h1 h2=>exact k _ _ h1 h2
theorem C_{f:AV->AV->Bool->Prop}{lam:List Addr}{z:Bool}{body:Value×Value->(Option Fin×Unit)->Sem (ForInStep (Option Fin×Unit))}{Q:(Option Fin×Unit)->Shared->Prop}
  (step:∀x y v u r,VR s.heap lam x v->VR s.heap lam y u->f x y r->∀Q:Bool->Shared->Prop,Q r s->wpAny (model prog w) A (eqBool v u) Q E s)
  (hbd:∀x y,body (x,y) (none,())=(eqBool x y>>=λ t=>if(!t)=true then(ret (.bool z)>>=λ z=>pure (ForInStep.done (some z,())))else pure (ForInStep.yield (none,()))))
  {as bs:List AV}{r:Bool}(he:mK f as bs r):(r=false->Q (some (.done (.ret (.bool z))),()) s)->(r=(as.length==bs.length)->Q (none,()) s)->
   ∀{xs ys:List Value},bB s.heap lam as xs->bB s.heap lam bs ys->wpAny (model prog w) A (forIn (xs.zip ys) (none,()) body) Q E s:=by
 induction he with
 |nil=>exact λ aa h2 aa aa hx aa=>hx.kn (C:=λ xs=>wpAny _ _ (forIn (xs.zip _) _ body) Q E s) (wpAny_pure (h2 rfl))
 |r=>exact λ aa h2 aa aa hx aa=>hx.kn (C:=λ xs=>wpAny _ _ (forIn (xs.zip _) _ body) Q E s) (wpAny_pure (h2 rfl))
 |l=>
  intro _ h2 xs _ _ hy;refine hy.kn (C:=λ ys=>wpAny _ _ (forIn (xs.zip ys) _ body) Q E s) ?_;refine ae List.zip_nil_right ?_;exact wpAny_pure (h2 rfl)
 |ff hf=>
  intro h1 _ _ ys hx hy;refine hx.kc (C:=λ xs=>wpAny _ _ (forIn (xs.zip ys) _ body) Q E s) λ v xs hv aa=>hy.kc (C:=λ ys=>wpAny _ _ (forIn ((v::xs).zip ys) _ body) Q E s) λ u ys hu aa=>?_;rw [List.zip_cons_cons,List.forIn_cons,hbd];exact wpAny_bind (wpAny_bind (step _ _ _ _ _ hv hu hf _ (wpAny_bind (wpAny_pure (wpAny_pure (wpAny_pure (h1 rfl)))))))
 |tt hf _ ih=>intro h1 h2 _ ys hx hy;refine hx.kc (C:=λ xs=>wpAny _ _ (forIn (xs.zip ys) _ body) Q E s) λ v xs hv ef=>hy.kc (C:=λ ys=>wpAny _ _ (forIn ((v::xs).zip ys) _ body) Q E s) λ u ys hu Wl=>?_;rw [List.zip_cons_cons,List.forIn_cons,hbd];exact wpAny_bind (wpAny_bind (step _ _ _ _ _ hv hu hf _ (wpAny_pure (ih h1 (λ e=>h2 (e.trans (Bool.eq_iff_iff.2 (by simp)))) ef Wl))))
theorem rN{f:AV->AV->Bool->Prop}{a b:Addr}{xs ys:Array Value}{n m:Nat}{as bs:List AV}{lam:List Addr}{r:Bool}{op:CmpOp}{P:Fin->Shared->Prop}(k9:op=.Eq\/op=.NotEq)
  (Hu:TT s.heap lam a xs n)(uE:TT s.heap lam b ys m)(ha:bB s.heap lam as xs.toList)(hb:bB s.heap lam bs ys.toList)
  (step:∀x y v u r,VR s.heap lam x v->VR s.heap lam y u->f x y r->∀Q:Bool->Shared->Prop,Q r s->wpAny (model prog w) A (eqBool v u) Q E s)
  (he:mK f as bs r)(h:P (.done (.ret (.bool (if op=.Eq then r else !r)))) s):
  wpAny (model prog w) A (match op with|.Eq=>Builtin.«tuple.__eq__» ⟨[.ref a,.ref b],[]⟩|_=>Builtin.«tuple.__ne__» ⟨[.ref a,.ref b],[]⟩) P E s:=by
 have hTb:s.TypeIs (.ref b) "tuple":=IsT.typeIs uE;rcases k9 with rfl|rfl
 ·refine (?_:wpAny _ _ (isInstance (.ref b) (.type "tuple")>>=_) _ _ s);refine wpAny_bind (wpAny_isInstance hTb isSubtype_tuple_tuple ?_);refine ae (if_neg (show¬(!true)=true from Bool.false_ne_true)) ?_;refine wpAny_bind (wpAny_tupleItemsOf Hu.2 rfl (wpAny_bind (wpAny_tupleItemsOf uE.2 rfl (wpAny_bind ?_))));refine C_ step (λ aa aa=>rfl) he (λ e=>?_) (λ e=>?_) ha hb
  ·subst e;exact wpAny_pure (h)
  ·refine wpAny_pure ?_;have e1:(xs.size==ys.size)=r:=by refine ae e<|ae ha.length<|ae hb.length ?_;simp
   refine (?_:P (.done (.ret (.bool (xs.size==ys.size)))) s);refine ae e1 ?_;exact h
 ·refine (?_:wpAny _ _ (isInstance (.ref b) (.type "tuple")>>=_) _ _ s);refine wpAny_bind (wpAny_isInstance hTb isSubtype_tuple_tuple ?_);refine ae (if_neg (show¬(!true)=true from Bool.false_ne_true)) ?_;refine wpAny_bind (wpAny_tupleItemsOf Hu.2 rfl (wpAny_bind (wpAny_tupleItemsOf uE.2 rfl (wpAny_bind ?_))));refine C_ step (λ aa aa=>rfl) he (λ e=>?_) (λ e=>?_) ha hb
  ·subst e;exact wpAny_pure (h)
  ·refine wpAny_pure ?_;have e1:(xs.size==ys.size)=r:=by refine ae e<|ae ha.length<|ae hb.length ?_;simp
   refine (?_:P (.done (.ret (.bool (xs.size !=ys.size)))) s);have e2:(xs.size !=ys.size)=!r:=by refine cQ e1 ?_;rfl
   refine ae e2 ?_;exact h
end
end
section
section
variable{prog:Program} {w:World} {E:Value->Shared->Prop} {s:Shared} {lam:List Addr}
theorem SW{a b:Value}(h:a≠b):(a==b)=false:=decide_eq_false h
theorem nE{A:Around}{a b:Value}{Q:Bool->Shared->Prop}(cD:(a==b)=false)(hf:∀x t,a≠.float x t)(h:wpAny (model prog w) A (richCompare .Eq a b) (λ v s'=>wpAny (model prog w) A (truthOfDropped v) Q E s') E s):
  wpAny (model prog w) A (eqBool a b) Q E s:=by
 unfold eqBool
 try with_reducible refine wpAny_holding ?_
 refine ae cD<|ae (if_neg Bool.false_ne_true) ?_;cases a with
 |float x t=>exact absurd rfl (hf x t)
 |_=>exact wpAny_bind h
theorem PD{f:AV->AV->Bool->Prop}{h:Heap}(ih:∀{x y v r},VR h lam x v->VR h lam y v->f x y r->r=true){as bs:List AV}{r:Bool}(he:mK f as bs r):∀{vs:List Value},bB h lam as vs->bB h lam bs vs->r=true:=by
 induction he with
 |nil=>exact λ aa aa=>rfl
 |l=>intro vs ha hb;cases (hb);cases (ha)
 |r=>intro vs ha hb;cases (ha);cases (hb)
 |ff hf=>intro vs ha hb;cases ha with|cons h1 h2=>cases hb with|cons h3 h4=>exact ih h1 h3 hf
 |tt hf _ rO=>intro vs ha hb;cases ha with|cons h1 h2=>cases hb with|cons h3 h4=>exact rO h2 h4
theorem VR.pU{h:Heap}{lam:List Addr}{v:Value}(x:VR h lam .none v):v=.none:=by cases (x);rfl
theorem VR.pV{h:Heap}{lam:List Addr}{i:Int}{v:Value}(x:VR h lam (.int i) v):∃t,v=.int i t:=by cases (x);exact ⟨_,rfl⟩
theorem VR.adu{h:Heap}{lam:List Addr}{l:Nat}{v:Value}(x:VR h lam (.ref l) v):∃a,v=.ref a/\lam[l]?=some a:=by cases (x);exact ⟨_,rfl,by assumption⟩
theorem VR.rP{h:Heap}{lam:List Addr}{vs:List AV}{v:Value}(x:VR h lam (.tup vs) v):∃a items n,v=.ref a/\TT h lam a items n/\bB h lam vs items.toList:=by cases x with|tup h1 h2 _=>exact ⟨_,_,_,rfl,h1,h2⟩
theorem VR.rQ{h:Heap}{lam:List Addr}{x:String}{v:Value}(y:VR h lam (.str x) v):∃t,v=.str (Str.ofString x) t:=by cases y with|str _ t e=>subst e;exact ⟨_,rfl⟩
theorem yS(a b:String):(a==b)=decide (Str.ofString a=Str.ofString b):=by simp only [ob];by_cases f_:a=b<;>exact rfl
theorem PE{h:Heap}{f:AV->AV->Bool->Prop}(ih:∀{x y v r},VR h lam x v->VR h lam y v->f x y r->r=true){x y:AV}{v:Value}{r:Bool}(hx:VR h lam x v)(hy:VR h lam y v)(he:iP f x y r):r=true:=by
 cases he with
 |nn=>rfl
 |nt=>refine CY hy.rP λ aa aa aa e aa=>?_;exact nomatch hx.pU.symm.trans e
 |tn=>refine CY hx.rP λ aa aa aa e aa=>?_;exact nomatch hy.pU.symm.trans e
 |ii=>obtain ⟨_,rfl⟩:=hx.pV;obtain ⟨_,e⟩:=hy.pV;cases (e);exact decide_eq_true rfl
 |is=>obtain ⟨_,rfl⟩:=hx.pV;obtain ⟨_,e⟩:=hy.rQ;cases (e)
 |si=>obtain ⟨_,rfl⟩:=hy.pV;obtain ⟨_,e⟩:=hx.rQ;cases (e)
 |ss=>obtain ⟨_,rfl⟩:=hx.rQ;obtain ⟨_,e⟩:=hy.rQ;injection e with e _;refine ae (cH e) ?_;exact beq_self_eq_true _
 |tt he=>
  obtain ⟨a,i1,k1,rfl,h1,h2⟩:=hx.rP;refine rH hy.rP λ aa i2 k2 e h3 h4=>?_;cases (e);have e:=h1.2.symm.trans h3.2;injection e with e;injection e with _ _ e _;injection e with e _;subst e
  exact PD ih he h2 h4
theorem PG{h:Heap}:∀{n:Nat}{x y:AV}{v:Value}{r:Bool},VR h lam x v->VR h lam y v->gX n x y r->r=true:=λ{n}=>by
 induction n with
 |zero=>exact λ aa aa e=>e.elim
 |succ n ih=>exact PE ih
theorem Gq{f:AV->AV->Bool->Prop}{A:Around}{x y:AV}{v u:Value}{r:Bool}{Q:Bool->Shared->Prop}(he:iP f x y r)(hv:VR s.heap lam x v)(hu:VR s.heap lam y u)(hA:A.units+1<cLine)(h:Q r s)
  (htt:∀(xs ys:List AV),x=.tup xs->y=.tup ys->mK f xs ys r->wpAny (model prog w) A (eqBool v u) Q E s):wpAny (model prog w) A (eqBool v u) Q E s:=by
 cases he with
 |nn=>
  have:=hv.pU;subst this;have:=hu.pU;subst this;unfold eqBool;try with_reducible refine wpAny_holding ?_
  exact wpAny_bind (wpAny_rule (wpAny_pure h))
 |nt=>
  have:=hv.pU;subst this;obtain ⟨a,items,m,rfl,h1,h2⟩:=hu.rP;exact nE (rfl) (λ aa aa=>by simp) (jL (Ta:="NoneType") (Tb:="tuple") (Nat.le_of_lt hA) rfl (IsT.typeIs h1) (by decide) PySem.F.sub_tuple_NoneType PySem.F.slot_NoneType_eq PySem.F.slot_tuple_eq_refl rfl
   (kE rfl) (kF h1 (Tb:="NoneType") rfl PySem.F.sub_NoneType_tuple) (wpAny_truthy_bool h))
 |tn=>
  have:=hu.pU;subst this;obtain ⟨a,items,m,rfl,h1,h2⟩:=hv.rP;exact nE (rfl) (λ aa aa=>by simp) (jL (Ta:="tuple") (Tb:="NoneType") (Nat.le_of_lt hA) (IsT.typeIs h1) rfl (by decide) PySem.F.sub_NoneType_tuple PySem.F.slot_tuple_eq PySem.F.slot_NoneType_eq_refl rfl
   (kF h1 (Tb:="NoneType") rfl PySem.F.sub_NoneType_tuple) (kE rfl) (wpAny_truthy_bool h))
 |ii=>obtain ⟨_,rfl⟩:=hv.pV;obtain ⟨_,rfl⟩:=hu.pV;exact wpAny_eqBool_int h
 |is=>obtain ⟨_,rfl⟩:=hv.pV;obtain ⟨_,rfl⟩:=hu.rQ;exact oX h
 |si=>obtain ⟨_,rfl⟩:=hv.rQ;obtain ⟨_,rfl⟩:=hu.pV;exact oY h
 |ss=>obtain ⟨_,rfl⟩:=hv.rQ;obtain ⟨_,rfl⟩:=hu.rQ;refine wpAny_eqBool_str ?_;rw [<-yS];exact h
 |tt he=>exact htt _ _ rfl rfl he
theorem mU:∀(n:Nat){A:Around}{x y:AV}{v u:Value}{r:Bool}{Q:Bool->Shared->Prop},gX n x y r->VR s.heap lam x v->VR s.heap lam y u->A.units+n+1<cLine->Q r s->
  wpAny (model prog w) A (eqBool v u) Q E s:=by
 intro n;induction n with
 |zero=>
  exact λ he=>he.elim
 |succ n ih=>
  intro A x y v u r Q he hv hu hA h;refine Gq he hv hu (bQ hA (by simp+arith only)) h λ xs ys ex ey he'=>?_;subst ex;subst ey;obtain ⟨a,as,k1,rfl,h1,h2⟩:=hv.rP;obtain ⟨b,bs,k2,rfl,h3,h4⟩:=hu.rP;by_cases f_:(Value.ref a==Value.ref b)=true
  ·have e:a=b:=by have:=eq_of_beq f_;injection this
   subst e;unfold eqBool;try with_reducible refine wpAny_holding ?_
   refine ae (if_pos f_) ?_;have e:r=true:=PG (n:=n+1) hv hu he;subst e;exact wpAny_bind (wpAny_rule (wpAny_pure h))
  ·exact nE (by simpa using f_) (λ aa aa=>by simp) (wpAny_richCompare_same_room (op:=.Eq) (IsT.typeIs h1) (IsT.typeIs h3) PySem.F.slot_tuple_eq
    (wpAny_call_entry PySem.F.slot_tuple_eq (IsT.typeIs h1) PySem.F.entry_tuple_eq
     (rN (op:=.Eq) (.inl rfl) h1 h3 h2 h4 (λ x y v u r hv hu hf Q hq=>ih hf hv hu (by show A.units+1+n+1<cLine;exact bQ hA (by simp+arith only)) hq) he' ⟨_,rfl,(λ e=>nomatch e),(by show wpAny _ _ (truthOfDropped (Value.bool (if(CmpOp.Eq:CmpOp)=CmpOp.Eq then r else !r))) _ _ _;refine ae (if_pos rfl) ?_;exact wpAny_truthy_bool h)⟩) (PySem.F.args_tuple_eq_2 _ _)) (bQ hA (by simp+arith only)))
end
end
section
section
variable{h:Heap} {lam:List Addr} {v:Value} {C:Value->Prop}
theorem VR.kn(x:VR h lam .none v)(k:C .none):C v:=by cases x;exact k
theorem VR.kb{b:Bool}(x:VR h lam (.bool b) v)(k:C (.bool b)):C v:=by cases x;exact k
theorem VR.ki{i:Int}(x:VR h lam (.int i) v)(k:∀t,C (.int i t)):C v:=by cases x;exact k _
theorem VR.ks{x:String}(y:VR h lam (.str x) v)(k:∀t,C (.str (Str.ofString x) t)):C v:=by cases y with|str _ t e=>subst e;exact k _
theorem VR.kr{l:Nat}(x:VR h lam (.ref l) v)(k:∀a,lam[l]?=some a->C (.ref a)):C v:=by cases x;exact k _ (by assumption)
theorem VR.kt{vs:List AV}(x:VR h lam (.tup vs) v)(k:∀a items n,TT h lam a items n->bB h lam vs items.toList->C (.ref a)):C v:=by cases x with|tup h1 h2 _=>exact k _ _ _ h1 h2
theorem VR.kz{vs:List AV}(x:VR h lam (.tup vs) v):vs.length<=10000:=by cases x;assumption
end
structure jt(d:Nat)(A:Around):Prop where
 h:A.handled=none
 nF:A.depth+3*d<recursionLimit
 un:A.units+40*d+100<cLine
noncomputable def l8(sc:Scope):Bool:=sc.names.any λ n=>n.1==(".0":Str)
structure SX(sc:Scope)(env:Env):Prop where
 scope:env.scope=sc
 kind:sc.kind=.function
 globals:env.globals=mainGlobals
 builtins:env.builtins=builtinsNs
 own:l8 sc=false->env.func.isSome=true
def Wm(env:Env)(a:Addr):Prop:=a=env.locals\/(env.func.isSome=true/\a∈env.cells.map (·.2))
def I0(env:Env)(a:Addr):Prop:=a=env.locals\/a∈env.cells.map (·.2)
theorem Wm.all{env:Env}{a:Addr}(x:Wm env a):I0 env a:=x.imp id (·.2)
structure c_(env:Env)(s:Shared)(lam:List Addr)(s':Shared)(bV:List Addr):Prop where
 kx:Kx s.heap lam s'.heap bV
 keep:∀a o,a∉lam->¬Wm env a->s.heap.get? a=some o->s'.heap.get? a=some o
 iQ:∀a o,s.heap.get? a=some o->∃o',s'.heap.get? a=some o'
theorem c_.refl(env:Env)(s:Shared)(lam:List Addr):c_ env s lam s lam:=⟨.refl _ _,λ aa aa aa aa e=>e,λ aa o e=>⟨o,e⟩⟩
theorem c_.trans{env:Env}{s s' zK:Shared}{lam bV og:List Addr}(x:c_ env s lam s' bV)(y:c_ env s' bV zK og):c_ env s lam zK og where
 kx:=x.kx.trans y.kx x.iQ
 keep:=λ a o hn hw e=>y.keep a o (x.kx.out hn e) hw (x.keep a o hn hw e)
 iQ:=λ a o e=>let⟨o',e'⟩:=x.iQ a o e;y.iQ a o' e'
theorem HS.vO{G:bC}{s:Shared}{lam:List Addr}{σ:U}(H:HS G s lam σ){a:Addr}(ha:a∈lam){C:Prop}(k:∀o,s.heap.get? a=some o->(∀v,o.data≠.cell v)->C):C:=
 yL (H.has ha) λ aa aa aa aa hr=>bA hr.some λ o h1 h2=>k o h1 h2
theorem Step.toF{G:bC}{env:Env}{s s':Shared}{lam bV:List Addr}{σ':U}(x:Step s lam s' bV)(H':HS G s' bV σ'):c_ env s lam s' bV where
 kx:=x.kx
 keep:=λ a o hn aa e=>x.keep a o hn e
 iQ:=λ a o e=>by
  by_cases hl:a∈lam
  ·exact d9 (List.mem_iff_getElem?.mp hl) λ l h=>H'.vO (List.mem_of_getElem? (x.ext l a h)) λ o' h aa=>⟨o',h⟩
  ·exact ⟨o,x.keep a o hl e⟩
inductive AF where
 |next|cont|ret(v:AV)
inductive wY(h:Heap)(lam:List Addr):AF->Flow->Prop
 |next:wY h lam .next .next
 |cont:wY h lam .cont .cont
 |ret {av:AV} {v:Value}:VR h lam av v->wY h lam (.ret av) (.ret v)
set_option genInjectivity false
set_option genSizeOf false
abbrev PV:=AV->U->Prop
abbrev PF:=AF->dy->U->Prop
noncomputable def dj(l:List (String×Option AV)):dy:=λ y=>(l.lookup y).getD none
noncomputable def dH(vs:List String)(ρ:dy):dy:=dj (vs.map λ x=>(x,ρ x))
theorem iK{vs:List String}{ρ:dy}{y:String}{v:AV}(h:dH vs ρ y=some v):y∈vs/\ρ y=some v:=by
 unfold dH dj at h;induction vs with
 |nil=>cases h
 |cons x r ih=>
  rw [List.map_cons,List.lookup_cons]at h;cases e:y==x with
  |true=>rw [e]at h;cases eq_of_beq e;exact ⟨.head _,h⟩
  |false=>rw [e]at h;exact ⟨.tail _ (ih h).1,(ih h).2⟩
structure b_ where
 call:Fn->List AV->U->PV->Prop
 jS:d_->List AV->U->PV->Prop
structure dv where
 G:bC
 d:Nat
 F:b_
 sc:Scope
noncomputable abbrev dv.M(Γ:dv):Model:=model Γ.G.prog Γ.G.w
abbrev AE:=b_->dy->U->PV->Prop
abbrev AL:=b_->dy->U->(List AV->U->Prop)->Prop
abbrev AT:=b_->dy->U->(Bool->U->Prop)->Prop
abbrev AG:=b_->AV->dy->U->(dy->U->Prop)->Prop
abbrev AS:=b_->dy->U->PF->Prop
abbrev O1:=U->PV->AV->Prop
abbrev O2:=U->PV->AV->AV->Prop
abbrev OL:=U->PV->List AV->Prop
def yT{α:Type}(o:Option α)(P:α->Prop):Prop:=match o with
 |some a=>P a
 |none=>False
theorem yT.k{α:Type}{o:Option α}{P:α->Prop}{C:Prop}(h:yT o P)(k:∀a,o=some a->P a->C):C:=by
 cases o with
 |none=>exact h.elim
 |some a=>exact k a rfl h
def wZ(v:AV)(k:Bool->Prop):Prop:=match v with
 |.bool b=>k b
 |_=>False
def qV(v:AV)(k:Int->Prop):Prop:=match v with
 |.int i=>k i
 |_=>False
def zM(v:AV)(k:String->Prop):Prop:=match v with
 |.str x=>k x
 |_=>False
theorem wZ.k{v:AV}{k:Bool->Prop}(h:wZ v k):∃b,v=.bool b/\k b:=by cases v<;>first|exact h.elim|exact ⟨_,rfl,h⟩
theorem qV.k{v:AV}{k:Int->Prop}(h:qV v k):∃b,v=.int b/\k b:=by cases v<;>first|exact h.elim|exact ⟨_,rfl,h⟩
theorem zM.k{v:AV}{k:String->Prop}(h:zM v k):∃b,v=.str b/\k b:=by cases v<;>first|exact h.elim|exact ⟨_,rfl,h⟩
theorem yT.i{α:Type}{o:Option α}{P:α->Prop}{a:α}(e:o=some a)(p:P a):yT o P:=e▸p
structure St(Γ:dv)where
 s:Shared
 lam:List Addr
 σ:U
 H:HS Γ.G s lam σ
section
variable{Γ:dv}
def St.Le(o w:St Γ):Prop:=Step o.s o.lam w.s w.lam
def St.R(w:St Γ)(v:AV)(u:Value):Prop:=VR w.s.heap w.lam v u
def St.Rs(w:St Γ)(v:List AV)(u:List Value):Prop:=bB w.s.heap w.lam v u
def St.FR(w:St Γ)(env:Env)(ρ:dy):Prop:=Mine.FR Γ.G w.s.heap w.lam env ρ
def St.o5(env:Env)(o w:St Γ):Prop:=c_ env o.s o.lam w.s w.lam
theorem St.R.up{o w:St Γ}{v:AV}{u:Value}(h:o.R v u)(S:o.Le w):w.R v u:=VR.bo (Step.kx S) h
theorem St.Rs.up{o w:St Γ}{v:List AV}{u:List Value}(h:o.Rs v u)(S:o.Le w):w.Rs v u:=bB.bo (Step.kx S) h
theorem St.Le.tr{a b c:St Γ}(x:a.Le b)(y:b.Le c):a.Le c:=Step.trans x y
structure Cx(Γ:dv)where
 A:Around
 E:Value->Shared->Prop
 env:Env
 f:St Γ
 o:St Γ
 w:St Γ
 ρ:dy
 R:jt Γ.d A
 ok:SX Γ.sc env
 F:w.FR env ρ
 S:o.Le w
 T:f.o5 env w
abbrev Cx.wp{α:Type}(K:Cx Γ)(m:Sem α)(Q:α->Shared->Prop):Prop:=wpAny Γ.M K.A m Q K.E K.w.s
def Cx.KV(K:Cx Γ)(P:PV)(Q:Value->Shared->Prop):Prop:=∀u v(w:St Γ),K.o.Le w->P v w.σ->w.R v u->Q u w.s
def Cx.KL(K:Cx Γ)(n:Nat)(P:List AV->U->Prop)(Q:List Value->Shared->Prop):Prop:=∀u v(w:St Γ),K.o.Le w->v.length=n->P v w.σ->w.Rs v u->Q u w.s
def Cx.KB(K:Cx Γ)(P:Bool->U->Prop)(Q:Bool->Shared->Prop):Prop:=∀b(w:St Γ),K.o.Le w->P b w.σ->Q b w.s
def Cx.KM(K:Cx Γ)(P:U->Prop)(Q:Unit->Shared->Prop):Prop:=∀w:St Γ,K.o.Le w->P w.σ->Q () w.s
def Cx.KU(K:Cx Γ)(P:dy->U->Prop)(Q:Unit->Shared->Prop):Prop:=∀ρ(w:St Γ),w.FR K.env ρ->K.f.o5 K.env w->P ρ w.σ->Q () w.s
def Cx.KS(K:Cx Γ)(P:PF)(Q:Flow->Shared->Prop):Prop:=∀fl f ρ(w:St Γ),w.FR K.env ρ->K.f.o5 K.env w->P f ρ w.σ->wY w.s.heap w.lam f fl->Q fl w.s
noncomputable def Cx.r(K:Cx Γ):Cx Γ:={K with o:=K.w,S:=.refl _ _}
noncomputable def Cx.up(K:Cx Γ)(w:St Γ)(S:K.w.Le w):Cx Γ:={K with w:=w,F:=FR.step K.F K.w.H S,S:=K.S.tr S,T:=c_.trans K.T (Step.toF S w.H)}
noncomputable def Cx.kG(K:Cx Γ)(ρ:dy)(w:St Γ)(F:w.FR K.env ρ)(T:K.f.o5 K.env w):Cx Γ:={K with w:=w,o:=w,ρ:=ρ,F:=F,S:=.refl _ _,T:=T}
noncomputable def Cx.rf(K:Cx Γ):Cx Γ:={K with o:=K.w,S:=.refl _ _,f:=K.w,T:=.refl _ _ _}
noncomputable def Cx.at(K:Cx Γ)(A:Around)(E:Value->Shared->Prop)(R:jt Γ.d A):Cx Γ:={K with A:=A,E:=E,R:=R}
def bf(Γ:dv)(e:Expr)(a:AE):Prop:=∀(K:Cx Γ){P:PV}{Q:Value->Shared->Prop},a Γ.F K.ρ K.w.σ P->K.KV P Q->K.wp (eval e K.env) Q
def kI(Γ:dv)(e:Expr)(a:AT):Prop:=∀(K:Cx Γ){P:Bool->U->Prop}{Q:Bool->Shared->Prop},a Γ.F K.ρ K.w.σ P->K.KB P Q->K.wp (PySem.isTrue e K.env (eval e K.env)) Q
def i7(Γ:dv)(e:Expr)(a:AG):Prop:=∀(K:Cx Γ){v:AV}{u:Value}{P:dy->U->Prop}{Q:Unit->Shared->Prop},a Γ.F v K.ρ K.w.σ P->K.w.R v u->K.KU P Q->K.wp (assign e K.env u) Q
def ju(Γ:dv)(e:Stmt)(a:AS):Prop:=∀(K:Cx Γ){P:PF}{Q:Flow->Shared->Prop},a Γ.F K.ρ K.w.σ P->K.KS P Q->K.wp (exec e K.env) Q
def oN(Γ:dv)(e:List Stmt)(a:AS):Prop:=∀(K:Cx Γ){P:PF}{Q:Flow->Shared->Prop},a Γ.F K.ρ K.w.σ P->K.KS P Q->K.wp (execs e K.env) Q
def Op1(Γ:dv)(t:Value->Sem Value)(f:O1):Prop:=∀(K:Cx Γ){x:AV}{v:Value}{P:PV}{Q:Value->Shared->Prop},f K.w.σ P x->K.w.R x v->K.KV P Q->K.wp (t v) Q
def iR(Γ:dv)(t:Value->Value->Sem Value)(f:O2):Prop:=∀(K:Cx Γ){x y:AV}{v u:Value}{P:PV}{Q:Value->Shared->Prop},f K.w.σ P x y->K.w.R x v->K.w.R y u->K.KV P Q->K.wp (t v u) Q
def jv(Γ:dv)(fv:Value)(f:OL):Prop:=∀(K:Cx Γ){x:List AV}{v:List Value}{P:PV}{Q:Value->Shared->Prop},f K.w.σ P x->K.w.Rs x v->K.KV P Q->K.wp (call fv v) Q
theorem Cx.k1(K:Cx Γ){P:PV}{Q:Value->Shared->Prop}{v:AV}{u:Value}(k:K.KV P Q)(p:P v K.w.σ)(h:K.w.R v u)(tk:Nat):Q u {K.w.s with toks:=tk}:=
 let⟨H',S⟩:=K.w.H.toks tk;k u v ⟨_,_,_,H'⟩ (Step.trans K.S S) p h
theorem Cx.k0(K:Cx Γ){P:PV}{Q:Value->Shared->Prop}{v:AV}{u:Value}(k:K.KV P Q)(p:P v K.w.σ)(h:K.w.R v u):Q u K.w.s:=k u v K.w K.S p h
theorem Cx.kn(K:Cx Γ){P:PV}{Q:Value->Shared->Prop}{s:Shared}{lam:List Addr}{σ:U}{v:AV}{u:Value}(k:K.KV P Q)(HS:HS Γ.G s lam σ/\Step K.w.s K.w.lam s lam)(p:P v σ)(h:VR s.heap lam v u):Q u s:=
 k u v ⟨_,_,_,HS.1⟩ (Step.trans K.S HS.2) p h
theorem Cx.kind(K:Cx Γ){x:Str}{k:Option NameKind}(h:Γ.sc.names.lookup x=k):K.env.kindOf x=k:=by unfold Env.kindOf;refine ae K.ok.scope ?_;exact h
theorem Cx.fn(K:Cx Γ):K.env.scope.kind=.function:=K.ok.scope▸K.ok.kind
def aY(i:Int):AE:=λ _ _ σ P=>P (.int i) σ
def dA(x:String):AE:=λ _ _ σ P=>P (.str x) σ
def mV:AE:=λ _ _ σ P=>P .none σ
def mW(b:Bool):AE:=λ _ _ σ P=>P (.bool b) σ
def af(x:String):AE:=λ _ ρ σ P=>yT (ρ x) λ v=>P v σ
theorem aD{i:Int}{k:Nat}{pos:Pos}:bf Γ (.Constant (.int i) k pos) (aY i):=λ K aa aa p k=>wpAny_Constant_int (K.k1 k p (.int i _) _)
theorem cf{x:String}{k:Nat}{pos:Pos}:bf Γ (.Constant (.str (Str.ofString x)) k pos) (dA x):=λ K aa aa p k=>Constant_str (K.k1 k p (.str x _ rfl) _)
theorem j9{k:Nat}{pos:Pos}:bf Γ (.Constant .none k pos) mV:=λ K aa aa p k=>wpAny_Constant_none (K.k0 k p .none)
theorem j_{b:Bool}{k:Nat}{pos:Pos}:bf Γ (.Constant (.bool b) k pos) (mW b):=λ K aa aa p k=>wpAny_Constant_bool (K.k0 k p (.bool b))
theorem Cx.SY(K:Cx Γ){x:String}{v:AV}{C:Prop}(hx:K.ρ x=some v)(hk:K.env.kindOf (Str.ofString x)=some .cell\/(K.env.kindOf (Str.ofString x)=some .free/\x≠"__class__"))
  (k:∀c u,K.env.cells.lookup (Str.ofString x)=some c->K.w.s.heap.IsCell c (some u)->K.w.R v u->C):C:=
 oM (K.F.cell x hk) λ c aa hl hc aa hv=>bA (hv _ hx) λ u e j7=>k c u hl (e▸hc) j7
theorem ab{x:String}{pos:Pos}(hk:Γ.sc.names.lookup (Str.ofString x)=some .local)(hd:(Str.ofString x==("__debug__":Str))=false):bf Γ (.Name (Str.ofString x) pos) (af x):=
 λ K aa aa h k=>h.k λ v hx p=>bA K.F.o4 λ m hn hv=>bA (hv x v (K.kind hk) hx) λ u hm j7=>wpAny_Name (wpAny_loadName_local K.fn (K.kind hk) hn hm (K.k0 k p j7)) hd
theorem aU{x:String}{pos:Pos}(hk:Γ.sc.names.lookup (Str.ofString x)=some .cell)(hd:(Str.ofString x==("__debug__":Str))=false):bf Γ (.Name (Str.ofString x) pos) (af x):=
 λ K aa aa h k=>h.k λ v hx p=>K.SY hx (.inl (K.kind hk)) λ c u hl hc hv=>wpAny_Name (wpAny_loadName_cell K.fn (K.kind hk) hl hc (K.k0 k p hv)) hd
theorem acQ{x:String}{pos:Pos}(hk:Γ.sc.names.lookup (Str.ofString x)=some .free)(hd:(Str.ofString x==("__debug__":Str))=false)(hn:x≠"__class__")(fK:(Str.ofString x==("__classdict__":Str))=false):bf Γ (.Name (Str.ofString x) pos) (af x):=
 λ K aa aa h k=>h.k λ v hx p=>K.SY hx (.inr ⟨K.kind hk,hn⟩) λ c u hl hc hv=>wpAny_Name (wpAny_loadName_free K.fn (K.kind hk) hl hc (K.k0 k p hv) fK) hd
def aB(a b:AE)(f:O2):AE:=λ F ρ σ P=>a F ρ σ λ x σ=>b F ρ σ λ y σ=>f σ P x y
def aZ(a:AE)(f:O1):AE:=λ F ρ σ P=>a F ρ σ λ x σ=>f σ P x
theorem tX{l e:Expr}{t:Value->Value->Sem Value}{a b:AE}{f:O2}{P:PV}{Q:Value->Shared->Prop}(K:Cx Γ)(ha:bf Γ l a)(hb:bf Γ e b)(ho:iR Γ t f)(hc:aB a b f Γ.F K.ρ K.w.σ P)(k:K.KV P Q):
  K.wp (eval l K.env) λ v f9=>wpAny Γ.M K.A (eval e K.env) (λ u o6=>wpAny Γ.M K.A (t v u) Q K.E o6) K.E f9:=
 ha K.r hc λ v aa yU l9 p hv=>hb (K.up yU l9).r p λ u aa dW d1 p hu=>ho (K.up dW (l9.tr d1)) p (hv.up d1) hu k
theorem Up{l:Expr}{t:Value->Sem Value}{a:AE}{f:O1}{P:PV}{Q:Value->Shared->Prop}(K:Cx Γ)(ha:bf Γ l a)(ho:Op1 Γ t f)(hc:aZ a f Γ.F K.ρ K.w.σ P)(k:K.KV P Q):
  K.wp (eval l K.env) λ v f9=>wpAny Γ.M K.A (t v) Q K.E f9:=
 ha K.r hc λ v aa yU l9 p hv=>ho (K.up yU l9) p hv k
theorem b8{l r:Expr}{op:Operator}{pos:Pos}{a b:AE}{f:O2}(ha:bf Γ l a)(hb:bf Γ r b)(ho:iR Γ (binaryOp op) f):bf Γ (.BinOp l op r pos) (aB a b f):=
 λ K aa aa hc k=>wpAny_BinOp (tX K ha hb ho hc k)
theorem rR{l r:Expr}{op:CmpOp}{pos:Pos}{a b:AE}{f:O2}(ha:bf Γ l a)(hb:bf Γ r b)(ho:iR Γ (compareOp op) f)(hm:behindInMarks op r=false):bf Γ (.Compare l [op] [r] pos) (aB a b f):=
 λ K aa aa hc k=>wpAny_Compare1 (tX K ha hb ho hc k) hm
end
end
section
set_option genInjectivity false
set_option genSizeOf false
inductive o7(f:Int->Int->(AV->Prop)->Prop)(σ:U)(P:PV):AV->AV->Prop
 |mk {a b:Int}:f a b (λ v=>P v σ)->o7 f σ P (.int a) (.int b)
abbrev rS:O2:=o7 λ a b P=>P (.bool (decide (a<b)))
abbrev oLe:O2:=o7 λ a b P=>P (.bool (decide (a<=b)))
abbrev gK:O2:=o7 λ a b P=>P (.bool (decide (b<a)))
abbrev fV:O2:=o7 λ a b P=>P (.int (a -b))
abbrev vP:O2:=o7 λ a b P=>a.natAbs<2^60/\P (.int (a*b))
abbrev PH:O2:=o7 λ a b P=>b=3/\P (.int (a/3))
abbrev pW:O2:=o7 λ a b P=>0<b/\P (.int (a %b))
def dK:O2:=λ σ P x y=>∃b,gX 40 x y b/\P (.bool b) σ
def fW:O2:=λ σ P x y=>∃b,gX 40 x y b/\P (.bool !b) σ
inductive Dc(σ:U)(P:PV):AV->AV->Prop
 |nn:P (.bool true) σ->Dc σ P .none .none
 |tn {vs:List AV}:P (.bool false) σ->Dc σ P (.tup vs) .none
inductive cq(σ:U)(P:PV):AV->AV->Prop
 |i {a b:Int}:P (.int (a+b)) σ->cq σ P (.int a) (.int b)
 |s {a b:String}:a.length+b.length<=10000->P (.str (a++b)) σ->cq σ P (.str a) (.str b)
 |t {a b:List AV}:a.length+b.length<=10000->P (.tup (a++b)) σ->cq σ P (.tup a) (.tup b)
 |l {a b:Nat} {xs ys:List AV}:σ[a]?=some (.list xs)->σ[b]?=some (.list ys)->xs.length+ys.length<=10000->P (.ref σ.length) (σ++[.list (xs++ys)])->cq σ P (.ref a) (.ref b)
section
variable{Γ:dv}
theorem Uq(a b:String):(Str.ofString a !=Str.ofString b)=!(a==b):=by rw [yS];rfl
theorem S0{op:CmpOp}{t:Bool->Bool}(ho:op=.Eq/\t=id\/op=.NotEq/\t=not):iR Γ (compareOp op) λ σ P x y=>∃b,gX 40 x y b/\P (.bool (t b)) σ:=by
 intro K x y v u P Q hc hv hu k;refine bA hc λ b(hI:iP (gX 39) x y b)p=>?_;have hA:=K.R.un;have hQ:=K.k0 k p (.bool (t b));clear k p hc;rcases ho with⟨rfl,rfl⟩|⟨rfl,rfl⟩
 ·refine (?_:wpAny Γ.M K.A (richCompare .Eq v u) Q K.E K.w.s);induction hI with
  |nn=>apply hv.kn;apply hu.kn;exact EqNone.eq_none_none hQ
  |nt=>
   apply hv.kn;apply hu.kt;intro _ _ _ h1 h2;exact (jL (Ta:="NoneType") (Tb:="tuple") (bQ hA (by simp+arith only)) rfl (IsT.typeIs h1) (by decide) PySem.F.sub_tuple_NoneType PySem.F.slot_NoneType_eq PySem.F.slot_tuple_eq_refl rfl
    (kE rfl) (kF h1 (Tb:="NoneType") rfl PySem.F.sub_NoneType_tuple) hQ)
  |tn=>
   apply hu.kn;apply hv.kt;intro _ _ _ h1 h2;exact (jL (Ta:="tuple") (Tb:="NoneType") (bQ hA (by simp+arith only)) (IsT.typeIs h1) rfl (by decide) PySem.F.sub_NoneType_tuple PySem.F.slot_tuple_eq PySem.F.slot_NoneType_eq_refl rfl
    (kF h1 (Tb:="NoneType") rfl PySem.F.sub_NoneType_tuple) (kE rfl) hQ)
  |ii=>apply hv.ki;intro _;apply hu.ki;intro _;exact PyProof.Rows.eq_int hQ
  |is=>apply hv.ki;intro _;apply hu.ks;intro _;exact EqMixed.eq_int_str hQ
  |si=>apply hv.ks;intro _;apply hu.ki;intro _;exact EqMixed.eq_str_int hQ
  |ss=>apply hv.ks;intro _;apply hu.ks;intro _;exact PyProof.Rows.eq_str (by have h:=hQ;rw [yS]at h;exact h)
  |tt he=>
   apply hv.kt;intro _ _ _ h1 h2;apply hu.kt;intro _ _ _ h3 h4;exact wpAny_richCompare_same_room (op:=.Eq) (IsT.typeIs h1) (IsT.typeIs h3) PySem.F.slot_tuple_eq
    (wpAny_call_entry PySem.F.slot_tuple_eq (IsT.typeIs h1) PySem.F.entry_tuple_eq
     (rN (op:=.Eq) (.inl rfl) h1 h3 h2 h4 (λ x y v u r hv hu hf Q hq=>mU 39 hf hv hu (by show K.A.units+1+39+1<cLine;exact bQ hA (by simp+arith only)) hq) he ⟨_,rfl,(λ e=>nomatch e),(if_pos rfl).symm▸hQ⟩) (PySem.F.args_tuple_eq_2 _ _)) (bQ hA (by simp+arith only))
 ·refine (?_:wpAny Γ.M K.A (richCompare .NotEq v u) Q K.E K.w.s);induction hI with
  |nn=>apply hv.kn;apply hu.kn;exact EqNone.ne_none_none hQ
  |nt=>
   apply hv.kn;apply hu.kt;intro _ _ _ h1 h2;exact (qU (Ta:="NoneType") (Tb:="tuple") (bQ hA (by simp+arith only)) rfl (IsT.typeIs h1) (by decide) PySem.F.sub_tuple_NoneType PySem.F.slot_NoneType_ne PySem.F.slot_tuple_ne_refl rfl
    (rL rfl) (rM h1 (Tb:="NoneType") rfl PySem.F.sub_NoneType_tuple) hQ)
  |tn=>
   apply hu.kn;apply hv.kt;intro _ _ _ h1 h2;exact (qU (Ta:="tuple") (Tb:="NoneType") (bQ hA (by simp+arith only)) (IsT.typeIs h1) rfl (by decide) PySem.F.sub_NoneType_tuple PySem.F.slot_tuple_ne PySem.F.slot_NoneType_ne_refl rfl
    (rM h1 (Tb:="NoneType") rfl PySem.F.sub_NoneType_tuple) (rL rfl) hQ)
  |ii=>apply hv.ki;intro _;apply hu.ki;intro _;exact PyProof.Rows.ne_int hQ
  |is=>apply hv.ki;intro _;apply hu.ks;intro _;exact EqMixed.ne_int_str hQ
  |si=>apply hv.ks;intro _;apply hu.ki;intro _;exact EqMixed.ne_str_int hQ
  |ss=>apply hv.ks;intro _;apply hu.ks;intro _;exact PyProof.Rows.ne_str ((Uq _ _).symm▸hQ)
  |tt he=>
   apply hv.kt;intro _ _ _ h1 h2;apply hu.kt;intro _ _ _ h3 h4;exact wpAny_richCompare_same_room (op:=.NotEq) (IsT.typeIs h1) (IsT.typeIs h3) PySem.F.slot_tuple_ne
    (wpAny_call_entry PySem.F.slot_tuple_ne (IsT.typeIs h1) PySem.F.entry_tuple_ne
     (rN (op:=.NotEq) (.inr rfl) h1 h3 h2 h4 (λ x y v u r hv hu hf Q hq=>mU 39 hf hv hu (by show K.A.units+1+39+1<cLine;exact bQ hA (by simp+arith only)) hq) he ⟨_,rfl,(λ e=>nomatch e),(hQ)⟩) (PySem.F.args_tuple_ne_2 _ _)) (bQ hA (by simp+arith only))
theorem fX:iR Γ (compareOp .Eq) dK:=S0 (t:=id) (.inl ⟨rfl,rfl⟩)
theorem lC:iR Γ (compareOp .NotEq) fW:=S0 (.inr ⟨rfl,rfl⟩)
theorem vQ{t:Value->Value->Sem Value}{f:Int->Int->(AV->Prop)->Prop}(h:∀(K:Cx Γ)a b ta tb{P:PV}{Q:Value->Shared->Prop},f a b (λ v=>P v K.w.σ)->K.KV P Q->K.wp (t (.int a ta) (.int b tb)) Q):iR Γ t (o7 f):=by intro K x y v u P Q hc;induction hc with|mk p=>intro hv hu k;apply hv.ki;intro _;apply hu.ki;intro _;exact h K _ _ _ _ p k
theorem I1:iR Γ (compareOp .Lt) rS:=vQ λ K aa aa aa aa aa aa p k=>PyProof.Rows.lt_int (K.k0 k p (.bool _))
theorem adv:iR Γ (compareOp .LtE) oLe:=vQ λ K aa aa aa aa aa aa p k=>PyProof.Rows.le_int (K.k0 k p (.bool _))
theorem mz:iR Γ (compareOp .Gt) gK:=vQ λ K aa aa aa aa aa aa p k=>PyProof.Rows.gt_int (K.k0 k p (.bool _))
theorem lR:iR Γ (binaryOp .Sub) fV:=vQ λ K aa aa aa aa aa aa p k=>PyProof.Rows.sub_int (K.k1 k p (.int _ _) _)
theorem I2{a:Int}(h:a.natAbs<2^60):Builtin.Int.intBits a<=64:=by
 unfold Builtin.Int.intBits;split
 ·exact Nat.zero_le _
 ·rename_i h0;have hz:a.natAbs≠0:=λ e=>h0 (by refine ae (Int.natAbs_eq_zero.mp e) ?_;rfl);have:=(Nat.log2_lt hz).mpr h;exact nc this rfl
theorem I3:iR Γ (binaryOp .Mult) vP:=vQ λ K aa aa aa aa aa aa p k=>PyProof.Rows.mul_int (K.k1 k p.2 (.int _ _) _) (IntMulOk.of_left (I2 p.1))
theorem aad:iR Γ (binaryOp .FloorDiv) PH:=vQ λ K a b aa aa aa Q p k=>by obtain ⟨rfl,p⟩:=p;exact PyProof.Rows.floordiv_int (by decide) (by refine ae (Int.fdiv_eq_ediv_of_nonneg a (by decide)) ?_;exact K.k1 k p (.int _ _) _) (.inl rfl)
theorem I4:iR Γ (binaryOp .Mod) pW:=vQ λ K a b aa aa aa Q p k=>PyProof.Rows.mod_int' (Int.ne_of_gt p.1) ((Int.fmod_eq_emod_of_nonneg _ (Int.le_of_lt p.1)).symm▸K.k1 k p.2 (.int _ _) _)
theorem Wn:iR Γ (compareOp .Is) Dc:=by
 intro K x y v u P Q hc;induction hc with
 |nn p=>intro hv hu k;apply hv.kn;apply hu.kn;exact wpAny_is_plain rfl (K.k0 k p (.bool true))
 |tn p=>intro hv hu k;apply hu.kn;apply hv.kt;intros;exact wpAny_is_plain rfl (K.k0 k p (.bool false))
theorem dh:16000000<=sizeLine:=by decide
theorem St.nG(w:St Γ):w.s.heap.objs.size∉w.lam:=λ hm=>w.H.vO hm λ o ho aa=>by rw [Heap.get?_none_of_le (Nat.le_refl _)]at ho;cases ho
theorem Cx.PJ(K:Cx Γ){P:PV}{Q:Value->Shared->Prop}{cT:List AV}{vs:Array Value}(k:K.KV P Q)(p:P (.tup cT) K.w.σ)(hv:K.w.Rs cT vs.toList)(hz:cT.length<=10000)(tk:Nat):
  Q (.ref K.w.s.heap.objs.size) {K.w.s with heap:=K.w.s.heap.push {cls:=.type "tuple",data:=.seq vs},toks:=tk}:=
 have h:=K.w.H.i6 (s':={K.w.s with heap:=K.w.s.heap.push {cls:=.type "tuple",data:=.seq vs},toks:=tk}) (λ b o e=>Heap.get?_push_of_some _ e) rfl rfl
 K.kn k h p (.tup (n:=0) ⟨K.w.nG,Heap.get?_push_size _ rfl⟩ (hv.bo h.2.kx) hz)
theorem Cx.I5(K:Cx Γ){P:PV}{Q:Value->Shared->Prop}{cT:List AV}{vs:Array Value}(k:K.KV P Q)(p:P (.ref K.w.σ.length) (K.w.σ++[.list cT]))(hv:K.w.Rs cT vs.toList)(hz:cT.length<=10000)(tk:Nat):
  Q (.ref K.w.s.heap.objs.size) {K.w.s with heap:=K.w.s.heap.push {cls:=.type "list",data:=.seq vs},toks:=tk}:=
 have hk:=λ b o(e:K.w.s.heap.get? b=some o)=>Heap.get?_push_of_some {cls:=.type "list",data:=.seq vs} e;have hn:=Heap.get?_none_of_le (h:=K.w.s.heap) (Nat.le_refl K.w.s.heap.objs.size)
 K.kn k (K.w.H.new (s':={K.w.s with heap:=K.w.s.heap.push {cls:=.type "list",data:=.seq vs},toks:=tk}) hk hn rfl rfl (.list (n:=0) (Heap.get?_push_size _ rfl) (hv.bo (.snoc hk hn)) hz)) p
  (.ref (by refine cQ K.w.H.len ?_;exact List.getElem?_concat_length ..))
theorem St.dQ(w:St Γ){l:Nat}{a:Addr}{xs:List AV}(hl:w.lam[l]?=some a)(hs:w.σ[l]?=some (.list xs)){C:Prop}(k:∀items n,IsL w.s.heap a items n->w.Rs xs items.toList->xs.length=items.size->C):C:=by have:=w.H.gJ _ _ _ hl hs;cases this with|list h1 h2 _=>exact k _ _ h1 h2 (by simpa using h2.length)
theorem St.lz(w:St Γ){l:Nat}{a:Addr}{xs:List AV}(hl:w.lam[l]?=some a)(hs:w.σ[l]?=some (.list xs)):xs.length<=10000:=by have:=w.H.gJ _ _ _ hl hs;cases this;assumption
theorem IsL.typeIs{s:Shared}{a:Addr}{items:Array Value}{n:Nat}(x:IsL s.heap a items n):s.TypeIs (.ref a) "list":=⟨_,x,rfl⟩
theorem w6(a b:String):Str.ofString (a++b)=Str.ofString a++Str.ofString b:=by rw [Str.ofString_eq_toList,Str.ofString_eq_toList,Str.ofString_eq_toList];refine (?_:_=(⟨_++_⟩:Str));simp
theorem bB.emp{h:Heap}{lam:List Addr}{xs:List AV}{a:Array Value}(x:bB h lam xs a.toList)(e:a.isEmpty=true):xs=[]:=by have:=x.length;rw [Array.isEmpty_iff]at e;subst e;simpa using this
theorem eF:iR Γ (binaryOp .Add) cq:=by
 intro K x y v u Pr Q hc;have w7:=dh;induction hc with
 |i p=>intro hv hu k;apply hv.ki;intro _;apply hu.ki;intro _;exact PyProof.Rows.add_int (K.k1 k p (.int _ _) _)
 |s hb p=>intro hv hu k;apply hv.ks;intro _;apply hu.ks;intro _;exact PyProof.Rows.add_str (λ t' tk=>w6 _ _▸K.k1 k p (.str _ _ rfl) _) (by rw [PySem.ofString_length,PySem.ofString_length];exact dc w7 hb (by simp+arith only))
 |t hb p=>
  intro hv hu k;apply hv.kt;intro a xs k1 h1 h2;apply hu.kt;intro b ys k2 h3 h4;by_cases e1:xs.isEmpty=true
  ·rw [h2.emp e1]at p;exact concat_meets (IsT.typeIs h1) (IsT.typeIs h3) noFill_tuple_add seq_tuple_add PySem.F.slot_tuple_add PySem.F.entry_tuple_add (PySem.F.args_tuple_add_2 _ _) (AutoSeq1.tuple___add___tuple_tuple_0 a xs k1 b ys k2 e1) ⟨h1.2,h3.2,K.k0 k p (.tup h3 h4 (by simp;exact j5 hb))⟩
  ·by_cases e2:ys.isEmpty=true
   ·rw [h4.emp e2,List.append_nil]at p;exact concat_meets (IsT.typeIs h1) (IsT.typeIs h3) noFill_tuple_add seq_tuple_add PySem.F.slot_tuple_add PySem.F.entry_tuple_add (PySem.F.args_tuple_add_2 _ _) (AutoSeq1.tuple___add___tuple_tuple_1 a xs k1 b ys k2 e1 e2) ⟨h1.2,h3.2,K.k0 k p (.tup h1 h2 (C3 hb))⟩
   ·exact P.add_tuple h1.2 h3.2 e1 e2 (K.PJ k p (by refine ae Array.toList_append ?_;exact h2.append h4) (by simpa using hb) _) (by have:=h2.length;have:=h4.length;simp only [Array.length_toList]at*;lia)
 |l e1 e2 hb p=>
  intro hv hu k;apply hv.kr;intro _ hA;apply hu.kr;intro _ hB;exact K.w.dQ hA e1 λ is n h1 h2 l1=>K.w.dQ hB e2 λ js m h3 h4 l2=>P.add_list h1 h3 (K.I5 k p (by refine ae Array.toList_append ?_;exact h2.append h4) (by simpa using hb) _) (C4 w7 hb (b7 l1) (b7 l2) (by simp+arith only))
noncomputable def abD:Expr->Bool
 |.Starred _ _=>false
 |_=>true
def NS(e:Expr):Prop:=abD e=true
theorem NS.s{e:Expr}(h:NS e)(rest:List Expr)(env:Env):starEach (e::rest) env=(false,eval e env)::starEach rest env:=by cases e<;>first|rfl|exact nomatch h
theorem NS.g{e:Expr}(h:NS e)(rest:List Expr)(env:Env):assignEach (e::rest) env=(false,assign e env)::assignEach rest env:=by cases e<;>first|rfl|exact nomatch h
inductive fD(Γ:dv):List Expr->List AE->Prop
 |nil:fD Γ [] []
 |cons {e:Expr} {es:List Expr} {c:AE} {cs:List AE}:bf Γ e c->NS e->fD Γ es cs->fD Γ (e::es) (c::cs)
def jT:List AE->AL
 |[],_,_,σ,P=>P [] σ
 |c::cs,F,ρ,σ,P=>c F ρ σ λ v σ=>jT cs F ρ σ λ vs σ=>P (v::vs) σ
theorem B7{M:Model}{A:Around}{E:Value->Shared->Prop}{s:Shared}{t:Sem Value}{pos:Pos}{rest:List (Bool×Sem Value)}{Q:List Value->Shared->Prop}
  (h:wpAny M A t (λ v f9=>wpAny M A (spliced (backTo pos rest)) (λ vs o6=>Q (v::vs) o6) E f9) E s):wpAny M A (spliced (backTo pos ((false,t)::rest))) Q E s:=by
 refine (?_:wpAny _ _ (spliced ((false,_)::backTo pos _)) _ _ _);refine spliced_cons ?_;exact h
theorem fD.bW{es:List Expr}{cs:List AE}(x:fD Γ es cs)(pos:Pos):∀(K:Cx Γ){P:List AV->U->Prop}{Q:List Value->Shared->Prop},jT cs Γ.F K.ρ K.w.σ P->K.KL cs.length P Q->K.wp (spliced (backTo pos (starEach es K.env))) Q:=by
 induction x with
 |nil=>exact λ K P Q hc k=>spliced_nil (k _ _ K.w K.S rfl hc .nil)
 |cons h1 hn _ ih=>intro K P Q hc k;refine ae (hn.s _ _) ?_;exact B7 (h1 K.r hc λ u v yU l9 p hv=>ih (K.up yU l9).r p λ us vs dW d1 hl p ef=>k (u::us) (v::vs) dW (K.S.tr (l9.tr d1)) (congrArg Nat.succ hl) p (.cons (hv.up d1) ef))
def cG(cs:List AE):AE:=λ F ρ σ P=>jT cs F ρ σ λ vs σ=>P (.tup vs) σ
def dx(cs:List AE):AE:=λ F ρ σ P=>jT cs F ρ σ λ vs σ=>P (.ref σ.length) (σ++[.list vs])
theorem St.Rs.small{w:St Γ}{v:List AV}{u:List Value}{n:Nat}(h:w.Rs v u)(e:v.length=n)(hn:n<=10000):u.toArray.size<=sizeLine:=by have:=bB.length h;have:=dh;refine ae List.size_toArray ?_;lia
theorem bJ{es:List Expr}{cs:List AE}{k:Nat}{pos:Pos}(x:fD Γ es cs)(hn:cs.length.ble 10000=true):bf Γ (.Tuple es k pos) (cG cs):=λ K aa aa hc k=>Tuple_ (x.bW pos K.r hc λ u v w S hl p hv=>wpAny_newObj_type ((K.up w S).PJ k p (vs:=u.toArray) hv (hl▸Nat.le_of_ble_eq_true hn) _) (hv.small hl (Nat.le_of_ble_eq_true hn)))
theorem cx{es:List Expr}{cs:List AE}{pos:Pos}(x:fD Γ es cs)(hn:cs.length.ble 10000=true):bf Γ (.List es pos) (dx cs):=λ K aa aa hc k=>List_ (x.bW pos K.r hc λ u v w S hl p hv=>wpAny_newObj_type ((K.up w S).I5 k p (vs:=u.toArray) hv (hl▸Nat.le_of_ble_eq_true hn) _) (hv.small hl (Nat.le_of_ble_eq_true hn)))
end
end
section
set_option genInjectivity false
set_option genSizeOf false
abbrev dR:=PySem.strKind
noncomputable def bD{K:Type}[DecidableEq K](kvs:List (K×AV))(k:K):Option AV:=(kvs.find? λ kv=>decide (kv.1=k)).map (·.2)
noncomputable def dY{K:Type}[DecidableEq K](kvs:List (K×AV))(k:K)(v:AV):List (K×AV):=
 if kvs.any (λ kv=>decide (kv.1=k))then kvs.map (λ kv=>if kv.1=k then(kv.1,v)else kv)else kvs++[(k,v)]
noncomputable def kJ{K:Type}[DecidableEq K](kvs:List (K×AV))(k:K):List (K×AV):=kvs.filter λ kv=>decide (kv.1≠k)
section
variable{K K':Type} [DecidableEq K] [DecidableEq K'] {f:K->K'} {h:Heap} {lam:List Addr}
theorem KR.get(hf:∀a b,f a=f b->a=b){kvs:List (K×AV)}{kvs':List (K'×Value)}(x:KR f h lam kvs kvs')(k:K):
  (∀av,bD kvs k=some av->∃v,valueAt kvs' (f k)=some v/\VR h lam av v)/\(bD kvs k=none->valueAt kvs' (f k)=none):=by
 induction x with
 |nil=>exact ⟨λ av e=>by simp [bD]at e,λ aa=>rfl⟩
 |@cons k0 Dd v0 r r' hv _ ih=>
  by_cases hk:k0=k
  ·subst hk;refine ⟨λ av e=>?_,λ e=>?_⟩
   ·simp [bD]at e;subst e;exact ⟨v0,by simp [valueAt],hv⟩
   ·simp [bD]at e
  ·have e6:¬f k0=f k:=λ e=>hk (hf _ _ e);have e1:bD ((k0,Dd)::r) k=bD r k:=by simp [bD,List.find?_cons,hk]
   have e2:valueAt ((f k0,v0)::r') (f k)=valueAt r' (f k):=by simp [valueAt,List.find?_cons,e6]
   refine ae e1<|ae e2 ?_;exact ih
theorem KR.append{a b:List (K×AV)}{a' b':List (K'×Value)}(x:KR f h lam a a')(y:KR f h lam b b'):KR f h lam (a++b) (a'++b'):=by
 induction x with
 |nil=>exact y
 |cons hv _ ih=>exact .cons hv ih
theorem KR.any(hf:∀a b,f a=f b->a=b){kvs:List (K×AV)}{kvs':List (K'×Value)}(x:KR f h lam kvs kvs')(k:K):kvs.any (λ kv=>decide (kv.1=k))=kvs'.any (λ kv=>decide (kv.1=f k)):=by
 induction x with
 |nil=>rfl
 |@cons k0 Dd v0 r r' hv _ ih=>
  simp only [List.any_cons,ih];congr 1;by_cases hk:k0=k
  ·subst hk;simp
  ·have e6:¬f k0=f k:=λ e=>hk (hf _ _ e);simp [hk,e6]
theorem KR.De(hf:∀a b,f a=f b->a=b){kvs:List (K×AV)}{kvs':List (K'×Value)}(x:KR f h lam kvs kvs')(k:K){av:AV}{v:Value}(hv:VR h lam av v):
  KR f h lam (kvs.map (λ kv=>if kv.1=k then(kv.1,av)else kv)) (kvs'.map (λ kv=>if kv.1=f k then(kv.1,v)else kv)):=by
 induction x with
 |nil=>exact .nil
 |@cons k0 Dd v0 r r' Wo _ ih=>
  simp only [List.map_cons];by_cases hk:k0=k
  ·subst hk;simp only [if_true];exact .cons hv ih
  ·have e6:¬f k0=f k:=λ e=>hk (hf _ _ e);simp only [hk,e6,if_false];exact .cons Wo ih
theorem KR.set(hf:∀a b,f a=f b->a=b){kvs:List (K×AV)}{kvs':List (K'×Value)}(x:KR f h lam kvs kvs')(k:K){av:AV}{v:Value}(hv:VR h lam av v):KR f h lam (dY kvs k av) (stored kvs' (f k) v):=by
 unfold dY stored;refine ae (x.any hf k) ?_;split
 ·exact x.De hf k hv
 ·exact x.append (.cons hv .nil)
theorem KR.Mb(hf:∀a b,f a=f b->a=b){kvs:List (K×AV)}{kvs':List (K'×Value)}(x:KR f h lam kvs kvs')(k:K):KR f h lam (kJ kvs k) (without kvs' (f k)):=by
 unfold kJ without;induction x with
 |nil=>exact .nil
 |@cons k0 Dd v0 r r' hv _ ih=>
  by_cases hk:k0=k
  ·subst hk;simpa using ih
  ·have e6:¬f k0=f k:=λ e=>hk (hf _ _ e);simp only [List.filter_cons,ne_eq,hk,e6,not_false_eq_true,decide_true,if_true];exact .cons hv ih
theorem KR.length{kvs:List (K×AV)}{kvs':List (K'×Value)}(x:KR f h lam kvs kvs'):kvs.length=kvs'.length:=by
 induction x with
 |nil=>rfl
 |cons _ _ ih=>exact congrArg _ ih
theorem KR.eo{kvs:List (K×AV)}{kvs':List (K'×Value)}(x:KR f h lam kvs kvs'):kvs'.map (·.1)=kvs.map (λ kv=>f kv.1):=by
 induction x with
 |nil=>rfl
 |cons _ _ ih=>exact congrArg _ ih
end
section
variable{prog:Program} {w:World} {h:Heap}
theorem Mc{a:Addr}{kvs:List (Str×Value)}(x:h.DictOf (dR prog w) a kvs):∃es n,h.get? a=some (dictOf es n)/\KeysOf (dR prog w) es.toArray/\Pairs (dR prog w) es kvs/\(kvs.map (·.1)).Nodup:=by obtain ⟨⟨c,d,dt,sl⟩,es,ep,ho,⟨h1,h2,h3⟩,hd,hk,hp,hn⟩:=x;dsimp only at h1 h2 h3 hd;subst h1 h2 h3 hd;exact ⟨es.toList,ep,by simpa using ho,by simpa using hk,hp,hn⟩
theorem lT{x:Str}{v:Value}:(dR prog w).is x v=v.isStr x:=by cases v<;>simp [dR,PySem.strKind,Value.isStrOf,Value.isStr]
theorem I6{es:List DictEntry}{kvs:List (Str×Value)}(hp:Pairs (dR prog w) es kvs)(x:Str):(es.find? λ e=>e.key.isStr x).map (·.val)=valueAt kvs x:=by
 induction hp with
 |nil=>rfl
 |@cons e kv es kvs h1 h2 _ ih=>
  by_cases hk:kv.1=x
  ·have:e.key.isStr x=true:=by refine cQ (lT (prog:=prog) (w:=w))<|cQ hk ?_;exact h1
   simp [List.find?_cons,this,valueAt,hk,h2]
  ·have:e.key.isStr x=false:=by
    cases hh:e.key.isStr x with
    |false=>rfl
    |true=>exact absurd ((dR prog w).inj _ _ _ h1 (by refine ae lT ?_;exact hh)) hk
   simp only [List.find?_cons,this];refine ae ih ?_;simp [valueAt,List.find?_cons,hk]
theorem uF{es:List DictEntry}{kvs:List (Str×Value)}(hp:Pairs (dR prog w) es kvs):es.any (·.refKey)=false:=by
 induction hp with
 |nil=>rfl
 |@cons e kv es kvs h1 h2 _ ih=>refine d9 (Value.isStrOf_shape h1) λ t ht=>?_;rw [List.any_cons,ih,Bool.or_false];unfold DictEntry.refKey;exact ae ht rfl
theorem Hv{es:List DictEntry}{kvs:List (Str×Value)}(hp:Pairs (dR prog w) es kvs)(x:Str):getL x es=some (valueAt kvs x):=by
 have:=I6 hp x;unfold getL;cases hf:es.find? (·.key.isStr x)with
 |some e=>rw [hf]at this;simp at this;exact congrArg _ this
 |none=>rw [hf]at this;simp at this;refine cQ this<|ae (uF hp) ?_;rfl
end
section
variable{Γ:dv}
theorem VR.Wq{h:Heap}{lam:List Addr}{av:AV}{v:Value}(x:VR h lam av v):handedIn v=true:=by cases x<;>rfl
inductive S2(G:bC)(h:Heap)(lam:List Addr)(l:Nat)(a:Addr)(c:d_)(kvs:List (String×AV)):Prop
 |mk (b:Addr) (kvs':List (Str×Value)) (es:List DictEntry) (n:Nat):lam[l+1]?=some b->h.get? b=some (dictOf es n)->h.DictOf (dR G.prog G.w) b kvs'->Pairs (dR G.prog G.w) es kvs'->KR Str.ofString h lam kvs kvs'->
   W.InstAt h a (instObj c.bw b) c.bw (some (dictOf es n))->S2 G h lam l a c kvs
theorem St.inst(w:St Γ){l:Nat}{a:Addr}{c:d_}{kvs:List (String×AV)}(hl:w.lam[l]?=some a)(h1:w.σ[l]?=some (.inst c))(h2:w.σ[l+1]?=some (.dS kvs)):S2 Γ.G w.s.heap w.lam l a c kvs:=by
 have x:=w.H.gJ _ _ _ hl h1;cases x with
 |inst hx hb=>
  have y:=w.H.gJ _ _ _ hb h2;cases y with
  |dS hd hk=>exact oM (Mc hd) λ es n ho aa hp aa=>⟨_,_,es,n,hb,ho,hd,hp,hk,⟨hx,rfl,rfl,ho⟩⟩
inductive ak(x:String)(σ:U)(P:PV):AV->Prop
 |mk {l:Nat} {c:d_} {kvs:List (String×AV)} {v:AV}:σ[l]?=some (.inst c)->σ[l+1]?=some (.dS kvs)->(fT c).contains x=true->bD kvs x=some v->P v σ->ak x σ P (.ref l)
abbrev St.X(W:Wd Γ.G)(w:St Γ):Γ.G.K.In w.s.heap:=λ b o e=>w.H.base b o (W.X b o e)
theorem Wr(W:Wd Γ.G)(x:String):Op1 Γ (λ v=>getAttr v (Str.ofString x) true) (ak x):=by
 intro K av v P Q hc;induction hc with
 |mk h1 h2 fP hg p=>
  intro hv k;apply hv.kr;intro a hl;induction K.w.inst hl h1 h2 with
  |mk b kvs' es n hb ho hd hp hk I=>refine bA ((hk.get (λ aa aa=>cH) x).1 _ hg) λ vv uG uH=>get_value (K.w.X W) I (W.nD _) (findObj_own (W.hasDict _) (W.PC _ x fP) rfl ?_) uH.Wq (K.k1 k p uH _);rw [lookIn_dict,Hv hp,uG]
inductive cA(G:bC)(x:String)(v:Value):Prop
 |own (h:nsIn G.K mainGlobals (Str.ofString x)=some (some v))
 |boot (h:nsIn G.K mainGlobals (Str.ofString x)=some none) (hb:bootBuiltins (Str.ofString x)=some v) (hn:Str.ofString x≠"__name__")
theorem pX(W:Wd Γ.G)(K:Cx Γ){x:String}{v:Value}{pos:Pos}{Q:Value->Shared->Prop}
  (g:cA Γ.G x v)(hk:Γ.sc.names.lookup (Str.ofString x)=some .globalImplicit)(hd:(Str.ofString x==("__debug__":Str))=false)(h:Q v K.w.s):K.wp (eval (.Name (Str.ofString x) pos) K.env) Q:=by
 refine Name_function_global K.fn (K.kind hk) ?_ hd;unfold loadGlobal;refine ae K.ok.globals<|ae K.ok.builtins ?_;cases g with
 |own hg=>exact wpAny_bind ((looks_nsIn (K.w.X W) hg).here (wpAny_pure h))
 |boot hg hb hn=>exact wpAny_bind ((looks_nsIn (K.w.X W) hg).here (bA W.b λ mb jA hm=>wpAny_bind (wpAny_nsGet (jA.keeps K.w.H.base) (by refine ae (hm _ hn)<|ae hb ?_;exact wpAny_pure h))))
theorem I7(W:Wd Γ.G){x:String}{i:Int}{t:Tok}{pos:Pos}(g:cA Γ.G x (.int i t))(hk:Γ.sc.names.lookup (Str.ofString x)=some .globalImplicit)(hd:(Str.ofString x==("__debug__":Str))=false):
  bf Γ (.Name (Str.ofString x) pos) (aY i):=λ K aa aa p k=>pX W K g hk hd (K.k0 k p (.int i t))
def bM(cs:List AE)(f:OL):AE:=λ F ρ σ P=>jT cs F ρ σ λ vs σ=>f σ P vs
def vR(G:bC)(f:Value):Prop:=∀h,G.K.In h->∃k,(k=Keeper.frame\/k=Keeper.machine\/k=Keeper.boundFrame)/\Looks (model G.prog G.w) h (keeperOf f) k
theorem o8{G:bC}{f:Value}(h:keepIn G.K f=true):vR G f:=λ hh X=>keeps_K h hh X
theorem aN{G:bC}(id:String):vR G (.builtin id):=λ aa aa=>⟨.machine,.inr (.inl rfl),.now⟩
theorem cZ{G:bC}(n:String):vR G (.type n):=λ aa aa=>⟨.machine,.inr (.inl rfl),.now⟩
theorem fD.plain{es:List Expr}{cs:List AE}(x:fD Γ es cs)(pos:Pos)(env:Env):(backTo pos (starEach es env)).any (·.1)=false:=by
 induction x with
 |nil=>rfl
 |cons _ hn _ ih=>rw [hn.s];exact ih
theorem gL(W:Wd Γ.G)(K:Cx Γ){pos:Pos}{f:Value}{first:List Value}{es:List Expr}{cs:List AE}{P:List AV->U->Prop}{Q:Value->Shared->Prop}(hk:vR Γ.G f)(x:fD Γ es cs)(he:jT cs Γ.F K.ρ K.w.σ P)
  (h:∀us vs(w:St Γ),K.w.Le w->P vs w.σ->w.Rs vs us->wpAny Γ.M K.A (call f (first++us)) Q K.E w.s):K.wp (callWith pos f first (backTo pos (starEach es K.env)) []) Q:=by
 have bW:K.wp (spliced (backTo pos (starEach es K.env))) λ us s=>Γ.G.K.In s.heap/\wpAny Γ.M K.A (call f (first++us)) Q K.E s:=x.bW pos K.r he λ us vs w S aa p hv=>⟨w.X W,h us vs w S p hv⟩
 refine callWith_of (P:=λ h=>Γ.G.K.In h) (by rw [x.plain];rfl) (λ h X=>hk h X) ?_;cases x with
 |nil=>exact evalArgs_nil3 ⟨K.w.X W,h [] _ K.w (.refl _ _) he .nil⟩
 |cons h1 hn _=>rw [hn.s]at bW⊢;exact evalArgs_plain bW
theorem ba(W:Wd Γ.G){x:String}{fv:Value}{np pos:Pos}{es:List Expr}{cs:List AE}{f:OL}(g:cA Γ.G x fv)(hk:Γ.sc.names.lookup (Str.ofString x)=some .globalImplicit)(hd:(Str.ofString x==("__debug__":Str))=false)
  (kp:vR Γ.G fv)(a:fD Γ es cs)(hf:jv Γ fv f):bf Γ (.Call (.Name (Str.ofString x) np) es [] pos) (bM cs f):=λ K aa aa hc k=>
 wpAny_Call_ofName (pX W K g hk hd (gL W K kp a hc λ us vs w S p hv=>hf (K.up w S) p hv k))
def rT(Γ:dv)(fv:Value)(f:List AV->U->PV->Prop):Prop:=
 ∀(A:Around)(E:Value->Shared->Prop)(w:St Γ){x:List AV}{v:List Value}{P:PV}{Q:Value->Shared->Prop},jt Γ.d A->w.Rs x v->f x w.σ P->(∀u y(w':St Γ),w.Le w'->P y w'.σ->w'.R y u->Q u w'.s)->
  codeAny Γ.M A (.call fv ⟨v,[]⟩) (λ r s'=>match r with|.ok (.ret v)=>Q v s'|.ok _=>False|.error e=>E e s') w.s
theorem rT.v{fv:Value}{f:List AV->U->PV->Prop}(h:rT Γ fv f):jv Γ fv λ σ P x=>f x σ P:=λ K aa aa aa aa hc hv k=>wpAny_call (h K.A K.E K.w K.R hv hc λ u y w S p h=>k u y w (K.S.tr S) p h)
def nH(Γ:dv):Prop:=∀f:Fn,rT Γ (.ref f.bw) (Γ.F.call f)
def gY(f:Fn)(cs:List AE):AE:=λ F ρ σ P=>jT cs F ρ σ λ vs σ=>F.call f vs σ P
inductive bF(m:String)(σ:U)(P:Nat->Fn->Prop):AV->Prop
 |mk {l:Nat} {c:d_} {kvs:List (String×AV)} {f:Fn}:σ[l]?=some (.inst c)->σ[l+1]?=some (.dS kvs)->bD kvs m=none->wU c m=some f->P l f->bF m σ P (.ref l)
def bU(o:AE)(m:String)(cs:List AE):AE:=λ F ρ σ P=>o F ρ σ λ ov σ=>bF m σ (λ l f=>jT cs F ρ σ λ vs σ=>F.call f (.ref l::vs) σ P) ov
theorem Hw{G:bC}(W:Wd G)(f:Fn):keepIn G.K (.ref f.bw)=true:=by
 have:=W.fn f;unfold fnIn at this;unfold keepIn;split at this
 ·rename_i e;simp only [e]
 ·cases this
theorem dN(W:Wd Γ.G)(O:nH Γ){x:String}{f:Fn}{np pos:Pos}{es:List Expr}{cs:List AE}(g:cA Γ.G x (.ref f.bw))(hk:Γ.sc.names.lookup (Str.ofString x)=some .globalImplicit)(hd:(Str.ofString x==("__debug__":Str))=false)
  (a:fD Γ es cs):bf Γ (.Call (.Name (Str.ofString x) np) es [] pos) (gY f cs):=ba (f:=λ σ P x=>Γ.F.call f x σ P) W g hk hd (o8 (Hw W f)) a (O f).v
def MFm(o:Expr)(m:String)(apos pos:Pos)(es:List Expr)(pl:Env->Sem Bool):Prop:=eval (.Call (.Attribute o (Str.ofString m) apos) es [] pos)=λ env=>(do
   let ov<-eval o env
   standAt apos.atName
   let(f,first)<-holding [ov] (getMethod ov (Str.ofString m) (pl env))
   callWith pos f first (backTo pos (starEach es env)) [])
def gH(o:Expr)(m:String)(apos pos:Pos)(es:List Expr):Prop:=∃pl,MFm o m apos pos es pl
theorem gH.mk{o:Expr}{m:String}{apos pos:Pos}{es:List Expr}(pl:Env->Sem Bool)(h:MFm o m apos pos es pl):gH o m apos pos es:=⟨pl,h⟩
theorem bu(W:Wd Γ.G)(O:nH Γ){o:Expr}{m:String}{apos pos:Pos}{es:List Expr}{c:AE}{cs:List AE}(ho:bf Γ o c)(a:fD Γ es cs)
  (he:gH o m apos pos es):bf Γ (.Call (.Attribute o (Str.ofString m) apos) es [] pos) (bU c m cs):=by
 intro K P Q hc k;refine d9 he λ pl he=>MethodCall_ (pl:=pl K.env) (ho K.r hc λ ov v w S p hv=>?_) (congrFun he _);revert hv;induction p with
 |mk h1 h2 i8 hf p=>
  intro hv;apply hv.kr;intro a' hl;induction w.inst hl h1 h2 with
  |mk b kvs' qW n hb ho hd hp hkr I=>refine method_fn (w.X W) I (W.nD _) (W.Hs _) (W.C8 _ m _ hf) (W.wV _) (by show(getL _ qW).map _=_;rw [Hv hp,(hkr.get (λ aa aa=>cH) m).2 i8];rfl) ?_;exact gL W (K.up w S) (o8 (Hw W _)) a p λ us vs dW d1 p ef=>(O _).v (K.up dW (S.tr d1)) p (.cons (.ref (d1.ext _ _ hl)) ef) k
end
end
section
set_option genInjectivity false
set_option genSizeOf false
section
variable{Γ:dv}
def bX(a:AE):AT:=λ F ρ σ P=>a F ρ σ λ v σ=>wZ v λ b=>P b σ
def I8(a:AT):AT:=λ F ρ σ P=>a F ρ σ λ b σ=>P (!b) σ
def vT(a b:AT):AT:=λ F ρ σ P=>a F ρ σ λ x σ=>if x then b F ρ σ P else P false σ
def qX(a b:AT):AT:=λ F ρ σ P=>a F ρ σ λ x σ=>if x then P true σ else b F ρ σ P
def CB:AT:=λ _ _ σ P=>P true σ
def o9:AT:=λ _ _ σ P=>P false σ
theorem Cx.Ws(K:Cx Γ){P:Bool->U->Prop}{Q:Bool->Shared->Prop}(k:K.KB P Q):K.KV (λ v σ=>wZ v λ b=>P b σ) λ u s=>wpAny Γ.M K.A (truthy u) Q K.E s:=by intro u v w S p hv;obtain ⟨b,rfl,p⟩:=p.k;apply hv.kb;exact wpAny_truthy_bool (k b w S p)
theorem tY{e:Expr}{a:AE}(ha:bf Γ e a)(he:∀env whole,PySem.isTrue e env whole=(do let v<-whole;standAt e.pos;holding [v] (truthy v))):kI Γ e (bX a):=
 λ K aa aa hc k=>wpAny_isTrue_value (ha K hc (K.Ws k)) (he _ _)
theorem bh{l r:Expr}{op:CmpOp}{pos:Pos}{a b:AE}{f:O2}(ha:bf Γ l a)(hb:bf Γ r b)(ho:iR Γ (compareOp op) f)(hm:behindInMarks op r=false):kI Γ (.Compare l [op] [r] pos) (bX (aB a b f)):=
 λ K aa aa hc k=>wpAny_isTrue_Compare1 (tX K ha hb ho hc (K.Ws k)) hm
theorem yV{e:Expr}{pos:Pos}{a:AT}(ha:kI Γ e a):kI Γ (.UnaryOp .Not e pos) (I8 a):=λ K aa aa hc k=>wpAny_isTrue_Not (ha K hc λ b w S p=>k _ w S p)
inductive o_(Γ:dv):List Expr->AT->Prop
 |nil:o_ Γ [] CB
 |cons {e:Expr} {es:List Expr} {a b:AT}:kI Γ e a->o_ Γ es b->o_ Γ (e::es) (vT a b)
inductive tZ(Γ:dv):List Expr->AT->Prop
 |nil:tZ Γ [] o9
 |cons {e:Expr} {es:List Expr} {a b:AT}:kI Γ e a->tZ Γ es b->tZ Γ (e::es) (qX a b)
theorem o_.bW{es:List Expr}{a:AT}(x:o_ Γ es a):∀(K:Cx Γ){P:Bool->U->Prop}{Q:Bool->Shared->Prop},a Γ.F K.ρ K.w.σ P->K.KB P Q->K.wp (allTrue .And es K.env) Q:=by
 induction x with
 |nil=>exact λ K aa aa hc k=>wpAny_allTrue_And_nil (k _ K.w K.S hc)
 |cons h1 _ ih=>
  exact λ K aa aa hc k=>wpAny_allTrue_And_cons (h1 K.r hc λ b w S p=>by
   cases b with
   |true=>exact ih (K.up w S) p k
   |false=>exact k _ w (K.S.tr S) p)
theorem tZ.bW{es:List Expr}{a:AT}(x:tZ Γ es a):∀(K:Cx Γ){P:Bool->U->Prop}{Q:Bool->Shared->Prop},a Γ.F K.ρ K.w.σ P->K.KB P Q->K.wp (allTrue .Or es K.env) Q:=by
 induction x with
 |nil=>exact λ K aa aa hc k=>wpAny_allTrue_Or_nil (k _ K.w K.S hc)
 |cons h1 _ ih=>
  exact λ K aa aa hc k=>wpAny_allTrue_Or_cons (h1 K.r hc λ b w S p=>by
   cases b with
   |true=>exact k _ w (K.S.tr S) p
   |false=>exact ih (K.up w S) p k)
theorem yW{es:List Expr}{pos:Pos}{a:AT}(x:o_ Γ es a):kI Γ (.BoolOp .And es pos) a:=λ K aa aa hc k=>wpAny_isTrue_BoolOp (x.bW K hc k)
theorem rU{es:List Expr}{pos:Pos}{a:AT}(x:tZ Γ es a):kI Γ (.BoolOp .Or es pos) a:=λ K aa aa hc k=>wpAny_isTrue_BoolOp (x.bW K hc k)
def Df(a b c:AE):AT:=λ F ρ σ P=>a F ρ σ λ x σ=>b F ρ σ λ y σ=>o7 (λ m n T=>if m<=n then T .none else P false σ) σ (λ _ σ=>c F ρ σ λ z σ=>o7 (λ n o T=>P (decide (n<o)) σ) σ (λ aa aa=>True) y z) x y
theorem Gr{l m r:Expr}{pos:Pos}{a b c:AE}(ha:bf Γ l a)(hb:bf Γ m b)(hc:bf Γ r c)(hm:lastMarks [.LtE,.Lt] [m,r]=false):kI Γ (.Compare l [.LtE,.Lt] [m,r] pos) (Df a b c):=by
 refine λ K P Q h k=>isTrue_chain (ha K.r h λ v x yU l9 p hv=>test_link (hb (K.up yU l9).r p λ u y dW d1 p' hu=>?_)) hm;have hv:=hv.up d1;revert hv hu;cases p' with
 |@mk m n p=>
  intro hu hv;apply hv.ki;intro t;apply hu.ki;intro t';refine PyProof.Rows.le_int (wpAny_truthy_bool ?_);by_cases hle:m<=n
  ·rw [if_pos hle]at p;refine ae (if_pos (decide_eq_true hle)) ?_;refine test_last (hc (K.up dW (l9.tr d1)).r p λ u z nI pY p hz=>?_);revert hz;cases p with
   |mk p=>intro hz;apply hz.ki;intro t'';exact PyProof.Rows.lt_int (wpAny_truthy_bool (k _ nI (K.S.tr ((l9.tr d1).tr pY)) p))
  ·rw [if_neg hle]at p;refine ae (if_neg (by simpa using hle)) ?_;exact k _ dW (K.S.tr (l9.tr d1)) p
def qY(t:AT)(a b:AE):AE:=λ F ρ σ P=>t F ρ σ λ x σ=>if x then a F ρ σ P else b F ρ σ P
theorem fY{t x y:Expr}{pos:Pos}{tt:AT}{a b:AE}(ht:kI Γ t tt)(ha:bf Γ x a)(hb:bf Γ y b):bf Γ (.IfExp t x y pos) (qY tt a b):=λ K aa aa hc k=>
 wpAny_IfExp (ht K.r hc λ c w S p=>by
  cases c with
  |true=>exact ha (K.up w S) p k
  |false=>exact hb (K.up w S) p k)
def PK(a b:AE):AE:=λ F ρ σ P=>a F ρ σ λ x σ=>wZ x λ c=>if c then b F ρ σ P else P (.bool false) σ
theorem Hx{x y:Expr}{pos:Pos}{a b:AE}(ha:bf Γ x a)(hb:bf Γ y b):bf Γ (.BoolOp .And [x,y] pos) (PK a b):=λ K aa aa hc k=>wpAny_And2 (ha K.r hc λ u aa w S p hu=>by
 obtain ⟨c,rfl,p⟩:=p.k;apply hu.kb;refine wpAny_truthy_bool ?_;cases c with
 |true=>exact hb (K.up w S) p k
 |false=>exact k _ _ w (K.S.tr S) p (.bool false))
end
noncomputable def jU(ρ:dy)(x:String)(v:AV):dy:=λ y=>if y=x then some v else ρ y
section
variable{Γ:dv}
theorem mX{h h':Heap}{lam:List Addr}{b:Addr}(hs:Heap.SameBut b h h')(S5:∀o items n,h.get? b=some o->o.data≠.seq items n):Kx h lam h' lam:=
 ⟨.refl _,λ a o items n aa hc hd ho=>by
  by_cases e:a=b
  ·subst e;exact absurd hd (S5 _ _ _ ho)
  ·refine ae (hs.2 a e) ?_;exact ho,λ aa h=>.inl h⟩
theorem HS.CC{G:bC}{s:Shared}{lam:List Addr}{σ:U}{h':Heap}{b:Addr}{tk:Nat}(H:HS G s lam σ)(hs:Heap.SameBut b s.heap h')(hb:b∉lam)(h0:G.h₀.get? b=none)
  (S5:∀o items n,s.heap.get? b=some o->o.data≠.seq items n):HS G {s with heap:=h',toks:=tk} lam σ:=by
 have kc:Kx s.heap lam h' lam:=mX hs S5;refine ⟨λ a o e=>?_,H.gens,H.os,H.len,H.nodup,H.above,λ l a ao h1 h2=>?_⟩
 ·have:a≠b:=λ e'=>by subst e';rw [h0]at e;cases e
  refine (?_:h'.get? a=some o);refine ae (hs.2 a this) ?_;exact H.base a o e
 ·have:a≠b:=λ e'=>hb (e'▸List.mem_of_getElem? h1);exact (H.gJ l a ao h1 h2).keep (λ o e=>by refine (?_:h'.get? a=some o);refine ae (hs.2 a this) ?_;exact e) kc
theorem l_{h:Heap}{L:Addr}{m:Str->Option Value}(hn:h.Ns L m):∀o items n,h.get? L=some o->o.data≠.seq items n:=λ o items n e hd=>by refine rH hn λ o' es ep ho uI aa=>?_;rw [e]at ho;cases ho;rw [hd]at uI;cases uI
theorem uJ{h:Heap}{c:Addr}{v:Option Value}(hn:h.IsCell c v):∀o items n,h.get? c=some o->o.data≠.seq items n:=λ o items n e hd=>by refine bA hn λ o' ho uI=>?_;rw [e]at ho;cases ho;rw [hd]at uI;cases uI
theorem pZ{h:Heap}{c:Addr}{v:Option Value}{m:Str->Option Value}(hn:h.IsCell c v)(hm:h.Ns c m):False:=by refine bA hn λ o' ho uI=>?_;refine rH hm λ o es ep ix hd aa=>?_;rw [ho]at ix;cases ix;rw [hd]at uI;cases uI
theorem zN(ρ:dy)(x:String)(v:AV):jU ρ x v x=some v:=if_pos rfl
theorem t_{ρ:dy}{x y:String}{v:AV}(h:y≠x):jU ρ x v y=ρ y:=if_neg h
theorem w8(K:Cx Γ){x:String}{av:AV}{v:Value}{P:dy->U->Prop}{Q:Unit->Shared->Prop}(hv:K.w.R av v)(hk:Γ.sc.names.lookup (Str.ofString x)=some .local)(k:K.KU P Q)(p:P (jU K.ρ x av) K.w.σ):
  K.wp (storeName K.env (Str.ofString x) v) Q:=by
 refine bA K.F.o4 λ m hn hm=>?_;refine wpAny_storeName_local (K.kind hk) hn (λ h' fK hs=>?_) (by refine ae K.ok.scope<|ae K.ok.kind ?_;rfl);have kt:Kx K.w.s.heap K.w.lam h' K.w.lam:=mX hs (l_ hn);refine k _ ⟨_,_,_,K.w.H.CC (tk:=K.w.s.toks+1) hs K.F.new K.F.base (l_ hn)⟩ ⟨⟨_,fK,λ y bv nJ hy=>?_⟩,λ y nJ=>?_,K.F.apart,K.F.new,K.F.base,λ p hp=>d9 (K.F.cells p hp) λ v hv=>⟨v,hv.sameBut hs λ e=>pZ hv (e▸hn)⟩⟩
  (c_.trans K.T ⟨kt,λ a o aa hw e=>(hs.2 a λ e'=>hw (.inl e')).trans e,λ a o e=>?_⟩) p
 ·by_cases jn:y=x
  ·subst jn;rw [zN]at hy;cases hy;exact ⟨v,if_pos rfl,hv.bo kt⟩
  ·rw [t_ jn]at hy;exact bA (hm y bv nJ hy) λ u h1 h2=>⟨u,(if_neg λ e=>jn (cH e)).trans h1,h2.bo kt⟩
 ·refine oM (K.F.cell y nJ) λ c ov h1 h2 h3 h4=>⟨c,ov,h1,h2.sameBut hs (λ e=>pZ h2 (e▸hn)),h3,λ bv hy=>?_⟩
  rw [t_ (λ e=>by subst e;rw [K.kind hk]at nJ;rcases nJ with nJ|nJ;cases nJ;cases nJ.1)]at hy;exact bA (h4 bv hy) λ u e1 e2=>⟨u,e1,e2.bo kt⟩
 ·by_cases ha:a=K.env.locals
  ·subst ha;exact CY fK λ o' es ep ix aa=>⟨o',ix⟩
  ·exact ⟨o,(hs.2 a ha).trans e⟩
theorem Md(K:Cx Γ){x:String}{av:AV}{v:Value}{P:dy->U->Prop}{Q:Unit->Shared->Prop}(hv:K.w.R av v)(hk:Γ.sc.names.lookup (Str.ofString x)=some .cell)(Wt:l8 Γ.sc=false)(k:K.KU P Q)(p:P (jU K.ρ x av) K.w.σ):
  K.wp (storeName K.env (Str.ofString x) v) Q:=by
 refine oM (K.F.cell x (.inl (K.kind hk))) λ c ov h1 h2 h3 h4=>?_;refine wpAny_storeName_cell K.fn (K.kind hk) h1 h2 λ h' mL hs=>?_;have kt:Kx K.w.s.heap K.w.lam h' K.w.lam:=mX hs (uJ h2);refine bA K.F.o4 λ m hn hm=>?_;refine k _ ⟨_,_,_,K.w.H.CC (tk:=K.w.s.toks) hs (K.w.H.yQ h2) h3 (uJ h2)⟩ ⟨⟨m,hn.sameBut hs (λ e=>pZ h2 (e▸hn)),λ y bv nJ hy=>?_⟩,λ y nJ=>?_,K.F.apart,K.F.new,K.F.base,λ p hp=>?_⟩
  (c_.trans K.T ⟨kt,λ a o aa hw e=>(hs.2 a λ e'=>hw (.inr ⟨K.ok.own Wt,List.mem_map.mpr ⟨_,mem_of_lookup h1,e'.symm⟩⟩)).trans e,λ a o e=>?_⟩) p
 ·rw [t_ (λ e=>by subst e;rw [K.kind hk]at nJ;cases nJ)]at hy;exact bA (hm y bv nJ hy) λ u e1 e2=>⟨u,e1,e2.bo kt⟩
 ·by_cases jn:y=x
  ·subst jn;refine ⟨c,some v,h1,mL,h3,λ bv hy=>?_⟩;rw [zN]at hy;cases hy;exact ⟨v,rfl,hv.bo kt⟩
  ·refine oM (K.F.cell y nJ) λ c' ov' g1 g2 g3 g4=>⟨c',ov',g1,g2.sameBut hs (λ e=>jn (cH (name_of_addr K.F.apart (mem_of_lookup g1) (e▸mem_of_lookup h1)))),g3,λ bv hy=>?_⟩
   rw [t_ jn]at hy;exact bA (g4 bv hy) λ u e1 e2=>⟨u,e1,e2.bo kt⟩
 ·by_cases e:p.2=c
  ·exact ⟨_,e▸mL⟩
  ·exact d9 (K.F.cells p hp) λ v hv=>⟨v,hv.sameBut hs e⟩
 ·by_cases ha:a=c
  ·subst ha;exact bA mL λ o' ix aa=>⟨o',ix⟩
  ·exact ⟨o,(hs.2 a ha).trans e⟩
def a_(x:String):AG:=λ _ v ρ σ P=>P (jU ρ x v) σ
theorem aG{x:String}{pos:Pos}(hk:Γ.sc.names.lookup (Str.ofString x)=some .local):i7 Γ (.Name (Str.ofString x) pos) (a_ x):=λ K aa aa aa aa p hv k=>wpAny_assign_Name (w8 K hv hk k p)
theorem p6{x:String}{pos:Pos}(hk:Γ.sc.names.lookup (Str.ofString x)=some .cell)(Wt:l8 Γ.sc=false):i7 Γ (.Name (Str.ofString x) pos) (a_ x):=λ K aa aa aa aa p hv k=>wpAny_assign_Name (Md K hv hk Wt k p)
end
end
section
set_option genInjectivity false
set_option genSizeOf false
section
variable{prog:Program} {w:World}
theorem aac{x:Str}{v:Value}(h:v.isStr x=true):(dR prog w).is x v=true:=by refine ae lT ?_;exact h
theorem qZ{es:List DictEntry}(x:Str):(es.findIdx? λ e=>(dR prog w).is x e.key)=es.findIdx? λ e=>e.key.isStr x:=by congr 1;funext e;exact lT
theorem Ur{x:Str}{t:Tok}{v:Value}{es:List DictEntry}{kvs:List (Str×Value)}(hk:KeysOf (dR prog w) es.toArray)(hp:Pairs (dR prog w) es kvs)(hn:(kvs.map (·.1)).Nodup):
  KeysOf (dR prog w) (putL x (PyData.keyHash w.params x) (.str x t) v es).toArray/\Pairs (dR prog w) (putL x (PyData.keyHash w.params x) (.str x t) v es) (stored kvs x v)/\((stored kvs x v).map (·.1)).Nodup:=by
 have fE:(dR prog w).is x (.str x t)=true:=strKind_is prog w x t;rw [<-putL_find];have rV:=hp.findIdx x;rw [qZ]at rV;cases hi:es.findIdx? (λ e=>e.key.isStr x)with
 |some i=>
  rw [hi]at rV;dsimp only;have e1:stored kvs x v=kvs.map λ kv=>if kv.1=x then(kv.1,v)else kv:=by rw [stored,if_pos (any_of_findIdx_some rV.symm)]
  have e2:(es.modify i λ e=>⟨e.hash,e.key,v⟩)=es.modify i λ e=>{e with val:=v}:=rfl;refine ⟨?_,?_,?_⟩
  ·have:=KeysOf.modify (knd:=dR prog w) hk i v;refine ae e2 ?_;simpa using this
  ·refine ae e1<|ae e2 ?_;exact hp.modify hn (by rw [qZ];exact hi) v
  ·refine ae e1 ?_;have:(kvs.map λ kv=>if kv.1=x then(kv.1,v)else kv).map (·.1)=kvs.map (·.1):=by refine ae List.map_map ?_;congr 1;funext kv;simp only [Function.comp];split<;>rfl
   refine ae this ?_;exact hn
 |none=>
  rw [hi]at rV;dsimp only;have abE:¬(kvs.any λ kv=>decide (kv.1=x))=true:=by intro ha;refine bA (List.any_eq_true.mp ha) λ y hy hd=>?_;have:=(List.findIdx?_eq_none_iff.mp rV.symm) y hy;rw [hd]at this;cases this
  have e1:stored kvs x v=kvs++[(x,v)]:=if_neg (by assumption);refine ⟨?_,?_,?_⟩
  ·intro e he;simp only [List.mem_toArray,List.mem_append,List.mem_singleton]at he;rcases he with he|rfl
   ·exact hk e (by simpa using he)
   ·exact ⟨x,fE,rfl⟩
  ·refine ae e1 ?_;exact hp.append fE _ v
  ·rw [e1,List.map_append,List.nodup_append];refine ⟨hn,by simp,λ a ha b hb e=>?_⟩;simp at hb;subst hb;subst e;obtain ⟨y,hy,rfl⟩:=List.mem_map.mp ha;exact abE (List.any_eq_true.mpr ⟨y,hy,decide_eq_true rfl⟩)
end
section
variable{G:bC} {d:Nat} {sc:Scope}
theorem Gs(W:Wd G){A:Around}{E:Value->Shared->Prop}{s:Shared}{a b:Addr}{c:d_}{x:String}{v:Value}{es:List DictEntry}{n:Nat}{Q:Unit->Shared->Prop}(X:G.K.In s.heap)(I:PySem.W.InstAt s.heap a (instObj c.bw b) c.bw (some (dictOf es n)))
  (hb:s.heap.get? b=some (dictOf es n))(i8:es.any (·.refKey)=false)(fP:(fT c).contains x=true)(hz:∀k:Value,(putL (Str.ofString x) (PyData.keyHash G.w.params (Str.ofString x)) k v es).length<=1000)
  (h:Q () {s with heap:=s.heap.update b (Obj.putName (Str.ofString x) (PyData.keyHash G.w.params (Str.ofString x)) (.str (Str.ofString x) (s.toks+1)) v),toks:=s.toks+2}):
  wpAny (model G.prog G.w) A (setAttr (.ref a) (Str.ofString x) v) Q E s:=by
 refine set_plain X I (W.Ht c) ?_;have I':=I;obtain ⟨hx,-,-,-⟩:=I';have ht:takerIn G.K c.bw (Str.ofString x)=some none:=by unfold takerIn;rw [W.PC c x fP];rfl
 refine osa_open (s:={s with toks:=s.toks+1}) X I (W.Wi c) ht λ bb=>?_;refine bA (any_some (W.hasDict c)) λ cd hc uI=>?_;dsimp only;refine wpAny_bind (wpAny_pure (wpAny_bind (wpAny_bind (wpAny_loadPart hx (wpAny_bind (Looks.here (s:={s with toks:=s.toks+1}) (looks_clsIn X hc) ?_))))));rw [uI];refine wpAny_pure (a:=some b) (wpAny_bind (wpAny_pure (wpAny_bind ?_)));unfold nsSet;refine wpAny_bind (wpAny_bind (wpAny_askSetting (wpAny_pure (wpAny_bind (wpAny_mkText (wpAny_bind (wpAny_loadPart hb ?_)))))));have aae:(!es.toArray.any (·.key.isStr (Str.ofString x))&&es.toArray.any (·.refKey))=false:=by
  have:es.toArray.any (·.refKey)=false:=by simpa using i8
  rw [this,Bool.and_false]
 dsimp only;rw [aRefKeyMayBeTheName_at,aae];refine wpAny_updatePart hb ?_;have fZ:(s.heap.update b (Obj.putName (Str.ofString x) (PyData.keyHash G.w.params (Str.ofString x)) (.str (Str.ofString x) (s.toks+1)) v)).get? b=some (dictOf (putL (Str.ofString x) (PyData.keyHash G.w.params (Str.ofString x)) (.str (Str.ofString x) (s.toks+1)) v es) (putN (Str.ofString x) es n)):=by rw [Heap.get?_update_self _ hb (by rw [putName_dict];rfl),putName_dict]
 refine wpAny_bind (wpAny_lookBehind fZ (pastItsLine_dict (by refine ae List.size_toArray ?_;have:=hz (.str (Str.ofString x) (s.toks+1));have:=dh;lia)) (wpAny_pure h))
end
section
variable{M:Model} {A:Around} {E:Value->Shared->Prop} {s:Shared} {env:Env}
theorem Wu{vs keep:List Value}{Q:Unit->Shared->Prop}(h:Q () s):wpAny M A (release vs keep) Q E s:=λ Γ p hΓ=>by simp only [Sem.wp_release];exact h
theorem acS{α:Type}{pos:Pos}{t:Sem α}{Q:α->Shared->Prop}(h:wpAny M A t Q E s):wpAny M A (standAt pos>>=λ aa=>t) Q E s:=wpAny_bind (wpAny_standAt h)
theorem Gu{o:Expr}{x:Str}{pos:Pos}{v:Value}{Q:Unit->Shared->Prop}
  (h:wpAny M A (eval o env) (λ ov f9=>wpAny M A (setAttr ov x v) Q E f9) E s):wpAny M A (assign (.Attribute o x pos) env v) Q E s:=by
 rw [PySem.assign_Attribute];exact wpAny_bind (wpAny_holding (wpAny_mono h (λ ov f9 gW=>wpAny_bind (wpAny_standAt (wpAny_bind (wpAny_holding (wpAny_mono gW (λ aa aa q=>Wu q) λ aa aa e=>e))))) λ aa aa e=>e))
theorem I9{o i:Expr}{pos:Pos}{v:Value}{Q:Unit->Shared->Prop}
  (h:wpAny M A (eval o env) (λ ov f9=>wpAny M A (eval i env) (λ iv o6=>wpAny M A (setItem ov iv v) Q E o6) E f9) E s):wpAny M A (assign (.Subscript o i pos) env v) Q E s:=by
 rw [PySem.assign_Subscript];exact wpAny_bind (wpAny_holding (wpAny_mono h (λ ov f9 gW=>wpAny_bind (wpAny_holding (wpAny_mono gW (λ iv o6 lD=>wpAny_bind (wpAny_standAt (wpAny_bind (wpAny_holding (wpAny_mono lD (λ aa aa q=>Wu q) λ aa aa e=>e))))) λ aa aa e=>e))) λ aa aa e=>e))
end
section
variable{prog:Program} {w:World} {A:Around} {E:Value->Shared->Prop} {s:Shared}
theorem B8{l:Addr}{items:Array Value}{n:Nat}{k:Int}{t:Tok}{v:Value}{i:Nat}{Q:Unit->Shared->Prop}(hl:IsL s.heap l items n)(hi:i<items.size)
  (hk:k=(i:Int)\/k=(i:Int) -items.size)(gF:items.size<2^62)
  (hQ:∀h',IsL h' l (items.setIfInBounds i v) n->Heap.SameBut l s.heap h'->Q () {s with heap:=h'}):wpAny (model prog w) A (setItem (.ref l) (.int k t) v) Q E s:=by
 have ht:s.TypeIs (.ref l) "list":=IsL.typeIs hl;unfold setItem
 try with_reducible refine wpAny_holding ?_
 first|refine wpAny_bind (wpAny_pure ?_)|skip
 refine wpAny_bind (wpAny_sequenceKey ht (by decide) ?_);refine wpAny_bind (wpAny_callSpecial?_slot (name:=Str.ofString "__setitem__") ht slot_list_setitem
  (wpAny_call_entry slot_list_setitem ht entry_list_setitem ?_ (args_list_setitem _ _ _)))
 refine (?_:wpAny _ _ (Builtin.List.listSubscript? (.int k t)>>=_) _ _ s);have I_:Builtin.List.listFitsIndex k=true:=by
  rcases hk with rfl|rfl
  ·exact fitsIndex_of (by lia) (by lia)
  ·exact fitsIndex_neg (by lia) (by lia)
 refine wpAny_bind (wpAny_listSubscript_int I_ ?_);clear I_;have hx:items[i]?=some items[i]:=Array.getElem?_eq_getElem hi;have Ja:IsL (s.heap.update l (Obj.mapSeq (·.setIfInBounds i v))) l (items.setIfInBounds i v) n:=by refine (?_:Heap.get? _ _=_);refine ae (Heap.get?_update_self _ hl rfl) ?_;simp [Obj.mapSeq]
 rcases hk with rfl|rfl
 ·refine (?_:wpAny _ _ ((seqItemAt l i>>=λ r=>pure (r.map (i,·)))>>=_) _ _ s);refine wpAny_bind (wpAny_bind (wpAny_seqItemAt hl rfl (wpAny_pure ?_)));refine ae hx ?_;refine (?_:wpAny _ _ (setSeqItemAt l i v>>=_) _ _ s);refine wpAny_bind (wpAny_setSeqItemAt hl rfl ?_)
  first
   |exact wpAny_bind (wpAny_pure (wpAny_pure ⟨.none,rfl,wpAny_pure (hQ _ Ja (Heap.SameBut.update ..))⟩))
   |exact wpAny_pure ⟨.none,rfl,wpAny_pure (hQ _ Ja (Heap.SameBut.update ..))⟩
 ·have h0:(i:Int) -items.size<0:=by lia
  have rV:=seqIndex_neg (k:=(i:Int) -items.size) (n:=items.size) h0 (by lia);have he:((i:Int) -items.size+items.size).toNat=i:=by lia
  rw [he]at rV;generalize (i:Int) -items.size=k at*;obtain ⟨j,rfl⟩:∃j:Nat,k=Int.negSucc j:=by
   cases k with
   |ofNat n=>exact absurd h0 (Int.not_lt.mpr (Int.natCast_nonneg n))
   |negSucc n=>exact ⟨n,rfl⟩
  refine (?_:wpAny _ _ ((Builtin.List.listItems (.ref l)>>=λ xs=>pure ((seqIndex? (Int.negSucc j) xs.size).bind λ i=>xs[i]?.map (i,·)))>>=_) _ _ s);refine wpAny_bind (wpAny_bind ?_);refine (?_:wpAny _ _ (seqItems? (.ref l)>>=_) _ _ s);refine wpAny_bind (wpAny_seqItems hl rfl (wpAny_pure (wpAny_pure ?_)));refine ae rV ?_;simp only [Option.bind_some,hx,Option.map_some];refine (?_:wpAny _ _ (setSeqItemAt l i v>>=_) _ _ s);refine wpAny_bind (wpAny_setSeqItemAt hl rfl ?_)
  first
   |exact wpAny_bind (wpAny_pure (wpAny_pure ⟨.none,rfl,wpAny_pure (hQ _ Ja (Heap.SameBut.update ..))⟩))
   |exact wpAny_pure ⟨.none,rfl,wpAny_pure (hQ _ Ja (Heap.SameBut.update ..))⟩
end
theorem PL(x:Str)(hs:Int)(k v:Value)(es:List DictEntry):(putL x hs k v es).length<=es.length+1:=by
 induction es with
 |nil=>exact Nat.le_refl _
 |cons e r ih=>
  unfold putL;split
  ·simp
  ·simp only [List.length_cons];exact Nat.lt_succ_of_le ih
noncomputable def Dg:AV->Option AK
 |.int i=>some (.i i)
 |.str x=>some (.s x)
 |_=>none
noncomputable def hU:List AV->Option (List AK)
 |[]=>some []
 |a::r=>match Dg a,hU r with
  |some k,some ks=>some (k::ks)
  |_,_=>none
section
variable{prog:Program} {w:World} {h:Heap} {lam:List Addr}
theorem bB.set{x:AV}{v:Value}(hv:VR h lam x v){cT vs}(y:bB h lam cT vs):∀(j:Nat),bB h lam (cT.set j x) (vs.set j v):=by
 refine y.ind (λ cT vs=>∀j:Nat,bB h lam (cT.set j x) (vs.set j v)) (λ aa=>.nil) λ h1 h2 ih j=>?_;cases j with
 |zero=>exact .cons hv h2
 |succ j=>exact .cons h1 (ih j)
theorem Us{av:AV}{v:Value}{k:AK}(hv:VR h lam av v)(e:Dg av=some k):(oZ prog w).is k v=true:=by
 have:IW k v=true:=by
  cases hv<;>simp only [Dg,reduceCtorEq,Option.some.injEq]at e
  ·subst e;exact if_pos rfl
  ·rename_i x X t hx;subst e;subst hx;exact if_pos rfl
 exact this
theorem PM{cT:List AV}{vs:List Value}{ks:List AK}(hv:bB h lam cT vs)(e:hU cT=some ks):ItemsAre (oZ prog w) ks vs:=by
 induction cT generalizing vs ks with
 |nil=>cases hv;cases e;exact .nil
 |cons a r ih=>
  cases hv with
  |cons h1 h2=>
   unfold hU at e;split at e
   ·rename_i k ks' e1 e2;cases e;exact .cons (Us h1 e1) (ih h2 e2)
   ·cases e
theorem j'{cT:List AV}{a:Addr}{ks:List AK}(hv:VR h lam (.tup cT) (.ref a))(e:hU cT=some ks):(cI prog w).is h ks a:=by
 cases hv with
 |tup ht ef=>exact ⟨_,_,_,ht.2,rfl,rfl,PM ef e⟩
theorem KT.get{kvs:List (List AK×AV)}{xs}(x:KT h lam kvs xs)(k:List AK):
  (∀av,bD kvs k=some av->∃p,atKey xs k=some p/\VR h lam av p.2)/\(bD kvs k=none->atKey xs k=none):=by
 induction x with
 |nil=>exact ⟨λ av e=>by simp [bD]at e,λ aa=>rfl⟩
 |@cons k0 Dd a0 v0 r r' hv _ ih=>
  by_cases hk:k0=k
  ·subst hk;refine ⟨λ av e=>?_,λ e=>?_⟩
   ·simp [bD]at e;subst e;exact ⟨(a0,v0),by simp [atKey],hv⟩
   ·simp [bD]at e
  ·have e1:bD ((k0,Dd)::r) k=bD r k:=by simp [bD,List.find?_cons,hk]
   have e2:atKey ((k0,a0,v0)::r') k=atKey r' k:=by simp [atKey,List.find?_cons,hk]
   refine ae e1<|ae e2 ?_;exact ih
theorem PN{K:Type}[DecidableEq K](kvs:List (K×AV))(k:K):(bD kvs k).isSome=kvs.any λ kv=>decide (kv.1=k):=by
 induction kvs with
 |nil=>rfl
 |cons a r ih=>
  by_cases hk:a.1=k
  ·simp [bD,hk]
  ·have:bD (a::r) k=bD r k:=by simp [bD,List.find?_cons,hk]
   refine ae this<|ae ih ?_;simp [hk]
theorem KT.append{a b:List (List AK×AV)}{a' b'}(x:KT h lam a a')(y:KT h lam b b'):KT h lam (a++b) (a'++b'):=by
 induction x with
 |nil=>exact y
 |cons hv _ ih=>exact .cons hv ih
theorem KT.De{kvs:List (List AK×AV)}{xs}(x:KT h lam kvs xs)(k:List AK){av:AV}{v:Value}(hv:VR h lam av v):
  KT h lam (kvs.map (λ kv=>if kv.1=k then(kv.1,av)else kv)) (xs.map (putAt k v)):=by
 induction x with
 |nil=>exact .nil
 |@cons k0 Dd a0 v0 r r' Wo _ ih=>
  simp only [List.map_cons];by_cases hk:k0=k
  ·subst hk;simp only [putAt,if_true];exact .cons hv ih
  ·simp only [putAt,hk,if_false];exact .cons Wo ih
theorem KT.set{kvs:List (List AK×AV)}{xs}(x:KT h lam kvs xs)(k:List AK){av:AV}{v:Value}{a:Addr}(hv:VR h lam av v):KT h lam (dY kvs k av) (storedH xs k a v):=by
 unfold dY storedH;rw [<-PN];cases hg:bD kvs k with
 |some u=>
  refine bA ((x.get k).1 u hg) λ p hp aa=>?_;refine ae hp ?_;exact x.De k hv
 |none=>refine ae ((x.get k).2 hg) ?_;exact x.append (.cons hv .nil)
theorem uK{xs:List (List AK×Addr×Value)}{k:List AK}{a:Addr}{v:Value}(h:∀x∈xs,x.2.1∉lam)(ha:a∉lam):∀x∈storedH xs k a v,x.2.1∉lam:=λ x hx=>by
 unfold storedH at hx;split at hx
 ·obtain ⟨y,hy,rfl⟩:=List.mem_map.mp hx;have:=h y hy;unfold putAt;split<;>exact this
 ·rcases List.mem_append.mp hx with hx|hx
  ·exact h x hx
  ·simp at hx;subst hx;exact ha
theorem KT.length{kvs:List (List AK×AV)}{xs}(x:KT h lam kvs xs):kvs.length=xs.length:=by
 induction x with
 |nil=>rfl
 |cons _ _ ih=>exact congrArg _ ih
end
section
variable{Γ:dv}
def OpS(Γ:dv)(t:Value->Value->Sem Unit)(f:AV->U->(U->Prop)->AV->Prop):Prop:=∀(K:Cx Γ){o x:AV}{ov v:Value}{P:U->Prop}{Q:Unit->Shared->Prop},f x K.w.σ P o->K.w.R o ov->K.w.R x v->K.KM P Q->K.wp (t ov v) Q
def Op3(Γ:dv)(t:Value->Value->Value->Sem Unit)(f:AV->U->(U->Prop)->AV->AV->Prop):Prop:=∀(K:Cx Γ){o i x:AV}{ov iv v:Value}{P:U->Prop}{Q:Unit->Shared->Prop},f x K.w.σ P o i->K.w.R o ov->K.w.R i iv->K.w.R x v->K.KM P Q->K.wp (t ov iv v) Q
theorem Cx.km(K:Cx Γ){P:U->Prop}{Q:Unit->Shared->Prop}{s:Shared}{lam:List Addr}{σ:U}(k:K.KM P Q)(HS:HS Γ.G s lam σ/\Step K.w.s K.w.lam s lam)(p:P σ):Q () s:=k ⟨_,_,_,HS.1⟩ (Step.trans K.S HS.2) p
theorem Cx.kum(K:Cx Γ){P:dy->U->Prop}{Q:Unit->Shared->Prop}(k:K.KU P Q):K.r.KM (λ σ=>P K.ρ σ) Q:=λ w S p=>k K.ρ w (FR.step K.F K.w.H S) (c_.trans K.T (Step.toF S w.H)) p
theorem Cx.rW(K:Cx Γ){P:U->Prop}{Q:Unit->Shared->Prop}{l:Nat}{a:Addr}{ao:AO}{h':Heap}{tk:Nat}(k:K.KM P Q)(hl:K.w.lam[l]?=some a)(hs:Heap.SameBut a K.w.s.heap h')(p:P (K.w.σ.set l ao))
  (hr:Kx K.w.s.heap K.w.lam h' K.w.lam->OR Γ.G h' K.w.lam l a ao):Q () {K.w.s with heap:=h',toks:=tk}:=
 K.km k (K.w.H.cM (s':={K.w.s with heap:=h',toks:=tk}) hl hs rfl rfl (hr (Kx.cM (List.mem_of_getElem? hl) hs))) p
inductive bG(x:String)(v:AV)(σ:U)(P:U->Prop):AV->Prop
 |mk {l:Nat} {c:d_} {kvs:List (String×AV)}:σ[l]?=some (.inst c)->σ[l+1]?=some (.dS kvs)->(fT c).contains x=true->kvs.length<=100->P (σ.set (l+1) (.dS (dY kvs x v)))->bG x v σ P (.ref l)
theorem Wv{G:bC}{s:Shared}{b:Addr}{kvs':List (Str×Value)}{es:List DictEntry}{n:Nat}{x:Str}{v:Value}{tk:Nat}(uE:s.heap.get? b=some (dictOf es n))(hd:s.heap.DictOf (dR G.prog G.w) b kvs'):
  (s.heap.update b (Obj.putName x (PyData.keyHash G.w.params x) (.str x tk) v)).DictOf (dR G.prog G.w) b (stored kvs' x v):=by
 refine oM (Mc hd) λ qW n' ix hko hpo rX=>?_;rw [uE]at ix;cases ix;refine Wa (Ur (t:=tk) (v:=v) (x:=x) hko hpo rX) λ g1 g2 g3=>?_;exact ⟨_,_,_,by rw [Heap.get?_update_self _ uE (by rw [putName_dict];rfl),putName_dict],⟨rfl,rfl,rfl⟩,rfl,g1,by simpa using g2,g3⟩
theorem Me(W:Wd Γ.G)(x:String):OpS Γ (λ o v=>setAttr o (Str.ofString x) v) (bG x):=by
 intro K o av ov v P Q hc;induction hc with
 |mk h1 h2 fP hlen p=>
  intro ho hv k;apply ho.kr;intro a hl;induction K.w.inst hl h1 h2 with
  |mk b kvs' es n hb uE hd hp hk I=>
   refine Gs W (K.w.X W) I uE (uF hp) fP (λ k=>?_) ?_
   ·have:=PL (Str.ofString x) (PyData.keyHash Γ.G.w.params (Str.ofString x)) k v es;have:=hk.length;have:es.length=kvs'.length:=hp.length;lia
   ·exact K.rW k hb (.update ..) p λ kc=>.dS (Wv uE hd) ((hk.set (λ aa aa=>cH) x hv).bo kc)
def w9(k:Int)(n j:Nat):Prop:=j<n/\(k=(j:Int)\/k=(j:Int) -n)
inductive cP(x:AV)(σ:U)(P:U->Prop):AV->AV->Prop
 |l {l:Nat} {xs:List AV} {k:Int} {j:Nat}:σ[l]?=some (.list xs)->w9 k xs.length j->P (σ.set l (.list (xs.set j x)))->cP x σ P (.ref l) (.int k)
 |i {l:Nat} {kvs:List (Int×AV)} {k:Int}:σ[l]?=some (.dI kvs)->kvs.length<=10000->P (σ.set l (.dI (dY kvs k x)))->cP x σ P (.ref l) (.int k)
 |s {l:Nat} {kvs:List (String×AV)} {k:String}:σ[l]?=some (.dS kvs)->kvs.length<=10000->P (σ.set l (.dS (dY kvs k x)))->cP x σ P (.ref l) (.str k)
 |t {l:Nat} {kvs:List (List AK×AV)} {ks:List AV} {k:List AK}:σ[l]?=some (.dT kvs)->hU ks=some k->kvs.length<=10000->P (σ.set l (.dT (dY kvs k x)))->cP x σ P (.ref l) (.tup ks)
theorem St.dI(w:St Γ){l:Nat}{a:Addr}{kvs:List (Int×AV)}(hl:w.lam[l]?=some a)(hs:w.σ[l]?=some (.dI kvs)){C:Prop}(k:∀kvs',w.s.heap.DictOf (intKind Γ.G.prog Γ.G.w) a kvs'->KR id w.s.heap w.lam kvs kvs'->kvs.length=kvs'.length->C):C:=by have:=w.H.gJ _ _ _ hl hs;cases this with|dI h1 h2=>exact k _ h1 h2 h2.length
theorem St.dS(w:St Γ){l:Nat}{a:Addr}{kvs:List (String×AV)}(hl:w.lam[l]?=some a)(hs:w.σ[l]?=some (.dS kvs)){C:Prop}(k:∀kvs',w.s.heap.DictOf (dR Γ.G.prog Γ.G.w) a kvs'->KR Str.ofString w.s.heap w.lam kvs kvs'->kvs.length=kvs'.length->C):C:=by have:=w.H.gJ _ _ _ hl hs;cases this with|dS h1 h2=>exact k _ h1 h2 h2.length
theorem St.dT(w:St Γ){l:Nat}{a:Addr}{kvs:List (List AK×AV)}(hl:w.lam[l]?=some a)(hs:w.σ[l]?=some (.dT kvs)){C:Prop}(k:∀xs,w.s.heap.DictOfH (cI Γ.G.prog Γ.G.w) a xs->KT w.s.heap w.lam kvs xs->(∀x∈xs,x.2.1∉w.lam)->kvs.length=xs.length->C):C:=by have:=w.H.gJ _ _ _ hl hs;cases this with|dT h1 h2 h3=>exact k _ h1 h2 h3 h2.length
theorem jt.tk{G:bC}{d:Nat}{A:Around}(R:jt d A):(cI G.prog G.w).room A.in1:=by refine (?_:A.units+1<cLine);have:=R.un;exact bQ this (by simp+arith only)
theorem Mf:Op3 Γ setItem cP:=by
 intro K o i x ov iv v P Q hc;have nK:=dh;induction hc with
 |l hs hj p=>
  intro ho hi hv k;apply ho.kr;intro a hl;apply hi.ki;intro t;have hz:=K.w.lz hl hs;refine K.w.dQ hl hs λ items n h1 h2 hlen=>B8 h1 (hlen▸hj.1) (by refine cQ hlen ?_;exact hj.2) (by lia) λ h' pa w_=>K.rW (tk:=K.w.s.toks) k hl w_ p λ kc=>.list pa (by
   refine ae Array.toList_setIfInBounds ?_;exact bB.set (hv.bo kc) (h2.bo kc) _) (by simpa using hz)
 |i hs hz p=>
  intro ho hi hv k;apply ho.kr;intro a hl;apply hi.ki;intro t;exact K.w.dI hl hs λ kvs' h1 h2 hlen=>wpAny_setItem_pairs (knd:=intKind Γ.G.prog Γ.G.w) (intKind_is _ _ _ _) h1 (λ h' hd w_=>K.rW k hl w_ p λ kc=>.dI hd ((h2.set (λ aa aa e=>e) _ hv).bo kc)) (fJ nK hz (b7 hlen) (by simp+arith only))
 |s hs hz p=>
  intro ho hi hv k;apply ho.kr;intro a hl;apply hi.ks;intro t;exact K.w.dS hl hs λ kvs' h1 h2 hlen=>wpAny_setItem_pairs (knd:=dR Γ.G.prog Γ.G.w) (strKind_is _ _ _ _) h1 (λ h' hd w_=>K.rW k hl w_ p λ kc=>.dS hd ((h2.set (λ aa aa=>cH) _ hv).bo kc)) (fJ nK hz (b7 hlen) (by simp+arith only))
 |t hs hk hz p=>intro ho hi hv k;apply ho.kr;intro a hl;refine K.w.dT hl hs λ xs h1 h2 h3 hlen=>?_;have Ww:=hi;revert Ww;apply hi.kt;intro b zO nn ht ef Ww;exact wpAny_setItem_heap (knd:=cI Γ.G.prog Γ.G.w) (jt.tk K.R) (j' Ww hk) h1 (λ h' hd w_=>K.rW k hl w_ p λ kc=>.dT hd ((h2.set _ hv).bo kc) (uK h3 ht.1)) (fJ nK hz (b7 hlen) (by simp+arith only))
def dD(o:AE)(x:String):AG:=λ F v ρ σ P=>o F ρ σ λ ov σ=>bG x v σ (λ σ=>P ρ σ) ov
def jw(o i:AE):AG:=λ F v ρ σ P=>o F ρ σ λ ov σ=>i F ρ σ λ iv σ=>cP v σ (λ σ=>P ρ σ) ov iv
theorem b9(W:Wd Γ.G){e:Expr}{x:String}{pos:Pos}{o:AE}(ho:bf Γ e o):i7 Γ (.Attribute e (Str.ofString x) pos) (dD o x):=λ K aa aa aa aa hc hv k=>Gu (ho K.r hc λ u aa w S p hu=>Me W x (K.up w S).r p hu (hv.up S) ((K.up w S).kum k))
theorem fg{e i:Expr}{pos:Pos}{o c:AE}(ho:bf Γ e o)(hi:bf Γ i c):i7 Γ (.Subscript e i pos) (jw o c):=λ K aa aa aa aa hc hv k=>I9 (ho K.r hc λ u aa w S p hu=>hi (K.up w S).r p λ j aa dW d1 p hj=>Mf (K.up dW (S.tr d1)).r p (hu.up d1) hj (hv.up (S.tr d1)) ((K.up dW (S.tr d1)).kum k))
end
end
section
set_option genInjectivity false
set_option genSizeOf false
section
variable{prog:Program} {w:World} {A:Around} {E:Value->Shared->Prop}
theorem Mh{it l:Addr}{items:Array Value}(cD:l≠it):∀(n i:Nat)(s:Shared)(Q:List Value->Shared->Prop),s.heap.IsListIter it l i->s.heap.IsList l items->i+n<=items.size->
  (∀h',h'.IsListIter it l (i+n)->Heap.SameBut it s.heap h'->Q ((items.toList.drop i).take n) {s with heap:=h'})->wpAny (model prog w) A (draw (.ref it) n) Q E s:=by
 intro bN;induction bN with
 |zero=>
  intro i s Q hi hl hn hQ;have:=hQ s.heap hi (Heap.SameBut.refl _ _);rw [List.take_zero]at this;exact wpAny_pure this
 |succ n ih=>
  intro i s Q hi hl hn hQ;have hx:items[i]?=some items[i]:=Array.getElem?_eq_getElem (nC hn);unfold draw;refine wpAny_bind (wpAny_pyNext_list_item hi hl hx λ h' nL hs=>?_);have fc:h'.IsList l items:=hl.extBut hs.extBut cD;refine wpAny_bind (wpAny_holding (ih (i+1) _ _ nL fc (bQ hn (by simp+arith only)) λ oi abF Mi=>?_));refine wpAny_pure ?_;have e:(items.toList.drop i).take (n+1)=items[i]::(items.toList.drop (i+1)).take n:=by refine ae (List.drop_eq_getElem_cons (by simpa using(nC hn:i<items.size)))<|ae List.take_succ_cons ?_;simp
  refine cQ e ?_;exact hQ oi (by refine ae (show i+(n+1)=i+1+n by simp+arith only) ?_;exact abF) (hs.trans Mi)
theorem vU{s:Shared}{t:Addr}{items:Array Value}{Q:List Value->Shared->Prop}(hh:A.handled=none)(ht:s.heap.IsList t items)
  (hQ:∀h',Heap.ExtBut s.heap.objs.size s.heap h'->Q items.toList {s with heap:=h'}):wpAny (model prog w) A (unpackItems (.ref t) items.size none) Q E s:=by
 have ed:t≠s.heap.objs.size:=by refine bA ht λ o ho aa=>?_;exact Nat.ne_of_lt (Heap.lt_size ho)
 unfold unpackItems;refine wpAny_bind ?_;unfold notIterableAtAll;refine wpAny_bind (wpAny_specialOf ht.typeIs PySem.F.slot_list_iter.lookup (wpAny_pure ?_));refine ae (if_neg Bool.false_ne_true) ?_;refine wpAny_bind (wpAny_holding (wpAny_pyIter_list ht (wpAny_bind (wpAny_holding (Mh ed items.size 0 _ _ ⟨_,Heap.get?_push_size _ rfl,rfl,rfl⟩ (ht.push _) (by simp+arith only) λ gW hit hs=>?_)))));have abG:(items.toList.drop 0).take items.size=items.toList:=by refine ae List.drop_zero ?_;exact List.take_of_length_le (by simp)
 refine ae abG<|ae (if_neg (by simp)) ?_;have oj:gW.IsList t items:=(ht.push _).extBut hs.extBut ed;refine wpAny_bind (wpAny_holding (wpAny_pyNext_list_end hh hit oj (by simp) λ lD he=>?_));simp only [Option.isSome_none,Bool.false_eq_true,if_false];exact wpAny_pure (hQ lD λ b o hb e=>he b o hb (hs.extBut b o hb (Heap.get?_push_of_some _ e)))
theorem Dh{s:Shared}{env:Env}{elts:List Expr}{k:Nat}{pos:Pos}{v:Value}{Q:Unit->Shared->Prop}(hs:(assignEach elts env).findIdx? (·.1)=none)
  (h:wpAny (model prog w) A (unpackItems v (assignEach elts env).length none) (λ items s'=>wpAny (model prog w) A (assignInOrder ((assignEach elts env).map (·.2)) items) Q E s') E s):
  wpAny (model prog w) A (assign (.Tuple elts k pos) env v) Q E s:=by
 refine (?_:wpAny _ _ (standAt pos>>=λ aa=>unpack v (assignEach elts env)) _ _ _);refine wpAny_bind (wpAny_standAt ?_);unfold unpack;refine ae hs ?_;exact wpAny_bind (wpAny_holding h)
end
section
variable{Γ:dv}
def St.ext(w:St Γ){h':Heap}(he:Heap.ExtBut w.s.heap.objs.size w.s.heap h'):HS Γ.G {w.s with heap:=h'} w.lam w.σ/\Step w.s w.lam {w.s with heap:=h'} w.lam:=
 w.H.i6 (s':={w.s with heap:=h'}) (λ b o e=>he b o (Nat.ne_of_lt (Heap.lt_size e)) e) rfl rfl
inductive di(σ:U)(P:List AV->Prop):AV->Prop
 |t {vs:List AV}:P vs->di σ P (.tup vs)
 |l {l:Nat} {xs:List AV}:σ[l]?=some (.list xs)->P xs->di σ P (.ref l)
theorem xa(K:Cx Γ){av:AV}{v:Value}{n:Nat}{P:List AV->Prop}{Q:List Value->Shared->Prop}(e:di K.w.σ (λ vs=>P vs) av)(hn:∀vs,P vs->vs.length=n)(hv:K.w.R av v)(k:K.KL n (λ vs σ=>σ=K.w.σ/\P vs) Q):
  K.wp (unpackItems v n none) Q:=by
 have kk:∀{us:List Value}{vs:List AV}{h':Heap},vs.length=n->P vs->K.w.Rs vs us->Heap.ExtBut K.w.s.heap.objs.size K.w.s.heap h'->Q us {K.w.s with heap:=h'}:=λ hl p ef he=>
  have h:=K.w.ext he
  k _ _ ⟨_,_,_,h.1⟩ (Step.trans K.S h.2) hl ⟨rfl,p⟩ (ef.bo h.2.kx)
 revert hv;induction e with
 |t p=>
  intro hv;apply hv.kt;intro a items m h1 h2;have e:items.size=n:=by have:=h2.length;have:=hn _ p;simp at*;lia
  exact e▸PySem.wpAny_unpackItems_tuple K.R.h ⟨_,h1.2,rfl,_,rfl⟩ λ h' he=>kk (hn _ p) p h2 he
 |l hx p=>intro hv;apply hv.kr;intro a hl;exact K.w.dQ hl hx λ items m h1 h2 hlen=>(hlen.symm.trans (hn _ p))▸vU K.R.h ⟨_,h1,rfl,_,rfl⟩ λ h' he=>kk (hn _ p) p h2 he
inductive om(Γ:dv):List Expr->List AG->Prop
 |nil:om Γ [] []
 |cons {e:Expr} {es:List Expr} {c:AG} {cs:List AG}:i7 Γ e c->NS e->om Γ es cs->om Γ (e::es) (c::cs)
def bO(vs:List AV)(k:AV->List AV->Prop):Prop:=match vs with
 |v::vs=>k v vs
 |[]=>False
def e8(vs:List AV)(p:Prop):Prop:=match vs with
 |[]=>p
 |_=>False
def yX:List AG->b_->List AV->dy->U->(dy->U->Prop)->Prop
 |[],_,vs,ρ,σ,P=>e8 vs (P ρ σ)
 |g::gs,F,vs,ρ,σ,P=>bO vs λ v vs=>g F v ρ σ λ ρ σ=>yX gs F vs ρ σ P
def eA:Nat->List AV->Prop->Prop
 |0,vs,p=>e8 vs p
 |n+1,vs,p=>bO vs λ aa vs=>eA n vs p
theorem eA.k:∀{n:Nat}{vs:List AV}{p:Prop},eA n vs p->vs.length=n/\p
 |0,[],_,h=>⟨rfl,h⟩
 |n+1,_::vs,_,h=>⟨congrArg Nat.succ (eA.k (n:=n) h).1,(eA.k (n:=n) h).2⟩
def gz(gs:List AG):AG:=λ F v ρ σ P=>di σ (λ vs=>eA gs.length vs (yX gs F vs ρ σ P)) v
theorem om.len{es:List Expr}{cs:List AG}(x:om Γ es cs)(env:Env):(assignEach es env).length=cs.length/\(assignEach es env).findIdx? (·.1)=none:=by
 induction x with
 |nil=>exact ⟨rfl,rfl⟩
 |cons _ hn _ ih=>rw [hn.g];exact ⟨congrArg Nat.succ ih.1,by refine ae List.findIdx?_cons ?_;simp [ih.2]⟩
noncomputable def Cx.zP(K:Cx Γ)(w:St Γ)(S:K.w.Le w):Cx Γ:=K.kG K.ρ w (FR.step K.F K.w.H S) (c_.trans K.T (Step.toF S w.H))
theorem om.bW{es:List Expr}{cs:List AG}(x:om Γ es cs):∀(K:Cx Γ){vs:List AV}{us:List Value}{P:dy->U->Prop}{Q:Unit->Shared->Prop},yX cs Γ.F vs K.ρ K.w.σ P->K.w.Rs vs us->K.KU P Q->
  K.wp (assignInOrder ((assignEach es K.env).map (·.2)) us) Q:=by
 induction x with
 |nil=>
  intro K vs us P Q h hv k;cases hv with
  |nil=>exact assignInOrder_nil (k K.ρ K.w K.F K.T h)
  |cons _ _=>exact h.elim
 |cons h1 hn _ ih=>
  intro K vs us P Q h hv k;rw [hn.g];cases hv with
  |nil=>exact h.elim
  |cons uG uH=>exact assignInOrder_cons (h1 K.rf h uG λ ρ w F T p=>ih (K.kG ρ w F (c_.trans K.T T)) p (bB.bo T.kx uH) k)
theorem d7{es:List Expr}{cs:List AG}{k:Nat}{pos:Pos}(x:om Γ es cs):i7 Γ (.Tuple es k pos) (gz cs):=by intro K v u P Q h hv k;refine CX (x.len K.env) λ h1 h2=>Dh h2 (h1▸xa K.r h (λ aa p=>p.k.1) hv λ us vs w S aa p ef=>?_);obtain ⟨e,p⟩:=p;exact x.bW (K.zP w S) (e▸p.k.2) ef k
def aI(a:AE)(g:AG):AS:=λ F ρ σ P=>a F ρ σ λ v σ=>g F v ρ σ λ ρ σ=>P .next ρ σ
theorem Jb{M:Model}{A:Around}{E:Value->Shared->Prop}{s:Shared}{env:Env}{t value:Expr}{pos:Pos}{Q:Flow->Shared->Prop}(ht:NS t)
  (h:wpAny M A (eval value env) (λ v f9=>wpAny M A (assign t env v) (λ aa=>Q .next) E f9) E s)
  (hs:swapsWithSole [t] value pos.line env=pure false)(hw:swappedStores [t] value env=pure none):wpAny M A (exec (.Assign [t] value pos) env) Q E s:=wpAny_Assign_stores (by rw [ht.g];exact h) hs hw
theorem p7{t e:Expr}{pos:Pos}{a:AE}{g:AG}(ha:bf Γ e a)(hg:i7 Γ t g)(ht:NS t)
  (h1:∀env:Env,env.scope=Γ.sc->swapsWithSole [t] e pos.line env=pure false)(h2:∀env:Env,env.scope=Γ.sc->swappedStores [t] e env=pure none):ju Γ (.Assign [t] e pos) (aI a g):=λ K aa aa hc k=>
 Jb ht (ha K.r hc λ u v w S p hu=>hg (K.zP w S) p hu λ ρ w F T p=>k _ _ ρ w F T p .next) (h1 _ K.ok.scope) (h2 _ K.ok.scope)
theorem aC{t e:Expr}{pos:Pos}{a:AE}{g:AG}(ha:bf Γ e a)(hg:i7 Γ t g)(ht:NS t)(h1:swapsWithSole [t] e pos.line=λ aa=>pure false)(h2:swappedStores [t] e=λ aa=>pure none):ju Γ (.Assign [t] e pos) (aI a g):=p7 ha hg ht (λ aa aa=>congrFun h1 _) λ aa aa=>congrFun h2 _
inductive oq(Γ:dv):List Str->List AG->Prop
 |nil:oq Γ [] []
 |cons {x:String} {xs:List Str} {cs:List AG}:Γ.sc.names.lookup (Str.ofString x)=some .local->oq Γ xs cs->oq Γ (Str.ofString x::xs) (a_ x::cs)
theorem oq.bW{ns:List Str}{cs:List AG}(x:oq Γ ns cs):∀(K:Cx Γ){vs:List AV}{us:List Value}{P:dy->U->Prop}{Q:Unit->Shared->Prop},yX cs Γ.F vs K.ρ K.w.σ P->K.w.Rs vs us->K.KU P Q->
  K.wp (assignInOrder (ns.map λ n=>bindName K.env n) us) Q:=by
 induction x with
 |nil=>
  intro K vs us P Q h hv k;cases hv with
  |nil=>exact assignInOrder_nil (k K.ρ K.w K.F K.T h)
  |cons _ _=>exact h.elim
 |cons hk _ ih=>
  intro K vs us P Q h hv k;cases hv with
  |nil=>exact h.elim
  |cons uG uH=>exact assignInOrder_cons (wpAny_bindName (w8 K.rf uG hk (P:=λ ρ σ=>yX _ Γ.F _ ρ σ P) (λ ρ w F T p=>ih (K.kG ρ w F (c_.trans K.T T)) p (bB.bo T.kx uH) k) h))
theorem oq.len{ns:List Str}{cs:List AG}(x:oq Γ ns cs):ns.length=cs.length:=by
 induction x with
 |nil=>rfl
 |cons _ _ ih=>exact congrArg Nat.succ ih
def p8(a:AE)(gs:List AG):AS:=λ F ρ σ P=>a F ρ σ λ v σ=>di σ (λ vs=>eA gs.length vs (yX gs F vs.reverse ρ σ λ ρ σ=>P .next ρ σ)) v
theorem lE{elts:List Expr}{k:Nat}{PO:Pos}{e:Expr}{pos:Pos}{a:AE}{names:List Str}{gs:List AG}(ha:bf Γ e a)(hg:oq Γ names.reverse gs)
  (h1:∀env:Env,env.scope=Γ.sc->swapsWithSole [.Tuple elts k PO] e pos.line env=pure false)(h2:∀env:Env,env.scope=Γ.sc->swappedStores [.Tuple elts k PO] e env=pure (some names)):
  ju Γ (.Assign [.Tuple elts k PO] e pos) (p8 a gs):=λ K aa aa hc k=>
 have hn:names.length=gs.length:=by have:=hg.len;simpa using this
 Assign_Tuple_swapped (ha K.r hc λ u v w S p hu=>hn▸xa (K.up w S).r p (λ aa p=>p.k.1) hu λ us vs dW d1 aa p ef=>by obtain ⟨e,p⟩:=p;exact hg.bW (K.zP dW (S.tr d1)) (e▸p.k.2) ef.rev λ ρ w F T p=>k _ _ ρ w F T p .next) (h1 _ K.ok.scope) (h2 _ K.ok.scope)
def b0(a:AE):AS:=λ F ρ σ P=>a F ρ σ λ _ σ=>P .next ρ σ
theorem Cx.kS(K:Cx Γ){P:PF}{Q:Flow->Shared->Prop}{f:AF}{fl:Flow}(k:K.KS P Q)(w:St Γ)(S:K.w.Le w)(p:P f K.ρ w.σ)(h:wY w.s.heap w.lam f fl):Q fl w.s:=k _ _ K.ρ w (FR.step K.F K.w.H S) (c_.trans K.T (Step.toF S w.H)) p h
theorem br{e:Expr}{pos:Pos}{a:AE}(ha:bf Γ e a)(h1:swapsWith e none pos.line=λ aa=>pure false):ju Γ (.Expr e pos) (b0 a):=λ K aa aa hc k=>wpAny_Expr_any (ha K.r hc λ u v w S p aa=>K.kS k w S p .next) (by unfold interactive;refine ae K.ok.scope<|ae K.ok.kind ?_;rfl) (congrFun h1 _)
def da(a:AE):AS:=λ F ρ σ P=>a F ρ σ λ v σ=>P (.ret v) ρ σ
theorem bL{e:Expr}{pos:Pos}{a:AE}(ha:bf Γ e a):ju Γ (.Return (some e) pos) (da a):=λ K aa aa hc k=>wpAny_Return_some (ha K.r hc λ u v w S p hu=>K.kS k w S p (.ret hu))
def S6:AS:=λ _ ρ σ P=>P .cont ρ σ
theorem PQ{pos:Pos}:ju Γ (.Continue pos) S6:=λ K aa aa hc k=>wpAny_Continue (k _ _ K.ρ K.w K.F K.T hc .cont)
def eP(t:AT)(a b:AS):AS:=λ F ρ σ P=>t F ρ σ λ x σ=>if x then a F ρ σ P else b F ρ σ P
theorem cE{t:Expr}{x y:List Stmt}{pos:Pos}{ct:AT}{a b:AS}(ht:kI Γ t ct)(ha:oN Γ x a)(hb:oN Γ y b):ju Γ (.If t x y pos) (eP ct a b):=λ K aa aa hc k=>
 wpAny_If (ht K.r hc λ c w S p=>by
  cases c with
  |true=>exact ha (K.zP w S) p k
  |false=>exact hb (K.zP w S) p k)
def aJ:AS:=λ _ ρ σ P=>P .next ρ σ
def AF.seq(f:AF)(P:PF)(k:dy->U->Prop)(ρ:dy)(σ:U):Prop:=match f with
 |.next=>k ρ σ
 |f=>P f ρ σ
def aw(a b:AS):AS:=λ F ρ σ P=>a F ρ σ λ f ρ σ=>f.seq P (λ ρ σ=>b F ρ σ P) ρ σ
theorem az:oN Γ [] aJ:=λ K aa aa hc k=>wpAny_execs_nil (k _ _ K.ρ K.w K.F K.T hc .next)
theorem ag{st:Stmt}{rest:List Stmt}{a b:AS}(ha:ju Γ st a)(hb:oN Γ rest b):oN Γ (st::rest) (aw a b):=λ K aa aa hc k=>
 wpAny_execs_cons (ha K hc λ fl f ρ w F T p hf=>by
  cases hf with
  |next=>exact hb (K.kG ρ w F T) p k
  |cont=>exact k _ _ ρ w F T p .cont
  |ret hv=>exact k _ _ ρ w F T p (.ret hv))
def AF.turn(f:AF)(P:PF)(k:dy->U->Prop)(ρ:dy)(σ:U):Prop:=match f with
 |.ret v=>P (.ret v) ρ σ
 |_=>k ρ σ
def gM(ns:List String)(t:AT)(b:AS):Nat->AS
 |0,_,_,_,_=>False
 |n+1,F,ρ,σ,P=>t F ρ σ λ x σ=>if x then b F ρ σ λ f ρ σ=>f.turn P (λ ρ σ=>gM ns t b n F (dH ns ρ) σ P) ρ σ else P .next ρ σ
def jB(ns:List String)(t:AT)(b:AS):AS:=λ F ρ σ P=>∃n,gM ns t b n F (dH ns ρ) σ P
theorem jt.mark{d:Nat}{A:Around}(R:jt d A):jt d (A.mark none):=⟨by show Option.or none A.handled=none;refine ae R.h ?_;rfl,R.nF,R.un⟩
inductive Mj(K:Cx Γ)(ns:List String)(ct:AT)(cb:AS)(P:PF)(k:Nat):Shared->Prop
 |mk (ρ:dy) (w:St Γ):w.FR K.env ρ->K.f.o5 K.env w->gM ns ct cb k Γ.F ρ w.σ P->Mj K ns ct cb P k w.s
theorem gi{ns:List String}{t:Expr}{b:List Stmt}{pos:Pos}{ct:AT}{cb:AS}(ht:kI Γ t ct)(hb:oN Γ b cb):ju Γ (.While t b [] pos) (jB ns ct cb):=by
 intro K P Q hc k;obtain ⟨n,hc⟩:=hc;refine (?_:wpAny _ _ (standAt pos>>=λ aa=>runOwn (.whileLoop t b [] K.env) K.env) _ _ _);refine wpAny_bind (wpAny_standAt (wpAny_runOwn ?_ (by decide)));refine codeAny_whileLoop (I:=Mj K ns ct cb P) (λ m s hI=>?_) n ⟨_,K.w,K.F.kD λ aa aa h=>(iK h).2,K.T,hc⟩;induction hI with
 |mk ρ w F T h=>
  cases m with
  |zero=>exact h.elim
  |succ m=>
   refine ht ((K.kG ρ w F T).at _ _ K.R.mark) h λ x dW d1 p=>?_;cases x with
   |false=>exact wpAny_execs_nil ((K.kG ρ w F T).kS k dW d1 p .next)
   |true=>
    refine hb (((K.kG ρ w F T).at _ _ K.R.mark).zP dW d1) p λ fl f aaf nI Ut B9 p hf=>?_;cases hf with
    |ret hv=>exact k _ _ aaf nI Ut B9 p (.ret hv)
    |next=>exact ⟨m,Nat.lt_succ_self _,_,nI,Ut.kD λ aa aa h=>(iK h).2,B9,p⟩
    |cont=>exact ⟨m,Nat.lt_succ_self _,_,nI,Ut.kD λ aa aa h=>(iK h).2,B9,p⟩
end
end
section
set_option genInjectivity false
set_option genSizeOf false
inductive aP where
 |list(l i:Nat)
 |tup(vs:List AV)
 |mM(a c:Int)(n:Nat)
 |enum(l i:Nat)
 |text(x:String)(i:Nat)
 |zip(l:Nat)
noncomputable def eQ(x:String):Bool:=["a","b","c","f","g"].contains x
theorem p9{x:String}(h:eQ x=true):∃c,(Str.ofString x).cps=#[c]/\Str.ofString x=⟨#[c]⟩/\c<128:=by
 unfold eQ at h;simp only [List.contains_cons,List.contains_nil,Bool.or_false,Bool.or_eq_true,beq_iff_eq]at h;rcases h with rfl|rfl|rfl|rfl|rfl
 ·exact ⟨97,rfl,by decide,by decide⟩
 ·exact ⟨98,rfl,by decide,by decide⟩
 ·exact ⟨99,rfl,by decide,by decide⟩
 ·exact ⟨102,rfl,by decide,by decide⟩
 ·exact ⟨103,rfl,by decide,by decide⟩
structure mY(fp:List Addr)(s:Shared)(lam:List Addr)(s':Shared):Prop where
 kx:Kx s.heap lam s'.heap lam
 keep:∀a o,a∉fp->s.heap.get? a=some o->s'.heap.get? a=some o
theorem HS.bY{G:bC}{s:Shared}{lam:List Addr}{σ:U}{h':Heap}{tk:Nat}{fp:List Addr}(H:HS G s lam σ)(hk:∀a o,a∉fp->s.heap.get? a=some o->h'.get? a=some o)(kK:∀b∈fp,b∉lam/\G.h₀.get? b=none)
  (ha:∀b∈fp,∃o,s.heap.get? b=some o/\∀items n,o.data≠.seq items n):HS G {s with heap:=h',toks:=tk} lam σ/\mY fp s lam {s with heap:=h',toks:=tk}:=by
 have kx:Kx s.heap lam h' lam:=⟨.refl _,λ a o items n aa aa hd ho=>by
   by_cases e:a∈fp
   ·refine bA (ha a e) λ o' ix hn=>?_;rw [ho]at ix;cases ix;exact absurd hd (hn _ _)
   ·exact hk a o e ho,λ aa h=>.inl h⟩
 refine ⟨⟨λ a o e=>hk a o (λ hm=>?_) (H.base a o e),H.gens,H.os,H.len,H.nodup,H.above,λ l a ao h1 h2=>(H.gJ l a ao h1 h2).keep (λ o e=>hk a o (λ hm=>(kK a hm).1 (List.mem_of_getElem? h1)) e) kx⟩,kx,hk⟩;have:=(kK a hm).2;rw [e]at this;cases this
theorem c_.bY{env:Env}{s f9 s':Shared}{lam PR:List Addr}{fp:List Addr}(S:c_ env s lam f9 PR)(N:mY fp f9 PR s')(kK:∀b∈fp,s.heap.get? b=none):c_ env s lam s' PR where
 kx:=S.kx.trans N.kx S.iQ
 keep:=λ a o hn hw e=>N.keep a o (λ hm=>by rw [kK a hm]at e;cases e) (S.keep a o hn hw e)
 iQ:=λ a o e=>let⟨o',e'⟩:=S.iQ a o e;⟨o',N.keep a o' (λ hm=>by rw [kK a hm]at e;cases e) e'⟩
theorem FR.bY{G:bC}{env:Env}{s s':Shared}{lam:List Addr}{ρ:dy}{fp:List Addr}(F:FR G s.heap lam env ρ)(N:mY fp s lam s')(kK:∀b∈fp,¬I0 env b):FR G s'.heap lam env ρ where
 o4:=by refine bA F.o4 λ m hn hv=>?_;refine ⟨m,hn.at' λ o e=>N.keep _ o (λ hm=>kK _ hm (.inl rfl)) e,λ y av hk hr=>?_⟩;refine bA (hv y av hk hr) λ v hm j7=>?_;exact ⟨v,hm,j7.bo N.kx⟩
 cell:=λ y hk=>by
  refine oM (F.cell y hk) λ c ov hl hc hb hv=>?_;refine ⟨c,ov,hl,?_,hb,λ av hr=>?_⟩
  ·refine bA hc λ o ho hd=>?_;exact ⟨o,N.keep _ _ (λ hm=>kK _ hm (.inr (List.mem_map.mpr ⟨_,mem_of_lookup hl,rfl⟩))) ho,hd⟩
  ·refine bA (hv av hr) λ v e j7=>?_;exact ⟨v,e,j7.bo N.kx⟩
 apart:=F.apart
 new:=F.new
 base:=F.base
 cells:=λ p hp=>by refine yK (F.cells p hp) λ v o ho hd=>?_;exact ⟨v,o,N.keep _ _ (λ hm=>kK _ hm (.inr (List.mem_map.mpr ⟨_,hp,rfl⟩))) ho,hd⟩
def IR(h:Heap)(lam:List Addr):aP->Addr->List Addr->Prop
 |.list l i,it,fp=>∃a,h.IsListIter it a i/\lam[l]?=some a/\fp=[it]
 |.tup vs,it,fp=>∃t i n items,h.IsTupleIter it t i/\TT h lam t items n/\bB h lam vs (items.toList.drop i)/\fp=[it]
 |.mM a c n,it,fp=>IsRangeIter h it a n c/\fp=[it]
 |.enum l i,it,fp=>∃a li old,IsEnum h it li i old/\h.IsListIter li a i/\lam[l]?=some a/\it≠li/\fp=[it,li]
 |.text x i,it,fp=>∃t,h.IsStrIter it "str_ascii_iterator" (Str.ofString x) t i/\eQ x=true/\fp=[it]
 |.zip l,it,fp=>lam[l]?=some it/\fp=[]
inductive cL(σ:U)(Pe:Prop)(Ps:AV->aP->Prop):aP->Prop
 |le {l i:Nat} {xs:List AV}:σ[l]?=some (.list xs)->xs.length<=i->Pe->cL σ Pe Ps (.list l i)
 |ls {l i:Nat} {xs:List AV} {x:AV}:σ[l]?=some (.list xs)->xs[i]?=some x->Ps x (.list l (i+1))->cL σ Pe Ps (.list l i)
 |te:Pe->cL σ Pe Ps (.tup [])
 |ts {v:AV} {vs:List AV}:Ps v (.tup vs)->cL σ Pe Ps (.tup (v::vs))
 |re {a c:Int}:Pe->cL σ Pe Ps (.mM a c 0)
 |rs {a c:Int} {n:Nat}:Ps (.int a) (.mM (a+c) c n)->cL σ Pe Ps (.mM a c (n+1))
 |ee {l i:Nat} {xs:List AV}:σ[l]?=some (.list xs)->xs.length<=i->Pe->cL σ Pe Ps (.enum l i)
 |es {l i:Nat} {xs:List AV} {x:AV}:σ[l]?=some (.list xs)->xs[i]?=some x->Ps (.tup [.int i,x]) (.enum l (i+1))->cL σ Pe Ps (.enum l i)
 |xe {x:String} {i:Nat}:Pe->cL σ Pe Ps (.text x (i+1))
 |xs {x:String}:Ps (.str x) (.text x 1)->cL σ Pe Ps (.text x 0)
def fL:aP->Prop
 |.enum _ _=>False
 |.zip _=>False
 |_=>True
def S7(t:Expr)(x:aP):Prop:=fL x\/∃es k pos,t=.Tuple es k pos
theorem IR.iQ{h:Heap}{lam:List Addr}{x:aP}{it:Addr}{fp:List Addr}(r:IR h lam x it fp):∀b∈fp,∃o,h.get? b=some o/\∀items n,o.data≠.seq items n:=by
 have uL:∀{o:Obj},h.get? it=some o->(∀items n,o.data≠.seq items n)->∀b∈[it],∃o,h.get? b=some o/\∀items n,o.data≠.seq items n:=λ ho hd b hb=>by cases List.mem_singleton.mp hb;exact ⟨_,ho,hd⟩
 cases x with
 |list l i=>exact gy r λ a h1 aa e=>e▸gy h1 λ o ho aa hd=>uL ho (by refine ae hd ?_;simp)
 |tup vs=>obtain ⟨t,i,n,items,h1,_,_,rfl⟩:=r;exact gy h1 λ o ho aa hd=>uL ho (by refine ae hd ?_;simp)
 |mM a c n=>exact r.2▸uL r.1 (by simp)
 |enum l i=>
  obtain ⟨a,li,old,h1,h2,_,_,rfl⟩:=r;refine gy h2 λ o ho aa hd=>λ b hb=>?_;rcases List.mem_cons.mp hb with rfl|hb
  ·exact ⟨_,h1,by simp⟩
  ·cases List.mem_singleton.mp hb;exact ⟨o,ho,by refine ae hd ?_;simp⟩
 |text x i=>exact gy r λ t h1 aa e=>e▸gy h1 λ o ho aa hd=>uL ho (by refine ae hd ?_;simp)
 |zip l=>exact r.2▸λ b hb=>nomatch hb
theorem IR.keep{h h':Heap}{lam bV:List Addr}{x:aP}{it:Addr}{fp:List Addr}(r:IR h lam x it fp)(e:∀b∈fp,wW b h h')(k:Kx h lam h' bV):IR h' bV x it fp:=by
 cases x with
 |list l i=>obtain ⟨a,⟨o,ho,hr⟩,h2,rfl⟩:=r;exact ⟨a,⟨o,e it (.head _) o ho,hr⟩,k.ext _ _ h2,rfl⟩
 |tup vs=>obtain ⟨t,i,n,items,⟨o,ho,hr⟩,h2,h3,rfl⟩:=r;exact ⟨t,i,n,items,⟨o,e it (.head _) o ho,hr⟩,k.tt h2,h3.bo k,rfl⟩
 |mM a c n=>obtain ⟨h1,rfl⟩:=r;exact ⟨e it (.head _) _ h1,rfl⟩
 |enum l i=>obtain ⟨a,li,old,h1,⟨o,ho,hr⟩,h3,h4,rfl⟩:=r;exact ⟨a,li,old,e it (.head _) _ h1,⟨o,e _ (.tail _ (.head _)) o ho,hr⟩,k.ext _ _ h3,h4,rfl⟩
 |text x i=>obtain ⟨t,⟨o,ho,hr⟩,h2,rfl⟩:=r;exact ⟨t,⟨o,e it (.head _) o ho,hr⟩,h2,rfl⟩
 |zip l=>exact ⟨k.ext _ _ r.1,r.2⟩
theorem p_{M:Model}{A:Around}{E:Value->Shared->Prop}{s:Shared}{target:Expr}{it:Addr}{v:Value}{Q:Unit->Shared->Prop}(hq:∃o,s.heap.get? it=some o/\∃n,o.cls=.type n/\
  ["enumerate","zip","dict_itemiterator","dict_reverseitemiterator","odict_iterator","itertools.zip_longest","itertools.pairwise"].contains n=false)(h:Q () s):wpAny M A (letOwnedTupleGo target (.ref it) v) Q E s:=by
 obtain ⟨o,ho,n,hc,hn⟩:=hq;have key:wpAny M A (match(Value.ref it,v)with
  |(.ref r,.ref a)=>load r>>=λ o=>match o.cls,o.data with
   |.type n,.fields vs=>
    if["enumerate","zip","dict_itemiterator","dict_reverseitemiterator","odict_iterator","itertools.zip_longest","itertools.pairwise"].contains n&&vs[0]?==some (rawInt a)then do
     rule "for.unpacks-the-owned-tuple"
     updateField r 0 .none
    else pure ()
   |_,_=>pure ()
  |_=>pure ()) Q E s:=by
  cases v with
  |ref a=>
   refine wpAny_bind (wpAny_load ho ?_);refine ae hc ?_;cases hd:o.data with
   |fields vs=>simp only [hn,Bool.false_and,Bool.false_eq_true,if_false];exact wpAny_pure h
   |_=>exact wpAny_pure h
  |_=>exact wpAny_pure h
 cases target with
 |Tuple _ _ _=>exact key
 |List _ _=>exact key
 |_=>exact wpAny_pure h
section
variable{Γ:dv}
theorem turn(K:Cx Γ){t:Expr}{x:aP}{it:Addr}{fp:List Addr}{Pe:Prop}{Ps:AV->aP->Prop}{Qn:Shared->Prop}{Qs:Value->Shared->Prop}{Q:Option Value->Shared->Prop}(hn:∀s,Qn s->Q none s)(hs:∀v s,wpAny Γ.M K.A (letOwnedTupleGo t (.ref it) v) (λ aa o6=>Qs v o6) K.E s->Q (some v) s)(hc:cL K.w.σ Pe Ps x)(hk:S7 t x)(r:IR K.w.s.heap K.w.lam x it fp)(kK:∀b∈fp,b∉K.w.lam/\Γ.G.h₀.get? b=none)
  (kn:∀s'(H:HS Γ.G s' K.w.lam K.w.σ),mY fp K.w.s K.w.lam s'->Pe->Qn s')
  (ks:∀u v x' s'(H:HS Γ.G s' K.w.lam K.w.σ),mY fp K.w.s K.w.lam s'->Ps v x'->VR s'.heap K.w.lam v u->IR s'.heap K.w.lam x' it fp->S7 t x'->(fL x->fL x')->Qs u s'):
  K.wp (pyNext (.ref it)) Q:=by
 have xb:=r.iQ;have fin:∀{h':Heap}{tk:Nat},fp=[it]->(∀b o,b≠it->K.w.s.heap.get? b=some o->h'.get? b=some o)->HS Γ.G {K.w.s with heap:=h',toks:=tk} K.w.lam K.w.σ/\mY fp K.w.s K.w.lam {K.w.s with heap:=h',toks:=tk}:=λ e hb=>K.w.H.bY (λ b o hn=>hb b o λ q=>hn (by rw [e,q];exact .head _)) kK xb
 have sb:∀{h':Heap},Heap.SameBut it K.w.s.heap h'->∀b o,b≠it->K.w.s.heap.get? b=some o->h'.get? b=some o:=λ hs b o hb e=>(hs.2 b hb).trans e;induction hc with
 |le hx hi p=>
  refine gy r λ a h1 h2 hf=>?_;exact K.w.dQ h2 hx λ items n g1 g2 hl=>wpAny_pyNext_list_end K.R.h h1 ⟨_,g1,rfl,_,rfl⟩ (Array.getElem?_eq_none_iff.mpr (Nat.le_trans (b7 hl) hi)) λ h' hB=>
   have h:=fin (tk:=K.w.s.toks) hf λ b o hb e=>hB b o hb e
   hn _ (kn _ h.1 h.2 p)
 |ls hx hy p=>
  refine gy r λ a h1 h2 hf=>?_;refine K.w.dQ h2 hx λ items n g1 g2 hl=>bA (bB.get g2 _ hy) λ v hv j7=>wpAny_pyNext_list_item h1 ⟨_,g1,rfl,_,rfl⟩ (x:=v) (by rw [<-hv,Array.getElem?_toList]) λ h' hi hB=>?_;have h:=fin (tk:=K.w.s.toks) hf (sb hB);exact hs _ _ (p_ (gy hi λ o ho hc aa=>⟨o,ho,_,hc,by decide⟩) (ks _ _ _ _ h.1 h.2 p (j7.bo h.2.kx) ⟨a,hi,h2,hf⟩ hk λ aa=>trivial))
 |te p=>
  refine Wf r λ t i n items h1 h2 h3 hf=>?_;exact wpAny_pyNext_tuple_end K.R.h h1 ⟨_,h2.2,rfl,_,rfl⟩ (by have:=h3.length;simp at this;rw [Array.getElem?_eq_none_iff];lia) λ h' hB=>
   have h:=fin (tk:=K.w.s.toks) hf λ b o hb e=>hB b o hb e
   hn _ (kn _ h.1 h.2 p)
 |ts p=>
  refine Wf r λ t i n items h1 h2 h3 hf=>?_;have ed:i<items.toList.length:=by have:=h3.length;simp at this;simp;lia
  rw [List.drop_eq_getElem_cons ed]at h3;cases h3 with
  |cons hv ef=>
   refine wpAny_pyNext_tuple_item h1 ⟨_,h2.2,rfl,_,rfl⟩ (by rw [<-Array.getElem?_toList];exact List.getElem?_eq_getElem ed) λ h' hi hB=>?_;have h:=fin (tk:=K.w.s.toks) hf (sb hB);exact hs _ _ (p_ (gy hi λ o ho hc aa=>⟨o,ho,_,hc,by decide⟩) (ks _ _ _ _ h.1 h.2 p (hv.bo h.2.kx) ⟨_,_,_,_,hi,h.2.kx.tt h2,ef.bo h.2.kx,hf⟩ hk λ aa=>trivial))
 |re p=>
  refine r.elim λ h1 hf=>?_;exact wpAny_pyNext_range_end K.R.h h1 (by simp) λ h' hB=>
   have h:=fin (tk:=K.w.s.toks) hf λ b o hb e=>hB b o hb e
   hn _ (kn _ h.1 h.2 p)
 |@rs a c n p=>
  refine r.elim λ h1 hf=>?_;refine wpAny_pyNext_range_item h1 (by lia) λ h' hi hB=>?_;have h:=fin (tk:=K.w.s.toks+1) hf (sb hB);rw [show((n+1:Nat):Int) -1=n by lia]at hi;exact hs _ _ (p_ ⟨_,hi,_,rfl,by decide⟩ (ks _ _ _ _ h.1 h.2 p (.int _ _) ⟨hi,hf⟩ hk λ aa=>trivial))
 |ee hx hi p=>
  refine PA r λ a li old h1 h2 h3 h4 hf=>?_;refine K.w.dQ h3 hx λ items n g1 g2 hl=>wpAny_pyNext_enum_end K.R.h h1 h2 ⟨_,g1,rfl,_,rfl⟩ (Array.getElem?_eq_none_iff.mpr (Nat.le_trans (b7 hl) hi)) λ h' hB=>?_;have h:=K.w.H.bY (tk:=K.w.s.toks) (λ b o hb e=>hB b o (λ q=>hb (q▸hf▸.tail _ (.head _))) e) kK xb;exact hn _ (kn _ h.1 h.2 p)
 |es hx hy p=>
  refine PA r λ a li old h1 h2 h3 h4 hf=>?_;rcases hk with hk|⟨es,k,pos,rfl⟩
  ·exact hk.elim
  refine K.w.dQ h3 hx λ items n g1 g2 hl=>bA (bB.get g2 _ hy) λ v hv j7=>wpAny_pyNext_enum_item h1 h2 ⟨_,g1,rfl,_,rfl⟩ (x:=v) (cQ hv<|ae Array.getElem?_toList rfl) h4 λ h' ho hi ht gF hk=>?_;refine hs _ _ (wpAny_letOwnedTupleGo_enum (s:={K.w.s with heap:=h',toks:=K.w.s.toks+1}) ho λ oi he hB=>?_);have h:=K.w.H.bY (h':=oi) (tk:=K.w.s.toks+1) (λ b o hb e=>(hB.2 b λ q=>hb (q▸hf▸.head _)).trans (hk b o (λ q=>hb (q▸hf▸.head _)) (λ q=>hb (q▸hf▸.tail _ (.head _))) e)) kK xb;exact ks _ _ _ _ h.1 h.2 p (.tup (items:=#[.int _ K.w.s.toks,v]) (n:=0) ⟨K.w.nG,(hB.2 _ (Nat.ne_of_gt (Heap.lt_size h1))).trans ht⟩ (.cons (.int _ _) (.cons (j7.bo h.2.kx) .nil)) (Nat.le_of_ble_eq_true rfl))
   ⟨a,li,_,he,bA hi λ o ix hr=>⟨o,(hB.2 _ (Ne.symm h4)).trans ix,hr⟩,h3,h4,hf⟩ (.inr ⟨_,_,_,rfl⟩) id
 |xe p=>
  refine gy r λ t h1 h2 hf=>?_;exact gy (p9 h2) λ c uD zL Wx=>wpAny_pyNext_ascii_end K.R.h h1 (by refine ae uD ?_;exact rfl) λ h' hB=>
   have h:=fin (tk:=K.w.s.toks) hf λ b o hb e=>hB b o hb e
   hn _ (kn _ h.1 h.2 p)
 |xs p=>refine gy r λ t h1 h2 hf=>?_;refine gy (p9 h2) λ c uD zL Wx=>wpAny_pyNext_ascii_item h1 (c:=c) (by refine ae uD ?_;rfl) λ h' hi hB=>?_;have h:=fin (tk:=K.w.s.toks+1) hf (sb hB);exact hs _ _ (p_ (gy hi λ o ho hc aa=>⟨o,ho,_,hc,by decide⟩) (ks _ _ _ _ h.1 h.2 p (.str _ _ zL.symm) ⟨t,hi,h2,hf⟩ hk λ aa=>trivial))
abbrev AI:=b_->dy->U->(aP->U->Prop)->Prop
def ua(K:Cx Γ)(fp:List Addr):Prop:=∀b∈fp,Γ.G.h₀.get? b=none/\¬I0 K.env b/\K.f.s.heap.get? b=none
def St.It(w:St Γ)(x:aP)(it:Addr)(fp:List Addr):Prop:=IR w.s.heap w.lam x it fp/\∀b∈fp,b∉w.lam
theorem HS.yY{G:bC}{s:Shared}{lam:List Addr}{σ:U}{b:Addr}(H:HS G s lam σ)(hb:s.heap.get? b=none):G.h₀.get? b=none:=by
 cases e:G.h₀.get? b with
 |none=>rfl
 |some o=>exact nomatch hb.symm.trans (H.base b o e)
theorem rY{G:bC}{h:Heap}{env:Env}{lam:List Addr}{ρ:dy}{b:Addr}(F:FR G h lam env ρ)(hb:h.get? b=none):¬I0 env b:=λ hw=>by
 rcases hw with rfl|hw
 ·obtain ⟨m,⟨o,_,_,ho,_⟩,_⟩:=F.o4;rw [ho]at hb;cases hb
 ·obtain ⟨p,hp,rfl⟩:=List.mem_map.mp hw;obtain ⟨v,o,ho,_⟩:=F.cells p hp;rw [ho]at hb;cases hb
theorem Cx.apart(K:Cx Γ){fp:List Addr}(h:∀b∈fp,K.w.s.heap.get? b=none):ua K fp:=λ b hb=>⟨K.w.H.yY (h b hb),rY K.F (h b hb),by
 cases e:K.f.s.heap.get? b with
 |none=>rfl
 |some o=>exact d9 (K.T.iQ b o e) λ o' e'=>nomatch(h b hb).symm.trans e'⟩
theorem St.It.step{K:Cx Γ}{w w':St Γ}{x:aP}{it:Addr}{fp:List Addr}(r:w.It x it fp)(h:ua K fp)(S:St.o5 K.env w w'):w'.It x it fp:=
 ⟨r.1.keep (λ b hb o e=>S.keep b o (r.2 b hb) (λ q=>(h b hb).2.1 q.all) e) S.kx,λ b hb=>bA (r.1.iQ b hb) λ o ho aa=>S.kx.out (r.2 b hb) ho⟩
def Cx.KI(K:Cx Γ)(kd:aP->Prop)(P:aP->U->Prop)(Q:Value->Shared->Prop):Prop:=∀it x(w:St Γ)fp,K.w.Le w->P x w.σ->kd x->w.It x it fp->(∀b∈fp,K.w.s.heap.get? b=none)->Q (.ref it) w.s
def nM(Γ:dv)(kd:aP->Prop)(e:Expr)(c:AI):Prop:=∀(K:Cx Γ){P:aP->U->Prop}{Q:Value->Shared->Prop},c Γ.F K.ρ K.w.σ P->K.KI kd P Q->K.wp (eval e K.env) λ v f9=>wpAny Γ.M K.A (pyIter v) Q K.E f9
def hV(ns:List String)(g:AG)(b:AS):Nat->aP->AS
 |0,_,_,_,_,_=>False
 |n+1,x,F,ρ,σ,P=>cL σ (P .next ρ σ) (λ v x=>g F v ρ σ λ ρ σ=>b F ρ σ λ f ρ σ=>f.turn P (λ ρ σ=>hV ns g b n x F (dH ns ρ) σ P) ρ σ) x
def jx(ns:List String)(c:AI)(g:AG)(b:AS):AS:=λ F ρ σ P=>c F ρ σ λ x σ=>∃n,hV ns g b n x F (dH ns ρ) σ P
inductive Wy(K:Cx Γ)(ns:List String)(t:Expr)(g:AG)(cb:AS)(it:Addr)(fp:List Addr)(P:PF)(k:Nat):Shared->Prop
 |mk (ρ:dy) (w:St Γ) (x:aP):w.FR K.env ρ->K.f.o5 K.env w->w.It x it fp->S7 t x->hV ns g cb k x Γ.F ρ w.σ P->Wy K ns t g cb it fp P k w.s
theorem fh{ns:List String}{t e:Expr}{b:List Stmt}{pos:Pos}{kd:aP->Prop}{c:AI}{g:AG}{cb:AS}(he:nM Γ kd e c)(hg:i7 Γ t g)(hb:oN Γ b cb)
  (hf:∀env x,foldedSetIterable e env x=pure x)(ht:∀x,kd x->S7 t x):ju Γ (.For t e b [] pos) (jx ns c g cb):=λ K P Q hc k=>
 wpAny_For (he K hc λ it x w fp S p hx r kK=>by
  obtain ⟨n,p⟩:=p;have ap:=K.apart kK;refine codeAny_forLoop_any (I:=Wy K ns t g cb it fp P) (λ m s hI=>?_) n ⟨_,w,x,(FR.step K.F K.w.H S).kD λ aa aa h=>(iK h).2,c_.trans K.T (Step.toF S w.H),r,ht x hx,p⟩;induction hI with
  |mk ρ w x F T r hx p=>
   cases m with
   |zero=>exact p.elim
   |succ m=>
    refine turn ((K.kG ρ w F T).at K.A _ K.R) (λ aa h=>h) (λ aa aa h=>h) p hx r.1 (λ b hb=>⟨r.2 b hb,(ap b hb).1⟩) (λ s' H N p=>?_) λ u v x' s' H N p hv ir hx aa=>?_
    ·exact wpAny_execs_nil (k _ _ ρ ⟨s',_,_,H⟩ (F.bY N λ b hb=>(ap b hb).2.1) (c_.bY T N λ b hb=>(ap b hb).2.2) p .next)
    ·refine hg ((K.kG ρ ⟨s',_,_,H⟩ (F.bY N λ b hb=>(ap b hb).2.1) (c_.bY T N λ b hb=>(ap b hb).2.2)).at K.A _ K.R).rf p hv λ abH dW Wz pb p=>?_;have aag:=St.It.step (K:=K) (w:=⟨s',_,_,H⟩) ⟨ir,r.2⟩ ap pb;have B9:=c_.trans (c_.bY T N λ b hb=>(ap b hb).2.2) pb;refine hb ((K.kG abH dW Wz B9).at K.A _ K.R).rf p λ fl f adw oO abI Ml p hf=>?_;cases hf with
     |ret hv=>exact k _ _ adw oO abI (c_.trans B9 Ml) p (.ret hv)
     |next=>exact ⟨m,Nat.lt_succ_self _,_,oO,x',abI.kD λ aa aa h=>(iK h).2,c_.trans B9 Ml,aag.step ap Ml,hx,p⟩
     |cont=>exact ⟨m,Nat.lt_succ_self _,_,oO,x',abI.kD λ aa aa h=>(iK h).2,c_.trans B9 Ml,aag.step ap Ml,hx,p⟩) (hf _)
end
end
section
set_option genInjectivity false
set_option genSizeOf false
noncomputable def fm:List AV->Option (List Int)
 |[]=>some []
 |.int i::r=>(match fm r with|some ns=>some (i::ns)|none=>none)
 |_::_=>none
theorem vV{h:Heap}{lam:List Addr}{cT:List AV}{vs:List Value}(x:bB h lam cT vs):∀{ns:List Int},fm cT=some ns->∃xs:List (Int×Tok),vs=xs.map (λ p=>Value.int p.1 p.2)/\xs.map (·.1)=ns:=by
 refine x.ind (λ cT vs=>∀{ns:List Int},fm cT=some ns->∃xs:List (Int×Tok),vs=xs.map (λ p=>Value.int p.1 p.2)/\xs.map (·.1)=ns) (λ e=>⟨[],rfl,Option.some.inj e⟩) λ{a v as vs}h1 aa ih ns e=>?_;cases a with
 |int i=>
  obtain ⟨t,rfl⟩:=h1.pV;obtain ⟨xc,e1,rfl⟩:∃xc,fm as=some xc/\i::xc=ns:=by
   simp only [fm]at e;split at e
   ·rename_i q;exact ⟨_,q,Option.some.inj e⟩
   ·cases e
  obtain ⟨xs,rfl,rfl⟩:=ih e1;exact ⟨(i,t)::xs,rfl,rfl⟩
 |_=>cases e
theorem bB.ints{h:Heap}{lam:List Addr}{xs:List (Int×Tok)}:bB h lam (xs.map λ p=>AV.int p.1) (xs.map λ p=>Value.int p.1 p.2):=by
 induction xs with
 |nil=>exact .nil
 |cons p r ih=>exact .cons (.int _ _) ih
theorem aah(ns:List Int):fm (ns.map .int)=some ns:=by
 induction ns with
 |nil=>rfl
 |cons n r ih=>simp [fm,ih]
theorem Gv(f:Nat->Int):∀n,∀j,j<=n->f j<=f (argBest (λ i j=>decide (f i>f j)) n):=by
 intro bN;induction bN with
 |zero=>
  intro j h;have:j=0:=Nat.le_antisymm h (Nat.zero_le _);subst this;simp [argBest]
 |succ n ih=>
  intro j h;unfold argBest;have ih:=ih;by_cases hc:f (n+1)>f (argBest (λ i j=>decide (f i>f j)) n)
  ·refine ae (if_pos (decide_eq_true hc)) ?_;by_cases hj:j=n+1
   ·subst hj;exact Int.le_refl _
   ·have:=ih j (Nat.le_of_lt_succ (Nat.lt_of_le_of_ne h hj));lia
  ·refine ae (if_neg (by simpa using hc)) ?_;by_cases hj:j=n+1
   ·subst hj;lia
   ·exact ih j (Nat.le_of_lt_succ (Nat.lt_of_le_of_ne h hj))
noncomputable def jM:List Int->Int
 |[]=>0
 |[n]=>n
 |n::m::r=>max n (jM (m::r))
theorem Uu(n m:Int)(r:List Int):jM (n::m::r)=max n (jM (m::r)):=rfl
theorem Jc{ns:List Int}{M:Int}(h1:M∈ns)(h2:∀a∈ns,a<=M):jM ns=M:=by
 have:∀l:List Int,l≠[]->jM l∈l/\∀a∈l,a<=jM l:=by
  intro l;induction l with
  |nil=>intro h;exact absurd rfl h
  |cons a l ih=>
   intro _;cases l with
   |nil=>exact ⟨.head _,λ b h=>by cases List.mem_singleton.mp h;exact Int.le_refl _⟩
   |cons b l=>
    rw [Uu];have h:=ih (by simp);refine ⟨(Int.le_total a (jM (b::l))).elim (λ q=>?_) λ q=>?_,λ c hc=>(List.mem_cons.mp hc).elim (λ e=>e▸Int.le_max_left ..) λ hc=>Int.le_trans (h.2 c hc) (Int.le_max_right ..)⟩
    ·refine ae (Int.max_eq_right q) ?_;exact List.mem_cons_of_mem _ h.1
    ·refine ae (Int.max_eq_left q) ?_;exact .head _
 have:=this ns λ e=>by subst e;cases h1
 exact Int.le_antisymm (h2 _ this.1) (this.2 _ h1)
noncomputable def ins(n:Int):List Int->List Int
 |[]=>[n]
 |m::r=>if n<=m then n::m::r else m::ins n r
theorem CD(n m:Int)(r:List Int):ins n (m::r)=if n<=m then n::m::r else m::ins n r:=rfl
theorem S8(n:Int):ins n []=[n]:=rfl
noncomputable def iS:List Int->List Int
 |[]=>[]
 |n::r=>ins n (iS r)
theorem Hy(n:Int)(r:List Int):iS (n::r)=ins n (iS r):=rfl
theorem Uv:iS []=[]:=rfl
theorem Di(n:Int):∀l,(ins n l).Perm (n::l):=by
 intro bN;induction bN with
 |nil=>
  skip;exact .refl _
 |cons m r ih=>
  skip;rw [CD];split
  ·exact .refl _
  ·exact ((ih).cons m).trans (.swap n m r)
theorem jh:∀l,(iS l).Perm l:=by
 intro bN;induction bN with
 |nil=>
  skip;exact .refl _
 |cons n r ih=>skip;exact (Di n _).trans ((ih).cons n)
theorem Jd(n:Int):∀{l:List Int},l.Pairwise (·<=·)->(ins n l).Pairwise (·<=·):=by
 intro bN;induction bN with
 |nil=>
  intro zz;simp [S8]
 |cons m r ih=>
  intro h;rw [CD];rw [List.pairwise_cons]at h;split
  ·rename_i hle;refine List.pairwise_cons.mpr ⟨λ a ha=>?_,List.pairwise_cons.mpr h⟩;rcases List.mem_cons.mp ha with rfl|ha
   ·exact hle
   ·have:=h.1 a ha;lia
  ·rename_i hle;refine List.pairwise_cons.mpr ⟨λ a ha=>?_,ih h.2⟩;rcases List.mem_cons.mp ((Di n r).mem_iff.mp ha)with rfl|ha
   ·lia
   ·exact h.1 a ha
theorem nN:∀l,(iS l).Pairwise (·<=·):=by
 intro bN;induction bN with
 |nil=>
  skip;exact .nil
 |cons n r ih=>skip;exact Jd n (ih)
theorem q8{a b:List Int}(h:a.Perm b)(ha:a.Pairwise (·<=·))(hb:b.Pairwise (·<=·)):a=b:=by
 induction a generalizing b with
 |nil=>exact h.nil_eq
 |cons x a ih=>cases b with
  |nil=>exact absurd h.symm (by simp)
  |cons y b=>
   rw [List.pairwise_cons]at ha hb;have hx:x∈y::b:=h.mem_iff.mp (.head _);have hy:y∈x::a:=h.mem_iff.mpr (.head _);have e:x=y:=by
    rcases List.mem_cons.mp hx with e|hx
    ·exact e
    ·rcases List.mem_cons.mp hy with e|hy
     ·exact e.symm
     ·exact Int.le_antisymm (ha.1 y hy) (hb.1 x hx)
   subst e;exact ae (ih ((List.perm_cons x).mp h) ha.2 hb.2) rfl
theorem mZ(ps:List (Int×Tok)):IntsAre (ps.map λ p=>Value.int p.1 p.2) (ps.map (·.1)):=by
 induction ps with
 |nil=>exact .nil
 |cons p r ih=>exact .cons _ _ ih
theorem bB.Dj{h:Heap}{lam:List Addr}{vs:List Value}{ns:List Int}(x:IntsAre vs ns):bB h lam (ns.map .int) vs:=
 @IntsAre.rec (λ vs ns aa=>bB h lam (ns.map .int) vs) .nil (λ n t aa aa aa r=>.cons (.int n t) r) _ _ x
section
variable{h:Heap} {lam:List Addr} {vs:List Value} {C:List Value->Prop}
theorem bB.k1{a:AV}(x:bB h lam [a] vs)(k:∀v,VR h lam a v->C [v]):C vs:=by cases x with|cons h1 h2=>cases h2;exact k _ h1
theorem bB.k2{a b:AV}(x:bB h lam [a,b] vs)(k:∀v u,VR h lam a v->VR h lam b u->C [v,u]):C vs:=by cases x with|cons h1 h2=>exact h2.k1 (C:=λ vs=>C (_::vs)) λ aa h3=>k _ _ h1 h3
theorem bB.k3{a b c:AV}(x:bB h lam [a,b,c] vs)(k:∀v u w,VR h lam a v->VR h lam b u->VR h lam c w->C [v,u,w]):C vs:=by cases x with|cons h1 h2=>exact h2.k2 (C:=λ vs=>C (_::vs)) λ aa aa h3 h4=>k _ _ _ h1 h3 h4
end
section
variable{Γ:dv}
theorem Cx.kg(K:Cx Γ){P:PV}{Q:Value->Shared->Prop}{v:AV}{u:Value}{h':Heap}{tk:Nat}(k:K.KV P Q)(p:P v K.w.σ)(hk:∀b o,K.w.s.heap.get? b=some o->h'.get? b=some o)(hv:VR h' K.w.lam v u):Q u {K.w.s with heap:=h',toks:=tk}:=
 K.kn k (K.w.H.i6 (s':={K.w.s with heap:=h',toks:=tk}) hk rfl rfl) p hv
theorem Cx.kl(K:Cx Γ){P:PV}{Q:Value->Shared->Prop}{cT:List AV}{vs:Array Value}{n:Nat}{h':Heap}{tk:Nat}{a:Addr}(k:K.KV P Q)(p:P (.ref K.w.σ.length) (K.w.σ++[.list cT]))(hk:∀b o,K.w.s.heap.get? b=some o->h'.get? b=some o)
  (ha:K.w.s.heap.get? a=none)(hl:IsL h' a vs n)(hv:K.w.Rs cT vs.toList)(hz:cT.length<=10000):Q (.ref a) {K.w.s with heap:=h',toks:=tk}:=
 K.kn k (K.w.H.new (s':={K.w.s with heap:=h',toks:=tk}) (a:=a) (ao:=.list cT) hk ha rfl rfl (.list hl (bB.bo (.snoc hk ha) hv) hz)) p (.ref (by refine cQ K.w.H.len ?_;exact List.getElem?_concat_length ..))
theorem IsL.il{h:Heap}{a:Addr}{items:Array Value}{n:Nat}(x:IsL h a items n):h.IsList a items:=⟨_,x,rfl,_,rfl⟩
theorem TT.it{h:Heap}{lam:List Addr}{a:Addr}{items:Array Value}{n:Nat}(x:TT h lam a items n):h.IsTuple a items:=⟨_,x.2,rfl,_,rfl⟩
theorem St.CE(w:St Γ){l:Nat}{a:Addr}{xs:List AV}{ns:List Int}(hl:w.lam[l]?=some a)(hs:w.σ[l]?=some (.list xs))(hn:fm xs=some ns){C:Prop}(k:∀(ps:List (Int×Tok))n,IsL w.s.heap a (intItems ps.toArray) n->ps.map (·.1)=ns->C):C:=
 w.dQ hl hs λ items n g1 g2 aa=>bA (vV g2 hn) λ ps e1 e2=>k ps n (by refine ae (show intItems ps.toArray=items from Array.toList_inj.mp (by rw [e1];simp [intItems])) ?_;exact g1) e2
inductive bH(σ:U)(P:PV):List AV->Prop
 |l {l:Nat} {xs:List AV}:σ[l]?=some (.list xs)->P (.int xs.length) σ->bH σ P [.ref l]
 |t {vs:List AV}:P (.int vs.length) σ->bH σ P [.tup vs]
theorem cJ:jv Γ (.builtin "len") bH:=by
 intro K x v Pr Q hc;induction hc with
 |l hx p=>
  intro hv k;apply hv.k1;intro u hu;apply hu.kr;intro a hl;have hz:=K.w.lz hl hx;exact K.w.dQ hl hx λ items n g1 g2 e=>Calls.call_len_list (IsL.il g1) (by lia) (K.k1 k (e▸p) (.int _ _) _)
 |@t vs p=>intro hv k;apply hv.k1;intro u hu;have hz:=hu.kz;apply hu.kt;intro a items n ht ef;have e:vs.length=items.size:=ef.length.trans (Array.length_toList ..);exact P.len_tuple ht.2 (by lia) (K.k1 k (e▸p) (.int _ _) _)
inductive lF(σ:U)(P:PV):List AV->Prop
 |i {a b:Int}:P (.int (if b>a then b else a)) σ->lF σ P [.int a,.int b]
 |l {l:Nat} {xs:List AV} {ns:List Int}:σ[l]?=some (.list xs)->fm xs=some ns->0<ns.length->P (.int (jM ns)) σ->lF σ P [.ref l]
theorem Mm{ps:List (Int×Tok)}{ns:List Int}(e2:ps.map (·.1)=ns)(h:argBest (λ i j=>decide (numAt ps.toArray i>numAt ps.toArray j)) (ps.toArray.size -1)<ns.length):
  jM ns=numAt ps.toArray (argBest (λ i j=>decide (numAt ps.toArray i>numAt ps.toArray j)) (ps.toArray.size -1)):=by
 have Dk:∀i,i<ns.length->ns[i]?=some (numAt ps.toArray i):=λ i hi=>by
  have:i<ps.length:=by rw [<-e2]at hi;simpa using hi
  refine cQ e2 ?_;simp [numAt,this]
 refine Jc (List.mem_of_getElem? (Dk _ h)) λ a ha=>d9 (List.mem_iff_getElem?.mp ha) λ i hi=>?_;have iy:=(List.getElem?_eq_some_iff.mp hi).1;have gF:ps.toArray.size=ns.length:=by refine cQ e2 ?_;exact (List.length_map ..).symm
 rw [Dk i iy]at hi;cases hi;exact Gv _ _ i (fJ iy (b7 gF) (b7 (Nat.sub_add_cancel (dc (b7 gF) iy (by simp+arith only):(1)<=(ps.toArray.size)))) (by simp+arith only))
theorem xd:jv Γ (.builtin "max") lF:=by
 intro K x v P Q hc;induction hc with
 |@i a b p=>
  intro hv k;apply hv.k2;intro u w h1 h2;apply h1.ki;intro t;apply h2.ki;intro t';exact max_two_ints K.R.h λ h' tk hk=>K.kg k p hk (by split<;>exact .int _ _)
 |l hx jA lG p=>intro hv k;apply hv.k1;intro u hu;apply hu.kr;intro a hl;refine K.w.CE hl hx jA λ ps n g1 e2=>?_;have gF:ps.toArray.size=ps.length:=rfl;have gN:=congrArg List.length e2;rw [List.length_map]at gN;refine max_intList K.R.h (IsL.il g1) (fJ lG (b7 gF) (b7 gN) (by simp+arith only)) λ v h' tk mL hk=>?_;obtain ⟨t,rfl⟩:=intItems_at mL;have ed:=(Array.getElem?_eq_some_iff.mp mL).1;simp [intItems]at ed;exact K.kg k p hk (Mm e2 (by simpa [gN]using ed)▸.int _ _)
inductive Dl(σ:U)(P:PV):List AV->Prop
 |i {a b:Int}:P (.int (if b<a then b else a)) σ->Dl σ P [.int a,.int b]
theorem WA:jv Γ (.builtin "min") Dl:=by
 intro K x v P Q hc;induction hc with
 |@i a b p=>intro hv k;apply hv.k2;intro u w h1 h2;apply h1.ki;intro t;apply h2.ki;intro t';exact min_two_ints K.R.h λ h' tk hk=>K.kg k p hk (by split<;>exact .int _ _)
noncomputable def CF(ns:List Int):Bool:=ns.all (λ n=>decide (0<=n/\n<=1000000000))&&decide (ns.length<=1000)
inductive Dm(σ:U)(P:PV):List AV->Prop
 |l {l:Nat} {xs:List AV} {ns:List Int}:σ[l]?=some (.list xs)->fm xs=some ns->CF ns=true->P (.int ns.sum) σ->Dm σ P [.ref l]
theorem Mn{ps:List (Int×Tok)}{ns:List Int}(e2:ps.map (·.1)=ns)(i9:CF ns=true):ps.length=ns.length/\ns.length<=1000/\∀k,preSum (numAt ps.toArray) k=(ns.take k).sum/\(0<=preSum (numAt ps.toArray) k/\preSum (numAt ps.toArray) k<=1000000000*k)/\0<=numAt ps.toArray k/\numAt ps.toArray k<=1000000000:=by
 unfold CF at i9;simp only [Bool.and_eq_true,List.all_eq_true,decide_eq_true_eq]at i9;have Dk:∀i,numAt ps.toArray i=(ns[i]?).getD 0:=λ i=>by rw [<-e2];simp [numAt]
 have WB:∀i,0<=numAt ps.toArray i/\numAt ps.toArray i<=1000000000:=λ i=>by
  rw [Dk];cases e:ns[i]?with
  |none=>decide
  |some m=>exact i9.1 m (List.mem_of_getElem? e)
 refine ⟨by rw [<-e2,List.length_map],i9.2,λ k=>⟨?_,?_,WB k⟩⟩
 ·induction k with
  |zero=>simp [preSum]
  |succ k ih=>refine (?_:preSum (numAt ps.toArray) k+numAt ps.toArray k=_);rw [ih,Dk,List.take_add_one];cases ns[k]?<;>simp
 ·induction k with
  |zero=>simp [preSum]
  |succ k ih=>refine (?_:0<=preSum (numAt ps.toArray) k+numAt ps.toArray k/\preSum (numAt ps.toArray) k+numAt ps.toArray k<=_);have hb:=WB k;constructor<;>lia
theorem WD:jv Γ (.builtin "sum") Dm:=by
 intro K x v P Q hc;induction hc with
 |@l l xs ns hx jA i9 p=>
  intro hv k;apply hv.k1;intro u hu;apply hu.kr;intro a hl;refine K.w.CE hl hx jA λ ps n g1 e2=>Wa (Mn e2 i9) λ hlen hz vW=>sum_intList K.R.h (IsL.il g1) (λ j hj=>?_) λ h' tk t' hk=>K.kg k p hk ?_
  ·have hb:=(vW j).2.2;have hp:=(vW (j+1)).2.1;have hj':j<ns.length:=by simpa [hlen]using hj
   unfold InLong;constructor<;>constructor<;>lia
  ·refine ae ((vW _).1)<|ae (show ps.toArray.size=ns.length by exact hlen)<|ae List.take_length ?_;exact .int _ _
inductive eL(σ:U)(P:PV):List AV->Prop
 |l {l:Nat} {xs:List AV}:σ[l]?=some (.list xs)->P (.tup xs) σ->eL σ P [.ref l]
 |t {vs:List AV}:P (.tup vs) σ->eL σ P [.tup vs]
theorem St.aai(w:St Γ){h':Heap}(hk:∀b o,w.s.heap.get? b=some o->h'.get? b=some o):h'.objs.size∉w.lam:=λ hm=>w.H.vO hm λ aa ho aa=>Nat.lt_irrefl _ (Heap.lt_size (hk _ _ ho))
theorem i_:jv Γ (.type "tuple") eL:=by
 intro K x v P Q hc;induction hc with
 |l hx p=>
  intro hv k;apply hv.k1;intro u hu;apply hu.kr;intro a hl;have hz:=K.w.lz hl hx;exact K.w.dQ hl hx λ items n g1 g2 e=>call_tuple_list (IsL.il g1) (λ h' hk=>
   have e6:=λ b o(e:K.w.s.heap.get? b=some o)=>Heap.get?_push_of_some {cls:=.type "tuple",data:=.seq items} (hk b o e)
   K.kg (tk:=K.w.s.toks) k p e6 (.tup (n:=0) ⟨K.w.aai hk,Heap.get?_push_size _ rfl⟩ (bB.bo (.i6 e6) g2) hz)) (Nat.le_trans (e▸hz) (Nat.le_trans (by decide) dh))
 |t p=>intro hv k;apply hv.k1;intro u hu;have hz:=hu.kz;apply hu.kt;intro a items n ht ef;exact call_tuple_same ht.it (K.k0 k p (.tup ht ef hz))
inductive Je(σ:U)(P:PV):List AV->Prop
 |l {l:Nat} {xs:List AV}:σ[l]?=some (.list xs)->P (.ref σ.length) (σ++[.list xs])->Je σ P [.ref l]
theorem Mo:jv Γ (.type "list") Je:=by
 intro K x v P Q hc;induction hc with
 |l hx p=>intro hv k;apply hv.k1;intro u hu;apply hu.kr;intro a hl;have hz:=K.w.lz hl hx;exact K.w.dQ hl hx λ items n g1 g2 e=>call_list_seq a (.inl rfl) g1 rfl rfl (λ h' c' hk hD=>K.kl (tk:=K.w.s.toks) k p hk (Heap.get?_none_of_le (Nat.le_refl _)) hD g2 hz) (Nat.le_trans (e▸hz) (Nat.le_trans (by decide) dh))
inductive yZ(σ:U)(P:PV):List AV->Prop
 |l {l:Nat} {xs:List AV} {ns:List Int}:σ[l]?=some (.list xs)->fm xs=some ns->ns.length<64->P (.ref σ.length) (σ++[.list ((iS ns).map .int)])->yZ σ P [.ref l]
theorem Mp:jv Γ (.builtin "sorted") yZ:=by
 intro K x v P Q hc;induction hc with
 |@l l xs ns hx jA hz p=>intro hv k;apply hv.k1;intro u hu;apply hu.kr;intro a hl;refine K.w.CE hl hx jA λ ps n g1 e2=>sorted_ints (vs:=(intItems ps.toArray).toList) (ns:=ns) (IsL.il g1) (by refine cQ e2 ?_;simpa [intItems]using mZ ps) (by rw [<-e2]at hz;simpa [intItems]using hz) λ out xc a1 a2 a3=>?_;cases q8 (a2.trans (jh ns).symm) a3 (nN ns);exact d9 (sortedAll_at K.w.s.heap (intItems ps.toArray).toList out) λ aa hk=>K.kl (tk:=K.w.s.toks) k p (λ aa aa=>sortedAll_old) (Heap.get?_none_of_le (Nat.le_succ _)) hk (bB.Dj a1) (by rw [List.length_map,(jh ns).length_eq];exact nc (Nat.le_of_lt hz) rfl)
inductive Jf(σ:U)(P:PV):List AV->Prop
 |i {n:Int}:P (.int n) σ->Jf σ P [.int n]
theorem PS:jv Γ (.type "int") Jf:=by
 intro K x v P Q hc;induction hc with
 |i p=>intro hv k;apply hv.k1;intro u hu;apply hu.ki;intro t;exact call_int_int (K.k0 k p (.int _ _))
end
end
section
set_option genInjectivity false
set_option genSizeOf false
section
variable{Γ:dv}
theorem St.Le.none{o w:St Γ}(S:o.Le w){b:Addr}(h:w.s.heap.get? b=none):o.s.heap.get? b=none:=by
 cases e:o.s.heap.get? b with
 |none=>rfl
 |some v=>exact d9 ((Step.toF (env:=default) S w.H).iQ b v e) λ aa e'=>nomatch h.symm.trans e'
theorem Cx.S9(K:Cx Γ){kd:aP->Prop}{P:aP->U->Prop}{Q:Value->Shared->Prop}{x:aP}{w:St Γ}{h':Heap}{tk:Nat}{it:Addr}(k:K.KI kd P Q)(S:K.w.Le w)(hk:∀b o,w.s.heap.get? b=some o->h'.get? b=some o)(hn:w.s.heap.get? it=none)(p:P x w.σ)(hx:kd x)
  (ir:Kx w.s.heap w.lam h' w.lam->IR h' w.lam x it [it]):Q (.ref it) {w.s with heap:=h',toks:=tk}:=
 have h:=w.H.i6 (s':={w.s with heap:=h',toks:=tk}) hk rfl rfl
 k it x ⟨_,_,_,h.1⟩ [it] (Step.trans S h.2) p hx ⟨ir h.2.kx,λ b hb hm=>w.H.vO hm λ o ho aa=>by cases List.mem_singleton.mp hb;exact nomatch hn.symm.trans ho⟩ λ b hb=>by cases List.mem_singleton.mp hb;exact S.none hn
inductive d2(σ:U)(P:aP->Prop):AV->Prop
 |t {vs:List AV}:P (.tup vs)->d2 σ P (.tup vs)
 |l {l:Nat} {xs:List AV}:σ[l]?=some (.list xs)->P (.list l 0)->d2 σ P (.ref l)
 |x {x:String}:eQ x=true->P (.text x 0)->d2 σ P (.str x)
def fq(a:AE):AI:=λ F ρ σ P=>a F ρ σ λ v σ=>d2 σ (λ x=>P x σ) v
theorem dw{e:Expr}{a:AE}(ha:bf Γ e a):nM Γ fL e (fq a):=λ K P Q hc k=>ha K.r hc λ u v w S p hv=>by
 have hg:=λ(o:Obj)b o'(e:w.s.heap.get? b=some o')=>Heap.get?_push_of_some o e;have hn:=Heap.get?_none_of_le (h:=w.s.heap) (Nat.le_refl _);revert hv;induction p with
 |t p=>
  intro hv;apply hv.kt;intro a items n ht ef;exact wpAny_pyIter_tuple ht.it (K.S9 (tk:=w.s.toks) k S (hg _) hn p trivial λ kx=>⟨_,0,_,_,⟨_,Heap.get?_push_size _ rfl,rfl,rfl⟩,kx.tt ht,by refine ae List.drop_zero ?_;exact ef.bo kx,rfl⟩)
 |l hx p=>
  intro hv;apply hv.kr;intro a hl;exact w.dQ hl hx λ items n g1 g2 aa=>wpAny_pyIter_list (IsL.il g1) (K.S9 (tk:=w.s.toks) k S (hg _) hn p trivial λ kx=>⟨_,⟨_,Heap.get?_push_size _ rfl,rfl,rfl⟩,hl,rfl⟩)
 |x hy p=>intro hv;apply hv.ks;intro t;exact gy (p9 hy) λ c uD zL Wx=>wpAny_pyIter_ascii (by refine ae uD ?_;simpa using Wx) (K.S9 (tk:=w.s.toks) k S (hg _) hn p trivial λ kx=>⟨_,⟨_,Heap.get?_push_size _ rfl,rfl,rfl⟩,hy,rfl⟩)
def ot(a b c:Int):Prop:=0<c/\c<=1000/\-1000000<=a/\a<=1000000/\-1000000<=b/\b<=1000000
noncomputable def qa(a b c:Int):aP:=.mM a c (Builtin.Range.rangeSize a b c).toNat
inductive mA(P:aP->Prop):List AV->Prop
 |a {b:Int}:ot 0 b 1->P (qa 0 b 1)->mA P [.int b]
 |b {a b:Int}:ot a b 1->P (qa a b 1)->mA P [.int a,.int b]
 |c {a b c:Int}:ot a b c->P (qa a b c)->mA P [.int a,.int b,.int c]
def y0(cs:List AE):AI:=λ F ρ σ P=>jT cs F ρ σ λ vs σ=>mA (λ x=>P x σ) vs
theorem PT{a b c:Int}(h:ot a b c):0<=Builtin.Range.rangeSize a b c/\Builtin.Range.small a b c=true:=by
 unfold ot at h;have hn:0<=Builtin.Range.rangeSize a b c/\Builtin.Range.rangeSize a b c<=3000000:=by
  unfold Builtin.Range.rangeSize;refine ae (if_pos h.1) ?_;split
  ·have h1:0<=(b -a -1)/c:=Int.ediv_nonneg (by omega) (by omega);have h2:(b -a -1)/c<=b -a -1:=Int.ediv_le_self _ (by omega);omega
  ·decide
 refine ⟨hn.1,?_⟩;unfold Builtin.Range.small Builtin.Range.rangeFitsLong;have hc:c>0:=h.1;refine ae (if_pos hc) ?_;simp only [Bool.and_eq_true,decide_eq_true_eq,Bool.or_eq_true];refine ⟨⟨⟨⟨?_,?_⟩,?_⟩,?_⟩,.inr ?_⟩<;>omega
theorem vX(K:Cx Γ){P:aP->U->Prop}{Q:Value->Shared->Prop}{w:St Γ}{a b c:Int}{t u v:Tok}{tk:Nat}(k:K.KI fL P Q)(S:K.w.Le w)(i9:ot a b c)(p:P (qa a b c) w.σ):
  wpAny Γ.M K.A (pyIter (.ref w.s.heap.objs.size)) Q K.E {w.s with heap:=w.s.heap.push {cls:=.type "range",data:=.fields #[.int a t,.int b u,.int c v]},toks:=tk}:=by
 refine CX (PT i9) λ hn0 WE=>wpAny_pyIter_range (IsRange.new ..) WE (K.S9 k S (λ b o e=>Heap.get?_push_of_some _ (Heap.get?_push_of_some _ e)) (Heap.get?_none_of_le ?_) p trivial λ aa=>⟨?_,rfl⟩)
 ·refine (?_:_<=(Heap.push _ _).objs.size);rw [Heap.size_push];exact Nat.le_succ _
 ·refine (?_:_=_);refine ae (Int.toNat_of_nonneg hn0) ?_;exact Heap.get?_push_size _ rfl
theorem pd(W:Wd Γ.G){np pos:Pos}{es:List Expr}{cs:List AE}(g:cA Γ.G "range" (.type "range"))(hk:Γ.sc.names.lookup (Str.ofString "range")=some .globalImplicit)(kp:vR Γ.G (.type "range"))(a:fD Γ es cs):
  nM Γ fL (.Call (.Name (Str.ofString "range") np) es [] pos) (y0 cs):=λ K P Q hc k=>
 wpAny_Call_ofName (pX W K g hk (by decide) (gL W K kp a hc λ us vs w S p hv=>by
  revert hv;induction p with
  |a i9 p=>intro hv;apply hv.k1;intro u h1;apply h1.ki;intro t;exact call_range_1 (vX K k S i9 p)
  |b i9 p=>intro hv;apply hv.k2;intro u v h1 h2;apply h1.ki;intro t;apply h2.ki;intro t';exact call_range_2 (vX K k S i9 p)
  |c i9 p=>intro hv;apply hv.k3;intro u v x h1 h2 h3;apply h1.ki;intro t;apply h2.ki;intro t';apply h3.ki;intro t'';have abJ:=i9;unfold ot at abJ;exact call_range_3 (by omega) (vX K k S i9 p) (Or.inl (PyProof.noPylong_small (by omega)))))
end
mutual
noncomputable def ma:AV->Bool
 |.base _=>false
 |.tup vs=>oP vs
 |_=>true
noncomputable def oP:List AV->Bool
 |[]=>true
 |v::vs=>ma v&&oP vs
end
theorem rZ(v:AV)(vs:List AV):oP (v::vs)=(ma v&&oP vs):=rfl
theorem acT:oP []=true:=rfl
theorem Jg(vs:List AV):ma (.tup vs)=oP vs:=rfl
theorem adg(x:String):ma (.str x)=true:=rfl
theorem adh(x:Int):ma (.int x)=true:=rfl
inductive Dn(h:Heap)(lam:List Addr)(b:Addr):AV->Prop
 |tup {vs:List AV} {items:Array Value} {n:Nat}:TT h lam b items n->bB h lam vs items.toList->Dn h lam b (.tup vs)
 |ref {l:Nat}:lam[l]?=some b->Dn h lam b (.ref l)
 |base:Dn h lam b (.base b)
noncomputable def VW(h:Heap)(lam:List Addr)(a:AV):Value->Prop
 |.none=>a=.none
 |.bool b=>a=.bool b
 |.int i _=>a=.int i
 |.str X _=>∃y,a=.str y/\X=Str.ofString y
 |.ref b=>Dn h lam b a
 |_=>False
section
variable{h:Heap} {lam:List Addr} {a b:AV} {v:Value}
theorem VR.vw(x:VR h lam a v):VW h lam a v:=
 @VR.rec h lam (λ a v aa=>VW h lam a v) (λ aa aa aa=>True) rfl (λ aa=>rfl) (λ aa aa=>rfl) (λ x aa aa e=>⟨x,rfl,e⟩) (λ ht hv aa aa=>.tup ht hv) (λ e=>.ref e) (λ aa=>.base) trivial (λ aa aa aa aa=>trivial) _ _ x
theorem VR.WH(x:VR h lam a .none):a=.none:=x.vw
theorem VR.WI{b:Bool}(x:VR h lam a (.bool b)):a=.bool b:=x.vw
theorem VR.aaj{i:Int}{t:Tok}(x:VR h lam a (.int i t)):a=.int i:=x.vw
theorem VR.aak{X:Str}{t:Tok}(x:VR h lam a (.str X t)):∃y,a=.str y/\X=Str.ofString y:=x.vw
theorem VR.S_{b:Addr}(x:VR h lam a (.ref b)):Dn h lam b a:=x.vw
theorem VR.det(hn:lam.Nodup)(x:VR h lam a v)(y:VR h lam b v)(h1:ma a=true)(h2:ma b=true):a=b:=by
 refine @VR.rec h lam (λ a v aa=>∀b,VR h lam b v->ma a=true->ma b=true->a=b) (λ as vs aa=>∀bs,bB h lam bs vs->oP as=true->oP bs=true->as=bs)
  (λ b hb aa aa=>hb.WH.symm) (λ aa b hb aa aa=>hb.WI.symm) (λ aa aa b hb aa aa=>hb.aaj.symm) (λ x aa t e b hb aa aa=>?_) (λ ht hv aa ih b hb h1 h2=>?_) (λ hl b hb aa h2=>?_) (λ aa aa aa h1 aa=>nomatch h1) (λ bs hb aa aa=>?_) (λ h1 h2 i1 i2 bs hb e1 e2=>?_) _ _ x _ y h1 h2
 ·obtain ⟨y,rfl,e'⟩:=hb.aak;rw [cH (e.symm.trans e')]
 ·cases hb.S_ with
  |tup oj mL=>
   have e:=ht.2.symm.trans oj.2;injection e with e;injection e with _ _ e _;injection e with e _
   subst e;rw [ih _ mL h1 h2]
  |ref hl=>exact absurd (List.mem_of_getElem? hl) ht.1
  |base=>cases h2
 ·cases hb.S_ with
  |tup oj mL=>exact absurd (List.mem_of_getElem? hl) oj.1
  |ref fc=>rw [j8 hn hl fc]
  |base=>cases h2
 ·cases hb;rfl
 ·cases hb with|cons h3 h4=>have e1:=Bool.and_eq_true_iff.mp e1;have e2:=Bool.and_eq_true_iff.mp e2;exact ae (i1 _ h3 e1.1 e2.1)<|ae (i2 _ h4 e1.2 e2.2) rfl
end
inductive jV(x:AV):List AV->Bool->Prop
 |nil:jV x [] false
 |cons {y:AV} {r:List AV} {a b:Bool}:ma y=true->gX 20 y x a->jV x r b->jV x (y::r) (a||b)
theorem bB.mem{h:Heap}{lam:List Addr}{cT:List AV}{vs:List Value}(x:bB h lam cT vs):∀v∈vs,∃a∈cT,VR h lam a v:=by
 refine x.ind (λ cT vs=>∀v∈vs,∃a∈cT,VR h lam a v) (λ v hv=>nomatch hv) λ h1 aa ih v hv=>?_;rcases List.mem_cons.mp hv with rfl|hv
 ·exact ⟨_,.head _,h1⟩
 ·refine bA (ih v hv) λ a ha h3=>?_;exact ⟨a,.tail _ ha,h3⟩
theorem jV.abK{x:AV}{ys:List AV}{b:Bool}(h:jV x ys b):∀y∈ys,∃c,gX 20 y x c/\ma y=true:=by
 induction h with
 |nil=>exact λ aa hy=>nomatch hy
 |cons e0 e1 _ ih=>
  intro y hy;rcases List.mem_cons.mp hy with rfl|hy
  ·exact ⟨_,e1,e0⟩
  ·exact ih y hy
open Classical in
noncomputable def Tc(h:Heap)(lam:List Addr)(x:AV)(y:Value):Bool:=decide (∃a,VR h lam a y/\gX 20 a x true/\ma a=true)
open Classical in
theorem Mq{h:Heap}{lam:List Addr}(hn:lam.Nodup){x a:AV}{y:Value}{c:Bool}(hy:VR h lam a y)(e:gX 20 a x c)(hb:ma a=true):Tc h lam x y=c:=by
 unfold Tc;cases c with
 |true=>exact decide_eq_true ⟨a,hy,e,hb⟩
 |false=>refine decide_eq_false λ ⟨b,Hz,e',hbb⟩=>?_;rw [VR.det hn Hz hy hbb hb]at e';exact nomatch e.C9.2 (e'.C9.1 rfl)
theorem HA{h:Heap}{lam:List Addr}(hn:lam.Nodup){x:AV}{ys:List AV}{b:Bool}(e:jV x ys b):∀{vs:List Value},bB h lam ys vs->vs.any (Tc h lam x)=b:=by
 induction e with
 |nil=>intro vs hv;cases hv;rfl
 |cons e0 e1 _ ih=>
  intro vs hv;cases hv with|cons h1 h2=>
  exact ae List.any_cons<|ae (Mq hn h1 e1 e0)<|ae (ih h2) rfl
theorem Dp{d:Nat}{A:Around}{s:Shared}{lam:List Addr}(R:jt d A)(hn:lam.Nodup){x:AV}{v:Value}{ys:List AV}{vs:List Value}{b:Bool}(hx:VR s.heap lam x v)(hv:bB s.heap lam ys vs)(e:jV x ys b):
  ∀y∈vs,SeqAt.EqAt A.in1 s y v (Tc s.heap lam x y):=λ y hy prog w E Q hq=>by
 refine bA (hv.mem y hy) λ a ha h1=>?_;refine bA (e.abK a ha) λ c hc hb=>?_;rw [Mq hn h1 hc hb]at hq;exact mU 20 hc h1 hx (by have:=R.un;refine (?_:A.units+1+20+1<cLine);exact bQ this (by simp+arith only)) hq
theorem KR.isSome{K K':Type}[DecidableEq K][DecidableEq K']{f:K->K'}{h:Heap}{lam:List Addr}(hf:∀a b,f a=f b->a=b){kvs:List (K×AV)}{kvs':List (K'×Value)}(x:KR f h lam kvs kvs')(k:K):(valueAt kvs' (f k)).isSome=(bD kvs k).isSome:=by
 cases e:bD kvs k with
 |some v=>refine bA ((x.get hf k).1 v e) λ u h1 aa=>?_;refine ae h1 ?_;rfl
 |none=>refine ae ((x.get hf k).2 e) ?_;rfl
theorem KT.isSome{h:Heap}{lam:List Addr}{kvs:List (List AK×AV)}{xs}(x:KT h lam kvs xs)(k:List AK):(atKey xs k).isSome=(bD kvs k).isSome:=by
 cases e:bD kvs k with
 |some v=>refine bA ((x.get k).1 v e) λ u h1 aa=>?_;refine ae h1 ?_;rfl
 |none=>refine ae ((x.get k).2 e) ?_;rfl
section
variable{prog:Program} {w:World} {A:Around} {E:Value->Shared->Prop} {s:Shared}
theorem hW{value slice:Expr}{o i:Value}{T id:String}{Q:Value->Shared->Prop}(ht:s.TypeIs o T)(hs:Slot T "__getitem__" id)(hm:o≠.builtin "sys.modules#opaque")(h:wpAny (model prog w) A (getItem o i) Q E s):
  wpAny (model prog w) A (subscriptTail value slice o i) Q E s:=by
 unfold subscriptTail;refine ae (getitemInPython_of_ne hm) ?_;refine wpAny_bind (wpAny_bind (wpAny_specialOf ht hs.lookup (wpAny_pure ?_)));have key:wpAny (model prog w) A (subscripted slice false o i) Q E s:=by
  cases slice with
  |Slice _ _ st _=>
   cases st with
   |none=>exact wpAny_operate' h
   |some _=>exact wpAny_operate' h
  |_=>exact wpAny_operate' h
 exact wpAny_bind (wpAny_mono key (λ r f9 q=>wpAny_bind (wpAny_letTemporaryGo (wpAny_pure q))) λ aa aa e=>e)
end
section
variable{Γ:dv}
theorem St.gj(W:Wd Γ.G)(w:St Γ){l:Nat}{a:Addr}(ha:w.lam[l]?=some a):(a==sysModules)=false:=beq_eq_false_iff_ne.mpr λ e=>d9 W.sys λ o ho=>nomatch(e▸w.H.above a (List.mem_of_getElem? ha)).symm.trans ho
inductive r5(σ:U)(P:Bool->Prop):AV->AV->Prop
 |tu {x:AV} {ys:List AV} {b:Bool}:jV x ys b->P b->r5 σ P x (.tup ys)
 |l {x:AV} {l:Nat} {ys:List AV} {b:Bool}:σ[l]?=some (.list ys)->jV x ys b->P b->r5 σ P x (.ref l)
 |i {k:Int} {l:Nat} {kvs:List (Int×AV)}:σ[l]?=some (.dI kvs)->P (bD kvs k).isSome->r5 σ P (.int k) (.ref l)
 |s {k:String} {l:Nat} {kvs:List (String×AV)}:σ[l]?=some (.dS kvs)->P (bD kvs k).isSome->r5 σ P (.str k) (.ref l)
 |t {ks:List AV} {k:List AK} {l:Nat} {kvs:List (List AK×AV)}:σ[l]?=some (.dT kvs)->hU ks=some k->P (bD kvs k).isSome->r5 σ P (.tup ks) (.ref l)
abbrev pe:O2:=λ σ P=>r5 σ λ b=>P (.bool b) σ
abbrev fM:O2:=λ σ P=>r5 σ λ b=>P (.bool !b) σ
theorem Td(W:Wd Γ.G)(n:Bool):iR Γ (compareOp (if n then .NotIn else .In)) λ σ P=>r5 σ λ b=>P (.bool (if n then !b else b)) σ:=by
 intro K x c v u P Q hc;induction hc with
 |tu hb p=>
  intro hv hu k;apply hu.kt;intro a items m ht ef;have e:=HA K.w.H.nodup hb ef;rw [Array.any_toList]at e;subst e;have he:=λ y(hy:y∈items)=>Dp K.R K.w.H.nodup hv ef hb y (Array.mem_toList_iff.mpr hy);cases n with
  |true=>exact SeqAt.notIn_tupleAt _ ht.it he (K.k0 k p (.bool _))
  |false=>exact SeqAt.in_tupleAt _ ht.it he (K.k0 k p (.bool _))
 |l hx hb p=>
  intro hv hu k;apply hu.kr;intro a hl;refine K.w.dQ hl hx λ items m g1 g2 aa=>?_;have e:=HA K.w.H.nodup hb g2;rw [Array.any_toList]at e;subst e;have he:=λ y(hy:y∈items)=>Dp K.R K.w.H.nodup hv g2 hb y (Array.mem_toList_iff.mpr hy);cases n with
  |true=>exact SeqAt.notIn_listAt _ (IsL.il g1) he (K.k0 k p (.bool _))
  |false=>exact SeqAt.in_listAt _ (IsL.il g1) he (K.k0 k p (.bool _))
 |@i k0 _ _ hx p=>
  intro hv hu k;apply hu.kr;intro a hl;apply hv.ki;intro t;refine K.w.dI hl hx λ kvs' h1 h2 aa=>?_;rw [<-h2.isSome (λ aa aa e=>e)]at p;cases n with
  |true=>exact wpAny_notIn_of (knd:=intKind Γ.G.prog Γ.G.w) (intKind_is _ _ _ _) (K.w.gj W hl) h1.mapOf (K.k1 k p (.bool _) _)
  |false=>exact wpAny_in_of (knd:=intKind Γ.G.prog Γ.G.w) (intKind_is _ _ _ _) (K.w.gj W hl) h1.mapOf (K.k1 k p (.bool _) _)
 |s hx p=>
  intro hv hu k;apply hu.kr;intro a hl;apply hv.ks;intro t;refine K.w.dS hl hx λ kvs' h1 h2 aa=>?_;rw [<-h2.isSome (λ aa aa=>cH)]at p;cases n with
  |true=>exact wpAny_notIn_of (knd:=dR Γ.G.prog Γ.G.w) (strKind_is _ _ _ _) (K.w.gj W hl) h1.mapOf (K.k1 k p (.bool _) _)
  |false=>exact wpAny_in_of (knd:=dR Γ.G.prog Γ.G.w) (strKind_is _ _ _ _) (K.w.gj W hl) h1.mapOf (K.k1 k p (.bool _) _)
 |t hx hk p=>
  intro hv hu k;apply hu.kr;intro a hl;refine K.w.dT hl hx λ xs h1 h2 aa aa=>?_;rw [<-h2.isSome]at p;have mL:=hv;revert mL;apply hv.kt;intro b items m ht ef mL;cases n with
  |true=>exact wpAny_notIn_heap (knd:=cI Γ.G.prog Γ.G.w) (jt.tk K.R) (j' mL hk) (K.w.gj W hl) h1 (K.k1 k p (.bool _) _)
  |false=>exact wpAny_in_heap (knd:=cI Γ.G.prog Γ.G.w) (jt.tk K.R) (j' mL hk) (K.w.gj W hl) h1 (K.k1 k p (.bool _) _)
theorem Jh(W:Wd Γ.G):iR Γ (compareOp .In) pe:=Td W false
theorem nj(W:Wd Γ.G):iR Γ (compareOp .NotIn) fM:=Td W true
inductive aj(σ:U)(P:PV):AV->AV->Prop
 |l {l:Nat} {xs:List AV} {k:Int} {j:Nat} {v:AV}:σ[l]?=some (.list xs)->w9 k xs.length j->xs[j]?=some v->P v σ->aj σ P (.ref l) (.int k)
 |i {l:Nat} {kvs:List (Int×AV)} {k:Int} {v:AV}:σ[l]?=some (.dI kvs)->bD kvs k=some v->P v σ->aj σ P (.ref l) (.int k)
 |s {l:Nat} {kvs:List (String×AV)} {k:String} {v:AV}:σ[l]?=some (.dS kvs)->bD kvs k=some v->P v σ->aj σ P (.ref l) (.str k)
 |t {l:Nat} {kvs:List (List AK×AV)} {ks:List AV} {k:List AK} {v:AV}:σ[l]?=some (.dT kvs)->hU ks=some k->bD kvs k=some v->P v σ->aj σ P (.ref l) (.tup ks)
 |u {xs:List AV} {k:Int} {j:Nat} {v:AV}:w9 k xs.length j->xs[j]?=some v->P v σ->aj σ P (.tup xs) (.int k)
 |x {x:String} {k:Int} {j:Nat} {c:Char}:w9 k x.toList.length j->x.toList.length<=10000->x.toList[j]?=some c->P (.str (String.ofList [c])) σ->aj σ P (.str x) (.int k)
theorem bB.size{h:Heap}{lam:List Addr}{xs:List AV}{a:Array Value}(x:bB h lam xs a.toList):xs.length=a.size:=x.length.trans (Array.length_toList ..)
theorem w9.seq{k:Int}{n j:Nat}(e:w9 k n j):seqIndex? k n=some j:=by
 obtain ⟨h,rfl|rfl⟩:=e
 ·have h2:¬(j:Int)<0:=by lia
  simp [seqIndex?,h2,h]
 ·have h2:(j:Int) -n<0:=by lia
  have h3:0<=(j:Int) -n+n:=by lia
  simp [seqIndex?,h2,h3];exact h
theorem WJ{value slice:Expr}:iR Γ (subscriptTail value slice) aj:=by
 intro K o i v u Pr Q hc;induction hc with
 |@l l xs k j v hx hj hv p=>
  intro ho hi k;apply ho.kr;intro a hl;apply hi.ki;intro t;have hz:=K.w.lz hl hx;refine K.w.dQ hl hx λ items n g1 g2 e=>bA (bB.get g2 _ hv) λ y hy j7=>hW (IsL.typeIs g1) slot_list_getitem (by simp) ?_;rw [Array.getElem?_toList]at hy;obtain ⟨xf,rfl|rfl⟩:=hj
  ·exact wpAny_getItem_list (IsL.il g1) (by lia) (by lia) (by simpa using hy) (K.k0 k p j7)
  ·exact wpAny_getItem_list_neg (IsL.il g1) (by lia) (by lia) (by lia) (by refine ae (show((j:Int) -xs.length+items.size).toNat=j by lia) ?_;exact hy) (K.k0 k p j7)
 |i hx hv p=>
  intro ho hi k;apply ho.kr;intro a hl;apply hi.ki;intro t;exact K.w.dI hl hx λ kvs' h1 h2 aa=>bA ((h2.get (λ aa aa e=>e) _).1 _ hv) λ u e1 e2=>hW h1.typeIs slot_dict_getitem (by simp) (wpAny_getItem_of (knd:=intKind Γ.G.prog Γ.G.w) (intKind_is _ _ _ _) h1.mapOf e1 (K.k1 k p e2 _))
 |s hx hv p=>
  intro ho hi k;apply ho.kr;intro a hl;apply hi.ks;intro t;exact K.w.dS hl hx λ kvs' h1 h2 aa=>bA ((h2.get (λ aa aa=>cH) _).1 _ hv) λ u e1 e2=>hW h1.typeIs slot_dict_getitem (by simp) (wpAny_getItem_of (knd:=dR Γ.G.prog Γ.G.w) (strKind_is _ _ _ _) h1.mapOf e1 (K.k1 k p e2 _))
 |t hx hk hv p=>
  intro ho hi k;apply ho.kr;intro a hl;refine K.w.dT hl hx λ xs h1 h2 aa aa=>bA ((h2.get _).1 _ hv) λ q e1 e2=>?_;have nL:=hi;revert nL;apply hi.kt;intro b' items n ht ef nL;exact hW (rH h1 λ o es ep ho hx aa=>⟨o,ho,hx.1⟩) slot_dict_getitem (by simp) (wpAny_getItem_heap (knd:=cI Γ.G.prog Γ.G.w) (jt.tk K.R) (j' nL hk) h1 e1 (K.k1 k p e2 _))
 |u hj hv p=>
  intro ho hi k;have hz:=ho.kz;apply ho.kt;intro a items n ht ef;apply hi.ki;intro t;refine bA (bB.get ef _ hv) λ y hy j7=>?_;have e:=ef.size;have hj':=hj;unfold w9 at hj';rw [Array.getElem?_toList]at hy;exact hW (IsT.typeIs ht) PySem.F.slot_tuple_getitem (by simp) (P.getItem_tuple ht.2 (by lia) (by lia) (e▸hj.seq) hy (K.k0 k p j7))
 |@x x k j c hj hz hv p=>
  intro ho hi k;apply ho.ks;intro t;apply hi.ki;intro t';have hlen:(Str.ofString x).length=x.toList.length:=by rw [Str.ofString_eq_toList];refine (?_:Array.size _=_);exact List.length_map ..
  have hcp:(Str.ofString x).cps[j]?=some c.toNat:=by rw [Str.ofString_eq_toList];simp [hv]
  have e1:Str.ofString (String.ofList [c])=⟨#[c.toNat]⟩:=by rw [Str.ofString_eq_toList];simp
  exact hW rfl PySem.F.slot_str_getitem (by simp) (P.getItem_str (c:=c.toNat) (by have:=hj.1;rcases hj.2 with rfl|rfl<;>simp<;>lia) (by refine ae hlen<|ae hj.seq ?_;exact hcp) (K.k1 k p (.str _ _ e1.symm) _))
theorem aA(W:Wd Γ.G){e:Expr}{x:String}{pos:Pos}{c:AE}(ho:bf Γ e c)(he:eval (.Attribute e (Str.ofString x) pos)=λ env=>(do
   let o<-eval e env
   standAt pos.atName
   let r<-holding [o] (getAttr o (Str.ofString x) true)
   letTemporaryGo e o r
   pure r)):bf Γ (.Attribute e (Str.ofString x) pos) (aZ c (ak x)):=λ K aa aa hc k=>Attribute_any_ (Up K ho (Wr W x) hc k) (congrFun he _)
theorem aF{e i:Expr}{pos:Pos}{c ci:AE}(ho:bf Γ e c)(hi:bf Γ i ci):bf Γ (.Subscript e i pos) (aB c ci aj):=λ K aa aa hc k=>Subscript_ (tX K ho hi WJ hc k)
end
end
section
set_option genInjectivity false
set_option genSizeOf false
theorem pf:∀(names:List (Str×NameKind))(n:Nat)(acc:List (Str×Addr))(x:Str),(names.lookup x=some .cell\/(acc.lookup x).isSome=true)->((cellsFrom n names acc).lookup x).isSome=true:=by
 intro bN;induction bN with
 |nil=>
  intro n acc x h;rcases h with h|h
  ·simp at h
  ·exact h
 |cons r6 r ih=>
  obtain ⟨y,k⟩:=r6;intro n acc x h;unfold cellsFrom;by_cases jn:x==y
  ·rcases h with h|h
   ·rw [List.lookup_cons,jn]at h;cases h;exact ih _ _ x (.inr (by refine ae List.lookup_cons<|ae jn ?_;rfl))
   ·split
    ·exact ih _ _ x (.inr (by refine ae List.lookup_cons<|ae jn ?_;rfl))
    ·exact ih _ _ x (.inr h)
  ·have WK:(x==y)=false:=by simpa using jn
   rcases h with h|h
   ·rw [List.lookup_cons,WK]at h;split
    ·exact ih _ _ x (.inl h)
    ·exact ih _ _ x (.inl h)
   ·split
    ·exact ih _ _ x (.inr (by refine ae List.lookup_cons<|ae WK ?_;exact h))
    ·exact ih _ _ x (.inr h)
theorem xg:∀(names:List (Str×NameKind))(n:Nat)(acc:List (Str×Addr)),(names.map (·.1)++acc.map (·.1)).Nodup->((cellsFrom n names acc).map (·.1)).Nodup:=by
 intro bN;induction bN with
 |nil=>
  intro n acc h;exact h
 |cons r6 r ih=>
  obtain ⟨y,k⟩:=r6;intro n acc h;unfold cellsFrom;split
  ·refine ih _ _ ?_;simp only [List.map_cons,List.cons_append]at h;exact (List.perm_middle (l₁:=r.map (·.1)) (l₂:=acc.map (·.1)) (a:=y)).nodup_iff.mpr h
  ·refine ih _ _ ?_;simp only [List.map_cons,List.cons_append]at h;exact (List.nodup_cons.mp h).2
theorem Dq{l:List (Str×Addr)}{x:Str}{y:Addr}(hn:(l.map (·.1)).Nodup)(h:(x,y)∈l):l.lookup x=some y:=by
 induction l with
 |nil=>cases h
 |cons z r ih=>
  rw [List.map_cons,List.nodup_cons]at hn;rw [List.lookup_cons];rcases List.mem_cons.mp h with e|h
  ·subst e;rw [beq_self_eq_true]
  ·cases hb:x==z.1 with
   |false=>exact ih hn.2 h
   |true=>exact absurd (eq_of_beq hb▸List.mem_map.mpr ⟨_,h,rfl⟩) hn.1
noncomputable def lU:List String->List AV->dy->dy
 |n::ns,v::vs,ρ=>lU ns vs (jU ρ n v)
 |_,_,ρ=>ρ
theorem HB(n:String)(ns:List String)(v:AV)(vs:List AV)(ρ:dy):lU (n::ns) (v::vs) ρ=lU ns vs (jU ρ n v):=rfl
theorem PU{h:Heap}{lam:List Addr}{kindOf:Str->Option NameKind}{ns:List String}{cT:List AV}{vs:List Value}{ρ:dy}{m cm:Str->Option Value}(hl:ns.length=cT.length)(hv:bB h lam cT vs)(hk:∀n∈ns,kindOf (Str.ofString n)=some .local\/kindOf (Str.ofString n)=some .cell)
  (h1:∀x av,kindOf (Str.ofString x)=some .local->ρ x=some av->∃v,m (Str.ofString x)=some v/\VR h lam av v)
  (h2:∀x av,kindOf (Str.ofString x)≠some .local->ρ x=some av->∃v,cm (Str.ofString x)=some v/\VR h lam av v):
  (∀x av,kindOf (Str.ofString x)=some .local->lU ns cT ρ x=some av->∃v,bindL kindOf ((ns.map Str.ofString).zip vs) m (Str.ofString x)=some v/\VR h lam av v)/\
  (∀x av,kindOf (Str.ofString x)≠some .local->lU ns cT ρ x=some av->∃v,bindC kindOf ((ns.map Str.ofString).zip vs) cm (Str.ofString x)=some v/\VR h lam av v):=by
 induction ns generalizing cT vs ρ m cm with
 |nil=>cases cT with
  |nil=>apply hv.kn;exact ⟨h1,h2⟩
  |cons=>cases hl
 |cons n ns ih=>cases cT with
  |nil=>cases hl
  |cons a cT=>
   apply hv.kc;intro v vs hv ef;rw [HB];simp only [List.map_cons,List.zip_cons_cons,bindL,bindC];refine ih (by simpa using hl) ef (λ x hx=>hk x (.tail _ hx)) (λ x av hx e=>?_) (λ x av hx e=>?_)
   ·by_cases r7:x=n
    ·subst r7;simp only [jU,if_true,Option.some.injEq]at e;subst e;refine ae (if_pos hx) ?_;exact ⟨_,if_pos rfl,hv⟩
    ·simp only [jU,r7,if_false]at e;refine bA (h1 x av hx e) λ v e1 e2=>?_;have cD:¬Str.ofString x=Str.ofString n:=λ q=>r7 (cH q);split
     ·exact ⟨v,by simp only [cD,if_false];exact e1,e2⟩
     ·exact ⟨v,e1,e2⟩
   ·by_cases r7:x=n
    ·subst r7;simp only [jU,if_true,Option.some.injEq]at e;subst e;refine ae (if_neg hx) ?_;exact ⟨_,if_pos rfl,hv⟩
    ·simp only [jU,r7,if_false]at e;refine bA (h2 x av hx e) λ v e1 e2=>?_;have cD:¬Str.ofString x=Str.ofString n:=λ q=>r7 (cH q);split
     ·exact ⟨v,e1,e2⟩
     ·exact ⟨v,by simp only [cD,if_false];exact e1,e2⟩
section
variable{G:bC} {d:Nat}
structure cY(G:bC)(a:Addr)(ns:List String)(sc:Scope)(body:List Stmt):Prop where
 iU:∃o fd,G.K.lookup a=some o/\o.data=.func fd/\codeIn G.K fd.code fd.qualname=true/\fd.body=.stmts body/\fd.scope=sc/\fd.closure=[]/\fd.globals=mainGlobals/\fd.builtins=builtinsNs/\
  ∀vs:List Value,vs.length=ns.length->bindArgs fd ⟨vs,[]⟩=pure ((ns.map Str.ofString).zip vs)
 CG:∀n∈ns,sc.names.lookup (Str.ofString n)=some .local\/sc.names.lookup (Str.ofString n)=some .cell
 Dr:∀x,sc.names.lookup x≠some .free
 nodup:(sc.names.map (·.1)).Nodup
 kind:sc.kind=.function
 co:sc.isCoroutine=false
 gen:sc.isGenerator=false
end
def AF.out(f:AF)(P:PV)(σ:U):Prop:=match f with
 |.ret v=>P v σ
 |_=>P .none σ
def HC(ns:List String)(c:AS)(F:b_)(cT:List AV)(σ:U)(P:PV):Prop:=cT.length=ns.length/\c F (lU ns cT λ aa=>none) σ λ f _ σ=>f.out P σ
theorem cY.k{G:bC}{a:Addr}{ns:List String}{sc:Scope}{body:List Stmt}{C:Prop}(K:cY G a ns sc body)(k:∀o fd,G.K.lookup a=some o->o.data=.func fd->codeIn G.K fd.code fd.qualname=true->fd.body=.stmts body->fd.scope=sc->fd.closure=[]->fd.globals=mainGlobals->fd.builtins=builtinsNs->
  (∀vs:List Value,vs.length=ns.length->bindArgs fd ⟨vs,[]⟩=pure ((ns.map Str.ofString).zip vs))->C):C:=by
 obtain ⟨o,fd,ho,Ji,HD,xh,Mr,Ds,HE,lh,xi⟩:=K.iU;exact k o fd ho Ji HD xh Mr Ds HE lh xi
theorem cB{Γ:dv}{G:bC}{d:Nat}{F:b_}{a:Addr}{ns:List String}{sc:Scope}{body:List Stmt}{c:AS}(W:Wd G)(K:cY G a ns sc body)(hb:oN ⟨G,d,F,sc⟩ body c)(hg:Γ.G=G)(hd:Γ.d=d+1):rT Γ (.ref a) (HC ns c F):=by
 subst hg;rintro A E w x v P Q R hv ⟨hl,hc⟩ k;refine K.k λ o fd ho Ji HD xh Mr Ds HE lh xi=>?_;have hX:=w.X W;have WL:v.length=ns.length:=by rw [<-bB.length hv];exact hl
 have nF:=R.nF;have un:=R.un;rw [hd]at nF un;subst Mr;refine codeAny_call_cells (o:=o) (fd:=fd) (body:=body) (binds:=(ns.map Str.ofString).zip v) (nC nF) (hX _ _ ho) Ji (W.nolimit.keeps w.H.base) (codeRec_of hX HD) xh (xi v WL) Ds (λ x hx=>?_) (λ f9 ic=>?_) K.co K.gen K.kind
 ·obtain ⟨n,hn,e⟩:=List.mem_map.mp (List.of_mem_zip (show(x.1,x.2)∈_ from hx)).1;rw [<-e];exact (K.CG n hn).imp id λ h=>⟨h,pf _ _ _ _ (.inl h)⟩
 ·generalize jW:callEnvC fd w.s.heap.objs.size a=env at ic⊢;have e1:env.locals=w.s.heap.objs.size:=by rw [<-jW];rfl
  have e2:env.scope=fd.scope:=by rw [<-jW];rfl
  have e3:env.cells=cellsFrom (w.s.heap.objs.size+1) fd.scope.names []:=by rw [<-jW];rfl
  have ek:∀x,env.kindOf x=fd.scope.names.lookup x:=λ x=>by unfold Env.kindOf;rw [e2]
  obtain ⟨h',tk,fe,_⟩:=ic.done;have WM:∀b o,w.s.heap.get? b=some o->f9.heap.get? b=some o:=ic.toInCall.keep;have hg:=w.H.i6 (s':=f9) WM (by rw [fe]) (ae fe rfl);have WO:=PU (kindOf:=env.kindOf) (ρ:=λ aa=>none) (m:=λ aa=>none) (cm:=λ aa=>none) hl.symm (bB.bo hg.2.kx hv) (λ n hn=>by rw [ek];exact K.CG n hn) (λ aa aa aa e=>nomatch e) (λ aa aa aa e=>nomatch e);have hL:w.s.heap.get? env.locals=none:=e1▸Heap.get?_none_of_le (Nat.le_refl _);have r8:∀p∈env.cells,w.s.heap.get? p.2=none:=λ p hp=>Heap.get?_none_of_le (Nat.le_of_lt (e1▸ic.above p.1 p.2 hp));have rX:(env.cells.map (·.1)).Nodup:=e3▸xg _ _ _ (by simpa using K.nodup);have WQ:FR Γ.G f9.heap w.lam env (lU ns x λ aa=>none):=by refine ⟨⟨_,ic.toInCall.ns,WO.1⟩,λ x hx=>?_,ic.apart,λ hm=>e1▸w.nG<|e1▸hm,w.H.yY hL,λ p hp=>⟨_,ic.cell p.1 p.2 (Dq rX hp)⟩⟩;have zQ:env.kindOf (Str.ofString x)=some .cell:=hx.elim id λ h=>absurd (ek _▸h.1) (K.Dr _);refine d9 (Option.isSome_iff_exists.mp (pf fd.scope.names (w.s.heap.objs.size+1) [] (Str.ofString x) (.inl (ek _▸zQ)))) λ cc Dt=>?_;rw [<-e3]at Dt;exact ⟨cc,_,Dt,ic.cell _ _ Dt,w.H.yY (r8 (_,cc) (mem_of_lookup Dt)),λ WR e=>WO.2 x WR (by refine ae zQ ?_;decide) e⟩
  have fin:∀{w':St ⟨Γ.G,d,F,fd.scope⟩},c_ env f9 w.lam w'.s w'.lam->Step w.s w.lam w'.s w'.lam:=λ S=>by
   refine ⟨S.kx.ext,λ b o' hn e=>S.keep b o' hn (λ hw=>?_) (WM b o' e),λ b hb=>(S.kx.fresh b hb).imp id λ hn=>?_⟩
   ·rcases hw with rfl|hw
    ·exact nomatch hL.symm.trans e
    ·obtain ⟨p,hp,rfl⟩:=List.mem_map.mp hw.2;exact nomatch(r8 p hp).symm.trans e
   ·cases e:w.s.heap.get? b with
    |none=>rfl
    |some o'=>exact nomatch hn.symm.trans (WM b o' e)
  refine hb ⟨A.deeper env,_,env,⟨f9,w.lam,w.σ,hg.1⟩,⟨f9,w.lam,w.σ,hg.1⟩,⟨f9,w.lam,w.σ,hg.1⟩,_,⟨R.h,by refine (?_:A.depth+1+3*d<_);exact bQ nF (by simp+arith only),by refine (?_:A.units+3+40*d+100<_);exact bQ un (by simp+arith only)⟩,
   ⟨e2,K.kind,by refine cQ jW ?_;exact HE,by refine cQ jW ?_;exact lh,λ aa=>by refine cQ jW ?_;rfl⟩,WQ,.refl _ _,.refl _ _ _⟩ hc λ fl f ρ w' F' T p hf=>?_
  cases hf with
  |ret hv=>exact k _ _ ⟨w'.s,w'.lam,w'.σ,w'.H⟩ (fin T) p hv
  |next=>exact k _ _ ⟨w'.s,w'.lam,w'.σ,w'.H⟩ (fin T) p .none
  |cont=>exact k _ _ ⟨w'.s,w'.lam,w'.σ,w'.H⟩ (fin T) p .none
section
variable{Γ:dv}
inductive cX(σ:U)(P:Nat->Prop):AV->Prop
 |mk {l:Nat} {xs:List AV}:σ[l]?=some (.list xs)->P l->cX σ P (.ref l)
inductive LAt(σ:U)(l:Nat)(P:List AV->Prop):Prop
 |mk {xs:List AV}:σ[l]?=some (.list xs)->P xs->LAt σ l P
inductive b6(v:AV)(σ:U)(P:U->Prop)(l:Nat):Prop
 |mk {xs:List AV}:σ[l]?=some (.list xs)->xs.length<10000->P (σ.set l (.list (xs++[v])))->b6 v σ P l
theorem Cx.PW(K:Cx Γ){P:PV}{Q:Value->Shared->Prop}{v:AV}{u:Value}{l:Nat}{a:Addr}{items r9:Array Value}{n:Nat}{WT:List AV}{tk:Nat}{f:Array Value->Array Value}(k:K.KV P Q)(hl:K.w.lam[l]?=some a)(h1:IsL K.w.s.heap a items n)(hf:f items=r9)
  (p:P v (K.w.σ.set l (.list WT)))(hv:K.w.Rs WT r9.toList)(hu:K.w.R v u)(hz:WT.length<=10000):Q u {K.w.s with heap:=K.w.s.heap.update a (Obj.mapSeq f),toks:=tk}:=by
 have hs:Heap.SameBut a K.w.s.heap (K.w.s.heap.update a (Obj.mapSeq f)):=Heap.SameBut.update ..;have kc:=Kx.cM (List.mem_of_getElem? hl) hs;refine K.kn k (K.w.H.cM (s':={K.w.s with heap:=K.w.s.heap.update a (Obj.mapSeq f),toks:=tk}) hl hs rfl rfl (.list (n:=if r9.size=items.size then n else n+1) ?_ (bB.bo kc hv) hz)) p (VR.bo kc hu);refine (?_:Heap.get? _ _=_);refine ae (Heap.get?_update_self _ h1 rfl) ?_;subst hf;simp [Obj.mapSeq]
def dX(o c:AE):AE:=λ F ρ σ P=>o F ρ σ λ ov σ=>cX σ (λ l=>c F ρ σ λ v σ=>b6 v σ (λ σ=>P .none σ) l) ov
theorem y1{e:Expr}{pos:Pos}{env:Env}(h:NS e):backTo pos (starEach [e] env)=[(false,eval e env)]:=by rw [h.s];rfl
theorem r_(K:Cx Γ){o:Expr}{m:Str}{name:String}{id:String}{apos pos:Pos}{es:List Expr}{c:AE}{P:Nat->dy->U->Prop}{Q:Value->Shared->Prop}(ho:bf Γ o c)(hm:m=Str.ofString name)(hf:gH o name apos pos es)(slot:Slot "list" m id)(Ms:typeOf (.builtin id)=pure (.type "method_descriptor"))
  (hc:c Γ.F K.ρ K.w.σ λ ov σ=>cX σ (λ l=>P l K.ρ σ) ov)(h:∀l a(w:St Γ),K.w.Le w->w.lam[l]?=some a->P l K.ρ w.σ->wpAny Γ.M K.A (callWith pos (.builtin id) [.ref a] (backTo pos (starEach es K.env)) []) Q K.E w.s):
  K.wp (eval (.Call (.Attribute o (Str.ofString name) apos) es [] pos) K.env) Q:=by
 subst hm;refine d9 hf λ pl hf=>MethodCall_ (pl:=pl K.env) (ho K.r hc λ ov aa w S p hv=>?_) (congrFun hf _);revert hv;induction p with
 |mk hx p=>intro hv;apply hv.kr;intro a hl;exact w.dQ hl hx λ items n g1 g2 aa=>getMethod_list_of slot Ms (IsL.il g1) ⟨_,g1,rfl⟩ (h _ a w S hl p)
theorem eM{n m:Nat}(h:n<=10000)(e:n=m):m<=sizeLine:=e▸Nat.le_trans h (Nat.le_trans (by decide) dh)
theorem dk{o e:Expr}{apos pos:Pos}{c ce:AE}(ho:bf Γ o c)(he:bf Γ e ce)(hn:NS e)(hf:gH o "append" apos pos [e]):bf Γ (.Call (.Attribute o (Str.ofString "append") apos) [e] [] pos) (dX c ce):=λ K P Q hc k=>
 r_ K (P:=λ l ρ σ=>ce Γ.F ρ σ λ v σ=>b6 v σ (λ σ=>P .none σ) l) ho rfl hf slot_list_append type_list_append hc λ l a w S hl p=>by
  refine ae (y1 hn) ?_;refine PySem.P.append_list (he (K.up w S).r p λ u v dW d1 p hu=>?_);cases p with
  |mk hx hz p=>exact dW.dQ (d1.ext _ _ hl) hx λ items n k1 k2 e=>⟨items,n,eM (Nat.le_of_lt hz) e,k1,(K.up dW (S.tr d1)).PW (tk:=dW.s.toks) k (d1.ext _ _ hl) k1 rfl p (by refine ae Array.toList_push ?_;exact bB.append k2 (.cons hu .nil)) .none (by simp;exact Nat.le_of_lt_succ hz)⟩
inductive fO(σ:U)(P:PV)(l:Nat):Prop
 |mk {xs:List AV} {v:AV}:σ[l]?=some (.list (xs++[v]))->P v (σ.set l (.list xs))->fO σ P l
def lH(o:AE):AE:=λ F ρ σ P=>o F ρ σ λ ov σ=>cX σ (λ l=>fO σ P l) ov
theorem iz{o:Expr}{apos pos:Pos}{c:AE}(ho:bf Γ o c)(hf:gH o "pop" apos pos []):bf Γ (.Call (.Attribute o (Str.ofString "pop") apos) [] [] pos) (lH c):=λ K P Q hc k=>
 r_ K (P:=λ l _ σ=>fO σ P l) ho rfl hf PySem.F.slot_list_pop PySem.F.type_list_pop hc λ l a w S hl p=>by
  cases p with
  |@mk zs v hx p=>
   have hz:=w.lz hl hx;have hv:(zs++[v])[(zs++[v]).length -1]?=some v:=by simp
   rw [<-List.dropLast_concat (l₁:=zs) (b:=v)]at p;generalize zs++[v]=xs at*;refine w.dQ hl hx λ items n k1 k2 e=>bA (bB.get k2 _ hv) λ y hy hyr=>?_;rw [Array.getElem?_toList,e]at hy;refine PySem.P.pop_list k1 hy ((K.up w S).PW (tk:=w.s.toks) k hl k1 rfl p ?_ hyr (by simp;exact Nat.le_succ_of_le hz)) (eM hz e);rw [Array.eraseIdxIfInBounds,dif_pos (Array.getElem?_eq_some_iff.mp hy).1,Array.toList_eraseIdx,List.eraseIdx_eq_take_drop_succ,List.drop_of_length_le (by rw [Array.length_toList];lia),List.append_nil,List.dropLast_eq_take,e];exact bB.take k2 _
inductive sd(l:Nat)(σ:U)(P:U->Prop):AV->Prop
 |mk {l':Nat} {xs ys:List AV}:σ[l]?=some (.list xs)->σ[l']?=some (.list ys)->xs.length+ys.length<=10000->P (σ.set l (.list (xs++ys)))->sd l σ P (.ref l')
def ub(o c:AE):AE:=λ F ρ σ P=>o F ρ σ λ ov σ=>cX σ (λ l=>c F ρ σ λ v σ=>sd l σ (λ σ=>P .none σ) v) ov
theorem se{o e:Expr}{apos pos:Pos}{c ce:AE}(ho:bf Γ o c)(he:bf Γ e ce)(hn:NS e)(hf:gH o "extend" apos pos [e]):bf Γ (.Call (.Attribute o (Str.ofString "extend") apos) [e] [] pos) (ub c ce):=λ K P Q hc k=>
 r_ K (P:=λ l ρ σ=>ce Γ.F ρ σ λ v σ=>sd l σ (λ σ=>P .none σ) v) ho rfl hf PySem.F.slot_list_extend PySem.F.type_list_extend hc λ l a w S hl p=>by
  rw [y1 hn];refine PySem.P.extend_list (he (K.up w S).r p λ u v dW d1 p hu=>?_);revert hu;induction p with
  |mk hx hy jn p=>
     intro hu;apply hu.kr;intro b fc;have hz:=dW.lz (d1.ext _ _ hl) hx;refine dW.dQ (d1.ext _ _ hl) hx λ items n k1 k2 e=>dW.dQ fc hy λ r9 n' k3 k4 e'=>⟨b,items,r9,n,n',eM hz e,Nat.le_succ_of_le (eM jn (ae e<|ae e' rfl)),?_,rfl,k1,k3,(K.up dW (S.tr d1)).PW (tk:=dW.s.toks) k (d1.ext _ _ hl) k1 rfl p (by refine ae Array.toList_append ?_;exact bB.append k2 k4) .none (by simpa using jn)⟩
     have:=dh;unfold Builtin.List.listTooLong;simp;intro _;exact C4 jn (b7 e) (b7 e') this (by simp+arith only)
end
end
section
set_option genInjectivity false
set_option genSizeOf false
section
variable{Γ:dv}
def iA(ao:AO):AE:=λ _ _ σ P=>P (.ref σ.length) (σ++[ao])
theorem vY{pos:Pos}{ao:AO}(hr:∀h lam l a,h.get? a=some {cls:=.type "dict",data:=.dict #[]}->OR Γ.G h lam l a ao):bf Γ (.Dict [] [] pos) (iA ao):=λ K P Q p k=>wpAny_Dict_empty (K.kn k (K.w.H.new (s':={K.w.s with heap:=K.w.s.heap.push {cls:=.type "dict",data:=.dict #[]}}) (a:=K.w.s.heap.objs.size) (ao:=ao) (λ b o e=>Heap.get?_push_of_some _ e) (Heap.get?_none_of_le (Nat.le_refl _)) rfl rfl (hr _ _ _ _ (Heap.get?_push_size _ rfl))) p (.ref (by refine cQ K.w.H.len ?_;exact List.getElem?_concat_length ..)))
theorem ou{pos:Pos}:bf Γ (.Dict [] [] pos) (iA (.dI [])):=vY λ h lam l a e=>.dI (kvs':=[]) ⟨_,_,_,e,⟨rfl,rfl,rfl⟩,rfl,λ aa h=>by simp at h,.nil,.nil⟩ .nil
theorem zR{pos:Pos}:bf Γ (.Dict [] [] pos) (iA (.dS [])):=vY λ h lam l a e=>.dS (kvs':=[]) ⟨_,_,_,e,⟨rfl,rfl,rfl⟩,rfl,λ aa h=>by simp at h,.nil,.nil⟩ .nil
theorem zS{pos:Pos}:bf Γ (.Dict [] [] pos) (iA (.dT [])):=vY λ h lam l a e=>.dT (xs:=[]) ⟨_,_,_,e,⟨rfl,rfl,rfl⟩,rfl,rfl,λ aa h=>by simp at h,.nil⟩ .nil λ aa h=>by simp at h
inductive Bm(ok:AO->Prop)(σ:U)(P:Nat->Prop):AV->Prop
 |mk {l:Nat} {ao:AO}:σ[l]?=some ao->ok ao->P l->Bm ok σ P (.ref l)
def mB(ao:AO):Prop:=∃kvs,ao=.dI kvs
def Jj(ao:AO):Prop:=∃kvs,ao=.dS kvs
def vZ(ao:AO):Prop:=∃kvs,ao=.dT kvs
def WU(ao:AO):Prop:=mB ao\/Jj ao\/vZ ao
theorem St.dict(w:St Γ){l:Nat}{a:Addr}{ao:AO}(hl:w.lam[l]?=some a)(hx:w.σ[l]?=some ao)(h:WU ao):∃o,w.s.heap.get? a=some o/\o.cls=.type "dict"/\o.dict=none:=by
 rcases h with⟨kvs,rfl⟩|⟨kvs,rfl⟩|⟨kvs,rfl⟩
 ·exact w.dI hl hx λ aa g aa aa=>rH g λ o aa aa ho hx aa=>⟨o,ho,hx.1,hx.2.1⟩
 ·exact w.dS hl hx λ aa g aa aa=>rH g λ o aa aa ho hx aa=>⟨o,ho,hx.1,hx.2.1⟩
 ·exact w.dT hl hx λ aa g aa aa aa=>rH g λ o aa aa ho hx aa=>⟨o,ho,hx.1,hx.2.1⟩
theorem sf(K:Cx Γ){o:Expr}{m:String}{id:String}{apos pos:Pos}{es:List Expr}{c:AE}{ok:AO->Prop}{P:Nat->dy->U->Prop}{Q:Value->Shared->Prop}(ho:bf Γ o c)(hf:gH o m apos pos es)(slot:Slot "dict" (Str.ofString m) id)(Ms:typeOf (.builtin id)=pure (.type "method_descriptor"))
  (i9:∀ao,ok ao->WU ao)(hc:c Γ.F K.ρ K.w.σ λ ov σ=>Bm ok σ (λ l=>P l K.ρ σ) ov)(h:∀l a(w:St Γ),K.w.Le w->w.lam[l]?=some a->P l K.ρ w.σ->wpAny Γ.M K.A (callWith pos (.builtin id) [.ref a] (backTo pos (starEach es K.env)) []) Q K.E w.s):
  K.wp (eval (.Call (.Attribute o (Str.ofString m) apos) es [] pos) K.env) Q:=by
 refine d9 hf λ pl hf=>MethodCall_ (pl:=pl K.env) (ho K.r hc λ ov aa w S p hv=>?_) (congrFun hf _);revert hv;induction p with
 |mk hx hk p=>intro hv;apply hv.kr;intro a hl;exact gy (w.dict hl hx (i9 _ hk)) λ o ho hc hd=>getMethod_builtin ⟨o,ho,hc⟩ PySem.F.plainAttrs_dict slot Ms (λ b e=>by cases e;exact ⟨o,ho,hd⟩) (h _ a w S hl p)
theorem Uw{e e':Expr}{pos:Pos}{env:Env}(h:NS e)(h':NS e'):backTo pos (starEach [e,e'] env)=[(false,eval e env),(false,eval e' env)]:=by rw [h.s,h'.s];rfl
inductive Du(σ:U)(l:Nat)(P:List (String×AV)->Prop):Prop
 |mk {kvs:List (String×AV)}:σ[l]?=some (.dS kvs)->P kvs->Du σ l P
inductive Jk(σ:U)(l:Nat)(P:List (Int×AV)->Prop):Prop
 |mk {kvs:List (Int×AV)}:σ[l]?=some (.dI kvs)->P kvs->Jk σ l P
def Jl(o c:AE):AE:=λ F ρ σ P=>o F ρ σ λ ov σ=>Bm Jj σ (λ l=>c F ρ σ λ v σ=>zM v λ k=>Du σ l λ kvs=>P ((bD kvs k).getD .none) σ) ov
def Te(o c b:AE):AE:=λ F ρ σ P=>o F ρ σ λ ov σ=>Bm mB σ (λ l=>c F ρ σ λ v σ=>qV v λ k=>b F ρ σ λ y σ=>Jk σ l λ kvs=>P ((bD kvs k).getD y) σ) ov
theorem KR.getD{K K':Type}[DecidableEq K][DecidableEq K']{f:K->K'}{h:Heap}{lam:List Addr}(hf:∀a b,f a=f b->a=b){kvs:List (K×AV)}{kvs':List (K'×Value)}(x:KR f h lam kvs kvs')(k:K){d:AV}{u:Value}(hd:VR h lam d u):VR h lam ((bD kvs k).getD d) ((valueAt kvs' (f k)).getD u):=by
 cases e:bD kvs k with
 |none=>refine ae ((x.get hf k).2 e) ?_;exact hd
 |some w=>exact bA ((x.get hf k).1 w e) λ u h1 h2=>h1▸h2
theorem HF(W:Wd Γ.G){o e:Expr}{apos pos:Pos}{c ce:AE}(ho:bf Γ o c)(he:bf Γ e ce)(hn:NS e)(hf:gH o "get" apos pos [e]):bf Γ (.Call (.Attribute o (Str.ofString "get") apos) [e] [] pos) (Jl c ce):=λ K P Q hc k=>
 sf K (P:=λ l ρ σ=>ce Γ.F ρ σ λ v σ=>zM v λ k=>Du σ l λ kvs=>P ((bD kvs k).getD .none) σ) ho hf PySem.F.slot_dict_get PySem.F.type_dict_get (λ aa h=>.inr (.inl h)) hc λ l a w S hl p=>by
  refine ae (y1 hn) ?_;refine wpAny_dict_get1 (knd:=dR Γ.G.prog Γ.G.w) (w.gj W hl) (he (K.up w S).r p λ u v dW d1 p hu=>?_);obtain ⟨y,rfl,p⟩:=p.k;apply hu.ks;intro t;cases p with
  |mk hx p=>exact dW.dS (d1.ext _ _ hl) hx λ kvs' k1 k2 aa=>⟨Str.ofString y,_,strKind_is _ _ _ _,k1.mapOf,(K.up dW (S.tr d1)).k1 k p (k2.getD (λ aa aa=>cH) y .none) _⟩
theorem Ux(W:Wd Γ.G){o e b:Expr}{apos pos:Pos}{c ce cb:AE}(ho:bf Γ o c)(he:bf Γ e ce)(hb:bf Γ b cb)(hn:NS e)(fK:NS b)(hf:gH o "get" apos pos [e,b]):
  bf Γ (.Call (.Attribute o (Str.ofString "get") apos) [e,b] [] pos) (Te c ce cb):=λ K P Q hc k=>
 sf K (P:=λ l ρ σ=>ce Γ.F ρ σ λ v σ=>qV v λ k=>cb Γ.F ρ σ λ y σ=>Jk σ l λ kvs=>P ((bD kvs k).getD y) σ) ho hf PySem.F.slot_dict_get PySem.F.type_dict_get (λ aa h=>.inl h) hc λ l a w S hl p=>by
  refine ae (Uw hn fK) ?_;refine wpAny_dict_get2 (knd:=intKind Γ.G.prog Γ.G.w) (w.gj W hl) (he (K.up w S).r p λ u v dW d1 p hu=>?_);obtain ⟨y,rfl,p⟩:=p.k;refine hb (K.up dW (S.tr d1)).r p λ u' v' nI pY p hu'=>?_;apply hu.ki;intro t;cases p with
  |mk hx p=>exact nI.dI ((St.Le.tr d1 pY).ext _ _ hl) hx λ kvs' k1 k2 aa=>⟨y,_,intKind_is _ _ _ _,k1.mapOf,(K.up nI (S.tr (St.Le.tr d1 pY))).k1 k p (k2.getD (λ aa aa e=>e) y hu') _⟩
def uM(o:AE)(ok:AO->Prop)(cs:List AE)(f:Nat->OL):AE:=λ F ρ σ P=>o F ρ σ λ ov σ=>Bm ok σ (λ l=>jT cs F ρ σ λ vs σ=>f l σ P vs) ov
def Mt(Γ:dv)(id:String)(f:Nat->OL):Prop:=∀(K:Cx Γ){l:Nat}{b:Addr}{x:List AV}{v:List Value}{P:PV}{Q:Value->Shared->Prop},f l K.w.σ P x->K.w.lam[l]?=some b->K.w.Rs x v->K.KV P Q->K.wp (call (.builtin id) (.ref b::v)) Q
theorem CH(W:Wd Γ.G){o:Expr}{m:String}{id:String}{apos pos:Pos}{es:List Expr}{c:AE}{cs:List AE}{ok:AO->Prop}{f:Nat->OL}(ho:bf Γ o c)(a:fD Γ es cs)(hf:gH o m apos pos es)(slot:Slot "dict" (Str.ofString m) id)(Ms:typeOf (.builtin id)=pure (.type "method_descriptor"))
  (i9:∀ao,ok ao->WU ao)(hm:Mt Γ id f):bf Γ (.Call (.Attribute o (Str.ofString m) apos) es [] pos) (uM c ok cs f):=λ K P Q hc k=>
 sf K (P:=λ l ρ σ=>jT cs Γ.F ρ σ λ vs σ=>f l σ P vs) ho hf slot Ms i9 hc λ l b w S hl p=>gL W (K.up w S) (aN id) a p λ us vs dW d1 p hv=>hm (K.up dW (S.tr d1)) p (d1.ext _ _ hl) hv k
theorem Cx.uc(K:Cx Γ){P:PV}{Q:Value->Shared->Prop}{l:Nat}{a:Addr}{ao:AO}{h':Heap}{tk:Nat}{v:AV}{u:Value}(k:K.KV P Q)(hl:K.w.lam[l]?=some a)(hs:Heap.SameBut a K.w.s.heap h')(p:P v (K.w.σ.set l ao))
  (hr:Kx K.w.s.heap K.w.lam h' K.w.lam->OR Γ.G h' K.w.lam l a ao)(hu:K.w.R v u):Q u {K.w.s with heap:=h',toks:=tk}:=
 have kc:=Kx.cM (List.mem_of_getElem? hl) hs
 K.kn k (K.w.H.cM (s':={K.w.s with heap:=h',toks:=tk}) hl hs rfl rfl (hr kc)) p (VR.bo kc hu)
inductive hZ(l:Nat)(σ:U)(P:PV):List AV->Prop
 |old {k:Int} {v u:AV} {kvs:List (Int×AV)}:σ[l]?=some (.dI kvs)->kvs.length<=10000->bD kvs k=some u->P u σ->hZ l σ P [.int k,v]
 |new {k:Int} {v:AV} {kvs:List (Int×AV)}:σ[l]?=some (.dI kvs)->kvs.length<=10000->bD kvs k=none->P v (σ.set l (.dI (dY kvs k v)))->hZ l σ P [.int k,v]
theorem Mu(W:Wd Γ.G):Mt Γ "dict.setdefault" hZ:=by
 intro K l b x v P Q h;induction h with
 |@old k0 _ _ kvs hx hz e p=>
  intro hl hv k;apply hv.k2;intro u1 u2 h1 h2;apply h1.ki;intro t;exact K.w.dI hl hx λ kvs' g1 g2 hlen=>bA ((g2.get (λ aa aa e=>e) k0).1 _ e) λ u' e1 e2=>call_meetsIn PySem.F.slot_dict_setdefault g1.typeIs PySem.F.entry_dict_setdefault (PySem.F.args_dict_setdefault_3 _ _ _) (kt_meets_setdefault (intKind Γ.G.prog Γ.G.w) b (intKind_is _ _ _ _) (K.w.gj W hl) u2)
   ⟨kvs',g1,eM hz hlen,λ u hu=>by cases e1.symm.trans hu;exact K.k1 k p e2 _,λ hn aa aa aa=>(nomatch e1.symm.trans hn)⟩
 |@new k0 _ kvs hx hz e p=>
  intro hl hv k;apply hv.k2;intro u1 u2 h1 h2;apply h1.ki;intro t;exact K.w.dI hl hx λ kvs' g1 g2 hlen=>call_meetsIn PySem.F.slot_dict_setdefault g1.typeIs PySem.F.entry_dict_setdefault (PySem.F.args_dict_setdefault_3 _ _ _) (kt_meets_setdefault (intKind Γ.G.prog Γ.G.w) b (intKind_is _ _ _ _) (K.w.gj W hl) u2)
   ⟨kvs',g1,eM hz hlen,λ u hu=>(nomatch((g2.get (λ aa aa e=>e) k0).2 e).symm.trans hu),λ hn h' hd hs=>K.uc k hl hs p (λ kc=>.dI hd ((g2.set (λ aa aa e=>e) k0 h2).bo kc)) h2⟩
theorem xj(W:Wd Γ.G){o:Expr}{apos pos:Pos}{es:List Expr}{c:AE}{cs:List AE}(ho:bf Γ o c)(a:fD Γ es cs)(hf:gH o "setdefault" apos pos es):bf Γ (.Call (.Attribute o (Str.ofString "setdefault") apos) es [] pos) (uM c mB cs hZ):=
 CH W ho a hf PySem.F.slot_dict_setdefault PySem.F.type_dict_setdefault (λ aa h=>.inl h) (Mu W)
end
noncomputable def iV(xs:List AV)(lo hi st:Option Int):List AV:=
 (sliceRange (sliceBounds lo hi st xs.length).1 (sliceBounds lo hi st xs.length).2.1 (sliceBounds lo hi st xs.length).2.2).filterMap (xs[·]?)
theorem bB.filterMap{h:Heap}{lam:List Addr}{xs:List AV}{vs:Array Value}(hv:bB h lam xs vs.toList):∀is:List Nat,bB h lam (is.filterMap (xs[·]?)) (is.filterMap (vs[·]?)):=by
 intro bN;induction bN with
 |nil=>
  skip;exact .nil
 |cons i is ih=>
  skip;have ih:=ih;cases e:xs[i]?with
  |none=>
   have e':vs[i]?=none:=by rw [List.getElem?_eq_none_iff]at e;have:=hv.length;simp only [Array.length_toList]at this;rw [Array.getElem?_eq_none_iff];exact Nat.le_trans (b7 this) e
   refine ae (List.filterMap_cons_none e)<|ae (List.filterMap_cons_none e') ?_;exact ih
  |some a=>refine bA (hv.get i e) λ v h1 h2=>?_;rw [Array.getElem?_toList]at h1;refine ae (List.filterMap_cons_some e)<|ae (List.filterMap_cons_some h1) ?_;exact .cons h2 ih
section
variable{Γ:dv}
theorem PX{v:Value}{i:Int}(x:IsPart v (some i)):∃t,v=.int i t:=by cases x;exact ⟨_,rfl⟩
theorem zT{v:Value}(x:IsPart v none):v=.none:=by cases x;rfl
theorem Jm{prog:Program}{w:World}{A:Around}{E:Value->Shared->Prop}{s:Shared}{t sl:Addr}{items:Array Value}{i:Int}{u:Tok}{Q:Value->Shared->Prop}(ht:IsTup s.heap t items)(hs:s.heap.IsSliceOf sl (.int i u) .none .none)
  (h1:1<=i)(h2:i<=items.size)(gF:items.size<=10000)(h:Q (.ref s.heap.objs.size) {s with heap:=s.heap.push {cls:=.type "tuple",data:=.seq (items.toList.drop i.toNat).toArray}}):wpAny (model prog w) A (getItem (.ref t) (.ref sl)) Q E s:=by
 have nK:=dh;obtain ⟨j,rfl⟩:∃j:Nat,i=(j:Int):=⟨i.toNat,by lia⟩
 exact getItem_tuple_from ht hs (by lia) (by lia) (by simpa using h) (dc gF nK (by simp+arith only))
inductive lV(Γ:dv):Option Expr->Option AE->Prop
 |none:lV Γ none none
 |some {e:Expr} {c:AE}:bf Γ e c->lV Γ (some e) (some c)
def Dv(c:Option AE)(F:b_)(ρ:dy)(σ:U)(P:Option Int->U->Prop):Prop:=match c with
 |none=>P none σ
 |some c=>c F ρ σ λ v σ=>qV v λ i=>P (some i) σ
theorem lV.bW{e:Option Expr}{c:Option AE}(x:lV Γ e c)(K:Cx Γ){P:Option Int->U->Prop}{Q:Value->Shared->Prop}(hc:Dv c Γ.F K.ρ K.w.σ P)(k:∀u i(w:St Γ),K.o.Le w->P i w.σ->IsPart u i->Q u w.s):K.wp (evalPart e K.env) Q:=by
 cases x with
 |none=>exact wpAny_pure (k _ _ K.w K.S hc .none)
 |some h=>
  exact h K hc λ u v w S p hu=>by obtain ⟨i,rfl,p⟩:=p.k;apply hu.ki;intro t;exact k _ _ w S p (.int _ _)
inductive eR(lo hi st:Option Int)(σ:U)(P:PV):AV->Prop
 |l {l:Nat} {xs:List AV}:σ[l]?=some (.list xs)->st≠some 0->(iV xs lo hi st).length<=10000->P (.ref σ.length) (σ++[.list (iV xs lo hi st)])->eR lo hi st σ P (.ref l)
 |t {xs:List AV} {a:Int}:lo=some a->hi=none->st=none->1<=a->a<=xs.length->P (.tup (xs.drop a.toNat)) σ->eR lo hi st σ P (.tup xs)
def gO(o:AE)(lo hi st:Option AE):AE:=λ F ρ σ P=>o F ρ σ λ ov σ=>Dv lo F ρ σ λ l σ=>Dv hi F ρ σ λ h σ=>Dv st F ρ σ λ k σ=>eR l h k σ P ov
theorem Jn(K:Cx Γ){value slice:Expr}{ov:AV}{v vl vh vk:Value}{l h k:Option Int}{sl:Addr}{P:PV}{Q:Value->Shared->Prop}(Tf:K.w.s.heap.IsSliceOf sl vl vh vk)(pl:IsPart vl l)(ph:IsPart vh h)(pk:IsPart vk k)(p:eR l h k K.w.σ P ov)(hv:K.w.R ov v)(kk:K.KV P Q):
  K.wp (subscriptTail value slice v (.ref sl)) Q:=by
 revert hv;induction p with
 |l hx h0 WV p=>
  intro hv;apply hv.kr;intro a hla;have hz:=K.w.lz hla hx;refine K.w.dQ hla hx λ items n g1 g2 hlen=>hW (IsL.typeIs g1) slot_list_getitem (by simp) (wpAny_getItem_list_slice (IsL.il g1) Tf pl ph pk h0 (K.I5 kk p ?_ WV _) (eM hz hlen));unfold slicePick iV;refine ae hlen ?_;exact bB.filterMap g2 _
 |t e1 e2 e3 h1 h2 p=>subst e1 e2 e3;intro hv;have hz:=hv.kz;apply hv.kt;intro a items n ht ef;have hlen:=ef.size;obtain ⟨t,rfl⟩:=PX pl;cases zT ph;cases zT pk;exact hW (IsT.typeIs ht) PySem.F.slot_tuple_getitem (by simp) (Jm ht.it Tf h1 (by lia) (Nat.le_trans (b7 hlen) hz) (K.PJ kk p (ef.drop _) (by simp;exact Nat.le_trans hz (Nat.le_add_right ..)) K.w.s.toks))
theorem fF{e:Expr}{lower upper step:Option Expr}{p pos:Pos}{c:AE}{lo hi st:Option AE}(ho:bf Γ e c)(hl:lV Γ lower lo)(hh:lV Γ upper hi)(hs:lV Γ step st):
  bf Γ (.Subscript e (.Slice lower upper step p) pos) (gO c lo hi st):=λ K P Q hc k=>
 Subscript_ (ho K.r hc λ v ov yU l9 p hv=>wpAny_Slice (hl.bW (K.up yU l9).r p λ vl l dW d1 p pl=>hh.bW (K.up dW (l9.tr d1)).r p λ vh h nI pY p ph=>hs.bW (K.up nI ((l9.tr d1).tr pY)).r p λ vk kk oO Jo p pk=>
  have h5:=oO.H.i6 (s':={oO.s with heap:=oO.s.heap.push {cls:=.type "slice",data:=.fields #[vl,vh,vk]}}) (λ b o e=>Heap.get?_push_of_some _ e) rfl rfl
  Jn (K.up ⟨_,_,_,h5.1⟩ ((((l9.tr d1).tr pY).tr Jo).tr h5.2)) (Heap.IsSliceOf.new ..) pl ph pk p (VR.bo h5.2.kx (St.R.up hv (St.Le.tr d1 (St.Le.tr pY Jo)))) k))
end
end
section
set_option genInjectivity false
set_option genSizeOf false
section
variable{prog:Program} {w:World} {A:Around} {s:Shared}
theorem zU{R:Result->Shared->Prop}{elt target bY:Expr}{scope:Scope}{pos:Pos}{it acc:Value}{env:Env}(I:Nat->Shared->Prop)
  (turn:∀n s,I n s->wpAny (model prog w) A (pyNext it) (λ r f9=>match r with
   |none=>R (.ok .next) f9
   |some v=>wpAny (model prog w) A (letOwnedTupleGo target it v) (λ aa Mv=>wpAny (model prog w) A (assign target env v) (λ aa o6=>wpAny (model prog w) A (eval elt env) (λ x WW=>
     wpAny (model prog w) A (call (.builtin "list.append") [acc,x]) (λ aa WX=>∃m,m<n/\I m WX) (notedBy (model prog w) A env λ e s'=>R (.error e) s') WW)
     (notedBy (model prog w) A env λ e s'=>R (.error e) s') o6) (notedBy (model prog w) A env λ e s'=>R (.error e) s') Mv) (notedBy (model prog w) A env λ e s'=>R (.error e) s') f9) (notedBy (model prog w) A env λ e s'=>R (.error e) s') s)
  (n:Nat)(h:I n s):codeAny (model prog w) A (.compLoop (.ListComp elt [⟨target,bY,[],0⟩] scope pos) 0 it acc env) R s:=by
 refine codeAny_loop rfl I (λ n s hI=>?_) n h;refine (?_:wpAny _ _ ((compTurn (.ListComp elt [⟨target,bY,[],0⟩] scope pos) 0 it acc env).onRaise (λ x=>do noteFrame x env;theTreesLotGoes x)) _ _ s);refine wpAny_noted ?_;rw [compTurn_list1];refine wpAny_bind (wpAny_standAt (wpAny_bind (wpAny_mono (turn n s hI) (λ r f9 gW=>?_) λ aa aa h'=>h')));cases r with
 |none=>exact wpAny_pure gW
 |some v=>
  refine wpAny_bind (wpAny_mono gW (λ aa Mv WY=>?_) λ aa aa h'=>h');exact wpAny_bind (wpAny_mono WY (λ aa o6 lD=>wpAny_bind (wpAny_bind (wpAny_mono lD (λ x WW pg=>wpAny_bind (wpAny_mono pg
   (λ aa WX PY=>wpAny_pure (wpAny_pure ⟨rfl,PY⟩)) λ aa aa h'=>h')) λ aa aa h'=>h'))) λ aa aa h'=>h')
theorem Mw{R:Result->Shared->Prop}{elt target bY c:Expr}{scope:Scope}{pos:Pos}{it acc:Value}{env:Env}(I:Nat->Shared->Prop)
  (turn:∀n s,I n s->wpAny (model prog w) A (pyNext it) (λ r f9=>match r with
   |none=>R (.ok .next) f9
   |some v=>wpAny (model prog w) A (letOwnedTupleGo target it v) (λ aa Mv=>wpAny (model prog w) A (assign target env v) (λ aa o6=>wpAny (model prog w) A (PySem.isTrue c env (eval c env)) (λ b WZ=>if b=true then
     wpAny (model prog w) A (eval elt env) (λ x WW=>wpAny (model prog w) A (call (.builtin "list.append") [acc,x]) (λ aa WX=>∃m,m<n/\I m WX) (notedBy (model prog w) A env λ e s'=>R (.error e) s') WW)
      (notedBy (model prog w) A env λ e s'=>R (.error e) s') WZ
     else∃m,m<n/\I m WZ)
     (notedBy (model prog w) A env λ e s'=>R (.error e) s') o6) (notedBy (model prog w) A env λ e s'=>R (.error e) s') Mv) (notedBy (model prog w) A env λ e s'=>R (.error e) s') f9) (notedBy (model prog w) A env λ e s'=>R (.error e) s') s)
  (n:Nat)(h:I n s):codeAny (model prog w) A (.compLoop (.ListComp elt [⟨target,bY,[c],0⟩] scope pos) 0 it acc env) R s:=by
 refine codeAny_loop rfl I (λ n s hI=>?_) n h;refine (?_:wpAny _ _ ((compTurn (.ListComp elt [⟨target,bY,[c],0⟩] scope pos) 0 it acc env).onRaise (λ x=>do noteFrame x env;theTreesLotGoes x)) _ _ s);refine wpAny_noted ?_;refine (?_:wpAny _ _ (standAt bY.pos>>=λ aa=>pyNext it>>=λ r=>match r with
  |none=>pure (.done .next)
  |some v=>letOwnedTupleGo target it v>>=λ aa=>assign target env v>>=λ aa=>forIn [c] true (λ c ok=>if ok then(PySem.isTrue c env (eval c env)>>=λ ok=>pure (ForInStep.yield ok))else pure (ForInStep.yield ok))>>=λ ok=>if ok then((eval elt env>>=λ x=>call (.builtin "list.append") [acc,x]>>=λ aa=>pure ())>>=λ aa=>again (.compLoop (.ListComp elt [⟨target,bY,[c],0⟩] scope pos) 0 it acc env))else again (.compLoop (.ListComp elt [⟨target,bY,[c],0⟩] scope pos) 0 it acc env)) _ _ s)
 refine wpAny_bind (wpAny_standAt (wpAny_bind (wpAny_mono (turn n s hI) (λ r f9 gW=>?_) λ aa aa h'=>h')));cases r with
 |none=>exact wpAny_pure gW
 |some v=>
  refine wpAny_bind (wpAny_mono gW (λ aa Mv WY=>wpAny_bind (wpAny_mono WY (λ aa o6 lD=>?_) λ aa aa h'=>h')) λ aa aa h'=>h');rw [List.forIn_cons];simp only [if_true];refine wpAny_bind (wpAny_bind (wpAny_bind (wpAny_mono lD (λ b WZ pg=>wpAny_pure ?_) λ aa aa h'=>h')));dsimp only;refine ae List.forIn_nil ?_;refine wpAny_pure ?_;cases b with
  |true=>
   simp only [if_true]at pg⊢;exact wpAny_bind (wpAny_bind (wpAny_mono pg (λ x WW PY=>wpAny_bind (wpAny_mono PY (λ aa WX sg=>wpAny_pure (wpAny_pure ⟨rfl,sg⟩)) λ aa aa h'=>h')) λ aa aa h'=>h'))
  |false=>simp only [Bool.false_eq_true,if_false]at pg⊢;exact wpAny_pure ⟨rfl,pg⟩
end
noncomputable def f3(env:Env):List (Str×NameKind)->List (Str×Addr)->List (Str×Addr)
 |[],acc=>acc
 |(n,k)::r,acc=>if k==.free then f3 env r ((n,(env.cells.lookup n).getD 0)::acc)else f3 env r acc
theorem qb(env:Env)(n:Str)(k:NameKind)(r:List (Str×NameKind))(acc:List (Str×Addr)):f3 env ((n,k)::r) acc=if k==.free then f3 env r ((n,(env.cells.lookup n).getD 0)::acc)else f3 env r acc:=rfl
theorem B_{scope:Scope}{env:Env}(h:∀x∈scope.names,x.2=.free->(env.cells.lookup x.1).isSome=true):closureFor scope env=pure (f3 env scope.names []):=by
 have key:∀(l:List (Str×NameKind))(acc:List (Str×Addr)),(∀x∈l,x.2=.free->(env.cells.lookup x.1).isSome=true)->
   (forIn l acc λ(x:Str×NameKind)(cs:List (Str×Addr))=>(if x.2==.free then(do let a<-cellOf env x.1;pure (ForInStep.yield ((x.1,a)::cs)))else pure (ForInStep.yield cs):Sem (ForInStep (List (Str×Addr)))))=pure (f3 env l acc):=by
  intro l;induction l with
  |nil=>intro acc _;rfl
  |cons x r ih=>
   intro acc hl;obtain ⟨n,k⟩:=x;rw [List.forIn_cons];rw [qb];by_cases hk:k==.free
   ·have hs:=hl (n,k) (.head _) (by simpa using hk);refine d9 (Option.isSome_iff_exists.mp hs) λ a ha=>?_;simp only [hk,if_true,cellOf,ha,Option.getD_some];exact ih _ λ y hy=>hl y (.tail _ hy)
   ·simp only [hk,Bool.false_eq_true,if_false];exact ih _ λ y hy=>hl y (.tail _ hy)
 unfold closureFor;exact (congrArg (·>>=pure) (key scope.names [] h)).trans rfl
theorem xk{env:Env}:∀{names:List (Str×NameKind)}{acc:List (Str×Addr)}{p:Str×Addr},p∈f3 env names acc->p∈acc\/((p.1,NameKind.free)∈names/\p.2=(env.cells.lookup p.1).getD 0):=by
 intro bN;induction bN with
 |nil=>
  intro acc p h;exact .inl h
 |cons r6 r ih=>
  obtain ⟨n,k⟩:=r6;intro acc p h;rw [qb]at h;split at h
  ·rename_i hk;have e6:k=.free:=by simpa using hk
   subst e6;rcases ih h with h|h
   ·rcases List.mem_cons.mp h with rfl|h
    ·exact .inr ⟨.head _,rfl⟩
    ·exact .inl h
   ·exact .inr ⟨.tail _ h.1,h.2⟩
  ·rcases ih h with h|h
   ·exact .inl h
   ·exact .inr ⟨.tail _ h.1,h.2⟩
theorem Jp{env:Env}:∀{names:List (Str×NameKind)}{acc:List (Str×Addr)}{x:Str},((x,NameKind.free)∈names\/(acc.lookup x).isSome=true)->((f3 env names acc).lookup x).isSome=true:=by
 intro bN;induction bN with
 |nil=>
  intro acc x h;rcases h with h|h
  ·cases h
  ·exact h
 |cons r6 r ih=>
  obtain ⟨n,k⟩:=r6;intro acc x h;have keep:∀a,(acc.lookup x).isSome=true->((((n,a)::acc:List (Str×Addr))).lookup x).isSome=true:=λ a hs=>by
   refine ae List.lookup_cons ?_;split
   ·rfl
   ·exact hs
  rw [qb];split
  ·rename_i hk;rcases h with h|h
   ·rcases List.mem_cons.mp h with e|h
    ·cases e;exact ih (.inr (by rw [List.lookup_cons,beq_self_eq_true];rfl))
    ·exact ih (.inl h)
   ·exact ih (.inr (keep _ h))
  ·rename_i hk;rcases h with h|h
   ·rcases List.mem_cons.mp h with e|h
    ·cases e;exact absurd rfl hk
    ·exact ih (.inl h)
   ·exact ih (.inr h)
end
section
set_option genInjectivity false
set_option genSizeOf false
theorem Gw{f:Str->NameKind->NameKind}:∀(names:List (Str×NameKind))(x:Str),(names.map λ p=>(p.1,f p.1 p.2)).lookup x=(names.lookup x).map (f x):=by
 intro bN;induction bN with
 |nil=>
  intro x;exact rfl
 |cons r6 r ih=>
  obtain ⟨n,k⟩:=r6;intro x;refine ae List.map_cons<|ae List.lookup_cons<|ae List.lookup_cons ?_;cases h:x==n with
  |true=>have:=eq_of_beq h;subst this;rfl
  |false=>exact ih x
theorem Dw(scope:Scope)(env:Env)(x:Str):(relabel scope env).names.lookup x=(scope.names.lookup x).map λ k=>if(k==.free&&env.scope.kind==.function&&env.kindOf x==some .cell)then .cell else k:=by
 unfold relabel;have e:(scope.names.map λ(n,k)=>if(k==.free&&env.scope.kind==.function&&env.kindOf n==some .cell)then(n,NameKind.cell)else(n,k))
   =scope.names.map λ p=>(p.1,if(p.2==.free&&env.scope.kind==.function&&env.kindOf p.1==some .cell)then NameKind.cell else p.2):=by
  apply List.map_congr_left;rintro ⟨n,k⟩ _;dsimp only;split<;>rfl
 dsimp only;refine ae e ?_;exact Gw (f:=λ n k=>if(k==.free&&env.scope.kind==.function&&env.kindOf n==some .cell)then NameKind.cell else k) scope.names x
theorem gA{names:List (Str×NameKind)}{x:Str}{k:NameKind}(h:names.lookup x=some k):(x,k)∈names:=by
 induction names with
 |nil=>cases h
 |cons z r ih=>
  obtain ⟨n,k'⟩:=z;rw [List.lookup_cons]at h;cases hb:x==n with
  |true=>rw [hb]at h;cases h;have:=eq_of_beq hb;subst this;exact .head _
  |false=>rw [hb]at h;exact .tail _ (ih h)
section
variable{G:bC} {d:Nat} {sc:Scope}
structure sh(sc scope:Scope):Prop where
 kind:scope.kind=.function
 sj:∀x∈scope.names,x.2≠.cell
 free:∀x∈scope.names,x.2=.free->sc.names.lookup x.1=some .cell/\∃y,x.1=Str.ofString y
 nodup:(scope.names.map (·.1)).Nodup
 dot:l8 scope=true
theorem Dx{env:Env}:∀(names:List (Str×NameKind))(acc:List (Str×Addr)),(names.map (·.1)++acc.map (·.1)).Nodup->((f3 env names acc).map (·.1)).Nodup:=by
 intro bN;induction bN with
 |nil=>
  intro acc h;exact h
 |cons r6 r ih=>
  obtain ⟨y,k⟩:=r6;intro acc h;rw [qb];split
  ·refine ih _ ?_;simp only [List.map_cons,List.cons_append]at h;exact (List.perm_middle (l₁:=r.map (·.1)) (l₂:=acc.map (·.1)) (a:=y)).nodup_iff.mpr h
  ·refine ih _ ?_;simp only [List.map_cons,List.cons_append]at h;exact (List.nodup_cons.mp h).2
noncomputable def xl(scope:Scope)(ρ:dy):dy:=λ y=>if scope.names.lookup (Str.ofString y)=some .local then none else ρ y
theorem FR.comp{s:Shared}{lam:List Addr}{env:Env}{ρ:dy}{scope:Scope}{C:Addr}{m:Str->Option Value}(F:FR G s.heap lam env ρ)(ok:SX sc env)(co:sh sc scope)(hC:s.heap.Ns C m)(hn:C∉lam)(h0:G.h₀.get? C=none):
  FR G s.heap lam (compEnvC scope (f3 env scope.names []) C env) (xl scope ρ):=by
 have pj:∀x,(x,NameKind.free)∈scope.names->∃y c ov,x=Str.ofString y/\env.cells.lookup x=some c/\s.heap.IsCell c ov/\G.h₀.get? c=none/\∀av,ρ y=some av->∃v,ov=some v/\VR s.heap lam av v:=λ x hx=>by
  obtain ⟨h1,y,rfl⟩:=co.free _ hx rfl;have hk:env.kindOf (Str.ofString y)=some .cell:=by unfold Env.kindOf;refine ae ok.scope ?_;exact h1
  refine oM (F.cell y (.inl hk)) λ c ov e1 e2 e3 e4=>?_;exact ⟨y,c,ov,rfl,e1,e2,e3,e4⟩
 have qc:∀p∈f3 env scope.names [],(p.1,NameKind.free)∈scope.names/\env.cells.lookup p.1=some p.2:=λ p hp=>by
  rcases xk hp with h|⟨h1,h2⟩
  ·cases h
  ·refine rH (pj _ h1) λ y c ov aa e1 aa=>?_;refine ⟨h1,?_⟩;rw [e1]at h2⊢;refine ae h2 ?_;rfl
 have HG:∀x k,(compEnvC scope (f3 env scope.names []) C env).kindOf x=some k->∃k0,scope.names.lookup x=some k0/\(k=k0\/(k=.cell/\k0=.free)):=λ x k h=>by
  have h':(relabel scope env).names.lookup x=some k:=h;rw [Dw]at h';cases e:scope.names.lookup x with
  |none=>rw [e]at h';cases h'
  |some k0=>
   rw [e]at h';simp only [Option.map_some,Option.some.injEq]at h';refine ⟨k0,rfl,?_⟩;split at h'
   ·rename_i hc;simp only [Bool.and_eq_true,beq_iff_eq]at hc;exact .inr ⟨h'.symm,hc.1.1⟩
   ·exact .inl h'.symm
 refine ⟨⟨m,hC,λ x av hk hr=>?_⟩,λ x hx=>?_,?_,hn,h0,λ p hp=>?_⟩
 ·refine bA (HG _ _ hk) λ k0 h1 h2=>?_;rcases h2 with rfl|⟨h2,_⟩
  ·unfold xl at hr;rw [if_pos h1]at hr;cases hr
  ·cases h2
 ·have hf:(Str.ofString x,NameKind.free)∈scope.names:=by
   rcases hx with hx|⟨hx,_⟩
   ·refine bA (HG _ _ hx) λ k0 h1 h2=>?_;rcases h2 with rfl|⟨_,rfl⟩
    ·exact absurd rfl (co.sj _ (gA h1))
    ·exact gA h1
   ·refine bA (HG _ _ hx) λ k0 h1 h2=>?_;rcases h2 with rfl|⟨h2,_⟩
    ·exact gA h1
    ·cases h2
  refine PA (pj _ hf) λ y c ov e0 e1 e2 e3 e4=>?_;have:=cH e0;subst this;refine d9 (Option.isSome_iff_exists.mp (Jp (env:=env) (acc:=[]) (.inl hf))) λ c' oh=>?_;have h3:=(qc (Str.ofString x,c') (mem_of_lookup oh)).2;rw [e1]at h3;have e5:c'=c:=(Option.some.inj h3).symm;rw [e5]at oh;refine ⟨c,ov,oh,e2,e3,λ av hr=>e4 av ?_⟩;unfold xl at hr;split at hr
  ·cases hr
  ·exact hr
 ·have rX:=Dx (env:=env) scope.names [] (by simpa using co.nodup);have hp:(f3 env scope.names []).Pairwise λ x y=>x.1≠y.1:=by rw [List.Nodup,List.pairwise_map]at rX;exact rX
  refine List.Pairwise.imp_of_mem (λ{a b}ha hb cD e=>cD ?_) hp;have h1:=(qc a ha).2;have h2:=(qc b hb).2;rw [<-e]at h2;exact name_of_addr F.apart (mem_of_lookup h1) (mem_of_lookup h2)
 ·exact F.cells (p.1,p.2) (mem_of_lookup (qc p hp).2)
end
theorem y2(scope:Scope)(env:Env):l8 (relabel scope env)=l8 scope:=by unfold l8 relabel;refine ae List.any_map ?_;congr 1;funext x;obtain ⟨a,b⟩:=x;simp only [Function.comp];split<;>rfl
def sk(scope:Scope)(ns:List String):Prop:=∀y,scope.names.lookup (Str.ofString y)=some .local->y∉ns
theorem Uy{scope:Scope}{ns:List String}(h:sk scope ns){ρ:dy}:∀y av,dH ns ρ y=some av->xl scope ρ y=some av:=λ y av e=>by unfold xl;refine ae (if_neg (λ hl=>h y hl (iK e).1)) ?_;exact (iK e).2
noncomputable def iW(sc scope:Scope):Scope:=
 {scope with names:=scope.names.map λ(n,k)=>if(k==.free&&sc.kind==.function&&sc.names.lookup n==some .cell)then(n,.cell)else(n,k)}
theorem Dy{sc scope:Scope}{env:Env}(h:env.scope=sc):relabel scope env=iW sc scope:=by subst h;rfl
noncomputable def nk(sc scope:Scope)(ns fs:List String):Bool:=
 (scope.kind==.function)&&scope.names.all (λ x=>x.2!=.cell)&&(scope.names.all λ x=>x.2!=.free||fs.any λ f=>x.1==Str.ofString f&&sc.names.lookup (Str.ofString f)==some .cell)&&
 decide (scope.names.map (·.1)).Nodup&&l8 scope&&(scope.names.all λ x=>x.2!=.local||ns.all λ y=>x.1!=Str.ofString y)
theorem gm{sc scope:Scope}{ns fs:List String}(h:nk sc scope ns fs=true):sh sc scope/\sk scope ns:=by
 unfold nk at h;simp only [Bool.and_eq_true,beq_iff_eq,List.all_eq_true,decide_eq_true_eq,bne_iff_ne,ne_eq,Bool.or_eq_true,List.any_eq_true]at h;obtain ⟨⟨⟨⟨⟨h1,h2⟩,h3⟩,h5⟩,h6⟩,h7⟩:=h;refine ⟨⟨h1,λ x hx=>h2 x hx,λ x hx hk=>?_,h5,h6⟩,λ y hy=>?_⟩
 ·rcases h3 x hx with h|⟨f,hf,e1,e2⟩
  ·exact absurd hk h
  ·exact ⟨by refine ae e1 ?_;exact e2,f,e1⟩
 ·rcases h7 _ (gA hy)with h|h
  ·exact absurd rfl h
  ·exact λ hm=>h y hm rfl
section
variable{Γ:dv}
abbrev AR:=aP->Nat->b_->dy->U->(U->Prop)->Prop
abbrev AM:=b_->dy->U->(Option AV->U->Prop)->Prop
def dG(ns:List String)(g:AG)(e:AM):Nat->AR
 |0,_,_,_,_,_,_=>False
 |n+1,x,l,F,ρ,σ,P=>cL σ (P σ) (λ v x=>g F v ρ σ λ ρ σ=>e F ρ σ λ r σ=>match r with
  |none=>dG ns g e n x l F (dH ns ρ) σ P
  |some u=>b6 u σ (λ σ=>dG ns g e n x l F (dH ns ρ) σ P) l) x
def kL(c:AE):AM:=λ F ρ σ P=>c F ρ σ λ u σ=>P (some u) σ
def HH(t:AT)(c:AE):AM:=λ F ρ σ P=>t F ρ σ λ b σ=>if b then c F ρ σ λ u σ=>P (some u) σ else P none σ
def pq(Γ:dv)(kd:aP->Prop)(elt target bY:Expr)(ifs:List Expr)(scope:Scope)(pos:Pos)(bW:AR):Prop:=
 ∀(K:Cx Γ){x:aP}{it:Addr}{fp:List Addr}{l:Nat}{acc:Addr}{P:U->Prop}{R:Result->Shared->Prop},bW x l Γ.F K.ρ K.w.σ P->kd x->K.w.It x it fp->ua K fp->K.w.lam[l]?=some acc->
  (∀ρ(w:St Γ),w.FR K.env ρ->K.f.o5 K.env w->P w.σ->w.lam[l]?=some acc->R (.ok .next) w.s)->
  codeAny Γ.M K.A (.compLoop (.ListComp elt [⟨target,bY,ifs,0⟩] scope pos) 0 (.ref it) (.ref acc) K.env) R K.w.s
inductive m6(env:Env)(f:St Γ)(it:Addr)(fp:List Addr)(l:Nat)(acc:Addr)(bW:Nat->aP->dy->U->Prop)(k:Nat):Shared->Prop
 |mk (ρ:dy) (w:St Γ) (x:aP):w.FR env ρ->f.o5 env w->w.It x it fp->fL x->w.lam[l]?=some acc->bW k x ρ w.σ->m6 env f it fp l acc bW k w.s
theorem zV(K:Cx Γ){target:Expr}{g:AG}{e:AM}{it:Addr}{fp:List Addr}{l:Nat}{acc:Addr}{P:U->Prop}{n:Nat}{ns:List String}{s:Shared}{Qn B:Shared->Prop}{Q:Option Value->Shared->Prop}{E:Value->Shared->Prop}(hg:i7 Γ target g)(ap:ua K fp)
  (hI:m6 K.env K.f it fp l acc (λ k x ρ σ=>dG ns g e k x l Γ.F ρ σ P) n s)(fin:∀ρ(w:St Γ),w.FR K.env ρ->K.f.o5 K.env w->P w.σ->w.lam[l]?=some acc->Qn w.s)
  (body:∀m ρ(w:St Γ)x,n=m+1->w.FR K.env ρ->K.f.o5 K.env w->w.It x it fp->fL x->w.lam[l]?=some acc->(e Γ.F ρ w.σ λ r σ=>match r with
   |none=>dG ns g e m x l Γ.F (dH ns ρ) σ P
   |some u=>b6 u σ (λ σ=>dG ns g e m x l Γ.F (dH ns ρ) σ P) l)->B w.s)
  (hn:∀s,Qn s->Q none s)(hs:∀v s,wpAny Γ.M K.A (letOwnedTupleGo target (.ref it) v) (λ aa s=>wpAny Γ.M K.A (assign target K.env v) (λ aa s=>B s) E s) E s->Q (some v) s):wpAny Γ.M K.A (pyNext (.ref it)) Q E s:=by
 induction hI with
 |mk ρ w x F T r hx hl p=>
  cases n with
  |zero=>exact p.elim
  |succ m=>have iF:=λ{s':Shared}(N:mY fp w.s w.lam s')=>FR.bY F N λ b hb=>(ap b hb).2.1;have iT:=λ{s':Shared}(N:mY fp w.s w.lam s')=>c_.bY T N λ b hb=>(ap b hb).2.2;refine turn ((K.kG ρ w F T).at K.A E K.R) hn hs p (.inl hx) r.1 (λ b hb=>⟨r.2 b hb,(ap b hb).1⟩) (λ s' H N p=>fin ρ ⟨s',_,_,H⟩ (iF N) (iT N) p hl) λ u v x' s' H N p hv ir aa zQ=>?_;refine hg ((K.kG ρ ⟨s',_,_,H⟩ (iF N) (iT N)).at K.A E K.R).rf p hv λ abH dW Wz pb p=>?_;exact body m abH dW x' rfl Wz (c_.trans (iT N) pb) (St.It.step (K:=K) (w:=⟨s',_,_,H⟩) ⟨ir,r.2⟩ ap pb) (zQ hx) (pb.kx.ext _ _ hl) p
end
end
section
set_option genInjectivity false
set_option genSizeOf false
section
variable{Γ:dv}
theorem v5(K:Cx Γ){elt:Expr}{c:AE}{l:Nat}{acc:Addr}{N:U->Prop}{E:Value->Shared->Prop}{B:Shared->Prop}(hc:bf Γ elt c)(hl:K.w.lam[l]?=some acc)
  (p:c Γ.F K.ρ K.w.σ λ u σ=>b6 u σ N l)(k:∀w:St Γ,K.w.Le w->N w.σ->B w.s):
  wpAny Γ.M K.A (eval elt K.env) (λ y s=>wpAny Γ.M K.A (call (.builtin "list.append") [.ref acc,y]) (λ aa s=>B s) E s) E K.w.s:=
 hc (K.at K.A E K.R).r p λ y v w S p hy=>by
  cases p with
  |mk zQ hz p=>have fc:=S.ext _ _ hl;refine w.dQ fc zQ λ items n k1 k2 e=>append_at k1 (λ h' hs fZ=>?_) (eM (Nat.le_of_lt hz) e);have kc:=Kx.cM (List.mem_of_getElem? fc) hs;have h7:=w.H.cM (s':={w.s with heap:=h'}) (ao:=.list _) fc hs rfl rfl (.list fZ (by refine ae Array.toList_push ?_;exact (bB.bo kc k2).append (.cons (VR.bo kc hy) .nil)) (by simp;exact Nat.le_of_lt_succ hz));exact k ⟨_,_,_,h7.1⟩ (Step.trans S h7.2) p
theorem m6.next{K:Cx Γ}{it:Addr}{fp:List Addr}{l:Nat}{acc:Addr}{g:AG}{e:AM}{P:U->Prop}{m:Nat}{ns:List String}{ρ:dy}{w:St Γ}{x:aP}(ap:ua K fp)(F:w.FR K.env ρ)(T:K.f.o5 K.env w)(r:w.It x it fp)(hx:fL x)(hl:w.lam[l]?=some acc)
  (w':St Γ)(S:w.Le w')(p:dG ns g e m x l Γ.F (dH ns ρ) w'.σ P):∃k,k<m+1/\m6 K.env K.f it fp l acc (λ k x ρ σ=>dG ns g e k x l Γ.F ρ σ P) k w'.s:=
 ⟨m,Nat.lt_succ_self _,dH ns ρ,w',x,(FR.step F w.H S).kD λ aa aa h=>(iK h).2,c_.trans T (Step.toF S w'.H),St.It.step (K:=K) r ap (Step.toF S w'.H),hx,S.ext _ _ hl,p⟩
theorem Tg{ns:List String}(n:Nat){elt target bY:Expr}{scope:Scope}{pos:Pos}{g:AG}{c:AE}(hg:i7 Γ target g)(hc:bf Γ elt c):pq Γ fL elt target bY [] scope pos (dG ns g (kL c) n):=λ K x it fp l acc P R he hx r ap hl fin=>zU (I:=m6 K.env K.f it fp l acc λ k x ρ σ=>dG ns g (kL c) k x l Γ.F ρ σ P) (λ k s hI=>zV K hg ap hI fin (λ m ρ w x e F T r hx hl p=>e▸v5 (N:=λ σ=>dG ns g (kL c) m x l Γ.F (dH ns ρ) σ P) (K.kG ρ w F T) hc hl p (m6.next ap F T r hx hl)) (λ aa h=>h) λ aa aa h=>h) n ⟨K.ρ,K.w,x,K.F,K.T,r,hx,hl,he⟩
theorem aal{ns:List String}(n:Nat){elt target bY test:Expr}{scope:Scope}{pos:Pos}{g:AG}{t:AT}{c:AE}(hg:i7 Γ target g)(ht:kI Γ test t)(hc:bf Γ elt c):pq Γ fL elt target bY [test] scope pos (dG ns g (HH t c) n):=λ K x it fp l acc P R he hx r ap hl fin=>
 Mw (I:=m6 K.env K.f it fp l acc λ k x ρ σ=>dG ns g (HH t c) k x l Γ.F ρ σ P) (λ k s hI=>zV K hg ap hI fin (λ m ρ w x e F T r hx hl p=>by
  subst e;refine ht ((K.kG ρ w F T).at K.A _ K.R) p λ b dW d1 p=>?_;cases b with
  |true=>exact v5 (N:=λ σ=>dG ns g (HH t c) m x l Γ.F (dH ns ρ) σ P) (K.kG ρ dW (FR.step F w.H d1) (c_.trans T (Step.toF d1 dW.H))) hc (d1.ext _ _ hl) p λ nI pY=>m6.next ap F T r hx hl nI (St.Le.tr d1 pY)
  |false=>exact m6.next (m:=m) ap F T r hx hl dW d1 p) (λ aa h=>h) λ aa aa h=>h) n ⟨K.ρ,K.w,x,K.F,K.T,r,hx,hl,he⟩
theorem IR.self{A:Around}{E:Value->Shared->Prop}{s:Shared}{lam:List Addr}{x:aP}{it:Addr}{fp:List Addr}{Q:Value->Shared->Prop}(r:IR s.heap lam x it fp)(hx:fL x)(h:Q (.ref it) s):wpAny (model Γ.G.prog Γ.G.w) A (pyIter (.ref it)) Q E s:=by
 cases x with
 |list l i=>exact bA r λ a h1 aa=>wpAny_pyIter_listiter h1 h
 |tup vs=>obtain ⟨t,i,n,items,h1,_⟩:=r;exact wpAny_pyIter_tupleiter h1 h
 |mM a c n=>exact wpAny_pyIter_rangeiter r.1 h
 |enum=>exact hx.elim
 |zip=>exact hx.elim
 |text x i=>exact bA r λ t h1 aa=>wpAny_pyIter_striter_ascii h1 h
def so(Γ:dv)(kd:aP->Prop)(bW:AR):Prop:=∀{A:Around}{E:Value->Shared->Prop}{w:St Γ}{x:aP}{it:Addr}{fp:List Addr}{Q:Value->Shared->Prop}{la:Nat}{F:b_}{ρ:dy}{P:U->Prop},kd x->bW x la F ρ w.σ P->w.It x it fp->Q (.ref it) w.s->wpAny Γ.M A (pyIter (.ref it)) Q E w.s
theorem Dz{bW:AR}:so Γ fL bW:=λ hx aa r h=>r.1.self hx h
noncomputable def dv.sub(Γ:dv)(sc:Scope):dv:={Γ with sc:=sc}
def d3(src:AI)(ns:List String)(bW:Nat->AR):AE:=λ F ρ σ P=>src F ρ σ λ x σ=>∃n,bW n x σ.length F (dH ns ρ) (σ++[.list []]) λ σ'=>P (.ref σ.length) σ'
theorem Mx{l:List (Str×NameKind)}{y:Str×NameKind}(hn:(l.map (·.1)).Nodup)(hm:y∈l):l.lookup y.1=some y.2:=by
 induction l with
 |nil=>cases hm
 |cons p r ih=>
  obtain ⟨pn,pk⟩:=p;rw [List.map_cons,List.nodup_cons]at hn;rw [List.lookup_cons];rcases List.mem_cons.mp hm with e|hm
  ·subst e;rw [beq_self_eq_true]
  ·cases hb:y.1==pn with
   |false=>exact ih hn.2 hm
   |true=>have Th:y.1∈r.map (·.1):=List.mem_map.mpr ⟨_,hm,rfl⟩;exact absurd (eq_of_beq hb▸Th) hn.1
theorem zW(K:Cx Γ){elt target bY:Expr}{ifs:List Expr}{scope:Scope}{pos:Pos}{kd:aP->Prop}{src:AI}{bW:Nat->AR}{ns:List String}{use:Option (Value->Sem Unit)}{P:PV}{Q:Value->Shared->Prop}
  (hh:sk scope ns)(co:sh Γ.sc scope)(hi:nM Γ kd bY src)(hf:∀env x,foldedSetIterable bY env x=pure x)(px:∀n,pq (Γ.sub (iW Γ.sc scope)) kd elt target bY ifs scope pos (bW n))(self:∀n,so Γ kd (bW n))(hc:d3 src ns bW Γ.F K.ρ K.w.σ P)
  (fin:∀l acc C m(w:St Γ),K.w.Le w->P (.ref l) w.σ->w.lam[l]?=some acc->K.w.s.heap.get? C=none->C∉w.lam->Γ.G.h₀.get? C=none->w.s.heap.Ns C m->compPost Γ.M K.A K.E use Q (.ref acc) C (.ok .next) w.s):
  K.wp (comprehension (.ListComp elt [⟨target,bY,ifs,0⟩] scope pos) scope K.env (firstIterPos [⟨target,bY,ifs,0⟩] pos) (newList []) false (eval bY K.env) use) Q:=by
 have Ti:∀x∈scope.names,x.2=.free->(K.env.cells.lookup x.1).isSome=true:=λ y hy hk=>by obtain ⟨h1,z,hz⟩:=co.free y hy hk;refine yK (K.F.cell z (.inl (K.kind (hz▸h1)))) λ cc ov e1 aa=>?_;refine ae hz<|ae e1 ?_;rfl
 refine wpAny_comprehension_free (g:=⟨target,bY,ifs,0⟩) (gs:=[]) (use:=use) rfl (hf K.env) (B_ Ti) co.kind (λ y hy hk=>hk▸Mx co.nodup hy) (hi K hc λ it x w fp S p hx r kK=>?_);obtain ⟨fuel,p⟩:=p;refine wpAny_newList ?_;have zX:=λ b o(e:w.s.heap.get? b=some o)=>Heap.get?_push_of_some {cls:=.type "list",data:=.seq ([]:List Value).toArray} e;have h3:=w.H.new (s':={w.s with heap:=w.s.heap.push {cls:=.type "list",data:=.seq ([]:List Value).toArray}}) (a:=w.s.heap.objs.size) (ao:=.list []) zX (Heap.get?_none_of_le (Nat.le_refl _)) rfl rfl (.list (n:=0) (Heap.get?_push_size _ rfl) .nil (Nat.zero_le _));generalize hH:w.s.heap.push {cls:=.type "list",data:=.seq ([]:List Value).toArray}=pg at*;let nI:St Γ:=⟨_,_,_,h3.1⟩
 have S3:K.w.Le nI:=Step.trans S h3.2;refine wpAny_newFunctionEnv co.sj (by simp) (λ h' jA w_=>?_) co.kind;have Tj:pg.get? pg.objs.size=none:=Heap.get?_none_of_le (Nat.le_refl _);generalize hC:pg.objs.size=C at*;have h4:=h3.1.i6 (s':={w.s with heap:=h',toks:=w.s.toks+0}) (λ b o e=>(w_.2 b λ q=>nomatch(q▸Tj).symm.trans e).trans (Heap.get?_push_of_some _ e)) rfl rfl;let oO:St Γ:=⟨_,_,_,h4.1⟩
 have Tn:w.Le oO:=Step.trans h3.2 h4.2;have S4:K.w.Le oO:=S.tr Tn;have Fi:=((FR.step K.F K.w.H S4).comp K.ok co jA (hC▸nI.nG) (nI.H.yY Tj)).kD (Uy hh);have hsC:K.w.s.heap.get? C=none:=S3.none Tj;have xb:∀b∈fp,∃o,w.s.heap.get? b=some o:=λ b hb=>let⟨o,ho,_⟩:=r.1.iQ b hb;⟨o,ho⟩;have acU:oO.It x it fp:=⟨r.1.keep (λ b hb o e=>Tn.keep b o (r.2 b hb) e) Tn.kx,λ b hb=>d9 (xb b hb) λ o ho=>Tn.kx.out (r.2 b hb) ho⟩
 let K':Cx (Γ.sub (iW Γ.sc scope)):=⟨K.A,K.E,compEnvC scope (f3 K.env scope.names []) C K.env,⟨K.w.s,K.w.lam,K.w.σ,K.w.H⟩,⟨_,_,_,h4.1⟩,⟨_,_,_,h4.1⟩,_,K.R,⟨Dy K.ok.scope,co.kind,K.ok.globals,K.ok.builtins,λ h=>by rw [<-Dy K.ok.scope]at h;exact nomatch((y2 _ _).trans co.dot).symm.trans h⟩,Fi,.refl _ _,Step.toF S4 h4.1⟩
 have ap:ua K' fp:=λ b hb=>⟨K.w.H.yY (kK b hb),λ hw=>by
  rcases hw with hw|hw
  ·exact d9 (xb b hb) λ o ho=>(nomatch Tj.symm.trans ((show b=C from hw)▸zX _ _ ho:pg.get? C=some o))
  ·obtain ⟨p,hp,rfl⟩:=List.mem_map.mp hw;rcases xk hp with hq|⟨h1,h2⟩
   ·cases hq
   ·refine d9 (Option.isSome_iff_exists.mp (Ti _ h1 rfl)) λ cc Dt=>?_;rw [Dt]at h2;have h3:=kK p.2 hb;rw [h2,show(some cc).getD 0=cc from rfl]at h3;exact yK (K.F.cells (p.1,cc) (mem_of_lookup Dt)) λ v o ho aa=>(nomatch h3.symm.trans ho),kK b hb⟩
 have hl4:oO.lam[w.σ.length]?=some w.s.heap.objs.size:=by show(w.lam++[_])[_]?=_;refine cQ w.H.len ?_;exact List.getElem?_concat_length ..
 have loop:=px fuel K' (R:=compPost Γ.M K.A K.E use Q (.ref w.s.heap.objs.size) C) p hx acU ap hl4 λ ρ w' F' T' p fc=>?_
 ·have:=codeAny_compStart_list (rest:=[]) loop (self fuel (w:=oO) hx p acU loop);exact this
 ·refine bA F'.o4 λ m abL aa=>fin _ _ C m ⟨w'.s,w'.lam,w'.σ,w'.H⟩ ⟨T'.kx.ext,λ b o hn e=>T'.keep b o hn (λ hw=>?_) e,T'.kx.fresh⟩ p fc hsC F'.new F'.base abL;rcases hw with hw|hw
  ·exact nomatch hsC.symm.trans ((show b=C from hw)▸e:K.w.s.heap.get? C=some o)
  ·exact nomatch hw.1
theorem v7{elt target bY:Expr}{ifs:List Expr}{scope:Scope}{pos:Pos}{kd:aP->Prop}{src:AI}{bW:Nat->AR}{ns:List String}(hh:sk scope ns)(co:sh Γ.sc scope)(hi:nM Γ kd bY src)(hf:∀env x,foldedSetIterable bY env x=pure x)
  (px:∀n,pq (Γ.sub (iW Γ.sc scope)) kd elt target bY ifs scope pos (bW n))(self:∀n,so Γ kd (bW n)):bf Γ (.ListComp elt [⟨target,bY,ifs,0⟩] scope pos) (d3 src ns bW):=λ K P Q h k=>
 zW K hh co hi hf px self h λ l acc C m w S p hl hC To W0 jA=>⟨m,jA,λ oi hs=>k _ _ ⟨_,_,_,w.H.CC (tk:=w.s.toks) hs To W0 (l_ jA)⟩ (K.S.tr ⟨S.ext,λ b o hn e=>(hs.2 b λ q=>nomatch(q▸hC).symm.trans e).trans (S.keep b o hn e),S.fresh⟩) p (.ref hl)⟩
theorem y3{x:String}{xp:Pos}{elt target bY:Expr}{ifs:List Expr}{scope:Scope}{cp pos:Pos}{kd:aP->Prop}{src:AI}{bW:Nat->AR}{ns:List String}(hh:sk scope ns)(co:sh Γ.sc scope)(hi:nM Γ kd bY src)(hf:∀env x,foldedSetIterable bY env x=pure x)
  (px:∀n,pq (Γ.sub (iW Γ.sc scope)) kd elt target bY ifs scope cp (bW n))(self:∀n,so Γ kd (bW n))(hk:Γ.sc.names.lookup (Str.ofString x)=some .local)
  (h1:∀env:Env,env.scope=Γ.sc->swapsWith (.ListComp elt [⟨target,bY,ifs,0⟩] scope cp) (some (.Name (Str.ofString x) xp)) pos.line env=pure true):
  ju Γ (.Assign [.Name (Str.ofString x) xp] (.ListComp elt [⟨target,bY,ifs,0⟩] scope cp) pos) (aI (d3 src ns bW) (a_ x)):=by
 intro K P Q h k;refine (?_:wpAny _ _ _ _ _ _);rw [exec_Assign_Name_used _ _ _ _ (h1 K.env K.ok.scope),arm_evalThenUse_ListComp];refine wpAny_bind (wpAny_standAt (wpAny_bind ?_));refine wpAny_bind (m:=comprehension (.ListComp elt [⟨target,bY,ifs,0⟩] scope cp) scope K.env (firstIterPos [⟨target,bY,ifs,0⟩] cp) (newList []) false (eval bY K.env) (some (assign (.Name (Str.ofString x) xp) K.env))) ?_;refine zW K hh co hi hf px self h λ l acc C m w S p hl hC To W0 jA=>?_;refine (?_:wpAny _ _ (assign (.Name (Str.ofString x) xp) K.env (.ref acc)) _ _ _);refine aG hk (K.zP w S).rf p (.ref hl) λ ρ dW Wz pb p=>?_;have PZ:dW.s.heap.Ns C m:=jA.at' λ o e=>pb.keep _ o To (λ hw=>rY K.F hC hw.all) e;refine ⟨m,PZ,λ oi hs=>wpAny_pure (wpAny_pure ?_)⟩;have abM:C∉dW.lam:=λ hm=>(pb.kx.fresh _ hm).elim To λ e=>CY jA λ o aa aa ho aa=>nomatch e.symm.trans ho
 have N:mY [C] dW.s dW.lam {dW.s with heap:=oi}:=⟨mX hs (l_ PZ),λ a o ha e=>(hs.2 a (by simpa using ha)).trans e⟩
 exact k _ _ ρ ⟨_,_,_,dW.H.CC (tk:=dW.s.toks) hs abM W0 (l_ PZ)⟩ (FR.bY Wz N λ b hb=>by cases List.mem_singleton.mp hb;exact rY K.F hC)
  (c_.trans K.T (c_.bY (c_.trans (Step.toF S w.H) pb) N λ b hb=>by cases List.mem_singleton.mp hb;exact hC)) p .next
theorem jN{elt target bY:Expr}{scope:Scope}{pos:Pos}{src:AI}{g:AG}{c:AE}{ns fs:List String}(ck:nk Γ.sc scope ns fs=true)(hi:nM Γ fL bY src)(hf:∀env x,foldedSetIterable bY env x=pure x)
  (hg:i7 (Γ.sub (iW Γ.sc scope)) target g)(hc:bf (Γ.sub (iW Γ.sc scope)) elt c):bf Γ (.ListComp elt [⟨target,bY,[],0⟩] scope pos) (d3 src ns (dG ns g (kL c))):=
 v7 (gm ck).2 (gm ck).1 hi hf (λ n=>Tg n hg hc) (λ aa=>Dz)
theorem Tp{elt target bY test:Expr}{scope:Scope}{pos:Pos}{src:AI}{g:AG}{t:AT}{c:AE}{ns fs:List String}(ck:nk Γ.sc scope ns fs=true)(hi:nM Γ fL bY src)(hf:∀env x,foldedSetIterable bY env x=pure x)
  (hg:i7 (Γ.sub (iW Γ.sc scope)) target g)(ht:kI (Γ.sub (iW Γ.sc scope)) test t)(hc:bf (Γ.sub (iW Γ.sc scope)) elt c):bf Γ (.ListComp elt [⟨target,bY,[test],0⟩] scope pos) (d3 src ns (dG ns g (HH t c))):=
 v7 (gm ck).2 (gm ck).1 hi hf (λ n=>aal n hg ht hc) (λ aa=>Dz)
theorem My{x:String}{xp:Pos}{elt target bY:Expr}{scope:Scope}{cp pos:Pos}{src:AI}{g:AG}{c:AE}{ns fs:List String}(ck:nk Γ.sc scope ns fs=true)(hi:nM Γ fL bY src)(hf:∀env x,foldedSetIterable bY env x=pure x)
  (hg:i7 (Γ.sub (iW Γ.sc scope)) target g)(hc:bf (Γ.sub (iW Γ.sc scope)) elt c)(hk:Γ.sc.names.lookup (Str.ofString x)=some .local)
  (h1:∀env:Env,env.scope=Γ.sc->swapsWith (.ListComp elt [⟨target,bY,[],0⟩] scope cp) (some (.Name (Str.ofString x) xp)) pos.line env=pure true):
  ju Γ (.Assign [.Name (Str.ofString x) xp] (.ListComp elt [⟨target,bY,[],0⟩] scope cp) pos) (aI (d3 src ns (dG ns g (kL c))) (a_ x)):=
 y3 (gm ck).2 (gm ck).1 hi hf (λ n=>Tg n hg hc) (λ aa=>Dz) hk h1
end
end
section
set_option genInjectivity false
set_option genSizeOf false
section
variable{prog:Program} {w:World} {K:Type} [DecidableEq K] {knd:HeapKind prog w K} {A:Around} {E:Value->Shared->Prop} {s:Shared}
noncomputable def lI(xs:List (K×Addr×Value))(k:K):List (K×Addr×Value):=xs.filter λ x=>decide (x.1≠k)
theorem Ca{xs:List (K×Addr×Value)}{j:Nat}{k:K}{p:Addr×Value}(hn:(xs.map (·.1)).Nodup)(h:xs[j]?=some (k,p)):xs.eraseIdx j=lI xs k:=by
 induction xs generalizing j with
 |nil=>rfl
 |cons x r ih=>
  rw [List.map_cons,List.nodup_cons]at hn;cases j with
  |zero=>
   simp at h;subst h;refine (?_:r=lI ((k,p)::r) k);unfold lI;refine ae (List.filter_cons_of_neg (by simp)) ?_;refine (List.filter_eq_self.mpr λ y hy=>?_).symm;simp only [ne_eq,decide_not,Bool.not_eq_eq_eq_not,Bool.not_true,decide_eq_false_iff_not];exact λ e=>hn.1 (List.mem_map.mpr ⟨y,hy,e⟩)
  |succ j=>simp only [List.getElem?_cons_succ]at h;have hm:k∈r.map (·.1):=List.mem_map.mpr ⟨_,List.mem_of_getElem? h,rfl⟩;have hx:x.1≠k:=λ e=>hn.1 (e▸hm);refine (?_:x::r.eraseIdx j=lI (x::r) k);unfold lI;refine ae (List.filter_cons_of_pos (by exact decide_eq_true hx))<|ae (ih hn.2 h) ?_;rfl
theorem DA{α β:Type}(f:α->β)(l:List α)(j:Nat):(l.eraseIdx j).map f=(l.map f).eraseIdx j:=by
 induction l generalizing j with
 |nil=>rfl
 |cons x r ih=>cases j with
  |zero=>rfl
  |succ j=>exact congrArg (List.cons (f x)) (ih j)
theorem sq{d a:Addr}{xs:List (K×Addr×Value)}{k:K}{u:Addr×Value}{Q:Option DictEntry->Shared->Prop}(hu:knd.room A)(fE:knd.is s.heap k a)(hm:s.heap.DictOfH knd d xs)(ht:atKey xs k=some u)
  (aam:∀e:DictEntry,e.val=u.2->∀h',h'.DictOfH knd d (lI xs k)->Heap.SameBut d s.heap h'->Q (some e) {s with heap:=h',toks:=s.toks+knd.draws k})
  (gF:xs.length<=sizeLine):
  wpAny (model prog w) A (Builtin.Dict.takeOut d (.ref a)) Q E s:=by
 refine CZ hm λ o es ep ho hc hd he HI hn=>?_;have HJ:=size_of_entries he;unfold Builtin.Dict.takeOut
 try with_reducible refine wpAny_holding ?_
 refine wpAny_bind (knd.pyHash hu fE ?_);refine wpAny_bind (wpAny_dictFind_heap (s:={s with toks:=s.toks+knd.draws k}) hu fE ho hd he HI hn ?_ ?_)
 ·intro i8;rw [atKey_none_of_get i8]at ht;cases ht
 ·intro j p hj;rw [atKey_of_get hn hj]at ht;cases ht;refine wpAny_bind (wpAny_dictEntries (s:={s with toks:=s.toks+knd.draws k}) ho hd ?_);refine ae (entry_at he j)<|ae hj ?_;refine (?_:wpAny _ _ (updateDictKeys d _ _>>=_) _ _ _);refine wpAny_bind (wpAny_updateDictKeys (hz:=Nat.le_trans (bS HJ) gF) (s:={s with toks:=s.toks+knd.draws k}) ho hd (wpAny_pure (aam _ rfl _ ⟨_,_,ep+1,Heap.get?_update_self _ ho (Obj.isFreed_of_dict (Obj.data_mapDictKeys hd _)),
   hc.mapDictKeys _,Obj.data_mapDictKeys hd _,?_,?_,?_⟩ (Heap.SameBut.update ..))))
  ·rw [<-Ca hn hj,DA,<-he];obtain ⟨l⟩:=es;simp
  ·intro x hx;exact knd.keeps (HI x (List.mem_filter.mp hx).1) ho hd (Heap.SameBut.update ..)
  ·exact (List.filter_sublist.map _).nodup hn
theorem xm{d a:Addr}{xs:List (K×Addr×Value)}{k:K}{v:Value}{Q:Value->Shared->Prop}(hu:knd.room A)(fE:knd.is s.heap k a)(hm:s.heap.DictOfH knd d xs)
  (h1:∀u,atKey xs k=some u->Q u.2 {s with toks:=s.toks+knd.draws k})
  (h2:atKey xs k=none->∀h',h'.DictOfH knd d (storedH xs k a v)->Heap.SameBut d s.heap h'->Q v {s with heap:=h',toks:=s.toks+knd.draws k})
  (gF:xs.length<=sizeLine):
  wpAny (model prog w) A (dictSetDefault d (.ref a) v) Q E s:=by
 refine CZ hm λ o es ep ho hc hd he HI hn=>?_;have HJ:=size_of_entries he;unfold dictSetDefault
 try with_reducible refine wpAny_holding ?_
 refine wpAny_bind (knd.pyHash hu fE ?_);refine wpAny_bind (wpAny_dictFind_heap (s:={s with toks:=s.toks+knd.draws k}) hu fE ho hd he HI hn ?_ ?_)
 ·intro i8;have abN:k∉xs.map (·.1):=not_mem_keys_of_get i8;refine wpAny_bind (wpAny_rule (wpAny_bind (wpAny_updateDictKeys (hz:=Nat.le_trans (bS HJ) gF) (s:={s with toks:=s.toks+knd.draws k}) ho hd (wpAny_pure (h2 (atKey_none_of_get i8) _ ⟨_,_,ep+1,Heap.get?_update_self _ ho (Obj.isFreed_of_dict (Obj.data_mapDictKeys hd _)),
   hc.mapDictKeys _,Obj.data_mapDictKeys hd _,?_,?_,?_⟩ (Heap.SameBut.update ..))))))
  ·rw [storedH_new (atKey_none_of_get i8)];simp [he,entryOfKey]
  ·rw [storedH_new (atKey_none_of_get i8)];intro x hx;rcases List.mem_append.mp hx with hx|hx
   ·exact knd.keeps (HI x hx) ho hd (Heap.SameBut.update ..)
   ·simp only [List.mem_singleton]at hx;subst hx;exact knd.keeps fE ho hd (Heap.SameBut.update ..)
  ·rw [storedH_new (atKey_none_of_get i8)];rw [List.map_append,List.nodup_append];refine ⟨hn,by simp,?_⟩;intro x hx y hy;simp only [List.map_cons,List.map_nil,List.mem_singleton]at hy;subst hy;exact λ e=>abN (e▸hx)
 ·intro j p hj;refine wpAny_bind (wpAny_dictEntries (s:={s with toks:=s.toks+knd.draws k}) ho hd ?_);refine ae (entry_at he j)<|ae hj ?_;exact wpAny_bind (wpAny_rule (wpAny_pure (h1 _ (atKey_of_get hn hj))))
end
section
variable{G:bC} {d:Nat} {sc:Scope}
theorem xn{A:Around}{E:Value->Shared->Prop}{s:Shared}{dd a:Addr}{xs}{k:List AK}{u:Addr×Value}{Q:Value->Shared->Prop}(hu:(cI G.prog G.w).room A.in1)(fE:(cI G.prog G.w).is s.heap k a)(hm:s.heap.DictOfH (cI G.prog G.w) dd xs)(ht:atKey xs k=some u)
  (gF:xs.length<=sizeLine)(h:∀h' tk,h'.DictOfH (cI G.prog G.w) dd (lI xs k)->Heap.SameBut dd s.heap h'->Q u.2 {s with heap:=h',toks:=tk}):
  wpAny (model G.prog G.w) A (call (.builtin "dict.pop") [.ref dd,.ref a]) Q E s:=by
 refine call_meetsIn PySem.F.slot_dict_pop hm.typeIs PySem.F.entry_dict_pop (PySem.F.args_dict_pop_2 _ _) (.of_wp (S:=λ A R s=>(cI G.prog G.w).room A.in1/\(cI G.prog G.w).is s.heap k a/\s.heap.DictOfH (cI G.prog G.w) dd xs/\
  ∀h' tk,h'.DictOfH (cI G.prog G.w) dd (lI xs k)->Heap.SameBut dd s.heap h'->R (.ok (.ret u.2)) {s with heap:=h',toks:=tk}) λ A R s ⟨hu,fE,hm,h⟩=>?_) ⟨hu,fE,hm,λ h' tk h1 h2=>h h' tk h1 h2⟩
 unfold Builtin.«dict.pop»;refine wpAny_bind ?_;unfold Builtin.Dict.keyAndDefault;refine wpAny_bind (wpAny_notOrdered_dict hm.typeIs ?_);refine (?_:wpAny _ _ (pure (dd,Value.ref a,none)) _ _ s);refine wpAny_pure ?_;refine CZ (id hm) λ o es ep ho hc hd he HI hn=>?_;have hk:(keyPart (Value.ref a)).isSome=false:=rfl;simp only [hk,Bool.false_eq_true,if_false];refine wpAny_bind (wpAny_dictEntries ho hd (wpAny_bind (wpAny_pure ?_)));have cD:es.isEmpty=false:=by
  cases xs with
  |nil=>simp [atKey]at ht
  |cons x r=>have:=size_of_entries he;simp at this;rw [Array.isEmpty_eq_false_iff];intro e;rw [e]at this;simp at this
 refine ae cD<|ae (if_neg Bool.false_ne_true) ?_;refine wpAny_bind (sq hu fE hm ht (λ e hev h' DB Mi=>?_) gF);simp only [Option.isNone_some,Bool.false_eq_true,if_false];exact wpAny_bind (wpAny_letGo (wpAny_pure ⟨e.val,rfl,by refine ae hev ?_;exact h h' _ DB Mi⟩))
theorem jD{A:Around}{E:Value->Shared->Prop}{s:Shared}{dd a:Addr}{xs}{k:List AK}{v:Value}{Q:Value->Shared->Prop}(hu:(cI G.prog G.w).room A.in1)(fE:(cI G.prog G.w).is s.heap k a)(hm:s.heap.DictOfH (cI G.prog G.w) dd xs)
  (abO:(dd==sysModules)=false)(gF:xs.length<=sizeLine)(h1:∀u tk,atKey xs k=some u->Q u.2 {s with toks:=tk})
  (h2:atKey xs k=none->∀h' tk,h'.DictOfH (cI G.prog G.w) dd (storedH xs k a v)->Heap.SameBut dd s.heap h'->Q v {s with heap:=h',toks:=tk}):
  wpAny (model G.prog G.w) A (call (.builtin "dict.setdefault") [.ref dd,.ref a,v]) Q E s:=by
 refine call_meetsIn PySem.F.slot_dict_setdefault hm.typeIs PySem.F.entry_dict_setdefault (PySem.F.args_dict_setdefault_3 _ _ _) (.of_wp (S:=λ A R s=>(cI G.prog G.w).room A.in1/\(cI G.prog G.w).is s.heap k a/\s.heap.DictOfH (cI G.prog G.w) dd xs/\
  (∀u tk,atKey xs k=some u->R (.ok (.ret u.2)) {s with toks:=tk})/\(atKey xs k=none->∀h' tk,h'.DictOfH (cI G.prog G.w) dd (storedH xs k a v)->Heap.SameBut dd s.heap h'->R (.ok (.ret v)) {s with heap:=h',toks:=tk})) λ A R s ⟨hu,fE,hm,h1,h2⟩=>?_) ⟨hu,fE,hm,h1,h2⟩
 unfold Builtin.«dict.setdefault»;refine wpAny_bind ?_;unfold Builtin.Dict.keyAndDefault;refine wpAny_bind (wpAny_notOrdered_dict hm.typeIs ?_);refine (?_:wpAny _ _ (pure (dd,Value.ref a,some v)) _ _ s);refine wpAny_pure ?_;refine (?_:wpAny _ _ (if(dd==sysModules)=true then _ else(dictSetDefault dd (.ref a) v>>=_)) _ _ s);refine ae (if_neg (by rw [abO];exact Bool.false_ne_true)) ?_;exact wpAny_bind (xm hu fE hm (λ u hu=>wpAny_pure ⟨_,rfl,h1 u _ hu⟩) (λ hn h' a b=>wpAny_pure ⟨_,rfl,h2 hn h' _ a b⟩) gF)
theorem y4{A:Around}{E:Value->Shared->Prop}{s:Shared}{dd a:Addr}{xs}{k:List AK}{u:Addr×Value}{Q:Unit->Shared->Prop}(hu:(cI G.prog G.w).room A.in1)(fE:(cI G.prog G.w).is s.heap k a)(hm:s.heap.DictOfH (cI G.prog G.w) dd xs)(ht:atKey xs k=some u)
  (gF:xs.length<=sizeLine)(h:∀h' tk,h'.DictOfH (cI G.prog G.w) dd (lI xs k)->Heap.SameBut dd s.heap h'->Q () {s with heap:=h',toks:=tk}):
  wpAny (model G.prog G.w) A (delItem (.ref dd) (.ref a)) Q E s:=by
 unfold delItem
 try with_reducible refine wpAny_holding ?_
 refine wpAny_bind (wpAny_sequenceKey hm.typeIs (by decide) ?_);refine wpAny_bind (wpAny_callSpecial?_slot (name:=Str.ofString "__delitem__") hm.typeIs PySem.F.slot_dict_delitem
  (call_meetsIn PySem.F.slot_dict_delitem hm.typeIs PySem.F.entry_dict_delitem (PySem.F.args_dict_delitem_2 _ _) (.of_wp (S:=λ A R s=>(cI G.prog G.w).room A.in1/\(cI G.prog G.w).is s.heap k a/\s.heap.DictOfH (cI G.prog G.w) dd xs/\
  ∀h' tk,h'.DictOfH (cI G.prog G.w) dd (lI xs k)->Heap.SameBut dd s.heap h'->R (.ok (.ret .none)) {s with heap:=h',toks:=tk}) λ A R s ⟨hu,fE,hm,h⟩=>?_) ⟨hu,fE,hm,λ h' tk h1 h2=>wpAny_pure (h h' tk h1 h2)⟩))
 unfold Builtin.«dict.__delitem__»;refine wpAny_bind ?_;unfold Builtin.Dict.dictSlotArgs;refine wpAny_bind (wpAny_notOrdered_dict hm.typeIs ?_);refine (?_:wpAny _ _ (pure (Value.ref dd,Value.ref a)) _ _ s);refine wpAny_pure ?_;refine (?_:wpAny _ _ (Builtin.Dict.takeOut dd (.ref a)>>=_) _ _ s);refine wpAny_bind (sq hu fE hm ht (λ e hev h' DB Mi=>?_) gF);exact wpAny_bind (wpAny_letGo (wpAny_pure ⟨.none,rfl,h h' _ DB Mi⟩))
end
theorem KT.Mb{h:Heap}{lam:List Addr}{kvs:List (List AK×AV)}{xs}(x:KT h lam kvs xs)(k:List AK):KT h lam (kJ kvs k) (lI xs k):=by
 induction x with
 |nil=>exact .nil
 |@cons k0 av a v r r' hv _ ih=>
  unfold kJ lI at ih⊢;by_cases hk:k0=k
  ·subst hk;refine ae (List.filter_cons_of_neg (by simp))<|ae (List.filter_cons_of_neg (by simp)) ?_;exact ih
  ·refine ae (List.filter_cons_of_pos (by exact decide_eq_true hk))<|ae (List.filter_cons_of_pos (by exact decide_eq_true hk)) ?_;exact .cons hv ih
theorem DC{lam:List Addr}{xs:List (List AK×Addr×Value)}{k:List AK}(h:∀x∈xs,x.2.1∉lam):∀x∈lI xs k,x.2.1∉lam:=λ x hx=>h x (List.mem_filter.mp hx).1
section
variable{Γ:dv}
inductive ue(l:Nat)(σ:U)(P:PV):List AV->Prop
 |mk {k:Int} {u:AV} {kvs:List (Int×AV)}:σ[l]?=some (.dI kvs)->kvs.length<=10000->bD kvs k=some u->P u (σ.set l (.dI (kJ kvs k)))->ue l σ P [.int k]
theorem W2:Mt Γ "dict.pop" ue:=by
 intro K l b x v P Q h;induction h with
 |@mk k0 u kvs hx hz e p=>
  intro hl hv k;apply hv.k1;intro u1 h1;apply h1.ki;intro t;exact K.w.dI hl hx λ kvs' g1 g2 hlen=>bA ((g2.get (λ aa aa e=>e) k0).1 _ e) λ u' e1 e2=>call_meetsIn PySem.F.slot_dict_pop g1.typeIs PySem.F.entry_dict_pop (PySem.F.args_dict_pop_2 _ _) (meets_dict_pop_there (intKind Γ.G.prog Γ.G.w) b (intKind_is _ _ _ _) [] (.inl rfl) rfl)
   ⟨kvs',u',g1,eM hz hlen,e1,λ h' hd hs=>K.uc k hl hs p (λ kc=>.dI hd ((g2.Mb (λ aa aa e=>e) k0).bo kc)) e2⟩
theorem Uz(W:Wd Γ.G){o:Expr}{apos pos:Pos}{es:List Expr}{c:AE}{cs:List AE}(ho:bf Γ o c)(a:fD Γ es cs)(hf:gH o "pop" apos pos es):bf Γ (.Call (.Attribute o (Str.ofString "pop") apos) es [] pos) (uM c mB cs ue):=
 CH W ho a hf PySem.F.slot_dict_pop PySem.F.type_dict_pop (λ aa h=>.inl h) W2
inductive xo(l:Nat)(σ:U)(P:PV):List AV->Prop
 |mk {ks:List AV} {k:List AK} {u:AV} {kvs:List (List AK×AV)}:σ[l]?=some (.dT kvs)->hU ks=some k->kvs.length<=10000->bD kvs k=some u->P u (σ.set l (.dT (kJ kvs k)))->xo l σ P [.tup ks]
theorem W3:Mt Γ "dict.pop" xo:=by
 intro K l b x v P Q h;induction h with
 |@mk ks k0 u kvs hx hk hz e p=>intro hl hv k;apply hv.k1;intro u1 h1;refine K.w.dT hl hx λ xs g1 g2 g3 hlen=>bA ((g2.get k0).1 _ e) λ u' e1 e2=>?_;have pa:=h1;revert pa;apply h1.kt;intro ka items n ht ef pa;exact xn K.R.tk (j' pa hk) g1 e1 (eM hz hlen) λ h' tk hd hs=>K.uc k hl hs p (λ kc=>.dT hd ((g2.Mb k0).bo kc) (DC g3)) e2
theorem UA(W:Wd Γ.G){o:Expr}{apos pos:Pos}{es:List Expr}{c:AE}{cs:List AE}(ho:bf Γ o c)(a:fD Γ es cs)(hf:gH o "pop" apos pos es):bf Γ (.Call (.Attribute o (Str.ofString "pop") apos) es [] pos) (uM c vZ cs xo):=
 CH W ho a hf PySem.F.slot_dict_pop PySem.F.type_dict_pop (λ aa h=>.inr (.inr h)) W3
inductive i'(l:Nat)(σ:U)(P:PV):List AV->Prop
 |old {ks:List AV} {k:List AK} {v u:AV} {kvs:List (List AK×AV)}:σ[l]?=some (.dT kvs)->hU ks=some k->kvs.length<=10000->bD kvs k=some u->P u σ->i' l σ P [.tup ks,v]
 |new {ks:List AV} {k:List AK} {v:AV} {kvs:List (List AK×AV)}:σ[l]?=some (.dT kvs)->hU ks=some k->kvs.length<=10000->bD kvs k=none->P v (σ.set l (.dT (dY kvs k v)))->i' l σ P [.tup ks,v]
theorem Mz(W:Wd Γ.G):Mt Γ "dict.setdefault" i':=by
 intro K l b x v P Q h;induction h with
 |@old ks k0 _ _ kvs hx hk hz e p=>
  intro hl hv k;apply hv.k2;intro u1 u2 h1 h2;refine K.w.dT hl hx λ xs g1 g2 g3 hlen=>bA ((g2.get k0).1 _ e) λ u' e1 e2=>?_;have pa:=h1;revert pa;apply h1.kt;intro ka items n ht ef pa;exact jD K.R.tk (j' pa hk) g1 (K.w.gj W hl) (eM hz hlen) (λ u tk hu=>by cases e1.symm.trans hu;exact K.k1 k p e2 _) λ hn aa aa aa aa=>nomatch e1.symm.trans hn
 |@new ks k0 _ kvs hx hk hz e p=>intro hl hv k;apply hv.k2;intro u1 u2 h1 h2;refine K.w.dT hl hx λ xs g1 g2 g3 hlen=>?_;have pa:=h1;revert pa;apply h1.kt;intro ka items n ht ef pa;exact jD K.R.tk (j' pa hk) g1 (K.w.gj W hl) (eM hz hlen) (λ u tk hu=>nomatch((g2.get k0).2 e).symm.trans hu) λ hn h' tk hd hs=>K.uc k hl hs p (λ kc=>.dT hd ((g2.set k0 h2).bo kc) (uK g3 ht.1)) h2
theorem Jq(W:Wd Γ.G){o:Expr}{apos pos:Pos}{es:List Expr}{c:AE}{cs:List AE}(ho:bf Γ o c)(a:fD Γ es cs)(hf:gH o "setdefault" apos pos es):bf Γ (.Call (.Attribute o (Str.ofString "setdefault") apos) es [] pos) (uM c vZ cs i'):=
 CH W ho a hf PySem.F.slot_dict_setdefault PySem.F.type_dict_setdefault (λ aa h=>.inr (.inr h)) (Mz W)
inductive sr(σ:U)(P:U->Prop):AV->AV->Prop
 |i {l:Nat} {k:Int} {kvs:List (Int×AV)}:σ[l]?=some (.dI kvs)->kvs.length<=10000->(bD kvs k).isSome=true->P (σ.set l (.dI (kJ kvs k)))->sr σ P (.ref l) (.int k)
 |t {l:Nat} {ks:List AV} {k:List AK} {kvs:List (List AK×AV)}:σ[l]?=some (.dT kvs)->hU ks=some k->kvs.length<=10000->(bD kvs k).isSome=true->P (σ.set l (.dT (kJ kvs k)))->sr σ P (.ref l) (.tup ks)
theorem aan(K:Cx Γ){o i:AV}{ov iv:Value}{P:U->Prop}{Q:Unit->Shared->Prop}(hc:sr K.w.σ P o i):K.w.R o ov->K.w.R i iv->K.KM P Q->K.wp (delItem ov iv) Q:=by
 induction hc with
 |@i l k0 kvs hx hz W4 p=>
  intro ho hi k;apply ho.kr;intro b hl;apply hi.ki;intro t;refine K.w.dI hl hx λ kvs' g1 g2 hlen=>?_;refine (?_:wpAny _ _ (delItem _ _) _ _ _);unfold delItem
  try with_reducible refine wpAny_holding ?_
  refine wpAny_bind (wpAny_sequenceKey g1.typeIs (by decide) ?_);exact wpAny_bind (wpAny_callSpecial?_slot (name:=Str.ofString "__delitem__") g1.typeIs PySem.F.slot_dict_delitem
   (call_meetsIn PySem.F.slot_dict_delitem g1.typeIs PySem.F.entry_dict_delitem (PySem.F.args_dict_delitem_2 _ _) (meets_dict_delitem_pairs (intKind Γ.G.prog Γ.G.w) b (intKind_is _ _ _ _)) ⟨kvs',g1,eM hz hlen,(KR.isSome (λ aa aa e=>e) g2 k0).trans W4,
    λ h' hd hs=>wpAny_pure (K.rW k hl hs p λ kc=>.dI hd ((g2.Mb (λ aa aa e=>e) k0).bo kc))⟩))
 |@t l ks k0 kvs hx hk hz W4 p=>intro ho hi k;apply ho.kr;intro b hl;refine K.w.dT hl hx λ xs g1 g2 g3 hlen=>d9 (Option.isSome_iff_exists.mp W4) λ u e=>bA ((g2.get k0).1 _ e) λ u' e1 e2=>?_;have nL:=hi;revert nL;apply hi.kt;intro ka items n ht ef nL;exact y4 K.R.tk (j' nL hk) g1 e1 (eM hz hlen) λ h' tk hd hs=>K.rW k hl hs p λ kc=>.dT hd ((g2.Mb k0).bo kc) (DC g3)
def P6(o i:AE):AS:=λ F ρ σ P=>o F ρ σ λ ov σ=>i F ρ σ λ iv σ=>sr σ (λ σ=>P .next ρ σ) ov iv
theorem HK{e i:Expr}{p pos:Pos}{c ci:AE}(ho:bf Γ e c)(hi:bf Γ i ci):ju Γ (.Delete [.Subscript e i p] pos) (P6 c ci):=λ K P Q hc k=>wpAny_Delete (wpAny_deleteEach_cons (delete_Subscript (ho K.r hc λ v aa w S p hv=>hi (K.up w S).r p λ u aa dW d1 p hu=>aan (K.up dW (S.tr d1)).r p (hv.up d1) hu λ nI pY p=>wpAny_deleteEach_nil (K.kS k nI ((S.tr d1).tr pY) p .next))))
end
theorem y5{α:Type}(g:Nat->Bool)(a:Nat)(hg:∀k,g k=decide (a<=k)):∀(l:List α)(i:Nat),i<=a->((l.zipIdx i).filterMap λ(x,k)=>if g k then none else some x)=l.take (a -i):=by
 intro bN;induction bN with
 |nil=>
  intro i zz;simp
 |cons x r ih=>
  intro i h;rw [List.zipIdx_cons,List.filterMap_cons];dsimp only;by_cases e:i=a
  ·subst e;rw [show g i=true by rw [hg];exact decide_eq_true h];simp only [if_true,Nat.sub_self,List.take_zero];have:∀(l:List α)(j:Nat),i<=j->((l.zipIdx j).filterMap λ(x,k)=>if g k then none else some x)=[]:=by
    intro l;induction l with
    |nil=>intro j _;simp
    |cons y q ih=>intro j hj;rw [List.zipIdx_cons,List.filterMap_cons];dsimp only;rw [show g j=true by rw [hg];simpa using hj];rw [if_pos rfl];exact ih _ (Nat.le_succ_of_le hj)
   exact this r (i+1) (Nat.le_succ _)
  ·have hn:g i=false:=by rw [hg];simp;exact (Nat.lt_of_le_of_ne h e)
   rw [hn,if_neg Bool.false_ne_true];exact ae (ih (i+1) ((Nat.lt_of_le_of_ne h e)))<|ae (show a -i=(a -(i+1))+1 by exact Nat.le_antisymm (dc (bS (Nat.sub_add_cancel (show(i)<=(a) from h))) (b7 (Nat.sub_add_cancel (show(i+1)<=(a) from(Nat.lt_of_le_of_ne h e)))) (by simp+arith only)) (dc (b7 (Nat.sub_add_cancel (show(i)<=(a) from h))) (bS (Nat.sub_add_cancel (show(i+1)<=(a) from(Nat.lt_of_le_of_ne h e)))) (by simp+arith only)))<|ae List.take_succ_cons rfl
section
variable{G:bC} {d:Nat} {sc:Scope}
theorem P7{α:Type}(n:Nat)(g:Nat->Bool)(a:Nat):∀(l:List α)(i:Nat),i+l.length<=n->(∀k,k<n->g k=decide (a<=k))->i<=a->((l.zipIdx i).filterMap λ(x,k)=>if g k then none else some x)=l.take (a -i):=by
 intro l i hn hg hi;have:((l.zipIdx i).filterMap λ(x,k)=>if g k then none else some x)=((l.zipIdx i).filterMap λ(x,k)=>if(λ k=>decide (a<=k)) k then none else some x):=by
  have key:∀(l:List α)(i:Nat),i+l.length<=n->((l.zipIdx i).filterMap λ(x,k)=>if g k then none else some x)=((l.zipIdx i).filterMap λ(x,k)=>if(λ k=>decide (a<=k)) k then none else some x):=by
   intro l;induction l with
   |nil=>intro i _;rfl
   |cons y q ih=>intro i h;simp only [List.length_cons]at h;rw [List.zipIdx_cons,List.filterMap_cons,List.filterMap_cons,ih (i+1) (bQ h (by simp+arith only))];dsimp only;exact ae (hg i (nC h)) rfl
  exact key l i hn
 refine ae this ?_;exact y5 _ a (λ k=>rfl) l i hi
theorem Cb{A:Around}{E:Value->Shared->Prop}{s:Shared}{l sl:Addr}{items:Array Value}{n:Nat}{i:Int}{u:Tok}{Q:Unit->Shared->Prop}(hl:IsL s.heap l items n)(hs:s.heap.IsSliceOf sl (.int i u) .none .none)(h0:0<=i)(h1:i<=items.size)(gF:items.size<=sizeLine)
  (h:∀f:Array Value->Array Value,f items=(items.toList.take i.toNat).toArray->Q () {s with heap:=s.heap.update l (Obj.mapSeq f)}):wpAny (model G.prog G.w) A (delItem (.ref l) (.ref sl)) Q E s:=by
 refine gy (id hs) λ os Tq hcs W5=>?_;have hTs:s.TypeIs (.ref sl) "slice":=⟨os,Tq,hcs⟩
 have su:s.TypeIs (.ref l) "list":=⟨_,hl,rfl⟩
 unfold delItem
 try with_reducible refine wpAny_holding ?_
 refine wpAny_bind (wpAny_sequenceKey su (by decide) ?_);refine wpAny_bind (wpAny_callSpecial?_slot (name:=Str.ofString "__delitem__") su PySem.F.slot_list_delitem
  (wpAny_call_entry PySem.F.slot_list_delitem su PySem.F.entry_list_delitem ?_ (PySem.F.args_list_delitem_2 _ _)))
 show wpAny _ _ (Builtin.List.listSubscript? (.ref sl)>>=_) _ _ s;refine wpAny_bind ?_;unfold Builtin.List.listSubscript?;refine wpAny_bind (wpAny_specialOf hTs slice_no_index ?_);simp only [Option.isNone_none,if_true];refine wpAny_pure ?_;show wpAny _ _ (typeOf (.ref sl)>>=_) _ _ s;refine wpAny_bind (wpAny_typeOf hTs ?_);rw [if_neg (by decide)];rw [listSliceParts_eq];refine wpAny_bind (wpAny_bind (wpAny_field Tq W5 (x:=.none) rfl (wpAny_bind (wpAny_listPart .none ?_))));rw [if_neg (show¬((rawPart none==rawInt 0)=true) from Bool.false_ne_true)];refine wpAny_bind (wpAny_field Tq W5 (x:=.int i u) rfl (wpAny_bind (wpAny_listPart (.int i u) ?_)));refine wpAny_bind (wpAny_field Tq W5 (x:=.none) rfl (wpAny_bind (wpAny_listPart .none (wpAny_pure ?_))));refine wpAny_bind (m:=Builtin.List.listItems (.ref l)) ?_;unfold Builtin.List.listItems;refine wpAny_bind (wpAny_seqItems hl rfl (wpAny_pure ?_));refine wpAny_bind (wpAny_of_eq (sliceIndices_raw (some i) none none items.size (by decide)) ?_);have hb:sliceBounds (some i) none none items.size=(i,(items.size:Int),1):=by unfold sliceBounds;simp only [Option.getD_none,show(1:Int)>0 by decide,if_true];rw [if_neg (by lia)];congr 1;lia
 rw [hb];refine wpAny_bind (wpAny_rule ?_);have key:∀sel:Nat->Bool,(∀k,sel k=(decide (i<=(k:Int))&&decide ((k:Int)<items.size)&&((k:Int) -i) %1==0))->(items.toList.zipIdx.filterMap λ(x,k)=>if sel k then none else some x).toArray=(items.toList.take i.toNat).toArray:=by
  intro sel abP;rw [P7 items.size sel i.toNat items.toList 0 (by simp) (λ k hk=>?_) (Nat.zero_le _)]
  ·rfl
  ·rw [abP,Int.emod_one];have e1:decide ((k:Int)<items.size)=true:=by simpa using hk
   rw [e1];simp only [Bool.and_true,BEq.rfl];by_cases hik:i<=k
   ·rw [decide_eq_true hik,decide_eq_true (by lia)]
   ·exact ae (decide_eq_false hik)<|ae (decide_eq_false (by lia)) rfl
 have hz:(items.toList.take i.toNat).toArray.size<=items.size:=by simp only [List.size_toArray,List.length_take,Array.length_toList];exact Nat.min_le_right _ _
 refine wpAny_bind (listUpdate_at hl rfl ?_ gF ?_)
 ·exact wpAny_bind (wpAny_letGo (wpAny_pure ⟨_,rfl,wpAny_pure (h _ (key _ λ k=>rfl))⟩))
 ·refine Nat.le_trans (Nat.le_of_eq (congrArg Array.size (key _ λ k=>rfl))) (nc (Nat.le_trans hz gF) rfl)
end
section
variable{Γ:dv}
inductive ow(σ:U)(P:U->Prop):AV->AV->Prop
 |mk {l k:Nat} {xs:List AV}:σ[l]?=some (.list xs)->k<=xs.length->P (σ.set l (.list (xs.take k)))->ow σ P (.ref l) (.int k)
def qd(o i:AE):AS:=λ F ρ σ P=>o F ρ σ λ ov σ=>i F ρ σ λ iv σ=>ow σ (λ σ=>P .next ρ σ) ov iv
theorem oQ{e i:Expr}{p p' pos:Pos}{c ci:AE}(ho:bf Γ e c)(hi:bf Γ i ci):ju Γ (.Delete [.Subscript e (.Slice (some i) none none p') p] pos) (qd c ci):=λ K P Q hc k=>
 wpAny_Delete (wpAny_deleteEach_cons (delete_Subscript (ho K.r hc λ v ov w S p0 hv=>wpAny_Slice (hi (K.up w S).r p0 λ u iv dW d1 p hu=>by
  rw [evalPart_none];refine wpAny_pure (wpAny_pure ?_);have hv:=hv.up d1;revert hv hu;induction p with
  |@mk l i xs hx hi p=>intro hu hv;apply hv.kr;intro b hl;apply hu.ki;intro t;have hz:=dW.lz hl hx;have h5:=dW.H.i6 (s':={dW.s with heap:=dW.s.heap.push {cls:=.type "slice",data:=.fields #[.int i t,.none,.none]}}) (λ b o e=>Heap.get?_push_of_some _ e) rfl rfl;let W6:=(K.up ⟨_,_,_,h5.1⟩ (Step.trans (S.tr d1) h5.2)).r;refine W6.w.dQ hl hx λ items n g1 g2 hlen=>Cb (G:=Γ.G) (s:=W6.w.s) g1 (Heap.IsSliceOf.new ..) (Int.natCast_nonneg i) (by refine cQ hlen ?_;exact Int.ofNat_le.mpr hi) (eM hz hlen) λ f hf=>wpAny_deleteEach_nil ?_;have hs:Heap.SameBut b W6.w.s.heap (W6.w.s.heap.update b (Obj.mapSeq f)):=Heap.SameBut.update ..;refine W6.rW (Q:=λ aa s=>Q .next s) (tk:=dW.s.toks) (λ adx ady p=>K.kS k adx (Step.trans (Step.trans (S.tr d1) h5.2) ady) p .next) hl hs p λ kc=>.list (n:=if(f items).size=items.size then n else n+1) (items:=f items) ?_ (bB.bo kc (by refine ae hf ?_;simpa using bB.take g2 _)) (by simp;exact Nat.le_trans (Nat.min_le_right (i) (xs.length)) hz);refine (?_:Heap.get? _ _=_);refine ae (Heap.get?_update_self _ g1 rfl) ?_;simp [Obj.mapSeq]))))
end
section
variable{Γ:dv}
inductive Jr(σ:U)(P:PV):List AV->Prop
 |mk {n:Int}:0<=n->n<1000->P (.str (toString n)) σ->Jr σ P [.int n]
theorem P8:jv Γ (.type "str") Jr:=by
 intro K x v P Q hc;induction hc with
 |mk h0 h1 p=>intro hv k;apply hv.k1;intro u hu;apply hu.ki;intro t;exact str_of_int_fit (N:=1000) (by refine ae (if_neg (by lia)) ?_;exact h1) (by decide) λ aa=>K.k1 k p (.str _ _ rfl) _
end
section
variable{G:bC} {d:Nat} {sc:Scope}
theorem ox{A:Around}{E:Value->Shared->Prop}{s:Shared}{v:Value}{ns:List Int}{Q:Value->Shared->Prop}
  (abQ:wpAny (model G.prog G.w) A.in1 (collect v) (λ vs f9=>∃ms h' tk dr,f9={s with heap:=h',toks:=tk,drawn:=dr}/\(∀b o,s.heap.get? b=some o->h'.get? b=some o)/\IntsAre vs ms/\ms.Perm ns/\vs.length<64) E s)
  (h:∀a h' tk dr out n,(∀b o,s.heap.get? b=some o->h'.get? b=some o)->s.heap.get? a=none->IsL h' a out n->IntsAre out.toList (iS ns)->Q (.ref a) {s with heap:=h',toks:=tk,drawn:=dr}):
  wpAny (model G.prog G.w) A (call (.builtin "sorted") [v]) Q E s:=by
 refine Calls.call_function_entry kind_sorted plain_sorted entry_sorted (args_sorted1 _) ?_;unfold Builtin.«sorted»;refine wpAny_bind (m:=checkCount "sorted" 1 1 _) (wpAny_pure ?_);refine wpAny_bind (wpAny_mono abQ (λ vs f9 ⟨ms,h',tk,dr,e,hk,hi,hp,hl⟩=>?_) λ aa aa e=>e);subst e;have nK:=dh;refine wpAny_bind (wpAny_newList ?_ (dc nK hl (by simp+arith only)));have W7:(h'.push (seqObj "list" vs.toArray 0)).get? h'.objs.size=some (seqObj "list" vs.toArray 0):=Heap.get?_push_size _ rfl;refine wpAny_bind (wpAny_holding (wpAny_call_entry slot_list_sort ⟨_,W7,rfl⟩ entry_list_sort (list_sort_tree W7 hi hl λ out xc a1 a2 a3=>⟨_,rfl,?_⟩) (args_list_sort _)));have e:xc=iS ns:=q8 (a2.trans (hp.trans (jh ns).symm)) a3 (nN ns);subst e;refine d9 (sortedHeap_at (vs:=vs) (out:=out) W7) λ k e6=>?_;refine wpAny_pure ⟨_,rfl,h _ _ tk dr out k (λ b o e=>?_) ?_ e6 a1⟩
 ·have hb:=hk b o e;have ed:b<h'.objs.size:=Heap.lt_size hb;refine ae (sortedHeap_old (Nat.ne_of_lt ed) (by rw [size_push'];exact Nat.lt_succ_of_lt ed)) ?_;exact Heap.get?_push_of_some _ hb
 ·cases e:s.heap.get? h'.objs.size with
  |none=>rfl
  |some o=>have:=Heap.lt_size (hk _ _ e);exact absurd this (Nat.lt_irrefl _)
theorem ItemsOf.ints{P:Nat->Value->Prop}{acc:Array Value}{n:Nat}{ns:List Int}(x:ItemsOf P acc n)(hn:ns.length=n)(hp:∀i v,P i v->∃t,ns[i]?.map (λ k=>Value.int k t)=some v):IntsAre acc.toList ns:=by
 have key:∀(l:List Value)(ns:List Int),l.length=ns.length->(∀(i:Nat)(v:Value),l[i]?=some v->∃t,ns[i]?.map (λ k=>Value.int k t)=some v)->IntsAre l ns:=by
  intro l;induction l with
  |nil=>intro ns h1 _;cases ns with|nil=>exact .nil|cons _ _=>simp at h1
  |cons v r ih=>
   intro ns h1 h2;cases ns with
   |nil=>simp at h1
   |cons k ks=>refine d9 (h2 0 v rfl) λ t e=>?_;simp at e;subst e;exact .cons k t (ih ks (by simpa using h1) λ i v h=>by simpa using h2 (i+1) v (by simpa using h))
 refine key _ _ (ae Array.length_toList<|ae x.1<|ae hn rfl) λ i v h=>hp i v (x.2 i v (by refine cQ Array.getElem?_toList ?_;exact h))
theorem KR.strs{h:Heap}{lam:List Addr}{kvs:List (String×AV)}{kvs':List (Str×Value)}(g:KR Str.ofString h lam kvs kvs'):∀(l:List Value),l.length=kvs'.length->(∀(i:Nat)(v:Value),l[i]?=some v->∃k x,kvs'[i]?=some (k,x)/\(dR G.prog G.w).is k v=true)->bB h lam (kvs.map λ p=>.str p.1) l:=by
 induction g with
 |nil=>intro l h1 _;cases l with|nil=>exact .nil|cons _ _=>simp at h1
 |@cons k av v r r' hv _ ih=>
  intro l h1 h2;cases l with
  |nil=>simp at h1
  |cons y ys=>refine yK (h2 0 y rfl) λ k' x e1 e2=>?_;simp at e1;obtain ⟨rfl,rfl⟩:=e1;obtain ⟨t,rfl⟩:=Value.isStrOf_shape e2;exact .cons (.str k t rfl) (ih ys (by simpa using h1) λ i v h=>by simpa using h2 (i+1) v (by simpa using h))
end
section
variable{Γ:dv}
inductive qe(σ:U)(P:PV):List AV->Prop
 |l {vs:List AV}:yZ σ P vs->qe σ P vs
 |d {l:Nat} {kvs:List (Int×AV)}:σ[l]?=some (.dI kvs)->kvs.length<64->P (.ref σ.length) (σ++[.list ((iS (kvs.map (·.1))).map .int)])->qe σ P [.ref l]
theorem Js(W:Wd Γ.G):jv Γ (.builtin "sorted") qe:=by
 intro K x v P Q hc;induction hc with
 |l h=>exact Mp K h
 |@d l kvs hx hz p=>
  intro hv k;apply hv.k1;intro u hu;apply hu.kr;intro a hl;refine K.w.dI hl hx λ kvs' g1 g2 hlen=>d9 g1.dictAt λ ep W8=>ox (G:=Γ.G) (ns:=kvs.map (·.1)) (kdu_collect (A:=K.A.in1) (kdl_dict (knd:=intKind Γ.G.prog Γ.G.w) (kvs:=kvs') (ep:=ep) (K.w.gj W hl)) (by simp [K.R.h]) W8 (eM (Nat.le_trans (Nat.le_of_lt hz) (by decide)) hlen) λ h' tk acc hk iN=>?_)
   λ b h' tk dr out n hk hb hL hi=>K.kn k (K.w.H.new (s':={K.w.s with heap:=h',toks:=tk,drawn:=dr}) (ao:=.list _) hk hb rfl rfl (.list hL (bB.Dj hi) (by rw [List.length_map,(jh _).length_eq,List.length_map];exact nc (Nat.le_of_lt hz) rfl))) p (.ref (by refine cQ K.w.H.len ?_;exact List.getElem?_concat_length ..))
  refine ⟨_,_,_,_,rfl,hk,ItemsOf.ints (ns:=kvs.map (·.1)) iN (by simp [hlen]) (λ i v ⟨k,x,e1,e2⟩=>?_),.refl _,by refine ae Array.length_toList<|ae iN.1 ?_;exact Nat.lt_of_le_of_lt (b7 hlen) hz⟩;obtain ⟨t,rfl⟩:=Value.isInt_shape e2;have:(kvs'.map (·.1))[i]?=some k:=by refine ae List.getElem?_map<|ae e1 ?_;rfl
  rw [g2.eo]at this;exact ⟨t,congrArg _ this⟩
inductive kM(σ:U)(P:PV):List AV->Prop
 |l {vs:List AV}:Je σ P vs->kM σ P vs
 |d {l:Nat} {kvs:List (String×AV)}:σ[l]?=some (.dS kvs)->kvs.length<=10000->P (.ref σ.length) (σ++[.list (kvs.map λ p=>.str p.1)])->kM σ P [.ref l]
theorem v8(W:Wd Γ.G):jv Γ (.type "list") kM:=by
 intro K x v P Q hc;induction hc with
 |l h=>exact Mo K h
 |d hx hz p=>
  intro hv k;apply hv.k1;intro u hu;apply hu.kr;intro a hl;exact K.w.dS hl hx λ kvs' g1 g2 hlen=>d9 g1.dictAt λ ep W8=>kdl_call (A:=K.A) (kdl_dict (knd:=dR Γ.G.prog Γ.G.w) (kvs:=kvs') (ep:=ep) (K.w.gj W hl)) K.R.h W8 (eM hz hlen) λ h' tk h_ c' hk hL iN=>K.kl (tk:=tk) k p hk (Heap.get?_none_of_le (Nat.le_refl _)) hL (KR.strs (G:=Γ.G) g2 _ (iN.1) λ i v h=>iN.2 i v (by refine cQ Array.getElem?_toList ?_;exact h)) (by simpa using hz)
def jE:AS:=λ aa aa aa aa=>False
theorem gn{st:Stmt}:ju Γ st jE:=λ aa aa aa h=>h.elim
def W9:AE:=λ aa aa aa aa=>False
theorem abR{e:Expr}:bf Γ e W9:=λ aa aa aa h=>h.elim
def v9(i:Int):AE:=λ _ _ σ P=>P (.int (-i)) σ
theorem pz{i:Int}{k:Nat}{p pos:Pos}:bf Γ (.UnaryOp .USub (.Constant (.int i) k p) pos) (v9 i):=λ K aa aa p k=>wpAny_UnaryOp (wpAny_Constant_int (PyProof.Rows.neg_int (K.k1 k p (.int _ _) (K.w.s.toks+1+1))))
inductive Jt(σ:U)(P:aP->Prop):List AV->Prop
 |mk {l:Nat} {xs:List AV}:σ[l]?=some (.list xs)->P (.enum l 0)->Jt σ P [.ref l]
def Tr(cs:List AE):AI:=λ F ρ σ P=>jT cs F ρ σ λ vs σ=>Jt σ (λ x=>P x σ) vs
theorem P9(W:Wd Γ.G){np pos:Pos}{es:List Expr}{cs:List AE}(g:cA Γ.G "enumerate" (.type "enumerate"))(hk:Γ.sc.names.lookup (Str.ofString "enumerate")=some .globalImplicit)(a:fD Γ es cs):
  nM Γ (λ aa=>True) (.Call (.Name (Str.ofString "enumerate") np) es [] pos) (Tr cs):=λ K P Q hc k=>
 wpAny_Call_ofName (pX W K g hk (by decide) (gL W K (cZ _) a hc λ us vs w S p hv=>by
  revert hv;induction p with
  |mk hx p=>
   intro hv;apply hv.k1;intro u hu;apply hu.kr;intro b hl;refine w.dQ hl hx λ items n g1 g2 aa=>call_enumerate_1 g1 λ h' he hi gF hk=>wpAny_pyIter_enum he ?_;have h:=w.H.i6 (s':={w.s with heap:=h'}) hk rfl rfl;have i8:∀k,w.s.heap.get? (w.s.heap.objs.size+k)=none:=λ k=>Heap.get?_none_of_le (Nat.le_add_right _ _);refine k _ _ ⟨_,_,_,h.1⟩ _ (Step.trans S h.2) p trivial ⟨⟨b,_,_,he,hi,hl,λ e=>absurd e (Nat.succ_ne_self _),rfl⟩,λ b hb hm=>w.H.vO hm λ o ho aa=>?_⟩ λ b hb=>S.none ?_
   ·rcases List.mem_cons.mp hb with rfl|hb
    ·exact nomatch(i8 1).symm.trans ho
    ·cases List.mem_singleton.mp hb;exact nomatch(i8 0).symm.trans ho
   ·rcases List.mem_cons.mp hb with rfl|hb
    ·exact i8 1
    ·cases List.mem_singleton.mp hb;exact i8 0))
end
inductive HL:List AV->List AV->Bool->Prop
 |nil:HL [] [] true
 |cons {x y:AV} {xs ys:List AV} {a b:Bool}:gX 20 x y a->HL xs ys b->HL (x::xs) (y::ys) (a&&b)
section
variable{G:bC} {d:Nat}
theorem W_{A:Around}{s:Shared}{lam:List Addr}(R:jt d A){xs ys:List AV}{b:Bool}(h:HL xs ys b):∀{vs us:List Value},bB s.heap lam xs vs->bB s.heap lam ys us->
  ∃e:Nat->Bool,(∀(j:Nat)(v u:Value),vs[j]?=some v->us[j]?=some u->SeqAt.EqAt A.in1 s v u (e j))/\(List.range vs.length).all e=b:=by
 induction h with
 |nil=>intro vs us hx hy;cases hx;exact ⟨λ aa=>true,⟨λ aa aa aa h=>(nomatch h),rfl⟩⟩
 |@cons _ _ _ _ a _ e1 _ ih=>
  intro vs us hx hy;cases hx with|cons h1 h2=>cases hy with|cons h3 h4=>
  refine bA (ih h2 h4) λ e k1 k2=>?_;refine ⟨λ j=>Nat.casesOn j a e,⟨λ j=>?_,?_⟩⟩
  ·cases j with
   |succ j=>exact k1 j
   |zero=>
   intro v' u' hv hu;cases Option.some.inj hv;cases Option.some.inj hu;exact λ prog w E Q hq=>mU 20 e1 h1 h3 (by have:=R.un;refine (?_:A.units+1+20+1<cLine);exact bQ this (by simp+arith only)) hq
  ·refine ae List.length_cons<|ae List.range_succ_eq_map<|ae List.all_cons<|ae List.all_map<|cQ k2 ?_;rfl
end
section
variable{Γ:dv}
inductive v_(σ:U)(P:PV):AV->AV->Prop
 |eq {l m:Nat} {xs ys:List AV} {b:Bool}:σ[l]?=some (.list xs)->σ[m]?=some (.list ys)->xs.length=ys.length->HL xs ys b->P (.bool b) σ->v_ σ P (.ref l) (.ref m)
 |ne {l m:Nat} {xs ys:List AV}:σ[l]?=some (.list xs)->σ[m]?=some (.list ys)->xs.length≠ys.length->P (.bool false) σ->v_ σ P (.ref l) (.ref m)
inductive wa(σ:U)(P:PV):AV->AV->Prop
 |mk {l m:Nat} {xs ys:List AV} {ns ms:List Int}:σ[l]?=some (.list xs)->σ[m]?=some (.list ys)->fm xs=some ns->fm ys=some ms->P (.bool !decide (ns=ms)) σ->wa σ P (.ref l) (.ref m)
theorem Ts:iR Γ (compareOp .Eq) v_:=by
 intro K x y v u P Q hc;have Tt:=K.R.un;induction hc with
 |eq e1 e2 hl e3 p=>
  intro hx hy k;apply hx.kr;intro a h1;apply hy.kr;intro b h2;have hz:=K.w.lz h1 e1;refine K.w.dQ h1 e1 λ items n g1 g2 l1=>K.w.dQ h2 e2 λ xq m k1 k2 l2=>bA (W_ K.R e3 g2 k2) λ e q1 q2=>?_;rw [Array.length_toList]at q2;exact SeqAt.eq_listAt (e:=e) (IsL.il g1) (IsL.il k1) (by lia) (bQ Tt (by simp+arith only)) (λ j h1 h2=>q1 j _ _ (List.getElem?_eq_getElem (by assumption)) (List.getElem?_eq_getElem (by assumption))) (q2▸K.k0 k p (.bool _))
 |ne e1 e2 cD p=>intro hx hy k;apply hx.kr;intro a h1;apply hy.kr;intro b h2;exact K.w.dQ h1 e1 λ items n g1 g2 l1=>K.w.dQ h2 e2 λ xq m k1 k2 l2=>SeqAt.eq_list_lengthsAt (IsL.il g1) (IsL.il k1) (by simpa usingλ e=>cD (by lia)) (bQ Tt (by simp+arith only)) (K.k0 k p (.bool false))
theorem Tu:iR Γ (compareOp .NotEq) wa:=by
 intro K x y v u P Q hc;have Tt:=K.R.un;induction hc with
 |@mk _ _ xs ys ns ms e1 e2 n1 n2 p=>
  intro hx hy k;apply hx.kr;intro a h1;apply hy.kr;intro b h2;exact K.w.dQ h1 e1 λ items n g1 g2 l1=>K.w.dQ h2 e2 λ xq m k1 k2 l2=>bA (vV g2 n1) λ ps p1 p2=>bA (vV k2 n2) λ qs q1 q2=>PySem.W.ke_ne_ints (xs:=items.toList) (ys:=xq.toList) (ns:=ns) (ms:=ms) (IsL.il g1) (IsL.il k1) (by refine ae p1<|cQ p2 ?_;exact mZ ps) (by refine ae q1<|cQ q2 ?_;exact mZ qs) (bQ Tt (by simp+arith only)) (K.k0 k p (.bool _))
def DD(o:AE):AE:=λ F ρ σ P=>o F ρ σ λ v σ=>zM v λ x=>eQ x=true/\P (.bool false) σ
theorem DE{x:String}{f:Str->Bool}(h:eQ x=true)(h5:(["a","b","c","f","g"].all λ y=>!f (Str.ofString y))=true):f (Str.ofString x)=false:=by unfold eQ at h;simpa using List.all_eq_true.mp h5 x (by simpa using h)
set_option maxRecDepth 10000 in
theorem Ju(W:Wd Γ.G){o:Expr}{apos pos:Pos}{c:AE}(ho:bf Γ o c)(hf:gH o "isspace" apos pos []):bf Γ (.Call (.Attribute o (Str.ofString "isspace") apos) [] [] pos) (DD c):=λ K P Q hc k=>
 d9 hf λ pl hf=>MethodCall_ (pl:=pl K.env) (ho K.r hc λ ov v w S p hv=>by obtain ⟨x,rfl,hx,p⟩:=p.k;apply hv.ks;intro t;refine (?_:wpAny (model Γ.G.prog Γ.G.w) K.A _ _ K.E w.s);refine PySem.GM.isspace (x:=Str.ofString x) (t:=t) ?_;refine (gL W (K.up w S) (cs:=[]) (P:=λ vs σ=>vs=[]/\P (.bool false) σ) (aN "str.isspace") .nil ⟨rfl,p⟩ λ us vs dW d1 p ef=>?_);cases p.1;have p:=p.2;cases ef;exact PySem.SC.isspace ((DE (f:=Txt.isspace) hx (by decide+kernel)).symm▸(K.up dW (S.tr d1)).k0 k p (.bool false))) (congrFun hf _)
inductive uf(y:String)(σ:U)(P:PV):AV->AV->Prop
 |mk {x:String}:eQ x=true->P (.bool false) σ->uf y σ P (.str x) (.str y)
theorem P_:iR Γ (compareOp .In) (uf "()[]{},:"):=by
 intro K x y v u P Q hc;induction hc with
 |mk hx p=>intro hv hu k;apply hv.ks;intro t;apply hu.ks;intro t';exact SB.contains ((DE (f:=λ s=>Txt.contains (Str.ofString "()[]{},:") s) hx (by decide+kernel)).symm▸K.k0 k p (.bool false))
end
end
section
set_option genInjectivity false
set_option genSizeOf false
section
variable{G:bC}
theorem HS.W'{s:Shared}{lam:List Addr}{σ:U}{as:List Addr}{MA:List AO}{h':Heap}{tk:Nat}(H:HS G s lam σ)(hk:∀b o,s.heap.get? b=some o->h'.get? b=some o)(ha:∀a∈as,s.heap.get? a=none)(hn:as.Nodup)(hl:as.length=MA.length)
  (hr:∀i a ao,as[i]?=some a->MA[i]?=some ao->OR G h' (lam++as) (lam.length+i) a ao):HS G {s with heap:=h',toks:=tk} (lam++as) (σ++MA)/\Step s lam {s with heap:=h',toks:=tk} (lam++as):=by
 have Wk:∀a∈as,a∉lam:=λ a hm DB=>H.vO DB λ o ho aa=>nomatch(ha a hm).symm.trans ho
 have Xa:my lam (lam++as):=λ l v h=>by rw [List.getElem?_append_left (List.getElem?_eq_some_iff.mp h).1];exact h
 have kc:Kx s.heap lam h' (lam++as):=⟨Xa,λ a o aa aa aa aa aa e=>hk a o e,λ b hb=>(List.mem_append.mp hb).elim .inl λ h=>.inr (ha b h)⟩
 refine ⟨⟨λ b o e=>hk b o (H.base b o e),H.gens,H.os,by simp [H.len,hl],?_,?_,?_⟩,Xa,λ a o aa e=>hk a o e,λ b hb=>(List.mem_append.mp hb).elim .inl λ h=>.inr (ha b h)⟩
 ·rw [List.nodup_append];exact ⟨H.nodup,hn,λ x hx y hy e=>Wk y hy (e▸hx)⟩
 ·intro b hb;rcases List.mem_append.mp hb with h|h
  ·exact H.above b h
  ·cases e:G.h₀.get? b with
   |none=>rfl
   |some o=>have:=H.base _ _ e;rw [ha b h]at this;cases this
 ·intro l b wX h1 h2;by_cases fc:l<lam.length
  ·rw [List.getElem?_append_left fc]at h1;rw [List.getElem?_append_left (H.len▸fc)]at h2;exact (H.gJ l b wX h1 h2).keep (λ o e=>hk b o e) kc
  ·have gN:lam.length<=l:=Nat.not_lt.mp fc;rw [List.getElem?_append_right gN]at h1;rw [List.getElem?_append_right (H.len▸gN),<-H.len]at h2;have:=hr _ _ _ h1 h2
   rwa [show lam.length+(l -lam.length)=l by exact Nat.le_antisymm (bQ (bS (Nat.sub_add_cancel ((Nat.le_of_not_lt fc):(lam.length)<=(l)))) (by simp+arith only)) (bQ (b7 (Nat.sub_add_cancel ((Nat.le_of_not_lt fc):(lam.length)<=(l)))) (by simp+arith only))]at this
theorem HS.DF{s:Shared}{lam:List Addr}{σ σ':U}{C:List Addr}{h':Heap}{tk:Nat}(H:HS G s lam σ)(hlen:σ'.length=σ.length)(hC:∀c∈C,c∈lam)(hk:∀a o,a∉C->s.heap.get? a=some o->h'.get? a=some o)
  (abS:∀l a ao,lam[l]?=some a->σ'[l]?=some ao->(a∉C/\σ[l]?=some ao)\/OR G h' lam l a ao):HS G {s with heap:=h',toks:=tk} lam σ'/\Step s lam {s with heap:=h',toks:=tk} lam:=by
 have kc:Kx s.heap lam h' lam:=⟨.refl _,λ a o aa aa hn aa aa e=>hk a o (λ h=>hn (hC _ h)) e,λ aa h=>.inl h⟩
 refine ⟨⟨λ b o e=>hk b o (λ h=>?_) (H.base b o e),H.gens,H.os,ae H.len<|ae hlen rfl,H.nodup,H.above,λ l a ao h1 h2=>?_⟩,.refl _,λ a o hn e=>hk a o (λ h=>hn (hC _ h)) e,λ aa h=>.inl h⟩
 ·have:=H.above b (hC _ h);rw [e]at this;cases this
 ·rcases abS l a ao h1 h2 with⟨h3,h4⟩|h3
  ·exact (H.gJ l a ao h1 h4).keep (λ o e=>hk a o h3 e) kc
  ·exact h3
end
section
variable{prog:Program} {w:World} {A:Around} {E:Value->Shared->Prop} {s:Shared}
theorem oy{it t:Addr}{i:Nat}{items:Array Value}{x:Value}{Q:Value->Shared->Prop}(hit:s.heap.IsTupleIter it t i)(ht:s.heap.IsTuple t items)(hx:items[i]?=some x)
  (hQ:∀h',h'.IsTupleIter it t (i+1)->Heap.SameBut it s.heap h'->Q x {s with heap:=h'}):wpAny (model prog w) A (Builtin.SmallTypes.nextOf (.ref it)) Q E s:=by
 refine gy (id hit) λ o ho hc hd=>?_;obtain ⟨ol,HM,_,nl,HN⟩:=ht;have hT:s.TypeIs (.ref it) "tuple_iterator":=⟨o,ho,hc⟩
 unfold Builtin.SmallTypes.nextOf;refine wpAny_bind (wpAny_callSpecial?_slot (name:=Str.ofString "__next__") hT F.slot_tuple_iterator_next
  (wpAny_call_entry F.slot_tuple_iterator_next hT F.entry_tuple_iterator_next ?_ (F.args_tuple_iterator_next_1 _)))
 refine (?_:wpAny _ _ (field (.ref it) 0>>=_) _ _ s);refine wpAny_bind (wpAny_field ho hd (x:=.ref t) rfl ?_);refine (?_:wpAny _ _ (if(Value.ref t==Value.none)=true then _ else _) _ _ s);refine ae (if_neg (show¬((Value.ref t==Value.none)=true) from Bool.false_ne_true)) ?_;refine (?_:wpAny _ _ (field (.ref it) 1>>=_) _ _ s);refine wpAny_bind (wpAny_field ho hd (x:=.int i 0) rfl ?_);refine (?_:wpAny _ _ (seqItems? (.ref t)>>=_) _ _ s);refine wpAny_bind (wpAny_seqItems HM HN ?_);simp only [Int.toNat_natCast,hx];refine wpAny_bind (wpAny_setField ho hd (Nat.le_refl _) (wpAny_pure ⟨x,rfl,wpAny_pure (hQ _ ?_ (Heap.SameBut.update ..))⟩));exact ⟨_,Heap.get?_update_self _ ho (Obj.isFreed_of_fields (Obj.data_mapFields hd _)),(Obj.cls_mapFields ..).trans hc,by rw [Obj.data_mapFields hd];exact rfl⟩
theorem y6{it t:Addr}{i:Nat}{items:Array Value}{Q:Value->Shared->Prop}(hh:A.handled=none)(hit:s.heap.IsTupleIter it t i)(ht:s.heap.IsTuple t items)(hx:items[i]?=none)
  (hE:∀h' e,Heap.ExtBut it s.heap h'->(∃o,h'.get? it=some o/\∀v,o.data≠.cell v)->(∃o,h'.get? e=some o/\o.cls=.type "StopIteration")->E (.ref e) {s with heap:=h'}):wpAny (model prog w) A (Builtin.SmallTypes.nextOf (.ref it)) Q E s:=by
 refine gy (id hit) λ o ho hc hd=>?_;obtain ⟨ol,HM,_,nl,HN⟩:=ht;have hT:s.TypeIs (.ref it) "tuple_iterator":=⟨o,ho,hc⟩
 unfold Builtin.SmallTypes.nextOf;refine wpAny_bind (wpAny_callSpecial?_slot (name:=Str.ofString "__next__") hT F.slot_tuple_iterator_next
  (wpAny_call_entry F.slot_tuple_iterator_next hT F.entry_tuple_iterator_next ?_ (F.args_tuple_iterator_next_1 _)))
 refine (?_:wpAny _ _ (field (.ref it) 0>>=_) _ _ s);refine wpAny_bind (wpAny_field ho hd (x:=.ref t) rfl ?_);refine (?_:wpAny _ _ (if(Value.ref t==Value.none)=true then _ else _) _ _ s);refine ae (if_neg (show¬((Value.ref t==Value.none)=true) from Bool.false_ne_true)) ?_;refine (?_:wpAny _ _ (field (.ref it) 1>>=_) _ _ s);refine wpAny_bind (wpAny_field ho hd (x:=.int i 0) rfl ?_);refine (?_:wpAny _ _ (seqItems? (.ref t)>>=_) _ _ s);refine wpAny_bind (wpAny_seqItems HM HN ?_);simp only [Int.toNat_natCast,hx];refine wpAny_bind (wpAny_rule (wpAny_bind (wpAny_setField ho hd (Nat.succ_pos _) ?_)));refine (?_:wpAny _ _ (newExc (.type "StopIteration") []>>=_) _ _ _);refine wpAny_bind ?_;simp only [newExc,newTuple];refine wpAny_bind (wpAny_newObj_type ?_ (Nat.zero_le _));refine wpAny_bind (m:=firstArgMember _ _) (wpAny_of_eq (a:=Value.none) (by first|rfl|(simp only [firstArgMember];rfl)) ?_);refine wpAny_newObj_type ?_ (by size_fits);unfold raiseNew;refine wpAny_bind (wpAny_handled ?_)
 first|refine ae (show A.in1.handled=none from hh) ?_|refine ae hh ?_
 refine wpAny_bind (wpAny_pure (wpAny_throw ?_));refine hE _ _ (((Heap.SameBut.update ..).extBut.push _).push _) ⟨_,Heap.get?_push_of_some _ (Heap.get?_push_of_some _ (Heap.get?_update_self _ ho (Obj.isFreed_of_fields (Obj.data_mapFields hd _)))),?_⟩ ⟨_,Heap.get?_push_size _ rfl,rfl⟩;rw [Obj.data_mapFields hd];simp
structure ZA(z TI TO i1 i2 t1 t2:Addr):Prop where
 Xb:TI≠z
 MB:TO≠z
 DG:i1≠z
 Tv:i2≠z
 abT:TI≠TO
 Xc:TI≠i1
 abU:TI≠i2
 P':TO≠i1
 Qa:TO≠i2
 i12:i1≠i2
 t1z:t1≠z
 adz:t1≠TO
 adA:t1≠i1
 adB:t1≠i2
 t2z:t2≠z
 abV:t2≠TO
 abW:t2≠i1
 adC:t2≠i2
theorem MC{z TI TO i1 i2 t1 t2:Addr}{k1 k2:Nat}{xs ys:Array Value}{x y a b:Value}{Q:Option Value->Shared->Prop}(D:ZA z TI TO i1 i2 t1 t2)
  (hz:IsZip s.heap z TI TO .none)(sx:IsPair s.heap TI (.ref i1) (.ref i2))(HO:IsPair s.heap TO a b)
  (h1:s.heap.IsTupleIter i1 t1 k1)(h2:s.heap.IsTupleIter i2 t2 k2)(kh:s.heap.IsTuple t1 xs)(gN:s.heap.IsTuple t2 ys)(hx:xs[k1]?=some x)(hy:ys[k2]?=some y)
  (hQ:∀h',IsZip h' z TI TO (rawInt s.heap.objs.size)->IsPair h' TO x y->h'.IsTupleIter i1 t1 (k1+1)->h'.IsTupleIter i2 t2 (k2+1)->IsPair h' s.heap.objs.size x y->
   (∀c o,c≠z->c≠TO->c≠i1->c≠i2->s.heap.get? c=some o->h'.get? c=some o)->Q (some (.ref s.heap.objs.size)) {s with heap:=h'}):
  wpAny (model prog w) A (pyNext (.ref z)) Q E s:=by
 have hT:s.TypeIs (.ref z) "zip":=⟨_,hz,rfl⟩
 unfold pyNext;refine wpAny_bind (wpAny_attempt (wpAny_callSpecial?_slot (name:=Str.ofString "__next__") hT F.slot_zip_next
  (wpAny_call_entry F.slot_zip_next hT F.entry_zip_next ?_ (F.args_zip_next_1 _))))
 show wpAny _ _ (field (.ref z) 2>>=_) _ _ _;refine wpAny_bind (wpAny_field hz rfl (x:=.bool false) rfl ?_);show wpAny _ _ (field (.ref z) 3>>=_) _ _ _;refine wpAny_bind (wpAny_field hz rfl (x:=.ref TI) rfl ?_);refine wpAny_bind (wpAny_seqItems sx rfl ?_);show wpAny _ _ (Builtin.SmallTypes.ownedTupleIsFree (.ref z)>>=_) _ _ _;refine wpAny_bind ?_;unfold Builtin.SmallTypes.ownedTupleIsFree;refine wpAny_bind (wpAny_field hz rfl (x:=.none) rfl (wpAny_pure ?_));simp only [if_true];refine wpAny_bind (wpAny_rule ?_);refine wpAny_bind (wpAny_field hz rfl (x:=.ref TO) rfl ?_);refine wpAny_bind (wpAny_setField_rec hz (Nat.succ_pos _) λ gW DH fe=>?_);replace DH:IsZip gW z TI TO .ellipsis:=DH;refine wpAny_bind ?_;simp only [List.zipIdx_cons,List.zipIdx_nil,List.forIn_cons,List.forIn_nil];have nO:∀{h:Heap}{b c t:Addr}{k:Nat},h.IsTupleIter b t k->∀{h':Heap},Heap.SameBut c h h'->b≠c->h'.IsTupleIter b t k:=λ ⟨o,ho,r⟩ h' hs hn=>⟨o,by rw [hs.2 _ hn];exact ho,r⟩
 refine wpAny_bind (wpAny_bind (wpAny_onRaise ?_));show wpAny _ _ (Builtin.SmallTypes.nextOf (.ref i1)>>=_) _ _ _;refine wpAny_bind (oy (nO h1 fe D.DG) (kh.extBut fe.extBut D.t1z) hx λ lD acV iB=>wpAny_pure ?_);have Xd:IsPair lD TO a b:=iB.extBut _ _ D.P' (fe.extBut _ _ D.MB HO);refine wpAny_bind (wpAny_seqItems Xd rfl ?_);refine wpAny_bind (wpAny_updateSeq_pair Xd λ pg Qb mN=>?_);replace Qb:IsPair pg TO x b:=Qb;refine wpAny_bind (wpAny_letGo (wpAny_pure ?_));refine wpAny_bind (wpAny_bind (wpAny_onRaise ?_));show wpAny _ _ (Builtin.SmallTypes.nextOf (.ref i2)>>=_) _ _ _;refine wpAny_bind (oy (nO (nO (nO h2 fe D.Tv) iB D.i12.symm) mN D.Qa.symm)
  (((gN.extBut fe.extBut D.t2z).extBut iB.extBut D.abW).extBut mN.extBut D.abV) hy λ PY acW sy=>wpAny_pure ?_)
 have Xe:IsPair PY TO x b:=sy.extBut _ _ D.Qa Qb;refine wpAny_bind (wpAny_seqItems Xe rfl ?_);refine wpAny_bind (wpAny_updateSeq_pair Xe λ sg Jv MD=>?_);replace Jv:IsPair sg TO x y:=Jv;refine wpAny_bind (wpAny_letGo (wpAny_pure (wpAny_pure ?_)));refine wpAny_bind (wpAny_seqItems Jv rfl ?_);refine wpAny_bind (wpAny_newTuple ?_);have gF:sg.objs.size=s.heap.objs.size:=ae MD.1<|ae sy.1<|ae mN.1<|ae iB.1<|ae fe.1 rfl;have abo:IsZip sg z TI TO .ellipsis:=MD.extBut _ _ D.MB.symm (sy.extBut _ _ D.Tv.symm (mN.extBut _ _ D.MB.symm (iB.extBut _ _ D.DG.symm DH)));have acX:∀c o,c≠z->c≠TO->c≠i1->c≠i2->s.heap.get? c=some o->sg.get? c=some o:=λ c o c1 c2 c3 c4 e=>MD.extBut _ _ c2 (sy.extBut _ _ c4 (mN.extBut _ _ c2 (iB.extBut _ _ c3 (fe.extBut _ _ c1 e))))
 have acY:sg.IsTupleIter i1 t1 (k1+1):=nO (nO (nO acV mN D.P'.symm) sy D.i12) MD D.P'.symm;have acZ:sg.IsTupleIter i2 t2 (k2+1):=nO acW MD D.Qa.symm;have Xf:z<sg.objs.size:=Heap.lt_size abo;refine (?_:wpAny _ _ (Builtin.SmallTypes.ownedTupleHandOut (.ref z) (.ref sg.objs.size)>>=_) _ _ _);refine wpAny_bind ?_;unfold Builtin.SmallTypes.ownedTupleHandOut;have ac0:IsZip (sg.push {cls:=.type "tuple",data:=.seq #[x,y]}) z TI TO .ellipsis:=Heap.get?_push_of_some _ abo;refine wpAny_bind (wpAny_setField_rec ac0 (Nat.succ_pos _) λ adD Xg abp=>?_);replace Xg:IsZip adD z TI TO (rawInt sg.objs.size):=Xg;refine wpAny_setField_rec Xg (by simp) λ Xh Tw abq=>?_;replace Tw:IsZip Xh z TI TO (rawInt sg.objs.size):=Tw;have up:∀c o,c≠z->sg.get? c=some o->Xh.get? c=some o:=λ c o c1 e=>abq.extBut _ _ c1 (abp.extBut _ _ c1 (Heap.get?_push_of_some _ e));have abr:IsPair Xh sg.objs.size x y:=abq.extBut _ _ (Nat.ne_of_gt Xf) (abp.extBut _ _ (Nat.ne_of_gt Xf) (Heap.get?_push_size _ rfl));rw [gF]at Tw abr;refine wpAny_pure ⟨_,rfl,wpAny_pure ?_⟩;refine (?_:Q (some (.ref sg.objs.size)) _);refine ae gF ?_;have atu:∀{b t:Addr}{k:Nat},sg.IsTupleIter b t k->b≠z->Xh.IsTupleIter b t k:=λ ⟨o,ho,r⟩ hn=>⟨o,up _ _ hn ho,r⟩
 exact hQ Xh Tw (up _ _ D.MB Jv) (atu acY D.DG) (atu acZ D.Tv) abr λ c o c1 c2 c3 c4 e=>up c o c1 (acX c o c1 c2 c3 c4 e)
theorem Qc{z TI TO i1 i2 t1 t2:Addr}{k1:Nat}{xs:Array Value}{a b:Value}{Q:Option Value->Shared->Prop}(hh:A.handled=none)(D:ZA z TI TO i1 i2 t1 t2)
  (hz:IsZip s.heap z TI TO .none)(sx:IsPair s.heap TI (.ref i1) (.ref i2))(HO:IsPair s.heap TO a b)
  (h1:s.heap.IsTupleIter i1 t1 k1)(kh:s.heap.IsTuple t1 xs)(abX:xs[k1]?=none)
  (hQ:∀h',IsZip h' z TI TO .none->(∃o,h'.get? i1=some o/\∀v,o.data≠.cell v)->(∀c o,c≠z->c≠i1->s.heap.get? c=some o->h'.get? c=some o)->Q none {s with heap:=h'}):wpAny (model prog w) A (pyNext (.ref z)) Q E s:=by
 have hT:s.TypeIs (.ref z) "zip":=⟨_,hz,rfl⟩
 unfold pyNext;refine wpAny_bind (wpAny_attempt (wpAny_callSpecial?_slot (name:=Str.ofString "__next__") hT F.slot_zip_next
  (wpAny_call_entry F.slot_zip_next hT F.entry_zip_next ?_ (F.args_zip_next_1 _))))
 refine (?_:wpAny _ _ (field (.ref z) 2>>=_) _ _ _);refine wpAny_bind (wpAny_field hz rfl (x:=.bool false) rfl ?_);refine (?_:wpAny _ _ (field (.ref z) 3>>=_) _ _ _);refine wpAny_bind (wpAny_field hz rfl (x:=.ref TI) rfl ?_);refine wpAny_bind (wpAny_seqItems sx rfl ?_);refine (?_:wpAny _ _ (Builtin.SmallTypes.ownedTupleIsFree (.ref z)>>=_) _ _ _);refine wpAny_bind ?_;unfold Builtin.SmallTypes.ownedTupleIsFree;refine wpAny_bind (wpAny_field hz rfl (x:=.none) rfl (wpAny_pure ?_));refine ae (if_pos rfl) ?_;refine wpAny_bind (wpAny_rule ?_);refine wpAny_bind (wpAny_field hz rfl (x:=.ref TO) rfl ?_);refine wpAny_bind (wpAny_setField_rec hz (Nat.succ_pos _) λ gW DH fe=>?_);replace DH:IsZip gW z TI TO .ellipsis:=DH;refine wpAny_bind ?_;simp only [List.zipIdx_cons,List.zipIdx_nil,List.forIn_cons,List.forIn_nil];have nO:∀{h:Heap}{b c t:Addr}{k:Nat},h.IsTupleIter b t k->∀{h':Heap},Heap.SameBut c h h'->b≠c->h'.IsTupleIter b t k:=λ ⟨o,ho,r⟩ h' hs hn=>⟨o,by refine ae (hs.2 _ hn) ?_;exact ho,r⟩
 refine wpAny_bind (wpAny_bind (wpAny_onRaise ?_));refine (?_:wpAny _ _ (Builtin.SmallTypes.nextOf (.ref i1)>>=_) _ _ _);refine wpAny_bind (y6 (by simp [hh]) (nO h1 fe D.DG) (kh.extBut fe.extBut D.t1z) abX λ lD e iB ha he=>?_);refine bA he λ oe Xi hce=>?_;refine bA ha λ oa Hu Xj=>?_;have abt:IsZip lD z TI TO .ellipsis:=iB _ _ D.DG.symm DH;have hez:e≠z:=λ x=>by subst x;rw [abt]at Xi;cases Xi;simp at hce
 refine wpAny_setField_rec abt (Nat.succ_pos _) λ pg ac1 mN=>?_;refine wpAny_bind (wpAny_isInstance (T:="StopIteration") (b:=true) ⟨oe,mN.extBut _ _ hez Xi,hce⟩ isSubtype_stop ?_);refine wpAny_pure (hQ pg ac1 ⟨oa,mN.extBut _ _ D.DG Hu,Xj⟩ λ c o c1 c3 x=>mN.extBut _ _ c1 (iB _ _ c3 (fe.extBut _ _ c1 x)))
end
noncomputable abbrev Tx(h:Heap)(l1:Addr):Heap:=h.push {cls:=.type "tuple_iterator",data:=.fields #[.ref l1,.int 0 0]}
noncomputable abbrev Tz(h:Heap)(l1 l2:Addr):Heap:=(Tx h l1).push {cls:=.type "tuple_iterator",data:=.fields #[.ref l2,.int 0 0]}
noncomputable abbrev TA(h:Heap)(l1 l2:Addr):Heap:=(Tz h l1 l2).push {cls:=.type "tuple",data:=.seq #[.ref h.objs.size,.ref (Tx h l1).objs.size]}
noncomputable abbrev TB(h:Heap)(l1 l2:Addr):Heap:=(TA h l1 l2).push {cls:=.type "tuple",data:=.seq #[.none,.none]}
noncomputable abbrev zY(h:Heap)(l1 l2:Addr):Heap:=(TB h l1 l2).push {cls:=.type "zip",data:=.fields #[.none,.bool false,.bool false,.ref (Tz h l1 l2).objs.size,.ref (TA h l1 l2).objs.size]}
theorem Jw(l1 l2:Addr)(xs ys:Array Value):
  Meets (Builtin.«zip.__new__» ⟨[.type "zip",.ref l1,.ref l2],[]⟩) (λ aa R s=>s.heap.IsTuple l1 xs/\s.heap.IsTuple l2 ys/\
   R (.ok (.ret (.ref (TB s.heap l1 l2).objs.size))) {s with heap:=zY s.heap l1 l2}):=
 .of_wp λ prog w A R s h=>by
  obtain ⟨hp,g,d,tk,os⟩:=s;obtain ⟨kh,gN,h⟩:=h;have yR:=sub_zip;have hL1:Heap.IsTuple (Shared.heap ⟨hp,g,d,tk,os⟩) l1 xs:=kh;have hL2:Heap.IsTuple (Shared.heap ⟨hp.push {cls:=.type "tuple_iterator",data:=.fields #[.ref l1,.int 0 0]},g,d,tk,os⟩) l2 ys:=
   let⟨o,ho,r⟩:=gN;⟨o,Heap.get?_push_of_some _ ho,r⟩
  wp_walk using wpAny_pyIter_tuple hL1,wpAny_pyIter_tuple hL2
  exact ⟨_,rfl,h⟩
section
variable{Γ:dv}
theorem DI{lam as:List Addr}{j:Nat}{v:Addr}(h:as[j]?=some v):(lam++as)[lam.length+j]?=some v:=by rw [List.getElem?_append_right (Nat.le_add_right _ _),Nat.add_sub_cancel_left];exact h
inductive DJ(σ:U)(P:PV):List AV->Prop
 |mk {xs ys:List AV}:xs.length=ys.length->P (.ref σ.length) (σ++[.zip,.cv xs 0,.cv ys 0,.gb])->DJ σ P [.tup xs,.tup ys]
theorem Xk:jv Γ (.type "zip") DJ:=by
 intro K x v P Q hc;induction hc with
 |@mk xs ys hl p=>
  intro hv k;apply hv.k2;intro v u h1 h2;apply h1.kt;intro a items n ht ef;apply h2.kt;intro b xq m hu Wl;refine callType_new F.called_zip (by decide) (F.typeCall_zip_2 _ _) (F.newCall_zip_2 _ _) (λ gJ=>F.args_object_init_3 gJ _ _) F.entry_zip_new (Jw a b items xq) ⟨ht.it,hu.it,?_⟩;generalize hH:K.w.s.heap=H at*;have kH:∀c o,K.w.s.heap.get? c=some o->H.get? c=some o:=λ c o e=>hH▸e;have z1:(Tx H a).objs.size=H.objs.size+1:=Heap.size_push ..;have z2:(Tz H a b).objs.size=H.objs.size+2:=by rw [Heap.size_push,z1]
  have z3:(TA H a b).objs.size=H.objs.size+3:=by rw [Heap.size_push,z2]
  have z4:(TB H a b).objs.size=H.objs.size+4:=by rw [Heap.size_push,z3]
  have g5:(zY H a b).get? (TB H a b).objs.size=some _:=Heap.get?_push_size _ rfl;have g4:(zY H a b).get? (TA H a b).objs.size=some _:=Heap.get?_push_of_some _ (Heap.get?_push_size _ rfl);have g3:(zY H a b).get? (Tz H a b).objs.size=some _:=Heap.get?_push_of_some _ (Heap.get?_push_of_some _ (Heap.get?_push_size _ rfl));have g2:(zY H a b).get? (Tx H a).objs.size=some _:=Heap.get?_push_of_some _ (Heap.get?_push_of_some _ (Heap.get?_push_of_some _ (Heap.get?_push_size _ rfl)));have g1:(zY H a b).get? H.objs.size=some _:=Heap.get?_push_of_some _ (Heap.get?_push_of_some _ (Heap.get?_push_of_some _ (Heap.get?_push_of_some _ (Heap.get?_push_size _ rfl))));have hk:∀c o,H.get? c=some o->(zY H a b).get? c=some o:=λ c o x=>Heap.get?_push_of_some _ (Heap.get?_push_of_some _ (Heap.get?_push_of_some _ (Heap.get?_push_of_some _ (Heap.get?_push_of_some _ x))));refine (?_:_/\_);refine ⟨⟨_,g5,rfl⟩,?_⟩;rw [z2,z3,z4]at g5;rw [z1,z2]at g3;rw [z3]at g4;rw [z1]at g2;refine ae z4 ?_;clear z1 z2 z3 z4;generalize zY H a b=H' at*;have i8:∀k,H.get? (H.objs.size+k)=none:=λ k=>Heap.get?_none_of_le (Nat.le_add_right _ _);have has:∀c∈[H.objs.size+4,H.objs.size,H.objs.size+1,H.objs.size+3],∃k,c=H.objs.size+k:=λ c h=>by
   simp only [List.mem_cons,List.not_mem_nil,or_false]at h;rcases h with rfl|rfl|rfl|rfl
   ·exact ⟨4,rfl⟩
   ·exact ⟨0,rfl⟩
   ·exact ⟨1,rfl⟩
   ·exact ⟨3,rfl⟩
  have uN:∀c∈[H.objs.size+4,H.objs.size,H.objs.size+1,H.objs.size+3],H.get? c=none:=λ c h=>d9 (has c h) λ k e=>e▸i8 k;have rX:[H.objs.size+4,H.objs.size,H.objs.size+1,H.objs.size+3].Nodup:=by simp
  have sx:H.objs.size+2∉K.w.lam++[H.objs.size+4,H.objs.size,H.objs.size+1,H.objs.size+3]:=λ hm=>by
   rcases List.mem_append.mp hm with h|h
   ·exact K.w.H.vO h λ o ho aa=>nomatch(i8 2).symm.trans (kH _ _ ho)
   ·simp at h
  have TC:∀(j:Nat)(v:Addr),[H.objs.size+4,H.objs.size,H.objs.size+1,H.objs.size+3][j]?=some v->(K.w.lam++[H.objs.size+4,H.objs.size,H.objs.size+1,H.objs.size+3])[K.w.lam.length+j]?=some v:=λ j v h=>DI h;have h0:=TC 0 _ rfl;have h1:=TC 1 _ rfl;have h2:=TC 2 _ rfl;have h3:=TC 3 _ rfl;have a0:[H.objs.size+4,H.objs.size,H.objs.size+1,H.objs.size+3].length=[AO.zip,.cv xs 0,.cv ys 0,.gb].length:=rfl;have hi:∀i c ao,[H.objs.size+4,H.objs.size,H.objs.size+1,H.objs.size+3][i]?=some c->[AO.zip,.cv xs 0,.cv ys 0,.gb][i]?=some ao->
   (i=0/\c=H.objs.size+4/\ao=.zip)\/(i=1/\c=H.objs.size/\ao=.cv xs 0)\/(i=2/\c=H.objs.size+1/\ao=.cv ys 0)\/(i=3/\c=H.objs.size+3/\ao=.gb):=λ i c ao h1 h2=>by
   match i,h1,h2 with
   |0,h1,h2=>cases h1;cases h2;exact .inl ⟨rfl,rfl,rfl⟩
   |1,h1,h2=>cases h1;cases h2;exact .inr (.inl ⟨rfl,rfl,rfl⟩)
   |2,h1,h2=>cases h1;cases h2;exact .inr (.inr (.inl ⟨rfl,rfl,rfl⟩))
   |3,h1,h2=>cases h1;cases h2;exact .inr (.inr (.inr ⟨rfl,rfl,rfl⟩))
   |i+4,h1,h2=>simp at h1
  generalize [H.objs.size+4,H.objs.size,H.objs.size+1,H.objs.size+3]=as at*;have kc:Kx H K.w.lam H' (K.w.lam++as):=⟨λ l v h=>(List.getElem?_append_left (List.getElem?_eq_some_iff.mp h).1).trans h,λ c o aa aa aa aa aa e=>hk c o e,λ c hc=>(List.mem_append.mp hc).elim .inl λ h=>.inr (uN c h)⟩
  refine K.kn (s:={K.w.s with heap:=H'}) k (K.w.H.W' (as:=as) (MA:=[.zip,.cv xs 0,.cv ys 0,.gb]) (h':=H') (tk:=K.w.s.toks) (hH▸hk) (hH▸uN) rX a0 (λ i c ao e1 e2=>?_)) p (.ref (K.w.H.len▸h0));rcases hi i c ao e1 e2 with⟨rfl,rfl,rfl⟩|⟨rfl,rfl,rfl⟩|⟨rfl,rfl,rfl⟩|⟨rfl,rfl,rfl⟩
  ·exact .zip g5 sx g3 h1 h2 h3
  ·exact .cv ⟨_,g1,rfl,rfl⟩ (kc.tt ht) (bB.bo kc ef)
  ·exact .cv ⟨_,g2,rfl,rfl⟩ (kc.tt hu) (bB.bo kc Wl)
  ·exact .gb g4
end
end
section
set_option genInjectivity false
set_option genSizeOf false
section
variable{Γ:dv}
theorem St.TF(w:St Γ){l i j:Nat}{z:Addr}{xs ys:List AV}(hl:w.lam[l]?=some z)(e0:w.σ[l]?=some .zip)(e1:w.σ[l+1]?=some (.cv xs i))(e2:w.σ[l+2]?=some (.cv ys j))(e3:w.σ[l+3]?=some .gb){C:Prop}
  (k:∀TI TO i1 i2 t1 t2 zO TG n m a b,w.lam[l+1]?=some i1->w.lam[l+2]?=some i2->w.lam[l+3]?=some TO->TI∉w.lam->ZA z TI TO i1 i2 t1 t2->IsZip w.s.heap z TI TO .none->IsPair w.s.heap TI (.ref i1) (.ref i2)->IsPair w.s.heap TO a b->
   w.s.heap.IsTupleIter i1 t1 i->w.s.heap.IsTupleIter i2 t2 j->TT w.s.heap w.lam t1 zO n->TT w.s.heap w.lam t2 TG m->w.Rs xs zO.toList->w.Rs ys TG.toList->C):C:=by
 cases w.H.gJ _ _ _ hl e0 with
 |zip g0 g1 g2 g3 g4 g5=>
  cases w.H.gJ _ _ _ g3 e1 with
  |cv k1 k2 k3=>
   cases w.H.gJ _ _ _ g4 e2 with
   |cv m1 m2 m3=>
    cases w.H.gJ _ _ _ g5 e3 with
    |gb n1=>
     have ne:∀{p q:Nat}{x y:Addr},w.lam[p]?=some x->w.lam[q]?=some y->p≠q->x≠y:=λ h1 h2 hn e=>hn (j8 w.H.nodup h1 (e▸h2));have nm:∀{p:Nat}{x y:Addr},w.lam[p]?=some x->y∉w.lam->y≠x:=λ h1 h2 e=>h2 (e▸List.mem_of_getElem? h1);exact k _ _ _ _ _ _ _ _ _ _ _ _ g3 g4 g5 g1 ⟨nm hl g1,ne g5 hl (Nat.ne_of_gt (Nat.lt_add_of_pos_right (Nat.succ_pos _))),ne g3 hl (Nat.ne_of_gt (Nat.lt_succ_self _)),ne g4 hl (Nat.ne_of_gt (Nat.le_succ _)),nm g5 g1,nm g3 g1,nm g4 g1,ne g5 g3 (Nat.ne_of_gt (Nat.le_succ _)),ne g5 g4 (Nat.ne_of_gt (Nat.lt_succ_self _)),ne g3 g4 (Nat.ne_of_lt (Nat.lt_succ_self _)),
      nm hl k2.1,nm g5 k2.1,nm g3 k2.1,nm g4 k2.1,nm hl m2.1,nm g5 m2.1,nm g3 m2.1,nm g4 m2.1⟩ g0 g2 n1 k1 m1 k2 m2 k3 m3
inductive ug(σ:U)(l:Nat)(Pe:U->Prop)(Ps:AV->U->Prop):Prop
 |e {xs ys:List AV} {i j:Nat}:σ[l]?=some .zip->σ[l+1]?=some (.cv xs i)->σ[l+2]?=some (.cv ys j)->σ[l+3]?=some .gb->xs[i]?=none->Pe (σ.set (l+1) .dead)->ug σ l Pe Ps
 |s {xs ys:List AV} {i j:Nat} {x y:AV}:σ[l]?=some .zip->σ[l+1]?=some (.cv xs i)->σ[l+2]?=some (.cv ys j)->σ[l+3]?=some .gb->xs[i]?=some x->ys[j]?=some y->Ps (.tup [x,y]) ((σ.set (l+1) (.cv xs (i+1))).set (l+2) (.cv ys (j+1)))->ug σ l Pe Ps
theorem DK{σ:U}{lam:List Addr}(hn:lam.Nodup){q p:Nat}{c d:Addr}{ao wX:AO}(g1:lam[q]?=some c)(g2:(σ.set p wX)[q]?=some ao)(hp:lam[p]?=some d)(hl:p<σ.length){C:Prop}(k1:q=p->c=d->ao=wX->C)(k2:q≠p->c≠d->σ[q]?=some ao->C):C:=by
 by_cases e:q=p
 ·subst e;rw [List.getElem?_set_self hl]at g2;exact k1 rfl (Option.some.inj (g1.symm.trans hp)) (Option.some.inj g2).symm
 ·rw [List.getElem?_set_ne (Ne.symm e)]at g2;exact k2 e (λ e'=>e (j8 hn g1 (e'▸hp))) g2
theorem Qd(K:Cx Γ){l:Nat}{z:Addr}{elts:List Expr}{k:Nat}{pos:Pos}{Pe:U->Prop}{Ps:AV->U->Prop}{Qn:Shared->Prop}{Qs:Value->Shared->Prop}{Q:Option Value->Shared->Prop}(hn:∀s,Qn s->Q none s)
  (hs:∀v s,wpAny Γ.M K.A (letOwnedTupleGo (.Tuple elts k pos) (.ref z) v) (λ aa o6=>Qs v o6) K.E s->Q (some v) s)(hl:K.w.lam[l]?=some z)(p:ug K.w.σ l Pe Ps)
  (kn:∀w:St Γ,K.w.Le w->Pe w.σ->Qn w.s)(ks:∀u v(w:St Γ),K.w.Le w->Ps v w.σ->w.R v u->Qs u w.s):K.wp (pyNext (.ref z)) Q:=by
 have lt:∀{q:Nat}{ao:AO},K.w.σ[q]?=some ao->q<K.w.σ.length:=λ h=>(List.getElem?_eq_some_iff.mp h).1;have nd:=K.w.H.nodup;have mm:∀{q:Nat}{c:Addr},K.w.lam[q]?=some c->c∈K.w.lam:=λ h=>List.mem_of_getElem? h;cases p with
 |@e xs ys i j e0 e1 e2 e3 hx p=>
  refine K.w.TF hl e0 e1 e2 e3 λ TI TO i1 i2 t1 t2 zO TG n m a b kh gN DL Qe D hz sx HO h1 h2 nP xr uG uH=>?_;have abY:=bB.size uG;refine Qc K.R.h D hz sx HO h1 nP.it (by refine cQ Array.getElem?_toList ?_;rw [List.getElem?_eq_none_iff]at hx⊢;simp;exact Nat.le_trans (b7 abY) hx) λ h' WV ha hk=>hn _ ?_;refine bA ha λ oa Hu Xj=>?_;have e6:∀c o,c∉[z,i1]->K.w.s.heap.get? c=some o->h'.get? c=some o:=λ c o hc e=>hk c o (λ q=>hc (q▸.head _)) (λ q=>hc (q▸.tail _ (.head _))) e;have h:=K.w.H.DF (σ':=K.w.σ.set (l+1) .dead) (C:=[z,i1]) (h':=h') (tk:=K.w.s.toks) (List.length_set ..) (λ c hc=>by
    rcases List.mem_cons.mp hc with rfl|hc
    ·exact mm hl
    ·cases List.mem_singleton.mp hc;exact mm kh) e6 (λ q c ao g1 g2=>DK nd g1 g2 kh (lt e1) (λ aa a2 a3=>by subst a2 a3;exact .inr (.dead Hu Xj)) λ aa b2 b3=>by
   by_cases q0:q=l
   ·subst q0;cases hl.symm.trans g1;cases e0.symm.trans b3;exact .inr (.zip WV Qe (hk TI _ D.Xb D.Xc sx) kh gN DL)
   ·refine .inl ⟨λ hm=>?_,b3⟩;rcases List.mem_cons.mp hm with rfl|hm
    ·exact q0 (j8 nd g1 hl)
    ·exact b2 (List.mem_singleton.mp hm))
  exact kn ⟨_,_,_,h.1⟩ h.2 p
 |@s xs ys i j x y e0 e1 e2 e3 hx hy p=>
  refine K.w.TF hl e0 e1 e2 e3 λ TI TO i1 i2 t1 t2 zO TG n m a b kh gN DL Qe D hz sx HO h1 h2 nP xr uG uH=>bA (bB.get uG i hx) λ v gv rv=>bA (bB.get uH j hy) λ u gu ru=>?_;refine MC D hz sx HO h1 h2 nP.it xr.it (x:=v) (y:=u) (by refine cQ Array.getElem?_toList ?_;exact gv) (by refine cQ Array.getElem?_toList ?_;exact gu) λ h' b1 b2 b3 b4 b5 hk=>hs _ _ ?_;refine wpAny_letOwnedTupleGo_zip (s:={K.w.s with heap:=h'}) b1 λ oi c1 c2=>?_;have up:∀c o,c≠z->h'.get? c=some o->oi.get? c=some o:=λ c o hn e=>c2.extBut _ _ hn e;have e6:∀c o,c∉[z,TO,i1,i2]->K.w.s.heap.get? c=some o->oi.get? c=some o:=λ c o hc e=>up c o (λ q=>hc (q▸.head _)) (hk c o (λ q=>hc (q▸.head _)) (λ q=>hc (q▸.tail _ (.head _))) (λ q=>hc (q▸.tail _ (.tail _ (.head _)))) (λ q=>hc (q▸.tail _ (.tail _ (.tail _ (.head _))))) e);have hC:∀c∈[z,TO,i1,i2],∃q,(q=l\/q=l+3\/q=l+1\/q=l+2)/\K.w.lam[q]?=some c:=λ c hc=>by
   simp only [List.mem_cons,List.not_mem_nil,or_false]at hc;rcases hc with rfl|rfl|rfl|rfl
   ·exact ⟨l,.inl rfl,hl⟩
   ·exact ⟨_,.inr (.inl rfl),DL⟩
   ·exact ⟨_,.inr (.inr (.inl rfl)),kh⟩
   ·exact ⟨_,.inr (.inr (.inr rfl)),gN⟩
  have hCm:∀c∈[z,TO,i1,i2],c∈K.w.lam:=λ c hc=>bA (hC c hc) λ q aa h=>mm h;have kc:Kx K.w.s.heap K.w.lam oi K.w.lam:=⟨.refl _,λ c o aa aa hn aa aa e=>e6 c o (λ h=>hn (hCm c h)) e,λ aa h=>.inl h⟩
  have h:=K.w.H.DF (σ':=(K.w.σ.set (l+1) (.cv xs (i+1))).set (l+2) (.cv ys (j+1))) (C:=[z,TO,i1,i2]) (h':=oi) (tk:=K.w.s.toks) (by simp) hCm e6 (λ q c ao g1 g2=>
   DK nd g1 g2 gN (by simpa using lt e2) (λ aa a2 a3=>by subst a2 a3;exact bA b4 λ o ho r=>.inr (.cv ⟨o,up _ _ D.Tv ho,r⟩ (kc.tt xr) (bB.bo kc uH))) λ q2 aa g2=>
   DK nd g1 g2 kh (lt e1) (λ aa a2 a3=>by subst a2 a3;exact bA b3 λ o ho r=>.inr (.cv ⟨o,up _ _ D.DG ho,r⟩ (kc.tt nP) (bB.bo kc uG))) λ q1 aa g3=>by
    by_cases q0:q=l
    ·subst q0;cases hl.symm.trans g1;cases e0.symm.trans g3;exact .inr (.zip c1 Qe (up _ _ D.Xb (hk TI _ D.Xb D.abT D.Xc D.abU sx)) kh gN DL)
    ·by_cases q3:q=l+3
     ·subst q3;cases DL.symm.trans g1;cases e3.symm.trans g3;exact .inr (.gb (up _ _ D.MB b2))
     ·refine .inl ⟨λ hm=>bA (hC c hm) λ q' h' e'=>?_,g3⟩;cases j8 nd g1 e';rcases h' with h'|h'|h'|h'
      ·exact q0 h'
      ·exact q3 h'
      ·exact q1 h'
      ·exact q2 h')
  exact ks _ _ ⟨_,_,_,h.1⟩ h.2 p (.tup (items:=#[v,u]) (n:=0) ⟨K.w.nG,up _ _ (Nat.ne_of_gt (Heap.lt_size hz)) b5⟩ (.cons (VR.bo h.2.kx rv) (.cons (VR.bo h.2.kx ru) .nil)) (Nat.le_of_ble_eq_true rfl))
def Jx(x:aP):Prop:=∃l,x=.zip l
inductive Jy(σ:U)(P:aP->Prop):AV->Prop
 |mk {l:Nat}:σ[l]?=some .zip->P (.zip l)->Jy σ P (.ref l)
def Qf(a:AE):AI:=λ F ρ σ P=>a F ρ σ λ v σ=>Jy σ (λ x=>P x σ) v
theorem UB{e:Expr}{a:AE}(ha:bf Γ e a):nM Γ Jx e (Qf a):=λ K P Q hc k=>ha K.r hc λ u v w S p hv=>by
 revert hv;induction p with
 |mk hx p=>
  intro hv;apply hv.kr;intro z hl;cases w.H.gJ _ _ _ hl hx with
  |zip g0=>exact wpAny_pyIter_zip g0 (k z _ w [] S p ⟨_,rfl⟩ ⟨⟨hl,rfl⟩,λ b hb=>nomatch hb⟩ λ b hb=>nomatch hb)
def asZ(x:aP)(k:Nat->Prop):Prop:=match x with
 |.zip l=>k l
 |_=>False
def qf(ns:List String)(g:AG)(c:AE):Nat->AR
 |0,_,_,_,_,_,_=>False
 |n+1,x,la,F,ρ,σ,P=>asZ x λ l=>ug σ l P λ v σ=>g F v ρ σ λ ρ σ=>c F ρ σ λ u σ=>b6 u σ (λ σ=>qf ns g c n x la F (dH ns ρ) σ P) la
inductive ZI(env:Env)(f:St Γ)(x:aP)(it:Addr)(la:Nat)(acc:Addr)(ns:List String)(g:AG)(c:AE)(P:U->Prop)(k:Nat):Shared->Prop
 |mk (ρ:dy) (w:St Γ):w.FR env ρ->f.o5 env w->IR w.s.heap w.lam x it []->w.lam[la]?=some acc->qf ns g c k x la Γ.F ρ w.σ P->ZI env f x it la acc ns g c P k w.s
theorem aao{ns:List String}(n:Nat){elt bY:Expr}{elts:List Expr}{k:Nat}{tp:Pos}{scope:Scope}{pos:Pos}{g:AG}{c:AE}(hg:i7 Γ (.Tuple elts k tp) g)(hc:bf Γ elt c):pq Γ Jx elt (.Tuple elts k tp) bY [] scope pos (qf ns g c n):=by
 rintro K _ it fp la acc P R he ⟨l,rfl⟩ r ap hl fin;refine zU (I:=ZI K.env K.f (.zip l) it la acc ns g c P) (λ m s hI=>?_) n ⟨K.ρ,K.w,K.F,K.T,⟨r.1.1,rfl⟩,hl,he⟩;induction hI with
 |mk ρ w F T r hl p=>
  cases m with
  |zero=>exact p.elim
  |succ m=>
   refine Qd ((K.kG ρ w F T).at K.A _ K.R) (λ aa h=>h) (λ aa aa h=>h) r.1 p (λ dW S p=>?_) λ u v dW S p hv=>?_
   ·exact fin ρ dW (FR.step F w.H S) (c_.trans T (Step.toF S dW.H)) p (S.ext _ _ hl)
   ·refine hg (((K.kG ρ w F T).zP dW S).at K.A _ K.R).rf p hv λ aaf nI Ut B9 p=>?_;have Ml:=c_.trans (c_.trans T (Step.toF S dW.H)) B9;have ME:=B9.kx.ext _ _ (S.ext _ _ hl);exact v5 (N:=λ σ=>qf ns g c m (.zip l) la Γ.F (dH ns aaf) σ P) (K.kG aaf nI Ut Ml) hc ME p λ ac2 aap p=>⟨m,Nat.lt_succ_self _,_,ac2,(FR.step Ut nI.H aap).kD λ aa aa h=>(iK h).2,c_.trans Ml (Step.toF aap ac2.H),⟨aap.ext _ _ (B9.kx.ext _ _ (S.ext _ _ r.1)),rfl⟩,aap.ext _ _ ME,p⟩
theorem UC{ns:List String}{g:AG}{c:AE}{n:Nat}:so Γ Jx (qf ns g c n):=by
 rintro A E w _ it fp Q la F ρ P ⟨l,rfl⟩ p r h;cases n with
 |zero=>exact p.elim
 |succ n=>
  have e0:w.σ[l]?=some .zip:=by have p:ug _ _ _ _:=p;cases p<;>assumption
  cases w.H.gJ _ _ _ r.1.1 e0 with
  |zip g0=>exact wpAny_pyIter_zip g0 h
theorem aaq{elt bY:Expr}{elts:List Expr}{k:Nat}{tp:Pos}{scope:Scope}{pos:Pos}{a:AE}{g:AG}{c:AE}{ns fs:List String}(ck:nk Γ.sc scope ns fs=true)(ha:bf Γ bY a)(hf:∀env x,foldedSetIterable bY env x=pure x)
  (hg:i7 (Γ.sub (iW Γ.sc scope)) (.Tuple elts k tp) g)(hc:bf (Γ.sub (iW Γ.sc scope)) elt c):bf Γ (.ListComp elt [⟨.Tuple elts k tp,bY,[],0⟩] scope pos) (d3 (Qf a) ns (qf ns g c)):=
 v7 (gm ck).2 (gm ck).1 (UB ha) hf (λ n=>aao n hg hc) (λ aa=>UC)
end
end
section
set_option genInjectivity false
set_option genSizeOf false
theorem abZ(C:Addr)(rest:List Value)(kw:List (Str×Value)):(Code.builtin "type.__call__" ⟨.ref C::rest,kw⟩).weight=1/\(Code.builtin "type.__call__" ⟨.ref C::rest,kw⟩).cUnits=1:=by constructor<;>kernel_rfl
section
variable{Γ:dv}
def TH(c:d_)(F:b_)(cT:List AV)(σ:U)(P:PV):Prop:=F.call (rK c) (.ref σ.length::cT) (σ++[.inst c,.dS []]) λ v σ'=>v=.none/\P (.ref σ.length) σ'
theorem DM{prog:Program}{w:World}{h:Heap}{a:Addr}(ha:h.get? a=some emptyDict):h.DictOf (PySem.strKind prog w) a []:=
 ⟨_,_,_,ha,⟨rfl,rfl,rfl⟩,rfl,λ aa he=>by simp at he,Pairs.nil,List.nodup_nil⟩
def y7(Γ:dv):Prop:=∀c:d_,rT Γ (.ref c.bw) (Γ.F.jS c)
theorem UD{G:bC}{d:Nat}{F:b_}{sc:Scope}(W:Wd G)(O:nH ⟨G,d,F,sc⟩)(c:d_)(hg:Γ.G=G)(hd:Γ.d=d+1):rT Γ (.ref c.bw) (TH c F):=by
 subst hg;intro A E w x v P Q R hv hc k;obtain ⟨s,lam,σ,H⟩:=w;obtain ⟨hh,g,dr,t,os⟩:=s;have X:Γ.G.K.In hh:=λ b o e=>H.base b o (W.X b o e);refine make_core (makes_of X (W.SS c)) (looks_findIn X (W.init c)) (λ self=>bind_fn X self (W.wV _)) (.inl rfl) ?_;have hk:∀b o,hh.get? b=some o->((hh.push emptyDict).push (instObj c.bw hh.objs.size)).get? b=some o:=λ b o e=>Heap.get?_push_of_some _ (Heap.get?_push_of_some _ e);have hx:((hh.push emptyDict).push (instObj c.bw hh.objs.size)).get? (hh.objs.size+1)=some (instObj c.bw hh.objs.size):=by
  have:((hh.push emptyDict).push (instObj c.bw hh.objs.size)).get? (hh.push emptyDict).objs.size=some (instObj c.bw hh.objs.size):=Heap.get?_push_size _ rfl
  rwa [Heap.size_push]at this
 have hdx:((hh.push emptyDict).push (instObj c.bw hh.objs.size)).get? hh.objs.size=some emptyDict:=Heap.get?_push_of_some _ (Heap.get?_push_size _ rfl);have hn:=H.W' (as:=[hh.objs.size+1,hh.objs.size]) (MA:=[.inst c,.dS []]) (h':=(hh.push emptyDict).push (instObj c.bw hh.objs.size)) (tk:=t) hk (λ b hb=>by
   rcases List.mem_cons.mp hb with rfl|hb
   ·exact Heap.get?_none_of_le (Nat.le_succ _)
   ·cases List.mem_singleton.mp hb;exact Heap.get?_none_of_le (Nat.le_refl _)) (by simp) rfl (λ i b ao h1 h2=>by
  match i,h1,h2 with
  |0,h1,h2=>cases h1;cases h2;exact .inst hx (DI rfl)
  |1,h1,h2=>cases h1;cases h2;exact .dS (DM hdx) .nil
  |i+2,h1,h2=>simp at h1)
 have l0:(lam++[hh.objs.size+1,hh.objs.size])[σ.length]?=some (hh.objs.size+1):=H.len▸DI (j:=0) rfl;have nF:=R.nF;have un:=R.un;rw [hd]at nF un;refine CX (abZ c.bw v []) λ w1 w2=>?_;have R':jt d (A.under (.builtin "type.__call__" ⟨.ref c.bw::v,[]⟩)):=⟨R.h,by refine (?_:A.depth+_+_<_);refine ae w1 ?_;exact bQ nF (by simp+arith only),by refine (?_:A.units+_+_+_<_);refine ae w2 ?_;exact bQ un (by simp+arith only)⟩
 refine codeAny_mono (O (rK c) _ E ⟨_,_,_,hn.1⟩ (Q:=λ v s=>v=.none/\Q (.ref (hh.objs.size+1)) s) R' (.cons (.ref l0) (bB.bo hn.2.kx hv)) hc λ u y w' S p hy=>?_) λ r s' hr=>?_
 ·obtain ⟨rfl,p⟩:=p;exact ⟨VR.pU hy,k _ _ ⟨w'.s,w'.lam,w'.σ,w'.H⟩ (Step.trans hn.2 S) p (.ref (S.ext _ _ l0))⟩
 ·cases r with
  |error e=>exact hr
  |ok fl=>
   cases fl with
   |ret v=>exact ⟨hr.1,hr.2⟩
   |next=>exact hr
   |brk=>exact hr
   |cont=>exact hr
def MF(c:d_)(cs:List AE):AE:=λ F ρ σ P=>jT cs F ρ σ λ vs σ=>F.jS c vs σ P
theorem xt(W:Wd Γ.G)(O:y7 Γ){x:String}{c:d_}{np pos:Pos}{es:List Expr}{cs:List AE}(g:cA Γ.G x (.ref c.bw))(hk:Γ.sc.names.lookup (Str.ofString x)=some .globalImplicit)(hd:(Str.ofString x==("__debug__":Str))=false)
  (kp:vR Γ.G (.ref c.bw))(a:fD Γ es cs):bf Γ (.Call (.Name (Str.ofString x) np) es [] pos) (MF c cs):=ba (f:=λ σ P x=>Γ.F.jS c x σ P) W g hk hd kp a (O c).v
def y8(k v:AE):AE:=λ F ρ σ P=>k F ρ (σ++[.dI []]) λ n ab0=>qV n λ i=>v F ρ ab0 λ u Xl=>Xl[σ.length]?=some (.dI [])/\P (.ref σ.length) (Xl.set σ.length (.dI [(i,u)]))
theorem St.TJ(w:St Γ){ao:AO}(hr:∀h lam l a,h.get? a=some {cls:=.type "dict",data:=.dict #[]}->OR Γ.G h lam l a ao):
  HS Γ.G {w.s with heap:=w.s.heap.push {cls:=.type "dict",data:=.dict #[]}} (w.lam++[w.s.heap.objs.size]) (w.σ++[ao])/\Step w.s w.lam {w.s with heap:=w.s.heap.push {cls:=.type "dict",data:=.dict #[]}} (w.lam++[w.s.heap.objs.size]):=
 w.H.new (s':={w.s with heap:=w.s.heap.push {cls:=.type "dict",data:=.dict #[]}}) (a:=w.s.heap.objs.size) (ao:=ao) (λ b o e=>Heap.get?_push_of_some _ e) (Heap.get?_none_of_le (Nat.le_refl _)) rfl rfl (hr _ _ _ _ (Heap.get?_push_size _ rfl))
theorem zZ{ke ve:Expr}{pos:Pos}{kk v:AE}(hk:bf Γ ke kk)(hv:bf Γ ve v):bf Γ (.Dict [some ke] [ve] pos) (y8 kk v):=λ K P Q hc k=>by
 refine wpAny_Dict_walk (knd:=intKind Γ.G.prog Γ.G.w) rfl rfl (by simp) (Nat.succ_pos _) ?_;have h0:=K.w.TJ (ao:=.dI []) λ h lam l a e=>.dI (kvs':=[]) ⟨_,_,_,e,⟨rfl,rfl,rfl⟩,rfl,λ aa h=>by simp at h,.nil,.nil⟩ .nil;have Xm:(K.w.lam++[K.w.s.heap.objs.size])[K.w.σ.length]?=some K.w.s.heap.objs.size:=by refine cQ K.w.H.len ?_;exact List.getElem?_concat_length ..
 refine wpAny_bind (hk (K.up ⟨_,_,_,h0.1⟩ h0.2).r hc λ kv n yU l9 p hkv=>?_);obtain ⟨i,rfl,p⟩:=p.k;apply hkv.ki;intro t;refine wpAny_bind (wpAny_holding (wpAny_bind (hv (K.up yU (Step.trans h0.2 l9)).r p λ vv u dW d1 p HP=>?_)));refine wpAny_bind (wpAny_standAt (wpAny_pure (wpAny_bind (wpAny_holding (wpAny_pure (wpAny_pure ?_))))));have gN:=d1.ext _ _ (l9.ext _ _ Xm);refine dW.dI gN p.1 λ kvs' g1 g2 aa=>?_;cases g2;exact ⟨[(i,vv)],⟨intKind_is _ _ _ _,rfl,trivial⟩,g1,λ h' hd hs=>(K.up dW (Step.trans (Step.trans h0.2 l9) d1)).uc (tk:=dW.s.toks+1) k gN hs p.2 (λ kc=>.dI (kvs':=[(i,vv)]) hd (.cons (f:=id) (VR.bo kc HP) .nil)) (.ref gN)⟩
def HQ(x y:String)(v w:AE):AE:=λ F ρ σ P=>v F ρ (σ++[.dS []]) λ a ab0=>w F ρ ab0 λ b Xl=>Xl[σ.length]?=some (.dS [])/\P (.ref σ.length) (Xl.set σ.length (.dS [(x,a),(y,b)]))
theorem MG{x y:String}{k1 k2:Nat}{p1 p2:Pos}{ve we:Expr}{pos:Pos}{v u:AE}(jn:(Str.ofString x=Str.ofString y)=False)(hv:bf Γ ve v)(hw:bf Γ we u):
  bf Γ (.Dict [some (.Constant (.str (Str.ofString x)) k1 p1),some (.Constant (.str (Str.ofString y)) k2 p2)] [ve,we] pos) (HQ x y v u):=λ K P Q hc k=>by
 refine wpAny_Dict_walk (knd:=dR Γ.G.prog Γ.G.w) rfl rfl (by simp) (by simp) ?_;have h0:=K.w.TJ (ao:=.dS []) λ h lam l a e=>.dS (kvs':=[]) ⟨_,_,_,e,⟨rfl,rfl,rfl⟩,rfl,λ aa h=>by simp at h,.nil,.nil⟩ .nil;have Xm:(K.w.lam++[K.w.s.heap.objs.size])[K.w.σ.length]?=some K.w.s.heap.objs.size:=by refine cQ K.w.H.len ?_;exact List.getElem?_concat_length ..
 refine wpAny_bind (Constant_str ?_);have h1:=h0.1.toks (K.w.s.toks+1);have S1:=Step.trans h0.2 h1.2;refine wpAny_bind (wpAny_holding (wpAny_bind (hv (K.up ⟨_,_,_,h1.1⟩ S1).r hc λ vv a dW d1 p HP=>?_)));refine wpAny_bind (wpAny_standAt (wpAny_pure (wpAny_bind (wpAny_holding (wpAny_bind (Constant_str ?_))))));have h3:=dW.H.toks (dW.s.toks+1);have S3:=Step.trans (Step.trans S1 d1) h3.2;refine wpAny_bind (wpAny_holding (wpAny_bind (hw (K.up ⟨_,_,_,h3.1⟩ S3).r p λ ww b oO Jo p Xn=>?_)));refine wpAny_bind (wpAny_standAt (wpAny_pure (wpAny_bind (wpAny_holding (wpAny_pure (wpAny_pure (wpAny_pure ?_)))))));have gN:=Jo.ext _ _ (h3.2.ext _ _ (d1.ext _ _ (h1.2.ext _ _ Xm)));refine oO.dS gN p.1 λ kvs' g1 g2 aa=>?_;cases g2;refine ⟨[(Str.ofString x,vv),(Str.ofString y,ww)],⟨if_pos rfl,rfl,if_pos rfl,rfl,trivial⟩,g1,λ h' hd hs=>?_⟩;rw [show merged ([]:List (Str×Value)) [(Str.ofString x,vv),(Str.ofString y,ww)]=[(Str.ofString x,vv),(Str.ofString y,ww)] by simp [merged,stored,jn]]at hd;exact (K.up oO (Step.trans S3 Jo)).uc (tk:=oO.s.toks+2) k gN hs p.2 (λ kc=>.dS hd (.cons (VR.bo kc (VR.bo (Step.trans h3.2 Jo).kx HP)) (.cons (VR.bo kc Xn) .nil))) (.ref gN)
end
end
section
set_option genInjectivity false
set_option genSizeOf false
noncomputable def Xo:List (String×Fn):=[("__init__",.vM),("look_at",.ni),("join",.wM)]
noncomputable def Jz(m:String):Option Fn:=Wh Xo m
structure uO(G:bC):Prop where
 cell:∃cl cld csl,G.K.lookup 513=some ⟨cl,cld,.cell (some (.ref 577)),csl⟩
 cls:∃cd,clsIn G.K 577=some cd
 sub:mroIn G.K 577 (.ref 577)=some true
 HR:nsIn G.K mainGlobals "super"=some none
 DN:nsIn G.K cStatics "thirdparty.any"=some none
 top:(G.prog.main.scope.names.lookup ("super":Str)).isSome=false
 C8:∀m f,Jz m=some f->ks_superIn G.K 577 577 (Str.ofString m)=some (some (.ref f.bw))
structure ji(G:bC)(a:Addr)(ns:List String)(sc:Scope)(body:List Stmt):Prop where
 iU:∃oc od fd gZ uP z5 z6 vs z7 file tf ar,G.K.lookup a=some ⟨oc,od,.func fd,gZ⟩/\fd.code=.ref uP/\codeIn G.K fd.code fd.qualname=true/\fd.body=.stmts body/\fd.scope=sc/\fd.closure=[(("__class__":Str),513)]/\fd.globals=mainGlobals/\fd.builtins=builtinsNs/\
  (∀vs:List Value,vs.length=ns.length->bindArgs fd ⟨vs,[]⟩=pure ((ns.map Str.ofString).zip vs))/\(fd.params.posonlyargs++fd.params.args).head?=some ar/\ar.arg=Str.ofString "self"/\
  G.K.lookup uP=some ⟨z5,z6,.fields vs,z7⟩/\vs[2]?=some (.str file tf)/\((G.prog.main.file:Str)==file)=true
 CG:∀n∈ns,sc.names.lookup (Str.ofString n)=some .local
 sj:∀x∈sc.names,x.2≠.cell
 Dr:∀x,sc.names.lookup (Str.ofString x)=some .free->x="__class__"
 sup:sc.names.lookup ("super":Str)=some .globalImplicit
 ab1:sc.names.lookup ("__class__":Str)=some .free
 aar:sc.names.lookup (Str.ofString "self")=some .local
 kind:sc.kind=.function
 co:sc.isCoroutine=false
 gen:sc.isGenerator=false
section
variable{Γ:dv}
structure xu(a:Addr)(fd:FuncData)(env:Env):Prop where
 func:env.func=some a
 code:env.code=fd.code
 cell:env.cells.lookup ("__class__":Str)=some 513
theorem y9(W:Wd Γ.G)(K:Cx Γ){pos:Pos}{q g:Addr}{self:Value}{es:List Expr}{cs:List AE}{P:List AV->U->Prop}{Q:Value->Shared->Prop}
  (hg:fnIn Γ.G.K g=true)(hq:K.w.s.heap.get? q=some (methodObj (.ref g) self))(hql:q∉K.w.lam)(x:fD Γ es cs)(he:jT cs Γ.F K.ρ K.w.σ P)
  (h:∀us vs(w:St Γ),K.w.Le w->P vs w.σ->w.Rs vs us->w.s.heap.get? q=some (methodObj (.ref g) self)->wpAny Γ.M K.A (call (.ref q) us) Q K.E w.s):K.wp (callWith pos (.ref q) [] (backTo pos (starEach es K.env)) []) Q:=by
 have bW:K.wp (spliced (backTo pos (starEach es K.env))) λ us s=>MethP Γ.G.K q g self s.heap/\wpAny Γ.M K.A (call (.ref q) ([]++us)) Q K.E s:=x.bW pos K.r he λ us vs w S aa p hv=>⟨⟨S.keep _ _ hql hq,w.X W⟩,h us vs w S p hv (S.keep _ _ hql hq)⟩
 refine callWith_of (P:=λ h=>MethP Γ.G.K q g self h) (by rw [x.plain];rfl) (λ h X=>keeps_M hg h X) ?_;cases x with
 |nil=>exact evalArgs_nil3 ⟨⟨hq,K.w.X W⟩,h [] _ K.w (.refl _ _) he .nil hq⟩
 |cons h1 hn _=>rw [hn.s]at bW⊢;exact evalArgs_plain bW
inductive DO(m:String)(σ:U)(P:Nat->Fn->Prop):AV->Prop
 |mk {l:Nat} {kvs:List (String×AV)} {f:Fn}:σ[l]?=some (.inst .levels)->σ[l+1]?=some (.dS kvs)->Jz m=some f->P l f->DO m σ P (.ref l)
def y_(m:String)(cs:List AE):AE:=λ F ρ σ P=>yT (ρ "self") λ v=>DO m σ (λ l f=>jT cs F ρ σ λ vs σ=>F.call f (.ref l::vs) σ P) v
def y'(m:String)(p0 p1 apos pos:Pos)(es:List Expr):Prop:=∀env,∃pl:Sem Bool,eval (.Call (.Attribute (.Call (.Name "super" p0) [] [] p1) (Str.ofString m) apos) es [] pos) env=(do
   let ov<-attributeBase (.Call (.Name "super" p0) [] [] p1) (Str.ofString m) env (eval (.Call (.Name "super" p0) [] [] p1) env)
   standAt apos.atName
   let(f,first)<-holding [ov] (getMethod ov (Str.ofString m) pl)
   callWith pos f first (backTo pos (starEach es env)) [])
theorem ji.k{G:bC}{a:Addr}{ns:List String}{sc:Scope}{body:List Stmt}{C:Prop}(K:ji G a ns sc body)(k:∀oc od fd gZ uP z5 z6 vs z7 file tf ar,G.K.lookup a=some ⟨oc,od,.func fd,gZ⟩->fd.code=.ref uP->codeIn G.K fd.code fd.qualname=true->fd.body=.stmts body->fd.scope=sc->fd.closure=[(("__class__":Str),513)]->fd.globals=mainGlobals->fd.builtins=builtinsNs->
  (∀vs:List Value,vs.length=ns.length->bindArgs fd ⟨vs,[]⟩=pure ((ns.map Str.ofString).zip vs))->(fd.params.posonlyargs++fd.params.args).head?=some ar->ar.arg=Str.ofString "self"->
  G.K.lookup uP=some ⟨z5,z6,.fields vs,z7⟩->vs[2]?=some (.str file tf)->((G.prog.main.file:Str)==file)=true->C):C:=by
 obtain ⟨oc,od,fd,gZ,uP,z5,z6,vs,z7,file,tf,ar,g1,g2,g3,g4,g5,g6,g7,g8,g9,TK,HT,TL,TM,TN⟩:=K.iU;exact k oc od fd gZ uP z5 z6 vs z7 file tf ar g1 g2 g3 g4 g5 g6 g7 g8 g9 TK HT TL TM TN
theorem HU(W:Wd Γ.G)(WS:uO Γ.G)(O:nH Γ){a:Addr}{ns:List String}{body:List Stmt}(FS:ji Γ.G a ns Γ.sc body){fd:FuncData}{oc:Value}{od:Option Addr}{gZ:Array (Option Value)}(q9:Γ.G.K.lookup a=some ⟨oc,od,.func fd,gZ⟩)
  {m:String}{p0 p1 apos pos:Pos}{es:List Expr}{cs:List AE}(al:fD Γ es cs)(hm:(Str.ofString m==("__class__":Str))=false)(he:y' m p0 p1 apos pos es)(K:Cx Γ){P:PV}{Q:Value->Shared->Prop}(qW:xu a fd K.env)(hc:y_ m cs Γ.F K.ρ K.w.σ P)(k:K.KV P Q):
  PySem.wpAt Γ.M K.A (.func body K.env) (eval (.Call (.Attribute (.Call (.Name "super" p0) [] [] p1) (Str.ofString m) apos) es [] pos) K.env) Q K.E K.w.s:=by
 refine d9 (he K.env) λ pl he=>hc.k λ v JA p=>?_;revert JA;induction p with
 |@mk l kvs f h1 h2 hf p=>
  intro JA;refine FS.k λ oc' od' fd' adE uP z5 z6 vss z7 file tf ar g1 g2 g3 g4 g5 g6 g7 g8 g9 TK HT TL TM TN=>?_;rw [q9]at g1;cases g1;refine Wc WS.cell λ cl cld csl JB=>d9 WS.cls λ cdD hD=>?_;have X:=K.w.X W;obtain ⟨oD,Xp,Xq⟩:∃oD,K.w.s.heap.get? 577=some oD/\oD.data=.cls cdD:=by
   have z8:=hD;unfold clsIn at z8;split at z8
   ·rename_i c d' cd' sl ho;cases z8;exact ⟨_,X _ _ ho,rfl⟩
   ·cases z8
  have pA:K.env.kindOf "super"=some .globalImplicit:=K.kind FS.sup;have hkc:K.env.kindOf "__class__"=some .free:=K.kind FS.ab1;have mO:K.env.kindOf ar.arg=some .local:=K.kind (HT▸FS.aar);refine bA K.F.o4 λ adF jA ab2=>bA (ab2 "self" _ (HT▸mO) JA) λ sv Xr hsr=>?_;revert Xr;apply hsr.kr;intro x DP Xr;induction K.w.inst DP h1 h2 with
  |mk b kvs' es2 n hb uE hd hp hkr I=>
   obtain ⟨hx,-,-,-⟩:=I;refine ks_wpAt_MethodCall (pl:=pl) ?_ he;refine ks_wpAt_super_base (env:=K.env) (f:=a) (of:=⟨oc,od,.func fd,gZ⟩) (fd:=fd) (ar:=ar) (cc:=uP) (oc:=⟨z5,z6,.fields vss,z7⟩) pA hkc hm qW.func (X _ _ q9) rfl TK (qW.code.trans g2) (X _ _ TL) rfl TM TN WS.top ?_;refine ks_loadName_global K.fn pA ?_;refine bA W.b λ mb ab3 hmb=>?_;have lg:∀{Q:Value->Shared->Prop},Q (.type "super") K.w.s->wpAny Γ.M K.A (loadGlobal K.env "super") Q K.E K.w.s:=λ hq=>by unfold loadGlobal;refine ae K.ok.globals<|ae K.ok.builtins ?_;refine wpAny_bind ((looks_nsIn X WS.HR).here (wpAny_bind (wpAny_nsGet (ab3.keeps K.w.H.base) ?_)));refine ae (hmb _ (by decide))<|ae (show bootBuiltins "super"=some (.type "super") by kernel_rfl) ?_;exact wpAny_pure hq
   refine lg ⟨rfl,?_⟩;refine wpAny_loadName_free K.fn hkc qW.cell ⟨_,X _ _ JB,rfl⟩ ?_;refine wpAny_loadName_local K.fn mO jA (HT▸Xr) ?_;obtain ⟨A,E,env,kf,ko,⟨⟨hh,gg,dd,tt,oo⟩,lam,σ,H⟩,ρ,R,ok,Fr,S,T⟩:=K;refine ks_wpAny_isType_cls Xp Xq ⟨rfl,?_⟩;refine ks_wpAny_call_super (C:=577) Xp Xq hx rfl (λ c e=>by cases e) (looks_mroIn X WS.sub) (λ h' e kk=>?_);have h1:=H.i6 (s':=⟨h',gg,dd,tt,oo⟩) kk rfl rfl;have X':Γ.G.K.In h':=λ b o e=>h1.1.base b o (W.X b o e);obtain ⟨of,hof,ab4⟩:∃of,h'.get? f.bw=some of/\of.cls=.type "function":=by
    have oj:(Γ.G.K.lookup f.bw).map (·.cls)=some (.type "function"):=W.wV f;cases z:Γ.G.K.lookup f.bw with
    |none=>rw [z]at oj;cases oj
    |some of=>rw [z]at oj;exact ⟨of,X' _ _ z,Option.some.inj oj⟩
   have hxC:x≠577:=λ e=>by subst e;cases Xp.symm.trans hx;cases Xq
   have JC:=WS.C8 m f hf;unfold ks_superIn at JC;rw [hD]at JC;refine ks_wpAny_getMethod_super e (looks_opaque X' WS.DN) (l₀:=cdD.mro) (λ A Q E s k' q=>wpAny_bind ((looks_clsIn X' hD) A _ E s k' (wpAny_pure q))) rfl X' JC hof ab4 hxC hm ?_;have h2:=h1.1.i6 (s':=⟨h'.push {cls:=.type "method",data:=.fields #[.ref f.bw,.ref x]},gg,dd,tt+1,oo⟩) (λ b o e=>Heap.get?_push_of_some _ e) rfl rfl;have Xs:=Step.trans h1.2 h2.2;let K:Cx Γ:=⟨A,E,env,kf,ko,⟨⟨hh,gg,dd,tt,oo⟩,lam,σ,H⟩,ρ,R,ok,Fr,S,T⟩
   exact y9 W (K.up ⟨_,_,_,h2.1⟩ Xs) (W.fn f) (Heap.get?_push_size _ rfl) (St.nG (Γ:=Γ) ⟨_,_,_,h1.1⟩) al p λ us vs w pY p hws hq=>wpAny_call (ks_codeAny_call_bound hq (O f A E w R (.cons (.ref (pY.ext _ _ (Xs.ext _ _ DP))) hws) p λ u y w' S' p hy=>k u y w' (Step.trans S (Step.trans Xs (Step.trans pY S'))) p hy))
def jO(Γ:dv)(a:Addr)(fd:FuncData)(body b:List Stmt)(c:AS):Prop:=∀(K:Cx Γ){P:PF}{Q:Flow->Shared->Prop},xu a fd K.env->c Γ.F K.ρ K.w.σ P->K.KS P Q->PySem.wpAt Γ.M K.A (.func body K.env) (execs b K.env) Q K.E K.w.s
theorem sz{a:Addr}{fd:FuncData}{body:List Stmt}:jO Γ a fd body [] aJ:=λ K aa aa aa hc k=>wpAt_of_wpAny (az K hc k)
theorem JD{a:Addr}{fd:FuncData}{body rest:List Stmt}{b:AS}(K:Cx Γ){P:PF}{Q:Flow->Shared->Prop}(hb:jO Γ a fd body rest b)(es:xu a fd K.env)(k:K.KS P Q):K.KS (λ f ρ σ=>f.seq P (λ ρ σ=>b Γ.F ρ σ P) ρ σ) λ fl s=>match fl with
  |.next=>PySem.wpAt Γ.M K.A (.func body K.env) (execs rest K.env) Q K.E s
  |fl=>Q fl s:=λ fl f ρ w F T p hf=>by
 cases hf with
 |next=>exact hb (K.kG ρ w F T) es p k
 |cont=>exact k _ _ ρ w F T p .cont
 |ret hv=>exact k _ _ ρ w F T p (.ret hv)
theorem gp{a:Addr}{fd:FuncData}{body rest:List Stmt}{st:Stmt}{c b:AS}(hs:ju Γ st c)(hb:jO Γ a fd body rest b):jO Γ a fd body (st::rest) (aw c b):=λ K aa aa es hc k=>ks_wpAt_execs_cons (wpAt_of_wpAny (hs K hc (JD K hb es k)))
theorem q_(W:Wd Γ.G)(WS:uO Γ.G)(O:nH Γ){a:Addr}{ns:List String}{body rest:List Stmt}(FS:ji Γ.G a ns Γ.sc body){fd:FuncData}{oc:Value}{od:Option Addr}{gZ:Array (Option Value)}(q9:Γ.G.K.lookup a=some ⟨oc,od,.func fd,gZ⟩)
  {m:String}{p0 p1 apos pos p2:Pos}{es:List Expr}{cs:List AE}{b:AS}(al:fD Γ es cs)(hm:(Str.ofString m==("__class__":Str))=false)(he:y' m p0 p1 apos pos es)
  (hi:∀env:Env,env.scope=Γ.sc->interactive env=false)(h1:∀env:Env,swapsWith (.Call (.Attribute (.Call (.Name "super" p0) [] [] p1) (Str.ofString m) apos) es [] pos) none p2.line env=pure false)
  (hb:jO Γ a fd body rest b):jO Γ a fd body (.Expr (.Call (.Attribute (.Call (.Name "super" p0) [] [] p1) (Str.ofString m) apos) es [] pos) p2::rest) (aw (b0 (y_ m cs)) b):=λ K aa aa qW hc k=>
 ks_wpAt_execs_cons (ks_wpAt_Expr_any (HU W WS O FS q9 al hm he K.r qW hc λ u v w S p hv=>K.kS (JD K hb qW k) w S p .next) (hi K.env K.ok.scope) (h1 K.env))
theorem DQ(W:Wd Γ.G)(WS:uO Γ.G)(O:nH Γ){a:Addr}{ns:List String}{body rest:List Stmt}(FS:ji Γ.G a ns Γ.sc body){fd:FuncData}{oc:Value}{od:Option Addr}{gZ:Array (Option Value)}(q9:Γ.G.K.lookup a=some ⟨oc,od,.func fd,gZ⟩)
  {m:String}{p0 p1 apos pos p2:Pos}{es:List Expr}{cs:List AE}{b:AS}(al:fD Γ es cs)(hm:(Str.ofString m==("__class__":Str))=false)(he:y' m p0 p1 apos pos es)
  (hb:jO Γ a fd body rest b):jO Γ a fd body (.Return (some (.Call (.Attribute (.Call (.Name "super" p0) [] [] p1) (Str.ofString m) apos) es [] pos)) p2::rest) (aw (da (y_ m cs)) b):=λ K aa aa qW hc k=>
 ks_wpAt_execs_cons (ks_wpAt_Return_some (HU W WS O FS q9 al hm he K.r qW hc λ u v w S p hv=>K.kS (JD K hb qW k) w S p (.ret hv)))
theorem MH{h:Heap}{lam:List Addr}{ns:List String}{cT:List AV}{vs:List Value}{ρ:dy}{acc:List (Str×Value)}(hl:ns.length=cT.length)(hv:bB h lam cT vs)(h1:∀x av,ρ x=some av->∃v,acc.lookup (Str.ofString x)=some v/\VR h lam av v):
  ∀x av,lU ns cT ρ x=some av->∃v,(((ns.map Str.ofString).zip vs).reverse++acc).lookup (Str.ofString x)=some v/\VR h lam av v:=by
 induction ns generalizing cT vs ρ acc with
 |nil=>cases cT with
  |nil=>apply hv.kn;exact h1
  |cons=>cases hl
 |cons n ns ih=>cases cT with
  |nil=>cases hl
  |cons a cT=>
   apply hv.kc;intro v vs hv ef x av e;rw [HB]at e;have:=ih (acc:=(Str.ofString n,v)::acc) (ρ:=jU ρ n a) (by simpa using hl) ef (λ y w hy=>?_) x av e
   ·simpa using this
   ·by_cases Xu:y=n
    ·subst Xu;simp only [jU,if_true,Option.some.injEq]at hy;subst hy;exact ⟨v,by simp,hv⟩
    ·simp only [jU,Xu,if_false]at hy;refine bA (h1 y w hy) λ u e1 e2=>?_;refine ⟨u,?_,e2⟩;refine ae List.lookup_cons ?_;have:(Str.ofString y==Str.ofString n)=false:=by simpa usingλ q=>Xu (cH q)
     refine ae this ?_;exact e1
theorem wb{G:bC}{d:Nat}{F:b_}{a:Addr}{ns:List String}{sc:Scope}{body:List Stmt}{c:AS}(W:Wd G)(WS:uO G)(K:ji G a ns sc body)(hb:∀fd oc od gZ,G.K.lookup a=some ⟨oc,od,.func fd,gZ⟩->jO ⟨G,d,F,sc⟩ a fd body body c)(hg:Γ.G=G)(hd:Γ.d=d+1):
  rT Γ (.ref a) (HC ns c F):=by
 subst hg;rintro A E w x v P Q R hv ⟨hl,hc⟩ k;refine K.k λ oc od fd gZ uP z5 z6 vss z7 file tf ar ho g2 HD xh Mr Ds HE lh xi TK HT TL TM TN=>?_;have hb:=hb fd oc od gZ ho;have hX:=w.X W;have WL:v.length=ns.length:=by rw [<-bB.length hv];exact hl
 have nF:=R.nF;have un:=R.un;rw [hd]at nF un;subst Mr;refine Wc WS.cell λ adG adH adI JB=>?_;refine ks_codeAny_call_defAt (o:=⟨oc,od,.func fd,gZ⟩) (fd:=fd) (body:=body) (binds:=(ns.map Str.ofString).zip v) (nC nF) (hX _ _ ho) rfl (W.nolimit.keeps w.H.base) (codeRec_of hX HD) xh (λ{α}B Q E h=>by rw [xi v WL];exact wpAny_pure h) K.sj (λ x hx=>?_) (λ h₀ jA hk=>?_) K.co K.gen K.kind
 ·obtain ⟨n,hn,e⟩:=List.mem_map.mp (List.of_mem_zip (show(x.1,x.2)∈_ from hx)).1;rw [<-e];exact K.CG n hn
 ·generalize jW:callEnv fd w.s.heap.objs.size a=env at*;have e1:env.locals=w.s.heap.objs.size:=by rw [<-jW];rfl
  have e2:env.scope=fd.scope:=by rw [<-jW];rfl
  have e3:env.cells=[(("__class__":Str),513)]:=by rw [<-jW];exact Ds
  have ek:∀x,env.kindOf x=fd.scope.names.lookup x:=λ x=>by unfold Env.kindOf;exact ae e2 rfl
  have hg:=w.H.i6 (s':={w.s with heap:=h₀,toks:=w.s.toks+((ns.map Str.ofString).zip v).length}) hk rfl rfl;have hL:w.s.heap.get? env.locals=none:=e1▸Heap.get?_none_of_le (Nat.le_refl _);have Qg:=W.X _ _ JB;have eS:xu a fd env:=⟨by refine cQ jW ?_;rfl,by refine cQ jW ?_;rfl,congrArg _ e3⟩
  have WQ:FR Γ.G h₀ w.lam env (lU ns x λ aa=>none):=by
   refine ⟨⟨_,e1▸jA,λ x WR aa e=>?_⟩,λ x hx=>?_,e3▸List.pairwise_singleton _ _,λ hm=>w.nG (e1▸hm),w.H.yY hL,λ p hp=>?_⟩
   ·have:=MH (h:=h₀) (lam:=w.lam) (acc:=[]) (ρ:=λ aa=>none) hl.symm (bB.bo hg.2.kx hv) (λ aa aa e=>nomatch e) x WR e;simpa using this
   ·rcases hx with hx|⟨hx,cD⟩
    ·exact absurd rfl (K.sj _ (gA (ek _▸hx)))
    ·exact absurd (K.Dr x (ek _▸hx)) cD
   ·rw [e3]at hp;cases List.mem_singleton.mp hp;exact ⟨_,_,hg.1.base _ _ Qg,rfl⟩
  have fin:∀{w':St ⟨Γ.G,d,F,fd.scope⟩},c_ env {w.s with heap:=h₀,toks:=w.s.toks+((ns.map Str.ofString).zip v).length} w.lam w'.s w'.lam->Step w.s w.lam w'.s w'.lam:=λ{w'}S=>by
   refine ⟨S.kx.ext,λ b o' hn e=>?_,λ b hb=>(S.kx.fresh b hb).imp id λ hn=>?_⟩
   ·by_cases Xv:b=513
    ·subst Xv;cases (w.H.base _ _ Qg).symm.trans e;exact w'.H.base _ _ Qg
    ·refine S.keep b o' hn (λ hw=>?_) (hk b o' e);rcases hw with rfl|hw
     ·exact nomatch hL.symm.trans e
     ·rw [e3]at hw;exact Xv (by simpa using hw.2)
   ·cases e:w.s.heap.get? b with
    |none=>rfl
    |some o'=>exact nomatch(hn:h₀.get? b=none).symm.trans (hk b o' e)
  refine hb ⟨A.deeper env,_,env,⟨_,w.lam,w.σ,hg.1⟩,⟨_,w.lam,w.σ,hg.1⟩,⟨_,w.lam,w.σ,hg.1⟩,_,⟨R.h,by refine (?_:A.depth+1+3*d<_);exact bQ nF (by simp+arith only),by refine (?_:A.units+3+40*d+100<_);exact bQ un (by simp+arith only)⟩,
   ⟨e2,K.kind,by refine cQ jW ?_;exact HE,by refine cQ jW ?_;exact lh,λ aa=>by refine cQ jW ?_;rfl⟩,WQ,.refl _ _,.refl _ _ _⟩ eS hc λ fl f ρ w' F' T p hf=>?_
  cases hf with
  |ret hv=>exact k _ _ ⟨w'.s,w'.lam,w'.σ,w'.H⟩ (fin T) p hv
  |next=>exact k _ _ ⟨w'.s,w'.lam,w'.σ,w'.H⟩ (fin T) p .none
  |cont=>exact k _ _ ⟨w'.s,w'.lam,w'.σ,w'.H⟩ (fin T) p .none
end
end
section
noncomputable def ia:List Int->List Int
 |[]=>[]
 |x::r=>if(ia r).contains x then ia r else x::ia r
theorem Qh(t:SetTable)(hp:t.place=#[])(hd:t.dummies=#[])(j:Nat):t.slot j=.empty:=by unfold SetTable.slot SetTable.has;refine ae hp<|ae hd ?_;rfl
theorem kj(p j:Nat):SetTable.below #[p] j=if p<j then 1 else 0:=by kernel_rfl
theorem Qi(t:SetTable)(p:Nat)(hp:t.place=#[p])(hd:t.dummies=#[])(j:Nat):t.slot j=if p=j then .live 0 else .empty:=by
 unfold SetTable.slot SetTable.has;rw [hp,hd,kj];by_cases h:p<j
 ·have cD:p≠j:=Nat.ne_of_lt h;simp [h,cD]
 ·by_cases e:p=j
  ·subst e;simp
  ·simp [h,e]
theorem DR{t:SetTable}{g:Nat->Int}{h:Int}{n:Nat}{p:SetTable.Probe}{s:SetTable.Slot}(e:t.slot p.j=s):SetTable.probe.go t g h (n+1) p=(match(generalizing:=false) s with|.empty=>some (.empty p.j p.dummy)|.dummy=>SetTable.probe.go t g h n (t.advance {p with dummy:=some p.j})|.live i=>if g i==h then some (.candidate p.j i (t.advance p))else SetTable.probe.go t g h n (t.advance p)):=by subst e;rfl
theorem MI(t:SetTable)(p:Nat)(hp:t.place=#[p])(hd:t.dummies=#[])(h:Int):∀(n:Nat)(pr:SetTable.Probe),pr.dummy=none->
  SetTable.probe.go t (λ aa=>h+1) h n pr=none\/∃j,SetTable.probe.go t (λ aa=>h+1) h n pr=some (.empty j none)/\p≠j:=by
 intro bN;induction bN with
 |zero=>
  intro pr zz;exact .inl rfl
 |succ n ih=>
  intro pr hn;rw [DR (Qi t p hp hd _)];by_cases e:p=pr.j
  ·rw [if_pos e];dsimp only;have cD:((h+1:Int)==h)=false:=by
    have:¬(h+1=h):=by lia
    simpa using this
   rw [cD];simp only [Bool.false_eq_true,if_false];refine ih _ ?_;unfold SetTable.advance;split
   ·exact hn
   ·exact hn
  ·rw [if_neg e];exact .inr ⟨pr.j,ae hn rfl,e⟩
structure DS(led:Bool)(t:SetTable):Prop where
 mask:t.mask=7
 dummies:t.dummies=#[]
 led:t.led=led
theorem ab5{led:Bool}{t:SetTable}(T:DS led t)(hp:t.place=#[])(h:Int)(x:Value):∃t' p,layNew t #[] h x=(#[(h,x)],t',false,false)/\DS led t'/\t'.place=#[p]/\t'.fits 1=true:=by
 have hs:t.freeSlot h=some ((t.probeStart h).j,false):=by
  unfold SetTable.freeSlot SetTable.probe;have:SetTable.probe.go t (λ aa=>h+1) h (10*SetTable.turns t.mask) (t.probeStart h)=some (.empty (t.probeStart h).j none):=by refine ae T.mask ?_;refine (?_:SetTable.probe.go t (λ aa=>h+1) h (219+1) (t.probeStart h)=_);refine ae (DR (Qh t hp T.dummies _)) ?_;rfl
  refine ae this ?_;rfl
 refine ⟨(t.put (t.probeStart h).j).1,(t.probeStart h).j,?_,⟨T.mask,?_,T.led⟩,?_,?_⟩
 ·have hf:(t.put (t.probeStart h).j).1.fits 1=true:=by unfold SetTable.put SetTable.fits SetTable.fill SetTable.has SetTable.insertAt;simp [hp,T.dummies,T.mask]
  unfold layNew;refine ae hs ?_;dsimp only;have e2:SetTable.insertAt (#[]:Array (Int×Value)) (t.put (t.probeStart h).j).2 (h,x)=#[(h,x)]:=by unfold SetTable.insertAt SetTable.put;simp [hp]
  refine ae e2 ?_;unfold SetTable.orStandIn;simp only [List.size_toArray,List.length_cons,List.length_nil,Nat.zero_add,hf,if_true,Bool.not_true]
 ·unfold SetTable.put SetTable.has;simp [T.dummies]
 ·unfold SetTable.put SetTable.insertAt;simp [hp]
 ·unfold SetTable.put SetTable.fits SetTable.fill SetTable.has SetTable.insertAt;simp [hp,T.dummies,T.mask]
theorem ab6{led:Bool}{t:SetTable}{p:Nat}(T:DS led t)(hp:t.place=#[p])(h g:Int)(x v:Value):∃es t' JE,layNew t #[(g,v)] h x=(es,t',false,JE)/\t'.fits 2=true/\t'.led=led/\(es=#[(g,v),(h,x)]\/es=#[(h,x),(g,v)])/\
  (t'.plain=true->∃a b,t'.place=#[a,b]/\a<b)/\t'.tooFull=false:=by
 rcases MI t p hp T.dummies h (10*SetTable.turns t.mask) (t.probeStart h) rfl with hn|⟨j,hj,cD⟩
 ·have hs:t.freeSlot h=none:=by unfold SetTable.freeSlot SetTable.probe;exact ae hn rfl
  refine ⟨#[(g,v),(h,x)],t.standIn 2,true,?_,by simpa using SetTable.standIn_fits t 2,T.led,.inl rfl,(λ h=>V_ h),?_⟩
  ·unfold layNew;refine ae hs ?_;rfl
  ·exact rfl
 ·have hs:t.freeSlot h=some (j,false):=by unfold SetTable.freeSlot SetTable.probe;refine ae hj ?_;rfl
  have hd:(t.put j).1.dummies=#[]:=by unfold SetTable.put SetTable.has;simp [T.dummies]
  by_cases ed:p<j
  ·have gq:(t.put j).1.place=#[p,j]:=by unfold SetTable.put SetTable.insertAt;simp [hp,kj,ed]
   have hf:(t.put j).1.fits 2=true:=by unfold SetTable.fits SetTable.fill;refine ae gq<|ae hd ?_;refine (?_:((2:Nat)==2&&decide (2+0<=t.mask))=true);refine ae T.mask ?_;rfl
   have e2:SetTable.insertAt (#[(g,v)]:Array (Int×Value)) (t.put j).2 (h,x)=#[(g,v),(h,x)]:=by unfold SetTable.insertAt SetTable.put;simp [hp,kj,ed]
   refine ⟨#[(g,v),(h,x)],(t.put j).1,false,?_,hf,T.led,.inl rfl,λ aa=>⟨p,j,gq,ed⟩,?_⟩
   ·unfold layNew;refine ae hs ?_;dsimp only;refine ae e2 ?_;unfold SetTable.orStandIn;simp only [List.size_toArray,List.length_cons,List.length_nil,Nat.zero_add,hf,if_true,Bool.not_true]
   ·unfold SetTable.tooFull SetTable.fill;refine ae gq<|ae hd ?_;refine (?_:decide (2*5>=t.mask*3)=false);refine ae T.mask ?_;rfl
  ·have ab7:j<p:=(Nat.lt_of_le_of_ne (Nat.le_of_not_lt ed) (Ne.symm cD))
   have gq:(t.put j).1.place=#[j,p]:=by unfold SetTable.put SetTable.insertAt;simp [hp,kj,ed]
   have hf:(t.put j).1.fits 2=true:=by unfold SetTable.fits SetTable.fill;refine ae gq<|ae hd ?_;refine (?_:((2:Nat)==2&&decide (2+0<=t.mask))=true);refine ae T.mask ?_;rfl
   have e2:SetTable.insertAt (#[(g,v)]:Array (Int×Value)) (t.put j).2 (h,x)=#[(h,x),(g,v)]:=by unfold SetTable.insertAt SetTable.put;simp [hp,kj,ed]
   refine ⟨#[(h,x),(g,v)],(t.put j).1,false,?_,hf,T.led,.inr rfl,λ aa=>⟨j,p,gq,ab7⟩,?_⟩
   ·unfold layNew;refine ae hs ?_;dsimp only;refine ae e2 ?_;unfold SetTable.orStandIn;simp only [List.size_toArray,List.length_cons,List.length_nil,Nat.zero_add,hf,if_true,Bool.not_true]
   ·unfold SetTable.tooFull SetTable.fill;refine ae gq<|ae hd ?_;refine (?_:decide (2*5>=t.mask*3)=false);refine ae T.mask ?_;rfl
end
section
abbrev gB(es:Array (Int×Value))(ep:Nat)(t:SetTable):Obj:={cls:=.type "set",dict:=none,data:=.set es ep t,slots:=#[]}
theorem MJ(prog:Program)(w:World){n:Int}{tk:Tok}{l:List (Int×Value)}(h:ElemsOf (intKind prog w) l):ElemsOf (intKind prog w) ((hashInt n,.int n tk)::l):=by
 intro e he;rcases List.mem_cons.mp he with rfl|he
 ·exact ⟨⟨n,intKind_is _ _ _ _,rfl⟩,rfl⟩
 ·exact h e he
section
variable{prog:Program} {w:World} {A:Around} {E:Value->Shared->Prop} {s:Shared} {led:Bool}
theorem Qj{S:Addr}{n:Int}{tk:Tok}{ep:Nat}{t:SetTable}{Q:Bool->Shared->Prop}(hs:s.heap.get? S=some (gB #[] ep t))(T:DS led t)(hp:t.place=#[])
  (h:∀h' MK t' p,h'.get? S=some (gB #[(hashInt n,.int n tk)] MK t')->DS led t'->t'.place=#[p]->t'.fits 1=true->Heap.SameBut S s.heap h'->Q true {s with heap:=h',toks:=s.toks+1}):
  wpAny (model prog w) A (setAdd S (.int n tk)) Q E s:=by
 have hf:t.fits 0=true:=by unfold SetTable.fits SetTable.fill;refine ae hp<|ae T.dummies<|ae T.mask ?_;rfl
 have lj:ElemsOf (intKind prog w) (#[]:Array (Int×Value)).toList:=λ e he=>by simp at he
 unfold setAdd;refine wpAny_holding (wpAny_bind ((intKind prog w).pyHash (k:=n) (intKind_is _ _ _ _) ?_));unfold setAddHashed setAddHashedIn;refine wpAny_holding (wpAny_bind (wpAny_setState_of (s:={s with toks:=s.toks+1}) hs rfl hf ?_));dsimp only;refine ae (byScan_of (knd:=intKind prog w) rfl (by decide) lj) ?_;refine ae (if_pos rfl) ?_;unfold setAddByScan;refine wpAny_bind ?_;refine wpAny_bind (wpAny_rule ?_);refine wpAny_bind (wpAny_setScan_of (knd:=intKind prog w) (k:=n) (s:={s with toks:=s.toks+1}) (intKind_is _ _ _ _) hs rfl hf lj ?_);refine ae (show List.findIdx? (λ e:Int×Value=>(intKind prog w).is n e.2) (#[]:Array (Int×Value)).toList=none from rfl) ?_;dsimp only;refine oM (ab5 T hp (hashInt n) (.int n tk)) λ t' p e1 T' jF xv=>?_;refine ae (show layNew t #[] ((intKind prog w).hash n) (Value.int n tk)=(#[(hashInt n,Value.int n tk)],t',false,false) from e1) ?_;dsimp only;refine wpAny_bind (m:=pure ()) (wpAny_pure ?_);have qg:t'.tooFull=false:=by unfold SetTable.tooFull SetTable.fill;refine ae jF<|ae T'.dummies<|ae T'.mask ?_;rfl
 have key:s.heap.get? S=some (gB #[] ep t)->(s.heap.update S (Obj.putSet #[(hashInt n,Value.int n tk)] t')).get? S=some (gB #[(hashInt n,Value.int n tk)] (ep+1) t'):=λ hs=>by have:=Heap.get?_update_self (Obj.putSet #[(hashInt n,Value.int n tk)] t') hs (rfl);rw [putSet_of _ t' rfl]at this;exact this
 have fin:=h _ (ep+1) t' p (key hs) T' jF xv (Heap.SameBut.update ..);have hz:(#[(hashInt n,Value.int n tk)]:Array (Int×Value)).size<=sizeLine:=by have:=dh;refine (?_:1<=sizeLine);exact j5 this
 split
 ·refine wpAny_bind ?_;refine ae (hashByValue_scannable 8 rfl) ?_;refine wpAny_pure ?_;simp only [plainKind,if_true];refine wpAny_bind (wpAny_storeSet_of (s:={s with toks:=s.toks+1}) hs rfl ?_ hz);refine ae qg ?_;exact wpAny_pure (wpAny_pure fin)
 ·refine wpAny_bind (wpAny_pure ?_);refine ae (if_pos rfl) ?_;refine wpAny_bind (wpAny_storeSet_of (s:={s with toks:=s.toks+1}) hs rfl ?_ hz);refine ae qg ?_;exact wpAny_pure (wpAny_pure fin)
theorem Qk{S:Addr}{n m:Int}{tk tm:Tok}{ep:Nat}{t:SetTable}{p:Nat}{Q:Bool->Shared->Prop}(hs:s.heap.get? S=some (gB #[(hashInt m,.int m tm)] ep t))(T:DS led t)(hp:t.place=#[p])(hf:t.fits 1=true)
  (h1:n=m->Q false {s with toks:=s.toks+1})
  (h2:n≠m->∀h' MK t' es,h'.get? S=some (gB es MK t')->t'.fits es.size=true->t'.led=led->(es=#[(hashInt m,.int m tm),(hashInt n,.int n tk)]\/es=#[(hashInt n,.int n tk),(hashInt m,.int m tm)])->
   (t'.plain=true->∃a b,t'.place=#[a,b]/\a<b)->Heap.SameBut S s.heap h'->Q true {s with heap:=h',toks:=s.toks+1}):
  wpAny (model prog w) A (setAdd S (.int n tk)) Q E s:=by
 have lj:ElemsOf (intKind prog w) (#[(hashInt m,Value.int m tm)]:Array (Int×Value)).toList:=MJ prog w λ e he=>by simp at he
 unfold setAdd;refine wpAny_holding (wpAny_bind ((intKind prog w).pyHash (k:=n) (intKind_is _ _ _ _) ?_));unfold setAddHashed setAddHashedIn;refine wpAny_holding (wpAny_bind (wpAny_setState_of (s:={s with toks:=s.toks+1}) hs rfl hf ?_));dsimp only;refine ae (byScan_of (knd:=intKind prog w) rfl (by show 1<scanBound;decide) lj) ?_;refine ae (if_pos rfl) ?_;unfold setAddByScan;refine wpAny_bind ?_;refine wpAny_bind (wpAny_rule ?_);refine wpAny_bind (wpAny_setScan_of (knd:=intKind prog w) (k:=n) (s:={s with toks:=s.toks+1}) (intKind_is _ _ _ _) hs rfl hf lj ?_);by_cases e:n=m
 ·subst e;refine ae (show List.findIdx? (λ e:Int×Value=>(intKind prog w).is n e.2) (#[(hashInt n,Value.int n tm)]:Array (Int×Value)).toList=some 0 from by simp [List.findIdx?_cons,intKind_is]) ?_
  exact wpAny_pure (wpAny_pure (h1 rfl))
 ·have i8:(intKind prog w).is n (Value.int m tm)=false:=by
   cases hq:(intKind prog w).is n (Value.int m tm)with
   |false=>rfl
   |true=>exact absurd ((intKind prog w).inj _ _ _ hq (intKind_is _ _ m tm)) e
  refine ae (show List.findIdx? (λ e:Int×Value=>(intKind prog w).is n e.2) (#[(hashInt m,Value.int m tm)]:Array (Int×Value)).toList=none from by simp [List.findIdx?_cons,i8]) ?_
  dsimp only;refine CZ (ab6 T hp (hashInt n) (hashInt m) (.int n tk) (.int m tm)) λ es t' JE e1 xv sA HJ gq qg=>?_;refine ae (show layNew t #[(hashInt m,Value.int m tm)] ((intKind prog w).hash n) (Value.int n tk)=(es,t',false,JE) from e1) ?_;dsimp only;have gF:es.size=2:=by rcases HJ with rfl|rfl<;>rfl
  have key:s.heap.get? S=some (gB #[(hashInt m,.int m tm)] ep t)->(s.heap.update S (Obj.putSet es t')).get? S=some (gB es (ep+1) t'):=λ hs=>by have:=Heap.get?_update_self (Obj.putSet es t') hs (rfl);rw [putSet_of _ t' rfl]at this;exact this
  have fin:=h2 e _ (ep+1) t' es (key hs) (by refine ae gF ?_;exact xv) sA HJ gq (Heap.SameBut.update ..);have hz:es.size<=sizeLine:=by have:=dh;exact dc (bS gF) this (by simp+arith only)
  cases JE with
  |false=>
   refine wpAny_bind (m:=pure ()) (wpAny_pure ?_);split
   ·refine wpAny_bind ?_;refine ae (hashByValue_scannable 8 rfl) ?_;refine wpAny_pure ?_;simp only [plainKind,if_true];refine wpAny_bind (wpAny_storeSet_of (s:={s with toks:=s.toks+1}) hs rfl ?_ hz);refine ae qg ?_;exact wpAny_pure (wpAny_pure fin)
   ·refine wpAny_bind (wpAny_pure ?_);simp only [if_true];refine wpAny_bind (wpAny_storeSet_of (s:={s with toks:=s.toks+1}) hs rfl ?_ hz);refine ae qg ?_;exact wpAny_pure (wpAny_pure fin)
  |true=>
   refine wpAny_bind (m:=rule "set.scan.the-table-gave-way") (wpAny_rule ?_);split
   ·refine wpAny_bind ?_;refine ae (hashByValue_scannable 8 rfl) ?_;refine wpAny_pure ?_;simp only [plainKind,if_true];refine wpAny_bind (wpAny_storeSet_of (s:={s with toks:=s.toks+1}) hs rfl ?_ hz);refine ae qg ?_;exact wpAny_pure (wpAny_pure fin)
   ·refine wpAny_bind (wpAny_pure ?_);simp only [if_true];refine wpAny_bind (wpAny_storeSet_of (s:={s with toks:=s.toks+1}) hs rfl ?_ hz);refine ae qg ?_;exact wpAny_pure (wpAny_pure fin)
end
end
section
section
variable{prog:Program} {w:World} {A:Around} {E:Value->Shared->Prop} {s:Shared} {led:Bool}
theorem z9{R:Result->Shared->Prop}{S I l:Addr}{i:Nat}{items:Array Value}{x:Value}(hI:s.heap.IsListIter I l i)(hl:s.heap.IsList l items)(hx:items[i]?=some x)
  (h:∀h',h'.IsListIter I l (i+1)->Heap.SameBut I s.heap h'->wpAny (model prog w) A.in1 (setAdd S x) (λ aa zK=>codeAny (model prog w) A (.builtin "set.update.loop" ⟨[.ref S,.ref I],[]⟩) R zK) (λ e s'=>R (.error e) s') {s with heap:=h'}):
  codeAny (model prog w) A (.builtin "set.update.loop" ⟨[.ref S,.ref I],[]⟩) R s:=by
 refine codeAny_builtin PyProof.Rows.F.entry_set_update_loop ?_;refine ae (Around.under_plainId PyProof.Rows.F.plain_set_update_loop _) ?_;refine (?_:wpAny _ A.in1 (pyNext (.ref I)>>=_) _ _ s);refine wpAny_bind (wpAny_pyNext_list_item hI hl hx λ h' hi hs=>?_);refine (?_:wpAny _ A.in1 (holding [x] (setAdd S x)>>=_) _ _ _);exact wpAny_bind (wpAny_holding (wpAny_mono (h h' hi hs) (λ aa zK k=>wpAny_pure ⟨plainId_quiet PyProof.Rows.F.plain_set_update_loop _,k⟩) λ aa aa e=>e))
theorem qh{R:Result->Shared->Prop}{S I l:Addr}{i:Nat}{items:Array Value}(hh:A.handled=none)(hI:s.heap.IsListIter I l i)(hl:s.heap.IsList l items)(hx:items[i]?=none)
  (h:∀h',Heap.ExtBut I s.heap h'->R (.ok (.ret .none)) {s with heap:=h'}):
  codeAny (model prog w) A (.builtin "set.update.loop" ⟨[.ref S,.ref I],[]⟩) R s:=by
 refine codeAny_builtin PyProof.Rows.F.entry_set_update_loop ?_;refine ae (Around.under_plainId PyProof.Rows.F.plain_set_update_loop _) ?_;refine (?_:wpAny _ A.in1 (pyNext (.ref I)>>=_) _ _ s);refine wpAny_bind (wpAny_pyNext_list_end (hh) hI hl hx λ h' hs=>?_);refine (?_:wpAny _ A.in1 (ret Value.none) _ _ _);exact wpAny_pure (h h' hs)
def JF(led:Bool)(h:Heap)(S:Addr)(ns:List Int):Prop:=∃es ep t ms,h.get? S=some (gB es ep t)/\t.fits es.size=true/\t.led=led/\(es.size=2->t.plain=true->∃a b,t.place=#[a,b]/\a<b)/\
 IntsAre (es.toList.map (·.2)) ms/\ms.Perm ns
theorem Ql{R:Result->Shared->Prop}{S I l:Addr}{ep:Nat}{t:SetTable}{items:Array Value}{ns:List Int}(hh:A.handled=none)(hs:s.heap.get? S=some (gB #[] ep t))(T:DS led t)(hp:t.place=#[])
  (hI:s.heap.IsListIter I l 0)(hl:s.heap.IsList l items)(hi:IntsAre items.toList ns)(hn:ns.length<=2)(xw:S≠I)(hSl:S≠l)(hlI:l≠I)
  (h:∀h' tk,JF led h' S (ia ns)->(∀b o,b≠S->b≠I->s.heap.get? b=some o->h'.get? b=some o)->R (.ok (.ret .none)) {s with heap:=h',toks:=tk}):
  codeAny (model prog w) A (.builtin "set.update.loop" ⟨[.ref S,.ref I],[]⟩) R s:=by
 have iC:t.fits 0=true:=by unfold SetTable.fits SetTable.fill;rw [hp,T.dummies,T.mask];rfl
 obtain ⟨l0⟩:=items;have nO:∀{h h':Heap}{b c:Addr}{zO:Array Value},h.IsList b zO->Heap.SameBut c h h'->b≠c->h'.IsList b zO:=λ ⟨o,ho,r⟩ hs hn=>⟨o,by rw [hs.2 _ hn];exact ho,r⟩
 have at2:∀{h h':Heap}{b c d:Addr}{k:Nat},h.IsListIter b d k->Heap.SameBut c h h'->b≠c->h'.IsListIter b d k:=λ ⟨o,ho,r⟩ hs hn=>⟨o,by rw [hs.2 _ hn];exact ho,r⟩
 cases hi with
 |nil=>
  refine qh hh hI hl rfl λ h' hx=>h h' s.toks ⟨#[],ep,t,[],hx _ _ xw hs,iC,T.led,λ e=>by simp at e,.nil,.refl _⟩ λ b o aa hb e=>hx b o hb e
 |@cons n tk vs xc hr=>
  refine z9 hI hl (x:=.int n tk) rfl λ gW uQ fe=>?_;refine Qj (s:={s with heap:=gW}) (hs:=by show gW.get? S=_;rw [fe.2 _ xw];exact hs) T hp λ lD Xw aas p ML pb ac3 Xx iB=>?_;have Xy:=nO (nO hl fe hlI) iB hSl.symm;have HV:=at2 uQ iB xw.symm;cases hr with
  |nil=>
   refine qh (s:={s with heap:=lD,toks:=s.toks+1}) hh HV Xy rfl λ h' hx=>h h' _ ⟨#[(hashInt n,.int n tk)],Xw,aas,[n],hx _ _ xw ML,Xx,pb.led,λ e=>by simp at e,.cons n tk .nil,?_⟩ λ b o uR hb e=>?_
   ·exact List.Perm.refl _
   ·exact hx b o hb (iB.extBut b o uR (fe.extBut b o hb e))
  |@cons m tm vs' ab8 hr'=>
   have JG:vs'=[]/\ab8=[]:=by
    cases hr' with
    |nil=>exact ⟨rfl,rfl⟩
    |cons=>simp at hn
   obtain ⟨rfl,rfl⟩:=JG;refine z9 (s:={s with heap:=lD,toks:=s.toks+1}) HV Xy (x:=.int m tm) rfl λ pg abu mN=>?_;have abv:pg.get? S=some (gB #[(hashInt n,.int n tk)] Xw aas):=by rw [mN.2 _ xw];exact ML
   have ME:=nO Xy mN hlI;have kp3:∀b o,b≠S->b≠I->s.heap.get? b=some o->pg.get? b=some o:=λ b o uR hb e=>mN.extBut b o hb (iB.extBut b o uR (fe.extBut b o hb e));refine Qk (s:={s with heap:=pg,toks:=s.toks+1}) abv pb ac3 Xx (λ e=>?_) λ cD PY abw ac4 adR abx aby TP ab9 Xz sy=>?_
   ·subst e;refine qh (s:={s with heap:=pg,toks:=s.toks+1+1}) hh abu ME rfl λ h' hx=>h h' _ ⟨#[(hashInt m,.int m tk)],Xw,aas,[m],hx _ _ xw abv,Xx,pb.led,λ e=>by simp at e,.cons m tk .nil,?_⟩ λ b o uR hb e=>hx b o hb (kp3 b o uR hb e);simp [ia]
   ·have ac5:=nO ME sy hSl.symm;have ac6:=at2 abu sy xw.symm;have hd:ia [n,m]=[n,m]:=by have:¬n=m:=λ e=>cD e.symm;simp [ia,this]
    refine qh (s:={s with heap:=PY,toks:=s.toks+1+1}) hh ac6 ac5 rfl λ h' hx=>?_;have kp4:∀b o,b≠S->b≠I->s.heap.get? b=some o->h'.get? b=some o:=λ b o uR hb e=>hx b o hb (sy.extBut b o uR (kp3 b o uR hb e));rcases ab9 with rfl|rfl
    ·exact h h' _ ⟨_,abw,ac4,[n,m],hx _ _ xw abx,aby,TP,λ aa=>Xz,.cons n tk (.cons m tm .nil),by rw [hd]⟩ kp4
    ·exact h h' _ ⟨_,abw,ac4,[m,n],hx _ _ xw abx,aby,TP,λ aa=>Xz,.cons m tm (.cons n tk .nil),by refine ae hd ?_;exact .swap _ _ _⟩ kp4
end
end
section
section
variable{prog:Program} {w:World} {A:Around} {E:Value->Shared->Prop} {s:Shared}
theorem Gx(a:Value){Q₁:Value->Shared->Prop}
  (h:Q₁ (.ref s.heap.objs.size) {s with heap:=s.heap.push {cls:=.type "set",dict:=none,data:=.set #[] 0 (.fresh 0 0 (!w.params.followText "set-order"))}}):
  codeAny (model prog w) A (.call (.builtin "set.__new__") ⟨[.type "set",a],[]⟩) (wants Q₁ E) s:=by
 refine codeAny_of_tree ?_;refine (?_:wpAny _ A.in1 (do checkBuiltinCall "set.__new__" ⟨[.type "set",a],[]⟩;again (.builtin "set.__new__" ⟨[.type "set",a],[]⟩)) _ _ s);refine wpAny_bind (wpAny_of_eq (PySem.F.newCall_set_1 a) (wpAny_pure ⟨plainId_quiet PySem.F.plain_set_new _,codeAny_builtin PySem.F.entry_set_new ?_⟩));refine ae (Around.under_plainId PySem.F.plain_set_new _) ?_;unfold Builtin.«set.__new__» Builtin.Frozenset.newClass;have yR:=sub_set_self;obtain ⟨hp,g,d,tk,os⟩:=s;dsimp only
 wp_walk
 refine wpAny_askSetting (wpAny_pure ?_);dsimp only;simp only [newObj];refine wpAny_bind (wpAny_alloc (wpAny_pure ?_));exact wpAny_pure h
set_option maxHeartbeats 3200000 in
theorem za{l:Addr}{items:Array Value}{ns:List Int}{Q:Value->Shared->Prop}(hh:A.handled=none)(hl:s.heap.IsList l items)(hi:IntsAre items.toList ns)(hn:ns.length<=2)
  (h:∀(h':Heap)(tk:Nat),JF (!w.params.followText "set-order") h' s.heap.objs.size (ia ns)->(∀b o,s.heap.get? b=some o->h'.get? b=some o)->Q (.ref s.heap.objs.size) {s with heap:=h',toks:=tk}):
  wpAny (model prog w) A (call (.type "set") [.ref l]) Q E s:=by
 refine Wb PySem.F.called_set.mro λ c tl adJ=>?_;have adi:=PySem.F.called_set.made;have yR:=PySem.F.called_set.sub;refine wpAny_call (codeAny_of_tree ?_);refine (?_:wpAny _ _ (callAny (.type "set") _) _ _ _);refine wpAny_pure ⟨Code.quiet_builtin _ (by decide+kernel),codeAny_builtin PySem.F.entry_type_call ?_⟩;refine ae (Around.under_plain (weight_type_call_type "set" [.ref l] []) rfl) ?_;have h1:=PySem.F.called_set.notType;have h2:=PySem.F.called_set.canCreate;have hct:=PySem.F.typeCall_set_1 (.ref l)
 repeat(any_goals (first|assumption|wp_step))
 refine codeAny_mono (Gx (.ref l) (E:=E) (Q₁:=λ gJ f9=>gJ=.ref s.heap.objs.size/\f9={s with heap:=s.heap.push {cls:=.type "set",dict:=none,data:=.set #[] 0 (.fresh 0 0 (!w.params.followText "set-order"))}}) ⟨rfl,rfl⟩) λ r f9 hr=>?_;cases r with
 |error e=>exact hr
 |ok fl=>
  cases fl with
  |ret gJ=>
   obtain ⟨rfl,rfl⟩:=hr;have hS:(s.heap.push {cls:=.type "set",dict:=none,data:=.set #[] 0 (.fresh 0 0 (!w.params.followText "set-order"))}).get? s.heap.objs.size=some (gB #[] 0 (.fresh 0 0 (!w.params.followText "set-order"))):=Heap.get?_push_size _ rfl;have hT:Shared.TypeIs {s with heap:=s.heap.push {cls:=.type "set",dict:=none,data:=.set #[] 0 (.fresh 0 0 (!w.params.followText "set-order"))}} (.ref s.heap.objs.size) "set":=⟨_,hS,rfl⟩
   have hli:=PySem.F.called_set.init.lookup;have hbi:=PySem.F.called_set.init.bind (.ref s.heap.objs.size)
   repeat(any_goals (first|assumption|wp_step))
   refine codeAny_mono (codeAny_call_builtin (R:=wants (λ r o6=>r=.none/\∃h' tk,o6={s with heap:=h',toks:=tk}/\
     JF (!w.params.followText "set-order") h' s.heap.objs.size (ia ns)/\(∀b o,s.heap.get? b=some o->h'.get? b=some o)) E) PySem.F.called_set.init.plain PySem.F.entry_set_init (check_set_init_1 hT ?_)) λ aag o6 XA=>?_
   ·obtain ⟨ol,HM,pj,nl,HN⟩:=hl;obtain ⟨adK,aat,adk,XB⟩:=ol;simp only at pj HN;subst pj;subst HN;have XC:(s.heap.push {cls:=.type "set",dict:=none,data:=.set #[] 0 (.fresh 0 0 (!w.params.followText "set-order"))}).get? l=some {cls:=.type "list",dict:=aat,data:=.seq items nl,slots:=XB}:=Heap.get?_push_of_some _ HM;have adL:=PySem.F.sub_list_set;have adM:=PySem.F.sub_list_frozenset;have cD:(Value.type "list"==Value.type "dict")=false:=by decide
    have kh:(s.heap.push {cls:=.type "set",dict:=none,data:=.set #[] 0 (.fresh 0 0 (!w.params.followText "set-order"))}).IsList l items:=⟨_,XC,rfl,nl,rfl⟩
    unfold Builtin.«set.__init__» noKeywords Builtin.Frozenset.updateFrom;generalize hPI:pyIter=PI
    wp_walk
    subst hPI;refine wpAny_pyIter_list kh ?_;refine wpAny_bind (wpAny_runValue ?_);have hlS:l<s.heap.objs.size:=Heap.lt_size HM;have z1:(s.heap.push {cls:=.type "set",dict:=none,data:=.set #[] 0 (.fresh 0 0 (!w.params.followText "set-order"))}).objs.size=s.heap.objs.size+1:=Heap.size_push ..;refine Ql (led:=!w.params.followText "set-order") (ep:=0) (t:=.fresh 0 0 (!w.params.followText "set-order")) (ns:=ns) (by simp [hh]) (Heap.get?_push_of_some _ hS) ⟨rfl,rfl,rfl⟩ rfl ⟨_,Heap.get?_push_size _ rfl,rfl,rfl⟩ ⟨_,Heap.get?_push_of_some _ XC,rfl,nl,rfl⟩ hi hn
     (by refine ae z1 ?_;exact Nat.ne_of_lt (Nat.lt_succ_self _)) (Nat.ne_of_gt hlS) (by refine ae z1 ?_;exact Nat.ne_of_lt (Nat.lt_succ_of_lt hlS)) λ h' tk Qm hk=>?_
    refine (?_:wpAny _ _ _ _ _ _);refine wpAny_pure ?_;refine (?_:wpAny _ _ (ret Value.none) _ _ _);refine wpAny_pure ⟨rfl,h',tk,rfl,Qm,λ b o e=>?_⟩;have hb:b<s.heap.objs.size:=Heap.lt_size e;refine hk b o (Nat.ne_of_lt hb) ?_ (Heap.get?_push_of_some _ (Heap.get?_push_of_some _ e));refine ae z1 ?_;exact Nat.ne_of_lt (Nat.lt_succ_of_lt hb)
   ·cases aag with
    |error e=>exact XA
    |ok ac7=>
     cases ac7 with
     |ret r=>
      obtain ⟨rfl,h',tk,rfl,hS',e6⟩:=XA
      repeat(any_goals (first|assumption|wp_step))
      exact h _ _ hS' e6
     |_=>exact XA.elim
  |_=>exact hr.elim
end
end
section
namespace SF
theorem ab_:Manifest.owners.lookup (String.ofList ['r','o','t','a','r','e','t','i','_','t','e','s'].reverse)=some Manifest.sig_set_iterator:=by kernel_rfl
theorem f5:Slot "set_iterator" "__next__" "set_iterator.__next__":=
 .of (owner:="set_iterator") (n:="__next__") (rfl) (rfl) (by decide+kernel) (by decide+kernel)
  (Or.inl rfl) (rfl)
theorem mC:entryFor table "set_iterator.__next__"=some Builtin.«set_iterator.__next__»:=entryFor_of_tree (by kernel_rfl)
theorem nQ(a:Value):argsOk "set_iterator.__next__" ⟨[a],[]⟩:=by exact rfl
theorem zb:entryFor table "set.__iter__"=some Builtin.«frozenset.__iter__»:=
 entryFor_alias (id':="frozenset.__iter__") (by kernel_rfl) rfl (by decide+kernel) (by kernel_rfl)
end SF
section
variable{prog:Program} {w:World} {A:Around} {E:Value->Shared->Prop} {s:Shared}
theorem xx{src:Source}{n:Nat}{Q:Nat->Shared->Prop}(hn:n≠0)(h:∀i dr,i<n->Q i {s with drawn:=dr}):wpAny (model prog w) A (choose src n) Q E s:=λ Γ p hΓ=>by unfold choose;rw [Sem.wp_choose];refine ⟨hn,?_⟩;rw [show(Sem.pure ((model prog w).w.draws src (s.drawn.get src) %n):Sem Nat)=pure _ from rfl,Sem.wp_pure'];exact h _ _ (Nat.mod_lt _ (Nat.pos_of_ne_zero hn))
abbrev MM(first:Value)(i:Nat)(S:Value)(n ep:Nat):Obj:={cls:=.type "set_iterator",dict:=none,data:=.fields #[first,.int i 0,S,.int n 0,.int ep 0],slots:=#[]}
inductive gP(w:World)(S:Addr)(es:Array (Int×Value))(ep:Nat)(t:SetTable)(h:Heap)(I:Addr):List Value->Prop
 |text {i:Nat}:w.params.followText "set-order"=true->h.get? I=some (MM (.int 0 0) i (.ref S) es.size ep)->gP w S es ep t h I (((pickOrder (w.params.setOrder S ep) es).toList.map (·.2)).drop i)
 |plain {i slot:Nat}:w.params.followText "set-order"=false->t.led=true->(!t.plain&&decide (es.size>1))=false->h.get? I=some (MM (.int slot 0) i (.ref S) es.size ep)->SetTable.below t.place slot=i->
   (∀j,i<=j->j<es.size->∃a,t.place[j]?=some a/\SetTable.below t.place (a+1)=j+1)->gP w S es ep t h I ((es.toList.map (·.2)).drop i)
 |drawn {i:Nat} {P:Addr} {ps:List Nat}:w.params.followText "set-order"=false->h.get? I=some (MM (.ref P) i (.ref S) es.size ep)->h.get? P=some {cls:=.type "tuple",data:=.seq (ps.map λ(k:Nat)=>rawInt k).toArray}->I≠P->(∀k∈ps,k<es.size)->
   gP w S es ep t h I ((ps.map λ k=>((es[k]?).map (·.2)).getD .none).drop i)
theorem Qo{t:SetTable}{slot i:Nat}(h:SetTable.below t.place slot=i):SetTable.below t.place ((slot:Int).toNat)=i:=by simpa using h
theorem wc{A:Around}{E:Value->Shared->Prop}{s:Shared}{Q:Fin->Shared->Prop}(hh:A.handled=none)(h:∀h' e,(∀b o,s.heap.get? b=some o->h'.get? b=some o)->(∃o,h'.get? e=some o/\o.cls=.type "StopIteration")->E (.ref e) {s with heap:=h'}):
  wpAny (model prog w) A (newExc (.type "StopIteration") []>>=λ e=>(raiseNew e:Sem Fin)) Q E s:=by
 refine wpAny_bind ?_;simp only [newExc,newTuple];refine wpAny_bind (wpAny_newObj_type ?_ (Nat.zero_le _));refine wpAny_bind (m:=firstArgMember _ _) (wpAny_of_eq (a:=Value.none) (by first|rfl|(simp only [firstArgMember];rfl)) ?_);refine wpAny_newObj_type ?_ (by size_fits);unfold raiseNew;refine wpAny_bind (wpAny_handled ?_);rw [hh];refine wpAny_bind (wpAny_pure (wpAny_throw ?_));exact h _ _ (λ b o e=>Heap.get?_push_of_some _ (Heap.get?_push_of_some _ e)) ⟨_,Heap.get?_push_size _ rfl,rfl⟩
theorem Qp{α β:Type}{f:α->β}{L:List α}{i:Nat}{e:α}(h:L[i]?=some e):(L.map f).drop i=f e::(L.map f).drop (i+1):=by obtain ⟨hl,rfl⟩:=List.getElem?_eq_some_iff.mp h;rw [List.drop_eq_getElem_cons (by simpa using hl),List.getElem_map]
theorem Qq{α β:Type}{f:α->β}{L:List α}{i:Nat}(h:L[i]?=none):(L.map f).drop i=[]:=List.drop_eq_nil_of_le (by rw [List.length_map];exact List.getElem?_eq_none_iff.mp h)
theorem HW{S I:Addr}{es:Array (Int×Value)}{ep:Nat}{t:SetTable}{l:List Value}{Q:Option Value->Shared->Prop}(hS:s.heap.get? S=some (gB es ep t))(hf:t.fits es.size=true)(b:gP w S es ep t s.heap I l)
  (hi:∀v rest,l=v::rest->∀h',gP w S es ep t h' I rest->Heap.SameBut I s.heap h'->Q (some v) {s with heap:=h'})
  (he:l=[]->A.handled=none/\∀h',(∀b o,b≠I->s.heap.get? b=some o->h'.get? b=some o)->Q none {s with heap:=h'}):wpAny (model prog w) A (pyNext (.ref I)) Q E s:=by
 have hE:∀{A'}{E':Value->Shared->Prop}{Q':Array (Int×Value)->Shared->Prop},Q' es s->wpAny (model prog w) A' (setEntries S) Q' E' s:=λ hq=>wpAny_setEntries_of hS rfl hf hq;have fin:∀{gW:Heap}{e:Addr},l=[]->(∀b o,b≠I->s.heap.get? b=some o->gW.get? b=some o)->(∃o,gW.get? e=some o/\o.cls=.type "StopIteration")->
   wpAny (model prog w) A (do if<-isInstance (.ref e) (.type "StopIteration")then pure none else throw (.ref e)) Q E {s with heap:=gW}:=λ hl hk ⟨o,ho,hc⟩=>by
  refine wpAny_bind (wpAny_isInstance (T:="StopIteration") (b:=true) ⟨o,ho,hc⟩ isSubtype_stop ?_);exact wpAny_pure ((he hl).2 _ hk)
 unfold pyNext;cases b with
 |@text i nR hI=>
  have hT:s.TypeIs (.ref I) "set_iterator":=⟨_,hI,rfl⟩
  refine wpAny_bind (wpAny_attempt (wpAny_callSpecial?_slot (name:=Str.ofString "__next__") hT SF.f5 (wpAny_call_entry SF.f5 hT SF.mC ?_ (SF.nQ _))));show wpAny _ _ (fieldsOf (.ref I)>>=_) _ _ _;refine wpAny_bind (wpAny_fieldsOf hI rfl ?_);show wpAny _ _ (setEntries S>>=_) _ _ _;refine wpAny_bind (hE ?_);rw [if_neg (by simp)];show wpAny _ _ (setNext S _ _ _>>=_) _ _ _;refine wpAny_bind ?_;unfold setNext;refine wpAny_bind (wpAny_setState_of hS rfl hf ?_);dsimp only;refine wpAny_bind ?_;unfold setsByText;refine wpAny_bind (wpAny_askSetting (wpAny_pure ?_));rw [if_pos (show(model prog w).w.params.followText "set-order"=true from nR)];rw [if_neg (by simp)];refine wpAny_bind ?_;unfold setWalk;refine wpAny_bind (wpAny_setState_of hS rfl hf ?_);dsimp only;refine wpAny_bind ?_;unfold setsByText;refine wpAny_bind (wpAny_askSetting (wpAny_pure ?_));rw [if_pos (show(model prog w).w.params.followText "set-order"=true from nR)];refine wpAny_bind (wpAny_askSetting (wpAny_pure ?_));refine wpAny_pure ?_;cases ho:(pickOrder (w.params.setOrder S ep) es)[i]?with
  |none=>
   have hl:=Qq (f:=λ e:Int×Value=>e.2) (Array.getElem?_toList.trans ho);rw [show(pickOrder ((model prog w).w.params.setOrder S ep) es)[(i:Int).toNat]?=none from ho];dsimp only [Option.map_none];refine wpAny_bind (wpAny_setField_rec hI (by simp) λ gW uQ fe=>?_);refine wc (s:={s with heap:=gW}) (by simp [(he hl).1]) λ lD e hk he=>?_;exact fin hl (λ b o hb q=>hk b o (fe.extBut b o hb q)) he
  |some e=>
   rw [show(pickOrder ((model prog w).w.params.setOrder S ep) es)[(i:Int).toNat]?=some e from ho];dsimp only [Option.map_some];refine wpAny_bind (wpAny_setField_rec hI (by simp) λ gW uQ fe=>?_);refine wpAny_bind (wpAny_setField_rec uQ (by simp) λ lD HV iB=>?_);exact wpAny_pure ⟨_,rfl,wpAny_pure (hi _ _ (Qp (f:=λ e:Int×Value=>e.2) (Array.getElem?_toList.trans ho)) lD (.text nR HV) (fe.trans iB))⟩
 |@plain i slot nR sA hdr hI hb hj=>
  have hT:s.TypeIs (.ref I) "set_iterator":=⟨_,hI,rfl⟩
  refine wpAny_bind (wpAny_attempt (wpAny_callSpecial?_slot (name:=Str.ofString "__next__") hT SF.f5 (wpAny_call_entry SF.f5 hT SF.mC ?_ (SF.nQ _))));show wpAny _ _ (fieldsOf (.ref I)>>=_) _ _ _;refine wpAny_bind (wpAny_fieldsOf hI rfl ?_);show wpAny _ _ (setEntries S>>=_) _ _ _;refine wpAny_bind (hE ?_);rw [if_neg (by simp)];show wpAny _ _ (setNext S _ _ _>>=_) _ _ _;refine wpAny_bind ?_;unfold setNext;refine wpAny_bind (wpAny_setState_of hS rfl hf ?_);dsimp only;refine wpAny_bind ?_;unfold setsByText;refine wpAny_bind (wpAny_askSetting (wpAny_pure ?_));rw [if_neg (show¬(model prog w).w.params.followText "set-order"=true by show¬w.params.followText "set-order"=true;rw [nR];exact Bool.false_ne_true)];refine wpAny_ite_split (λ f_=>by have XD:(!t.plain&&decide (es.size>1))=true:=f_;rw [hdr]at XD;exact V_ XD) (λ aa=>?_)
  refine wpAny_bind ?_;refine wpAny_ite_split (λ f_=>absurd f_ (by rw [sA];simp)) (λ aa=>wpAny_pure ?_);rw [Qo hb];cases ho:es[i]?with
  |none=>
   have hl:=Qq (f:=λ e:Int×Value=>e.2) (Array.getElem?_toList.trans ho);dsimp only;refine wpAny_pure ?_;dsimp only;refine wpAny_bind (wpAny_setField_rec hI (by simp) λ gW uQ fe=>?_);refine wc (s:={s with heap:=gW}) (by simp [(he hl).1]) λ lD e hk he=>?_;exact fin hl (λ b o hb q=>hk b o (fe.extBut b o hb q)) he
  |some e=>
   refine bA (hj i (Nat.le_refl _) (Array.getElem?_eq_some_iff.mp ho).1) λ a ha Hz=>?_;rw [ha];dsimp only;refine wpAny_pure ?_;dsimp only;refine wpAny_bind (wpAny_setField_rec hI (by simp) λ gW uQ fe=>?_);refine wpAny_bind (wpAny_setField_rec uQ (by simp) λ lD HV iB=>?_);exact wpAny_pure ⟨_,rfl,wpAny_pure (hi _ _ (Qp (f:=λ e:Int×Value=>e.2) (Array.getElem?_toList.trans ho)) lD (.plain (slot:=a+1) nR sA hdr HV Hz λ j h1 h2=>hj j (Nat.le_of_lt h1) h2) (fe.trans iB))⟩
 |@drawn i P ps nR hI hP cD nS=>
  have hT:s.TypeIs (.ref I) "set_iterator":=⟨_,hI,rfl⟩
  refine wpAny_bind (wpAny_attempt (wpAny_callSpecial?_slot (name:=Str.ofString "__next__") hT SF.f5 (wpAny_call_entry SF.f5 hT SF.mC ?_ (SF.nQ _))));show wpAny _ _ (fieldsOf (.ref I)>>=_) _ _ _;refine wpAny_bind (wpAny_fieldsOf hI rfl ?_);show wpAny _ _ (setEntries S>>=_) _ _ _;refine wpAny_bind (hE ?_);rw [if_neg (by simp)];show wpAny _ _ (seqItems? (.ref P)>>=_) _ _ _;refine wpAny_bind (wpAny_seqItems hP rfl ?_);have hg:(ps.map λ(k:Nat)=>rawInt k).toArray[(i:Int).toNat]?=ps[i]?.map λ(k:Nat)=>rawInt k:=by rw [Int.toNat_natCast,List.getElem?_toArray,List.getElem?_map]
  dsimp only;rw [hg];cases ho:ps[i]?with
  |none=>
   have hl:=Qq (f:=λ k=>((es[k]?).map (·.2)).getD .none) ho;dsimp only [Option.map_none];refine wpAny_bind (wpAny_setField_rec hI (by simp) λ h₀ ac8 ac9=>?_);refine wpAny_bind (wpAny_setField_rec ac8 (by simp) λ gW uQ fe=>?_);refine wc (s:={s with heap:=gW}) (by simp [(he hl).1]) λ lD e hk he=>?_;exact fin hl (λ b o hb q=>hk b o (fe.extBut b o hb (ac9.extBut b o hb q))) he
  |some k=>
   have hk:k<es.size:=nS k (List.mem_of_getElem? ho);dsimp only [Option.map_some];show wpAny _ _ (setNextDrawn S _ _>>=_) _ _ _;refine wpAny_bind ?_;unfold setNextDrawn;refine wpAny_bind (wpAny_setState_of hS rfl hf ?_);dsimp only;rw [if_neg (by simp)];rw [show es[(k:Int).toNat]?=some es[k] from by rw [Int.toNat_natCast];exact Array.getElem?_eq_getElem hk];refine wpAny_pure ?_;refine wpAny_bind (wpAny_setField_rec hI (by simp) λ gW uQ fe=>?_);refine wpAny_pure ⟨_,rfl,wpAny_pure ?_⟩;have e2:((es[k]?).map (·.2)).getD .none=(es[k]).2:=by rw [Array.getElem?_eq_getElem hk];rfl
   rw [show(es.toList.get ⟨k,hk⟩).snd=(es[k]).2 from rfl,<-e2];exact hi _ _ (Qp (f:=λ k=>((es[k]?).map (·.2)).getD .none) ho) gW (.drawn nR uQ (by rw [fe.2 _ cD.symm];exact hP) cD nS) fe
theorem UE{S I:Addr}{es:Array (Int×Value)}{ep:Nat}{t:SetTable}{l:List Value}{v:Value}{rest:List Value}{Q:Option Value->Shared->Prop}(hS:s.heap.get? S=some (gB es ep t))(hf:t.fits es.size=true)(b:gP w S es ep t s.heap I l)(hl:l=v::rest)
  (h:∀h',gP w S es ep t h' I rest->Heap.SameBut I s.heap h'->Q (some v) {s with heap:=h'}):wpAny (model prog w) A (pyNext (.ref I)) Q E s:=
 HW hS hf b (λ v' r' e=>(List.cons.inj (hl.symm.trans e)).1▸(List.cons.inj (hl.symm.trans e)).2▸h) λ e=>nomatch hl.symm.trans e
theorem XE{S I:Addr}{es:Array (Int×Value)}{ep:Nat}{t:SetTable}{l:List Value}{Q:Option Value->Shared->Prop}(hh:A.handled=none)(hS:s.heap.get? S=some (gB es ep t))(hf:t.fits es.size=true)(b:gP w S es ep t s.heap I l)(hl:l=[])
  (h:∀h',(∀b o,b≠I->s.heap.get? b=some o->h'.get? b=some o)->Q none {s with heap:=h'}):wpAny (model prog w) A (pyNext (.ref I)) Q E s:=
 HW hS hf b (λ v' r' e=>nomatch hl.symm.trans e) λ aa=>⟨hh,h⟩
end
end
section
section
variable{prog:Program} {w:World} {A:Around} {E:Value->Shared->Prop} {s:Shared}
theorem pB{α:Type}(next:Nat->Nat)(f k:Nat)(l:List α)(out:Array α){x:α}{i:Nat}(hi:next k %l.length=i)(hx:l[i]?=some x):pickOrder.go next (f+1) k l out=pickOrder.go next f (k+1) (l.eraseIdx i) (out.push x):=by subst hi;show(match l[next k %l.length]?with|some x=>pickOrder.go next f (k+1) (l.eraseIdx (next k %l.length)) (out.push x)|none=>out)=_;exact ae hx rfl
theorem z_{α:Type}(next:Nat->Nat):∀(l:List α),l.length<=2->((pickOrder next l.toArray).toList.Perm l)
 |[],_=>.refl _
 |[a],_=>by
  refine (?_:((pickOrder.go next 1 0 [a] #[]).toList).Perm [a]);refine ae (pB next 0 0 [a] #[] (Nat.mod_one _) rfl) ?_;exact .refl _
 |[a,b],_=>by
  refine (?_:((pickOrder.go next 2 0 [a,b] #[]).toList).Perm [a,b]);rcases Nat.mod_two_eq_zero_or_one (next 0)with e|e
  ·refine ae (pB next 1 0 [a,b] #[] e rfl) ?_;refine (?_:((pickOrder.go next (0+1) 1 [b] #[a]).toList).Perm [a,b]);refine ae (pB next 0 1 [b] #[a] (Nat.mod_one _) rfl) ?_;exact .refl _
  ·refine ae (pB next 1 0 [a,b] #[] e rfl) ?_;refine (?_:((pickOrder.go next (0+1) 1 [a] #[b]).toList).Perm [a,b]);refine ae (pB next 0 1 [a] #[b] (Nat.mod_one _) rfl) ?_;exact .swap _ _ _
 |_::_::_::_,h=>absurd h (by simp)
theorem aau{Q:List Nat->Shared->Prop}(h:∀l dr,l.Perm [0,1]->Q l {s with drawn:=dr}):wpAny (model prog w) A (drawOrder 2 [0,1]) Q E s:=by
 have uL:∀(x y:Nat)(s:Shared)(Q:List Nat->Shared->Prop),(∀dr,Q [x,y] {s with drawn:=dr})->wpAny (model prog w) A (drawOrder 1 [y]>>=λ r=>pure (x::r)) Q E s:=λ x y s Q h=>by
  refine wpAny_bind ?_;refine (?_:wpAny _ _ (choose _ _>>=_) _ _ _);refine wpAny_bind (xx (by simp) λ i dr hi=>?_);have:i=0:=by simp at hi;exact hi
  subst this;refine (?_:wpAny _ _ (drawOrder 0 _>>=_) _ _ _);refine wpAny_bind (wpAny_pure (wpAny_pure (wpAny_pure (h dr))))
 refine (?_:wpAny _ _ (choose _ _>>=_) _ _ _);refine wpAny_bind (xx (by decide) λ i dr hi=>?_);have:i=0\/i=1:=by simp at hi;lia
 rcases this with rfl|rfl
 ·exact uL 0 1 _ _ λ XF=>h [0,1] XF (.refl _)
 ·exact uL 1 0 _ _ λ XF=>h [1,0] XF (.swap _ _ _)
theorem z'(a b k:Nat):SetTable.below #[a,b] k=if b<k then 2 else if a<k then 1 else 0:=by kernel_rfl
theorem Aa{es:Array (Int×Value)}{t:SetTable}(hf:t.fits es.size=true)(hz:es.size<=2)(gq:es.size=2->t.plain=true->∃a b,t.place=#[a,b]/\a<b)(hd:(!t.plain&&decide (es.size>1))=false):
  SetTable.below t.place 0=0/\∀j,j<es.size->∃a,t.place[j]?=some a/\SetTable.below t.place (a+1)=j+1:=by
 have nS:t.place.size=es.size:=by unfold SetTable.fits at hf;simp only [Bool.and_eq_true,beq_iff_eq]at hf;exact hf.1
 by_cases h2:es.size=2
 ·have hp:t.plain=true:=by
   cases h:t.plain with
   |true=>rfl
   |false=>rw [h,h2]at hd;exact tf_ hd
  refine yK (gq h2 hp) λ a b e ed=>?_;refine ae e ?_;refine ⟨by kernel_rfl,λ j hj=>?_⟩;have:j=0\/j=1:=by lia
  rcases this with rfl|rfl
  ·refine ⟨a,rfl,?_⟩;rw [z',if_neg (Nat.not_lt_of_le ed),if_pos (Nat.lt_succ_self _)]
  ·refine ⟨b,rfl,?_⟩;rw [z',if_pos (Nat.lt_succ_self _)]
 ·clear hf gq hd;revert nS;generalize t.place=plc;obtain ⟨pl⟩:=plc;intro nS
  match pl,nS with
  |[],nS=>exact ⟨rfl,λ j hj=>by simp at nS;lia⟩
  |[p],nS=>
   refine ⟨rfl,λ j hj=>?_⟩;have h1:es.size=1:=nS.symm;have:j=0:=Nat.le_antisymm (dc hj (bS h1) (by simp+arith only)) (Nat.zero_le _);subst this;exact ⟨p,rfl,by rw [kj];simp⟩
  |_::_::_,nS=>simp at nS;lia
theorem Qr{es:Array (Int×Value)}(h:es.size=2):(List.map (λ k=>(Option.map (λ x=>x.snd) es[k]?).getD Value.none) [0,1]).Perm (es.toList.map (·.2)):=by
 obtain ⟨l⟩:=es;rcases l with _|⟨a,_|⟨b,_|⟨c,r⟩⟩⟩
 ·exact nomatch h
 ·exact nomatch h
 ·exact .refl _
 ·exact nomatch Nat.succ.inj (Nat.succ.inj h)
theorem Qt{S:Addr}{es:Array (Int×Value)}{ep:Nat}{t:SetTable}{Q:Value->Shared->Prop}(hS:s.heap.get? S=some (gB es ep t))(hf:t.fits es.size=true)(hz:es.size<=2)(sA:t.led=true\/w.params.followText "set-order"=true)
  (gq:es.size=2->t.plain=true->∃a b,t.place=#[a,b]/\a<b)
  (h:∀h' dr I l,(∀b o,s.heap.get? b=some o->h'.get? b=some o)->s.heap.get? I=none->gP w S es ep t h' I l->l.Perm (es.toList.map (·.2))->Q (.ref I) {s with heap:=h',drawn:=dr}):
  wpAny (model prog w) A (pyIter (.ref S)) Q E s:=by
 have hT:s.TypeIs (.ref S) "set":=⟨_,hS,rfl⟩
 have hn0:s.heap.get? s.heap.objs.size=none:=Heap.get?_none_of_le (Nat.le_refl _);refine wpAny_pyIter_slot hT PySem.F.slot_set_iter (wpAny_call_entry PySem.F.slot_set_iter hT SF.zb ?_ (PySem.F.args_set_iter_1 _));refine (?_:wpAny _ _ (Builtin.Frozenset.addrOf (.ref S)>>=_) _ _ _);refine wpAny_bind (wpAny_pure ?_);refine (?_:wpAny _ _ (Builtin.Frozenset.sizeOf S>>=_) _ _ _);refine wpAny_bind (wpAny_bind (wpAny_setEntries_of hS rfl hf (wpAny_pure ?_)));refine (?_:wpAny _ _ (setDrawn S>>=_) _ _ _);refine wpAny_bind ?_;unfold setDrawn;refine wpAny_bind (wpAny_setState_of hS rfl hf ?_);dsimp only;refine wpAny_bind ?_;unfold setsByText;refine wpAny_bind (wpAny_askSetting (wpAny_pure (wpAny_pure ?_)));have MK:∀{s':Shared}{A':Around}{Q':Nat->Shared->Prop},s'.heap.get? S=some (gB es ep t)->Q' ep s'->wpAny (model prog w) A' (setEpoch S) Q' (λ e s'=>E e s') s':=λ hs hq=>by unfold setEpoch;exact wpAny_bind (wpAny_setState_of hs rfl hf (wpAny_pure hq))
 have tl:∀(first:Value)(s':Shared)(hs:s'.heap.get? S=some (gB es ep t))(l:List Value),(∀b o,s.heap.get? b=some o->s'.heap.get? b=some o)->s'.gens=s.gens->s'.toks=s.toks->s'.os=s.os->
   gP w S es ep t (s'.heap.push (MM first 0 (.ref S) es.size ep)) s'.heap.objs.size l->l.Perm (es.toList.map (·.2))->
   wpAny (model prog w) A.in1 (do ret (<-newFields "set_iterator" [first,rawInt 0,.ref S,rawInt es.size,rawInt (<-setEpoch S)])) (λ fin s'=>∃v,fin=.done (.ret v)/\∃T nx,s'.TypeIs v T/\typeLookup (.type T) "__next__"=pure (some nx)/\Q v s') (λ e s'=>E e s') s':=λ first s' hs l hk hg ht ho hb hp=>by
  refine wpAny_bind (MK hs ?_);refine wpAny_bind (wpAny_newObj_type (wpAny_pure ⟨_,rfl,"set_iterator",_,⟨_,Heap.get?_push_size _ rfl,rfl⟩,SF.f5.lookup,?_⟩));have:=h (s'.heap.push (MM first 0 (.ref S) es.size ep)) s'.drawn s'.heap.objs.size l (λ b o e=>Heap.get?_push_of_some _ (hk b o e)) (by
   cases e:s.heap.get? s'.heap.objs.size with
   |none=>rfl
   |some o=>exact absurd (Heap.lt_size (hk _ _ e)) (Nat.lt_irrefl _)) hb hp
  obtain ⟨hh,g,dr,tk,os⟩:=s';simp only at hg ht ho;subst hg;subst ht;subst ho;exact this
 cases nR:w.params.followText "set-order"with
 |true=>
  refine ae (if_neg (by show¬((!w.params.followText "set-order")&&_)=true;rw [nR];exact Bool.false_ne_true)) ?_;refine wpAny_bind (wpAny_pure ?_);refine tl _ s hS _ (λ aa aa e=>e) rfl rfl rfl (.text nR (Heap.get?_push_size _ rfl)) ?_;refine ae List.drop_zero ?_;have:=z_ (w.params.setOrder S ep) es.toList (by simpa using hz);exact (by simpa using this:(pickOrder (w.params.setOrder S ep) es).toList.Perm es.toList).map _
 |false=>
  have aav:t.led=true:=by
   rcases sA with h|h
   ·exact h
   ·rw [nR]at h;exact V_ h
  cases hd:(!t.plain&&decide (es.size>1))with
  |true=>
   refine ae (if_pos (by show((!w.params.followText "set-order")&&(!t.plain&&decide (es.size>1)))=true;rw [nR,hd];rfl)) ?_;have h2:es.size=2:=by simp at hd;exact Nat.le_antisymm hz hd.2
   refine wpAny_bind ?_;have e2:drawOrder es.size (List.range es.size)=drawOrder 2 [0,1]:=by refine ae h2 ?_;rfl
   refine ae e2 ?_;refine aau λ l dr hl=>?_;refine wpAny_bind (wpAny_newTuple ?_ (by have h3:=hl.length_eq;have h4:=dh;rw [List.length_map,h3];simp;exact j5 h4));have ed:S<s.heap.objs.size:=Heap.lt_size hS;refine tl (.ref s.heap.objs.size) {s with heap:=s.heap.push {cls:=.type "tuple",data:=.seq (l.map λ(i:Nat)=>rawInt i).toArray},drawn:=dr} (Heap.get?_push_of_some _ hS) _ (λ aa aa e=>Heap.get?_push_of_some _ e) rfl rfl rfl
    (.drawn (ps:=l) nR (Heap.get?_push_size _ rfl) (Heap.get?_push_of_some _ (Heap.get?_push_size _ rfl)) ?_ ?_) ?_
   ·rw [Heap.size_push];exact Nat.succ_ne_self _
   ·intro k hk;have:=hl.mem_iff.mp hk;simp at this;lia
   ·refine ae List.drop_zero ?_;exact (hl.map _).trans (Qr h2)
  |false=>
   refine ae (if_neg (by show¬((!w.params.followText "set-order")&&(!t.plain&&decide (es.size>1)))=true;rw [hd];simp)) ?_;refine wpAny_bind (wpAny_pure ?_);refine tl _ s hS _ (λ aa aa e=>e) rfl rfl rfl (.plain (slot:=0) (i:=0) nR aav hd (Heap.get?_push_size _ rfl) ?_ λ j aa hj=>?_) (List.Perm.refl _)
   ·exact (Aa hf hz gq hd).1
   ·exact (Aa hf hz gq hd).2 j hj
end
end
section
section
variable{prog:Program} {w:World} {A:Around} {E:Value->Shared->Prop} {s:Shared}
theorem Qu{r:Addr}{Q:Bool->Shared->Prop}(hT:s.TypeIs (.ref r) "set")(h:Q false s):wpAny (model prog w) A (Builtin.List.listLengthHint (.ref r)) Q E s:=by
 unfold Builtin.List.listLengthHint;refine wpAny_bind (wpAny_specialOf hT PySem.F.slot_set_len.lookup ?_);generalize hid:("set.__len__":String)=id0
 wp_delta
 refine ae (show splitId id0=some ("set","__len__") from by subst hid;decide+kernel) ?_;subst hid;refine wpAny_bind (wpAny_isInstance (T:="set") (b:=true) hT (by rw [isSubtype_type];kernel_rfl) ?_);refine wpAny_ite_split (λ f_=>absurd f_ (by decide)) (λ aa=>?_);refine wpAny_ite_split (λ aa=>?_) (λ f_=>absurd (by decide+kernel) f_);refine wpAny_bind (wpAny_typeOf hT ?_);exact wpAny_pure h
theorem Qv{R:Result->Shared->Prop}{S I D:Addr}{es:Array (Int×Value)}{ep:Nat}{t:SetTable}{res:Value}(hh:A.handled=none)(hf:t.fits es.size=true)(hz:es.size<=2)(XG:I≠S)(uS:D≠I)(hDS:D≠S)(hpk:(pickOrder (w.params.setOrder S ep) es).size=es.size):
  ∀(l:List Value)(s:Shared)(acc:Array Value)(c:Nat),l.length+acc.size<=10->s.heap.get? S=some (gB es ep t)->gP w S es ep t s.heap I l->(∀P ps,s.heap.get? P=some {cls:=.type "tuple",data:=.seq ps}->P≠D)->s.heap.get? D=some {cls:=.type "list",dict:=none,data:=.seq acc c,slots:=#[]}->
   (∀h' c',(∀b o,b≠I->b≠D->s.heap.get? b=some o->h'.get? b=some o)->h'.get? D=some {cls:=.type "list",dict:=none,data:=.seq (acc++l.toArray) c',slots:=#[]}->R (.ok (.ret res)) {s with heap:=h'})->
   codeAny (model prog w) A (.builtin "list.extend.loop" ⟨[.ref D,.ref I,res],[]⟩) R s:=by
 intro l;have nK:=dh;induction l with
 |nil=>
  intro s acc c hlen hS b hP hD h;refine codeAny_builtin PySem.F.entry_extend_loop ?_;refine ae (Around.under_plainId PySem.F.plain_extend_loop _) ?_;refine (?_:wpAny _ A.in1 (pyNext (.ref I)>>=_) _ _ s);refine wpAny_bind (XE (by simp [hh]) hS hf b rfl λ h' hk=>?_);refine wpAny_pure (h h' c (λ b o hb aa e=>hk b o hb e) ?_);refine ae (show acc++([]:List Value).toArray=acc by exact rfl) ?_;exact hk _ _ uS hD
 |cons v rest ih=>
  intro s acc c hlen hS b hP hD h;refine codeAny_builtin PySem.F.entry_extend_loop ?_;refine ae (Around.under_plainId PySem.F.plain_extend_loop _) ?_;refine (?_:wpAny _ A.in1 (pyNext (.ref I)>>=_) _ _ s);refine wpAny_bind (UE hS hf b rfl λ gW adN fe=>?_);have abz:gW.get? D=some {cls:=.type "list",dict:=none,data:=.seq acc c,slots:=#[]}:=by refine ae (fe.2 _ uS) ?_;exact hD
  refine (?_:wpAny _ _ (updateSeq D (·.push v)>>=_) _ _ _);simp only [List.length_cons]at hlen;refine wpAny_bind (wpAny_updateSeq (s:={s with heap:=gW}) abz rfl ?_ (dc nK hlen (by simp+arith only)) (by simp;exact dc nK hlen (by simp+arith only)));have HX:=Heap.get?_update_self (Obj.mapSeq (·.push v)) abz rfl;have iB:Heap.SameBut D gW (gW.update D (Obj.mapSeq (·.push v))):=Heap.SameBut.update ..;have ac_:gP w S es ep t (gW.update D (Obj.mapSeq (·.push v))) I rest:=by
   cases adN with
   |text g1 g2=>exact .text g1 (by refine ae (iB.2 _ uS.symm) ?_;exact g2)
   |plain g1 g2 g3 g4 g5 g6=>exact .plain g1 g2 g3 (by refine ae (iB.2 _ uS.symm) ?_;exact g4) g5 g6
   |@drawn i P ps g1 g2 g3 g4 g5=>
    have XH:P≠D:=by rw [fe.2 _ g4.symm]at g3;exact hP P _ g3
    exact .drawn g1 (by refine ae (iB.2 _ uS.symm) ?_;exact g2) (by refine ae (iB.2 _ XH) ?_;exact g3) g4 g5
  refine wpAny_pure ⟨plainId_quiet PySem.F.plain_extend_loop _,?_⟩;refine ih {s with heap:=gW.update D (Obj.mapSeq (·.push v))} (acc.push v) _ (by simp;exact bQ hlen (by simp+arith only)) (by show Heap.get? _ _=_;refine ae (iB.2 _ hDS.symm)<|ae (fe.2 _ XG.symm) ?_;exact hS) ac_ (λ P ps hp e=>?_) HX λ h' c' hk z8=>?_
  ·subst e;rw [show({s with heap:=gW.update P (Obj.mapSeq (·.push v))}:Shared).heap.get? P=_ from HX]at hp;simp [Obj.mapSeq]at hp
  ·refine h h' c' (λ b o hb Hz e=>hk b o hb Hz ?_) ?_
   ·refine (?_:Heap.get? _ _=_);refine ae (iB.2 _ Hz)<|ae (fe.2 _ hb) ?_;exact e
   ·refine ae z8 ?_;simp
theorem Gy{S:Addr}{es:Array (Int×Value)}{ep:Nat}{t:SetTable}{Q:List Value->Shared->Prop}(hh:A.handled=none)(hS:s.heap.get? S=some (gB es ep t))(hf:t.fits es.size=true)(hz:es.size<=2)(sA:t.led=true\/w.params.followText "set-order"=true)
  (gq:es.size=2->t.plain=true->∃a b,t.place=#[a,b]/\a<b)
  (h:∀h' dr l,(∀b o,s.heap.get? b=some o->h'.get? b=some o)->l.Perm (es.toList.map (·.2))->Q l {s with heap:=h',drawn:=dr}):
  wpAny (model prog w) A (collect (.ref S)) Q E s:=by
 have ed:S<s.heap.objs.size:=Heap.lt_size hS;have hpk:(pickOrder (w.params.setOrder S ep) es).size=es.size:=by have:=(z_ (w.params.setOrder S ep) es.toList (by simpa using hz)).length_eq;simpa using this
 unfold collect;refine wpAny_bind (wpAny_runValue (codeAny_builtin entry_proto_collect' ?_));refine ae (Around.under_plainId PySem.F.plain_proto_collect _) ?_;refine (?_:wpAny _ A.in1 (newList []>>=λ l=>again (.builtin "list.__iadd__" ⟨[l,.ref S],[]⟩)) _ _ s);refine wpAny_bind (wpAny_newObj_type ?_);refine wpAny_pure ⟨plainId_quiet PySem.F.plain_list_iadd _,codeAny_builtin entry_list_iadd' ?_⟩;refine ae (Around.under_plainId PySem.F.plain_list_iadd _) ?_;have hD:(s.heap.push {cls:=.type "list",data:=.seq ([]:List Value).toArray}).get? s.heap.objs.size=some {cls:=.type "list",data:=.seq #[]}:=Heap.get?_push_size _ rfl;have TQ:(s.heap.push {cls:=.type "list",data:=.seq ([]:List Value).toArray}).get? S=some (gB es ep t):=Heap.get?_push_of_some _ hS;have XI:s.heap.objs.size≠S:=Nat.ne_of_gt ed;refine (?_:wpAny _ A.in1 (Builtin.List.listExtendWith (.ref s.heap.objs.size) (.ref S) (.ref s.heap.objs.size)) _ _ _);unfold Builtin.List.listExtendWith;refine wpAny_bind (wpAny_typeOf (T:="set") ⟨_,TQ,rfl⟩ ?_);have h1:Builtin.List.listSameRef (.ref s.heap.objs.size) (.ref S)=false:=decide_eq_false XI;simp only [h1,show(Value.type "set"==Value.type "list")=false by decide,show(Value.type "set"==Value.type "tuple")=false by decide,Bool.or_false,Bool.false_eq_true,if_false];refine wpAny_bind (Qt (s:={s with heap:=s.heap.push {cls:=.type "list",data:=.seq ([]:List Value).toArray}}) TQ hf hz sA gq λ lD dr I l XJ hI b hl=>?_);have ML:=XJ _ _ TQ;have HX:=XJ _ _ hD;have uS:s.heap.objs.size≠I:=λ e=>by subst e;rw [hD]at hI;exact uC hI
 have XG:I≠S:=λ e=>by subst e;rw [TQ]at hI;exact uC hI
 refine wpAny_bind (wpAny_holding (Qu ⟨_,ML,rfl⟩ ?_));refine wpAny_ite_split (λ aa=>?_) (λ f_=>absurd (by decide:(false||_)=true) f_);refine wpAny_bind (wpAny_rule ?_);refine wpAny_bind ?_;refine (?_:wpAny _ _ (updateSeq s.heap.objs.size (·.push .none)>>=λ aa=>updateSeq s.heap.objs.size (·.pop)) _ _ _);refine wpAny_bind (wpAny_updateSeq HX rfl ?_);have abA:=Heap.get?_update_self (Obj.mapSeq (·.push Value.none)) HX rfl;refine wpAny_updateSeq (hz:=Nat.succ_pos _) abA rfl ?_;have abB:=Heap.get?_update_self (Obj.mapSeq (·.pop)) abA rfl;have mN:Heap.SameBut s.heap.objs.size lD (lD.update s.heap.objs.size (Obj.mapSeq (·.push Value.none))):=Heap.SameBut.update ..;have sy:Heap.SameBut s.heap.objs.size (lD.update s.heap.objs.size (Obj.mapSeq (·.push Value.none))) ((lD.update s.heap.objs.size (Obj.mapSeq (·.push Value.none))).update s.heap.objs.size (Obj.mapSeq (·.pop))):=Heap.SameBut.update ..;have hs:=mN.trans sy;have ac':gP w S es ep t ((lD.update s.heap.objs.size (Obj.mapSeq (·.push Value.none))).update s.heap.objs.size (Obj.mapSeq (·.pop))) I l:=by
  cases b with
  |text g1 g2=>exact .text g1 (by refine ae (hs.2 _ uS.symm) ?_;exact g2)
  |plain g1 g2 g3 g4 g5 g6=>exact .plain g1 g2 g3 (by refine ae (hs.2 _ uS.symm) ?_;exact g4) g5 g6
  |@drawn i P ps g1 g2 g3 g4 g5=>
   have XH:P≠s.heap.objs.size:=λ e=>by subst e;rw [HX]at g3;simp at g3
   exact .drawn g1 (by refine ae (hs.2 _ uS.symm) ?_;exact g2) (by refine ae (hs.2 _ XH) ?_;exact g3) g4 g5
 have uT:l.length=es.size:=by refine ae hl.length_eq ?_;exact List.length_map ..
 refine wpAny_pure ⟨plainId_quiet PySem.F.plain_extend_loop _,Qv (A:=A) hh hf hz XG uS XI hpk l _ #[] _ (by simp;exact nc (Nat.le_trans (bS uT) hz) rfl) (by show Heap.get? _ _=_;refine ae (hs.2 _ XI.symm) ?_;exact ML) ac' (λ P ps hp e=>?_) abB λ h' c' hk z8=>?_⟩
 ·subst e;rw [show Heap.get? _ _=_ from abB]at hp;simp [Obj.mapSeq]at hp
 ·refine (?_:wpAny _ A (load s.heap.objs.size>>=_) _ _ _);refine wpAny_bind (wpAny_load z8 ?_);have:=h h' dr l (λ b o e=>?_) hl
  ·refine wpAny_pure ?_;simpa using this
  ·have cD:b≠s.heap.objs.size:=Nat.ne_of_lt (Heap.lt_size e);have e1:=Heap.get?_push_of_some {cls:=.type "list",data:=.seq ([]:List Value).toArray} e;refine hk b o (λ q=>by subst q;rw [e1]at hI;exact uC hI) cD ?_;refine (?_:Heap.get? _ _=_);refine ae (hs.2 _ cD) ?_;exact XJ _ _ e1
end
end
section
set_option genInjectivity false
set_option genSizeOf false
theorem MN:∀ns:List Int,(ia ns).length<=ns.length:=by
 intro bN;induction bN with
 |nil=>
  skip;exact Nat.le_refl _
 |cons x r ih=>
  skip;have:=ih;unfold ia;split
  ·simp;exact Nat.le_succ_of_le this
  ·simp;exact this
theorem IntsAre.kN{l:List Value}{vs:List Value}{ms:List Int}(hp:l.Perm vs)(h:IntsAre vs ms):∃ns,IntsAre l ns/\ns.Perm ms:=by
 induction hp generalizing ms with
 |nil=>cases h;exact ⟨[],.nil,.refl _⟩
 |cons x _ ih=>
  cases h with
  |cons n t hr=>refine bA (ih hr) λ ns h1 h2=>?_;exact ⟨n::ns,.cons n t h1,h2.cons _⟩
 |swap x y l=>
  cases h with
  |cons n t hr=>cases hr with
   |cons m u hr=>exact ⟨_,.cons m u (.cons n t hr),.swap _ _ _⟩
 |trans _ _ xy rO=>refine bA (rO h) λ ns h1 h2=>?_;refine bA (xy h1) λ xc h3 h4=>?_;exact ⟨xc,h3,h4.trans h2⟩
section
variable{Γ:dv}
inductive wd(σ:U)(P:PV):List AV->Prop
 |mk {l:Nat} {xs:List AV} {ns:List Int}:σ[l]?=some (.list xs)->fm xs=some ns->ns.length<=2->P (.ref σ.length) (σ++[.set (ia ns)])->wd σ P [.ref l]
theorem DT:jv Γ (.type "set") wd:=by
 intro K x v P Q hc;induction hc with
 |@mk l xs ns hx jA hz p=>
  intro hv k;apply hv.k1;intro u hu;apply hu.kr;intro a hl;refine K.w.CE hl hx jA λ ps n g1 e2=>za (items:=intItems ps.toArray) (ns:=ns) K.R.h (IsL.il g1) (by refine cQ e2 ?_;simpa [intItems]using mZ ps) hz λ h' tk Qm hk=>?_;obtain ⟨es,ep,t,ms,q1,q2,q3,q4,q5,q6⟩:=Qm;refine K.kn k (K.w.H.new (s':={K.w.s with heap:=h',toks:=tk}) (a:=K.w.s.heap.objs.size) (ao:=.set (ia ns)) hk (Heap.get?_none_of_le (Nat.le_refl _)) rfl rfl (.set ⟨es,ep,t,ms,q1,q2,?_,q4,q5,q6,Nat.le_trans (MN ns) hz⟩)) p (.ref (by refine cQ K.w.H.len ?_;exact List.getElem?_concat_length ..));refine ae q3 ?_;cases Γ.G.w.params.followText "set-order"
  ·exact .inl rfl
  ·exact .inr rfl
inductive dZ(σ:U)(P:PV):List AV->Prop
 |x {vs:List AV}:qe σ P vs->dZ σ P vs
 |s {l:Nat} {ns:List Int}:σ[l]?=some (.set ns)->P (.ref σ.length) (σ++[.list ((iS ns).map .int)])->dZ σ P [.ref l]
theorem jj(W:Wd Γ.G):jv Γ (.builtin "sorted") dZ:=by
 intro K x v P Q hc;induction hc with
 |x h=>exact Js W K h
 |@s l ns hx p=>
  intro hv k;apply hv.k1;intro u hu;apply hu.kr;intro a hl;cases K.w.H.gJ _ _ _ hl hx with
  |set hs=>
   obtain ⟨es,ep,t,ms,q1,q2,q3,q4,q5,q6,q7⟩:=hs;have hz:es.size<=2:=by have h1:(es.toList.map (·.2)).length=ms.length:=q5.length;have h2:=q6.length_eq;simp at h1;exact fJ q7 (bS h2) (bS h1) (by simp+arith only)
   refine ox (G:=Γ.G) (ns:=ns) (Gy (A:=K.A.in1) (by simp [K.R.h]) q1 q2 hz q3 q4 λ h' dr l hk hp=>bA (IntsAre.kN hp q5) λ ks k1 k2=>⟨ks,h',_,dr,rfl,hk,k1,k2.trans q6,by rw [hp.length_eq];simp;exact fb hz rfl⟩)
    λ b h' tk dr out n hk hb hL hi=>K.kn k (K.w.H.new (s':={K.w.s with heap:=h',toks:=tk,drawn:=dr}) (a:=b) (ao:=.list ((iS ns).map .int)) hk hb rfl rfl (.list hL (bB.Dj hi) (by rw [List.length_map,(jh _).length_eq];exact nc q7 rfl))) p (.ref (by refine cQ K.w.H.len ?_;exact List.getElem?_concat_length ..))
end
structure Gl(G:bC):Prop where
 keep:∀c:d_,keepIn G.K (.ref c.bw)=true
 HY:cA G "mark_of" (.ref Fn.o2.bw)
 Ab:cA G "told_term" (.ref Fn.lB.bw)
 rb:cA G "paper_of_edge" (.ref Fn.iJ.bw)
 xA:cA G "joined_row" (.ref Fn.j6.bw)
 TR:cA G "is_op" (.ref Fn.yO.bw)
 ja:cA G "_law_pick" (.ref Fn.dH.bw)
 lJ:cA G "_law_term" (.ref Fn.hJ.bw)
 wg:cA G "_law_more" (.ref Fn.more.bw)
 sC:cA G "_law_sides" (.ref Fn.mT.bw)
 qi:cA G "_law_labels" (.ref Fn.l7.bw)
 mD:cA G "_law_are_right" (.ref Fn.hO.bw)
 XK:cA G "Whys" (.ref d_.eb.bw)
 Bank:cA G "Bank" (.ref d_.bank.bw)
 MO:cA G "Unions" (.ref d_.gI.bw)
 MP:cA G "Levels" (.ref d_.levels.bw)
 xB:∃t,cA G "MOST_NODES" (.int 100000 t)
 xC:∃t,cA G "MOST_PARTS" (.int 20000 t)
 uU:∃t,cA G "MOST_LEVELS" (.int 100 t)
 len:cA G "len" (.builtin "len")
 max:cA G "max" (.builtin "max")
 min:cA G "min" (.builtin "min")
 sum:cA G "sum" (.builtin "sum")
 sorted:cA G "sorted" (.builtin "sorted")
 tuple:cA G "tuple" (.type "tuple")
 list:cA G "list" (.type "list")
 int:cA G "int" (.type "int")
 str:cA G "str" (.type "str")
 set:cA G "set" (.type "set")
 zip:cA G "zip" (.type "zip")
 range:cA G "range" (.type "range")
 Ac:cA G "enumerate" (.type "enumerate")
theorem JH{Γ:dv}(W:Wd Γ.G){x:String}{i:Int}{pos:Pos}(g:∃t,cA Γ.G x (.int i t))(hk:Γ.sc.names.lookup (Str.ofString x)=some .globalImplicit)(hd:(Str.ofString x==("__debug__":Str))=false):
  bf Γ (.Name (Str.ofString x) pos) (aY i):=let⟨_,h⟩:=g;I7 W h hk hd
end
end Mine
end
section
open PySem PySem.W PySem.Calls PyProof.Rows
namespace Mine
section
set_option maxRecDepth 100000
noncomputable def zc(st:SharedT->Thread->Option (SharedT×Thread))(ok:Thread->Bool):Nat->SharedT->Thread->Option SharedT
  |0,_,_=>none
  |n+1,s,t=>match through t with
    |true=>some s
    |false=>match ok t with
      |false=>none
      |true=>match st s t with
        |some (s',t')=>zc st ok n s' t'
        |none=>none
theorem UG{tb:String->Option Builtin}{p:Program}{w:World}{ab':Nat}{ann:Option Value}:
    ∀{n:Nat}{s s':SharedT}{t:Thread},zc (stepT (denote tb) p w) (stepOk ab' ann) n s t=some s'->topRun tb p w ab' ann n s.abs t=some s'.abs:=by
  intro bN;induction bN with
  |zero=>
    intro zz zz zz h;cases h
  |succ n ih=>
    intro s s' t h;unfold zc at h;unfold topRun;cases he:through t with
    |true=>rw [he]at h;cases h;rfl
    |false=>
      rw [he]at h;cases hk:stepOk ab' ann t with
      |false=>rw [hk]at h;cases h
      |true=>
        rw [hk]at h;cases hs:stepT (denote tb) p w s t with
        |none=>rw [hs]at h;cases h
        |some r=>obtain ⟨o6,aas⟩:=r;rw [hs]at h;dsimp only;rw [stepT_spec hs];exact ih h
noncomputable def MQ:List Obj->Nat->BT->BT
  |[],_,t=>t
  |o::r,i,t=>MQ r (i+1) (t.ins i o)
noncomputable def T0(P:Params):BT:=MQ (boot_heap P).objs.toList 0 .nil
theorem aaw(P:Params):absHeap (T0 P) 11 {}=boot_heap P:=by kernel_rfl
noncomputable def MR(w:World)(os:OsState):SharedT:=⟨T0 w.params,11,{},#[],boot_drawn,boot_toks,os⟩
theorem UH(w:World)(os:OsState):(MR w os).abs=⟨boot_heap w.params,#[],boot_drawn,boot_toks,os⟩:=by unfold MR SharedT.abs;rw [aaw]
noncomputable def DU{α:Type}(mods:List Str)(p q:Program)(loose:List Str)(Xt:Shared->Bool)(Yf:Shared->α)(h₀:Heap)(s:Shared):=
  ((staticsOk mods h₀ s.heap&&namesBound p s.heap&&gensDone s&&laidKept h₀ s.heap),openSeen q loose mods Xt true s,Yf s)
theorem UI{p q:Program}{loose:List Str}{Xt:Shared->Bool}{α:Type}{Yf:Shared->α}{Ya:World->α}{N:Nat}
    (e:opening p=plainProg p.main.scope.names)(hN:Nat.ble 600 N=true)(f:∀s,fenceModules? p s=some s)
    (size:∀P,((boot_heap P).isNs mainGlobals,(boot_heap P).objs.size,(boot_heap P).nsMap mainGlobals "__annotations__")=(true,11,some (.ref 6)))
    (bW:∀(w:World),(λ os=>(zc (stepT (denote treeTable) p w) (stepOk 11 (some (.ref 6))) N (MR w os) (topStub p)).map λ s=>DU (importedModules p.main.body) p q loose Xt Yf (boot_heap w.params) s.abs)
       =λ aa=>some (true,openGood q loose,Ya w)):LeftO p q loose Xt Yf Ya N:=λ w=>by
  obtain ⟨⟨h,gs,d,k,os⟩,e1,e'⟩:=Option.map_eq_some_iff.mp (boot_open e hN f w);obtain ⟨rfl,rfl,rfl,rfl⟩:h=boot_heap w.params/\gs=#[]/\d=boot_drawn/\k=boot_toks:=by simpa using e'
  obtain ⟨z1,z2,z3⟩:_/\_/\_:=by simpa only [Prod.mk.injEq]using size w.params
  obtain ⟨s,r,l⟩:=Option.map_eq_some_iff.mp (congrFun (bW w) os);obtain ⟨l1,l2,l3⟩:_/\_/\_:=by simpa only [DU,Prod.mk.injEq]using l
  have r:=UG r;rw [UH]at r;have t:topFrom treeTable p w N ⟨boot_heap w.params,#[],boot_drawn,boot_toks,os⟩=some s.abs:=by unfold topFrom;dsimp only;rw [z1,z2,z3,r];refine (?_:(match staticsOk (importedModules p.main.body) (boot_heap w.params) s.abs.heap&&namesBound p s.abs.heap&&gensDone s.abs&&laidKept (boot_heap w.params) s.abs.heap with|true=>_|false=>_)=_);rw [l1]
  unfold openEnds;rw [e1];refine (?_:(topFrom treeTable p w N _).map _=_);rw [t];exact congrArg some (Prod.ext l2 l3)
theorem aax(P:Params):((boot_heap P).isNs mainGlobals,(boot_heap P).objs.size,(boot_heap P).nsMap mainGlobals "__annotations__")=(true,11,some (.ref 6)):=by kernel_rfl
end
section
set_option maxRecDepth 100000
set_option maxHeartbeats 0
noncomputable def qj(p:Program):Program:={p with main:={p.main with body:=(p.main.body.drop 31).take 1}}
noncomputable def md:List Str:=["HeapError","TermFault","PaperFault","LimitFault","MOST_NODES","MOST_PARTS","MOST_LEVELS","mark_of","told_term","paper_of_edge","joined_row","Whys","is_op","Bank","Unions","Heap","Levels",
 "_law_pick","_law_term","_law_more","_law_sides","_law_labels","_law_are_right","_wall"]
end
section
set_option maxRecDepth 1000000
set_option maxHeartbeats 0
noncomputable def aT(p:Program):List Nat->Stmt
 |[i]=>((p.main.body.drop i).head?).getD (.Pass default)
 |[i,j]=>match(p.main.body.drop i).head? with
  |some (.ClassDef _ _ _ b _ _ _ _ _ _ _)=>((b.drop j).head?).getD (.Pass default)
  |_=>.Pass default
 |_=>.Pass default
noncomputable def nT:Stmt->Arguments
 |.FunctionDef _ a _ _ _ _ _ _ _ _=>a
 |_=>default
noncomputable def bt:Stmt->List Stmt
 |.FunctionDef _ _ b _ _ _ _ _ _ _=>b
 |_=>[]
noncomputable def bc:Stmt->Scope
 |.FunctionDef _ _ _ _ _ _ s _ _ _=>s
 |_=>default
noncomputable def fnK(st:Stmt)(name qual:Str)(XM:List (Str×Addr))(dV kV doc pm:Value)(an:Option Addr)(cdv ct:Value):Obj:=
 {cls:=.type "function",data:=.func {name,qualname:=qual,params:=nT st,body:=.stmts (bt st),scope:=bc st,globals:=mainGlobals,closure:=XM,defaults:=dV,kwdefaults:=kV,doc,pyModule:=pm,annotations:=an,code:=cdv,closureTuple:=ct,builtins:=builtinsNs}}
noncomputable def vS(x:String)(t:Tok):Value:=.str (Str.ofString x) t
noncomputable def fR(p:Program)(A:Addr)(jb:List Nat)(n q m:String)(t:Tok):Addr×Obj:=(A,fnK (aT p jb) (Str.ofString n) (Str.ofString q) [] .none .none .none (vS m t) none (.ref (A -1)) .none)
noncomputable def fC(p:Program)(A:Addr)(jb:List Nat)(n q m:String)(t:Tok)(c:Addr):Addr×Obj:=(A,fnK (aT p jb) (Str.ofString n) (Str.ofString q) [(Str.ofString "__class__",513)] .none .none .none (vS m t) none (.ref (A -1)) (.ref c))
noncomputable def cV(A r:Addr)(a b:Value)(n q:String)(t:Tok)(ln ac:Int)(u:Nat):Array Value:=#[vS n t,vS q (t+1),vS "/claim/cut.py" (t+2),.int ln 0,.int ac 0,.int 0 0,.int 0 0,.int 3 0,.ref r,.bool true,.int 181 0,.ref (r+1),.none,a,b,.ref (A -1),.int u 0,.int ln 0,vS "/claim/cut.py" (u+1)]
noncomputable def cK(A r:Addr)(a b:Value)(n q:String)(t:Tok)(ln ac:Int)(u:Nat):Addr×Obj:=(A,{cls:=.type "code",data:=.fields (cV A r a b n q t ln ac u)})
noncomputable def cR(A:Addr):String->String->Tok->Int->Int->Nat->Addr×Obj:=cK A (A -3) .none .none
noncomputable def cS(A:Addr):String->String->Tok->Int->Int->Nat->Addr×Obj:=cK A (A -5) (.ref (A -3)) (.ref (A -2))
noncomputable def en(P:Params)(k:String)(t:Tok)(v:Value):DictEntry:={hash:=PyData.keyHash P (Str.ofString k),key:=vS k t,val:=v}
noncomputable def tR(A:Addr)(n:String)(t u:Tok):Addr×Obj:=(A,{cls:=.type "type",data:=.cls {name:=Str.ofString n,bases:=[.type "object"],mro:=[.ref A,.type "object"],ns:=A -1,qualname:=Str.ofString n},slots:=#[none,none,some (vS n t),some (vS n u),some (.builtin "object.__new__"),some (.bool true)]})
noncomputable def KA(p:Program)(P:Params):Frag:=[
fR p 109 [10] "mark_of" "mark_of" "alikeheap.whys" 301,
fR p 116 [11] "told_term" "told_term" "alikeheap.whys" 301,
fR p 121 [12] "paper_of_edge" "paper_of_edge" "alikeheap.whys" 301,
fR p 126 [13] "joined_row" "joined_row" "alikeheap.whys" 301,
fR p 140 [14,0] "__init__" "Whys.__init__" "alikeheap.whys" 301,
fR p 147 [14,1] "renewed" "Whys.renewed" "alikeheap.whys" 301,
fR p 154 [14,2] "path" "Whys.path" "alikeheap.whys" 301,
fR p 168 [14,4] "between" "Whys.between" "alikeheap.whys" 301,
fR p 173 [14,5] "of_edge" "Whys.of_edge" "alikeheap.whys" 301,
fR p 185 [16] "is_op" "is_op" "alikeheap.terms" 427,
fR p 199 [17,0] "__init__" "Bank.__init__" "alikeheap.terms" 427,
fR p 206 [17,1] "size" "Bank.size" "alikeheap.terms" 427,
fR p 211 [17,2] "take" "Bank.take" "alikeheap.terms" 427,
fR p 218 [17,3] "require" "Bank.require" "alikeheap.terms" 427,
fR p 239 [17,6] "cut" "Bank.cut" "alikeheap.terms" 427,
fR p 246 [17,7] "op" "Bank.op" "alikeheap.terms" 427,
fR p 253 [17,8] "kids" "Bank.kids" "alikeheap.terms" 427,
fR p 265 [17,10] "term" "Bank.term" "alikeheap.terms" 427,
fR p 272 [17,11] "weight" "Bank.weight" "alikeheap.terms" 427,
fR p 307 [19,0] "__init__" "Unions.__init__" "alikeheap.unions" 566,
fR p 314 [19,1] "make" "Unions.make" "alikeheap.unions" 566,
fR p 321 [19,2] "size" "Unions.size" "alikeheap.unions" 566,
fR p 328 [19,3] "find" "Unions.find" "alikeheap.unions" 566,
fR p 335 [19,4] "merge" "Unions.merge" "alikeheap.unions" 566,
fR p 342 [19,5] "members" "Unions.members" "alikeheap.unions" 566,
fR p 361 [19,8] "back" "Unions.back" "alikeheap.unions" 566,
fR p 368 [19,9] "cut" "Unions.cut" "alikeheap.unions" 566,
fR p 389 [21,0] "__init__" "Heap.__init__" "alikeheap.heap" 671,
fR p 396 [21,1] "size" "Heap.size" "alikeheap.heap" 671,
fR p 401 [21,2] "node" "Heap.node" "alikeheap.heap" 671,
fR p 406 [21,3] "add" "Heap.add" "alikeheap.heap" 671,
fR p 420 [21,5] "look_at" "Heap.look_at" "alikeheap.heap" 671,
fR p 427 [21,6] "find" "Heap.find" "alikeheap.heap" 671,
fR p 441 [21,8] "merge" "Heap.merge" "alikeheap.heap" 671,
fR p 448 [21,9] "join" "Heap.join" "alikeheap.heap" 671,
fR p 455 [21,10] "settle" "Heap.settle" "alikeheap.heap" 671,
fC p 525 [23,0] "__init__" "Levels.__init__" "alikeheap.levels" 842 518,
fR p 539 [23,2] "push" "Levels.push" "alikeheap.levels" 842,
fR p 546 [23,3] "pop" "Levels.pop" "alikeheap.levels" 842,
fC p 554 [23,4] "look_at" "Levels.look_at" "alikeheap.levels" 842 547,
fC p 562 [23,5] "join" "Levels.join" "alikeheap.levels" 842 555,
fR p 567 [23,6] "unmake" "Levels.unmake" "alikeheap.levels" 842,
fR p 574 [23,7] "unjoin" "Levels.unjoin" "alikeheap.levels" 842,
fR p 586 [25] "_law_pick" "_law_pick" "law_rh0019_01" 940,
fR p 591 [26] "_law_term" "_law_term" "law_rh0019_01" 940,
fR p 596 [27] "_law_more" "_law_more" "law_rh0019_01" 940,
fR p 601 [28] "_law_sides" "_law_sides" "law_rh0019_01" 940,
fR p 608 [29] "_law_labels" "_law_labels" "law_rh0019_01" 940,
fR p 613 [30] "_law_are_right" "_law_are_right" "law_rh0019_01" 940,
fR p 618 [31] "law" "law" "law_rh0019_01" 940,
(3,({cls:=.type "dict",data:=Data.dict #[en P "__name__" 165 (vS "law_rh0019_01" 940),en P "__doc__" 166 .none,en P "__package__" 167 .none,en P "__loader__" 168 (.builtin "__main__.__loader__#opaque"),en P "__spec__" 169 .none,en P "__annotations__" 170 (.ref 6),en P "__builtins__" 171 (.ref 4),en P "__file__" 173 (vS "/claim/cut.py" 172),en P "__cached__" 174 .none,en P "_wall" 193 (.ref 21),en P "HeapError" 233 (.ref 47),en P "TermFault" 249 (.ref 60),en P "PaperFault" 284 (.ref 88),en P "LimitFault" 300 (.ref 100),en P "MOST_NODES" 304 (.int 100000 303),en P "MOST_PARTS" 306 (.int 20000 305),en P "MOST_LEVELS" 308 (.int 100 307),en P "mark_of" 315 (.ref 109),en P "told_term" 323 (.ref 116),en P "paper_of_edge" 329 (.ref 121),en P "joined_row" 335 (.ref 126),en P "Whys" 426 (.ref 176),en P "is_op" 434 (.ref 185),en P "Bank" 565 (.ref 289),en P "Unions" 670 (.ref 371),en P "Heap" 841 (.ref 505),en P "Levels" 939 (.ref 577),en P "_law_pick" 950 (.ref 586),en P "_law_term" 956 (.ref 591),en P "_law_more" 962 (.ref 596),en P "_law_sides" 968 (.ref 601),en P "_law_labels" 977 (.ref 608),en P "_law_are_right" 983 (.ref 613),en P "law" 989 (.ref 618)] 34}:Obj)),
cS 108 "mark_of" "mark_of" 309 29 1 313,
cS 115 "told_term" "told_term" 316 31 2 321,
cR 120 "paper_of_edge" "paper_of_edge" 324 35 2 327,
cR 125 "joined_row" "joined_row" 330 40 3 333,
cS 139 "__init__" "Whys.__init__" 348 48 2 353,
cS 146 "renewed" "Whys.renewed" 356 55 1 365,
cS 153 "path" "Whys.path" 368 64 4 382,
cS 167 "between" "Whys.between" 394 86 4 405,
cR 172 "of_edge" "Whys.of_edge" 408 93 2 411,
(175,({cls:=.type "dict",data:=Data.dict #[en P "__module__" 343 (vS "alikeheap.whys" 301),en P "__firstlineno__" 347 (.int 46 346),en P "__init__" 355 (.ref 140),en P "renewed" 367 (.ref 147),en P "path" 384 (.ref 154),en P "paper" 393 (.ref 161),en P "between" 407 (.ref 168),en P "of_edge" 413 (.ref 173),en P "__static_attributes__" 419 (.ref 174),en P "__dict__" 421 (.ref 177),en P "__weakref__" 423 (.ref 178),en P "__doc__" 424 .none] 4}:Obj)),
tR 176 "Whys" 336 344,
cR 184 "is_op" "is_op" 429 108 1 432,
cS 198 "__init__" "Bank.__init__" 447 112 1 451,
cS 205 "size" "Bank.size" 454 118 1 458,
cR 210 "take" "Bank.take" 461 121 3 464,
cS 217 "require" "Bank.require" 467 135 2 472,
cS 238 "cut" "Bank.cut" 491 145 2 496,
cS 245 "op" "Bank.op" 499 151 2 504,
cS 252 "kids" "Bank.kids" 507 154 2 512,
cR 264 "term" "Bank.term" 523 160 2 526,
cS 271 "weight" "Bank.weight" 529 172 2 534,
(288,({cls:=.type "dict",data:=Data.dict #[en P "__module__" 442 (vS "alikeheap.terms" 427),en P "__firstlineno__" 446 (.int 110 445),en P "__init__" 453 (.ref 199),en P "size" 460 (.ref 206),en P "take" 466 (.ref 211),en P "require" 474 (.ref 218),en P "put" 482 (.ref 225),en P "put_all" 490 (.ref 232),en P "cut" 498 (.ref 239),en P "op" 506 (.ref 246),en P "kids" 514 (.ref 253),en P "node" 522 (.ref 260),en P "term" 528 (.ref 265),en P "weight" 536 (.ref 272),en P "depth" 544 (.ref 279),en P "seek" 553 (.ref 286),en P "__static_attributes__" 558 (.ref 287),en P "__dict__" 560 (.ref 290),en P "__weakref__" 562 (.ref 291),en P "__doc__" 563 .none] 4}:Obj)),
tR 289 "Bank" 435 443,
cS 306 "__init__" "Unions.__init__" 580 183 1 584,
cS 313 "make" "Unions.make" 587 188 1 591,
cS 320 "size" "Unions.size" 594 193 1 598,
cS 327 "find" "Unions.find" 601 196 2 606,
cS 334 "merge" "Unions.merge" 609 201 3 617,
cS 341 "members" "Unions.members" 620 210 2 625,
cS 360 "back" "Unions.back" 641 219 2 648,
cS 367 "cut" "Unions.cut" 651 225 2 657,
(370,({cls:=.type "dict",data:=Data.dict #[en P "__module__" 575 (vS "alikeheap.unions" 566),en P "__firstlineno__" 579 (.int 181 578),en P "__init__" 586 (.ref 307),en P "make" 593 (.ref 314),en P "size" 600 (.ref 321),en P "find" 608 (.ref 328),en P "merge" 619 (.ref 335),en P "members" 627 (.ref 342),en P "classes" 633 (.ref 347),en P "log" 640 (.ref 354),en P "back" 650 (.ref 361),en P "cut" 659 (.ref 368),en P "__static_attributes__" 663 (.ref 369),en P "__dict__" 665 (.ref 372),en P "__weakref__" 667 (.ref 373),en P "__doc__" 668 .none] 4}:Obj)),
tR 371 "Unions" 568 576,
cS 388 "__init__" "Heap.__init__" 685 235 1 689,
cS 395 "size" "Heap.size" 692 245 1 696,
cR 400 "node" "Heap.node" 699 248 2 702,
cR 405 "add" "Heap.add" 705 251 3 708,
cS 419 "look_at" "Heap.look_at" 719 265 2 725,
cS 426 "find" "Heap.find" 728 270 2 733,
cS 440 "merge" "Heap.merge" 745 276 4 752,
cS 447 "join" "Heap.join" 755 279 4 765,
cS 454 "settle" "Heap.settle" 768 290 1 772,
(504,({cls:=.type "dict",data:=Data.dict #[en P "__module__" 680 (vS "alikeheap.heap" 671),en P "__firstlineno__" 684 (.int 233 683),en P "__init__" 691 (.ref 389),en P "size" 698 (.ref 396),en P "node" 704 (.ref 401),en P "add" 710 (.ref 406),en P "put" 718 (.ref 413),en P "look_at" 727 (.ref 420),en P "find" 735 (.ref 427),en P "are_like" 744 (.ref 434),en P "merge" 754 (.ref 441),en P "join" 767 (.ref 448),en P "settle" 774 (.ref 455),en P "is_settled" 781 (.ref 462),en P "classes" 788 (.ref 469),en P "members" 796 (.ref 476),en P "nodes_of" 804 (.ref 483),en P "many_nodes" 811 (.ref 490),en P "seek" 817 (.ref 495),en P "users" 825 (.ref 502),en P "__static_attributes__" 834 (.ref 503),en P "__dict__" 836 (.ref 506),en P "__weakref__" 838 (.ref 507),en P "__doc__" 839 .none] 4}:Obj)),
(505,({cls:=.type "type",data:=Data.cls {name:=Str.ofString "Heap",bases:=[.type "object"],mro:=[.ref 505,.type "object"],ns:=504,qualname:=Str.ofString "Heap",subclasses:=[.ref 577]},slots:=#[none,none,Option.some (vS "Heap" 673),Option.some (vS "Heap" 681),Option.some (.builtin "object.__new__"),Option.some (.bool Bool.true)]}:Obj)),
(513,({cls:=.type "cell",data:=Data.cell (Option.some (.ref 577))}:Obj)),
cS 524 "__init__" "Levels.__init__" 856 318 1 861,
cS 538 "push" "Levels.push" 871 327 1 875,
cS 545 "pop" "Levels.pop" 878 330 1 885,
cS 553 "look_at" "Levels.look_at" 888 345 2 895,
cS 561 "join" "Levels.join" 898 354 4 908,
cR 566 "unmake" "Levels.unmake" 911 359 2 914,
cS 573 "unjoin" "Levels.unjoin" 917 367 2 927,
(576,({cls:=.type "dict",data:=Data.dict #[en P "__module__" 851 (vS "alikeheap.levels" 842),en P "__firstlineno__" 855 (.int 316 854),en P "__init__" 863 (.ref 525),en P "depth" 870 (.ref 532),en P "push" 877 (.ref 539),en P "pop" 887 (.ref 546),en P "look_at" 897 (.ref 554),en P "join" 910 (.ref 562),en P "unmake" 916 (.ref 567),en P "unjoin" 929 (.ref 574),en P "__static_attributes__" 935 (.ref 575),en P "__doc__" 937 .none] 3}:Obj)),
(577,({cls:=.type "type",data:=Data.cls {name:=Str.ofString "Levels",bases:=[.ref 505],mro:=[.ref 577,.ref 505,.type "object"],ns:=576,qualname:=Str.ofString "Levels"},slots:=#[Option.some (.ref 510),none,Option.some (vS "Levels" 844),Option.some (vS "Levels" 852),Option.some (.builtin "object.__new__"),Option.some (.bool Bool.true)]}:Obj)),
cS 585 "_law_pick" "_law_pick" 942 376 2 948,
cR 590 "_law_term" "_law_term" 951 380 2 954,
cR 595 "_law_more" "_law_more" 957 382 3 960,
cR 600 "_law_sides" "_law_sides" 963 387 3 966,
cS 607 "_law_labels" "_law_labels" 969 402 1 975,
cR 612 "_law_are_right" "_law_are_right" 978 409 4 981,
cR 617 "law" "law" 984 425 1 987,
(1,boot_o_1 P),
(2,({cls:=.none,data:=Data.dict #[en P "type.__subclasses__.Exception.0" 230 (.int 47 0),en P "type.__subclasses__.Exception.n" 231 (.int 1 0)] 2}:Obj))
]
noncomputable def uV:List Nat:=[109,116,121,126,140,147,154,168,173,185,199,206,211,218,239,246,253,265,272,307,314,321,328,335,342,361,368,389,396,401,406,420,427,441,448,455,525,539,546,554,562,567,574,586,591,596,601,608,613,618,3,108,115,120,125,139,146,153,167,172,175,176,184,198,205,210,217,238,245,252,264,271,288,289,306,313,320,327,334,341,360,367,370,371,388,395,400,405,419,426,440,447,454,504,505,513,524,538,545,553,561,566,573,576,577,585,590,595,600,607,612,617,1,2]
noncomputable abbrev pw:=PySem.Challenge.pw_rh0019_01
end
end Mine
end
section
open PySem PySem.W PyProof.Rows PySem.Calls
namespace Mine
section
abbrev SB(G:bC)(d:Nat)(F:b_)(l:List Nat)(c:AS):Prop:=oN ⟨G,d,F,bc (aT pw l)⟩ (bt (aT pw l)) c
section
variable{G:bC} {d:Nat} {F:b_}
variable(W:Wd G) (V:Gl G) (O:∀sc,nH ⟨G,d,F,sc⟩) (OM:∀sc,y7 ⟨G,d,F,sc⟩)
include W V O OM
def DV:AS:=aw (da (cG [bU (af "heap") "size" [],bM [aZ (af "heap") (ak "edges")] bH,aZ (af "heap") (ak "backs")])) aJ
noncomputable def Ad:List String:=["heap"]
theorem Qw:SB G d F [10] DV:=
 ag (bL (bJ (.cons (bu W (O _) (ab rfl rfl) .nil (.mk _ rfl)) rfl (.cons (ba W V.len rfl rfl (aN _) (.cons (aA W (ab rfl rfl) rfl) rfl .nil) cJ) rfl (.cons (aA W (ab rfl rfl) rfl) rfl .nil))) rfl)) az
def xD:AS:=aw (eP (bX (aB (bU (aZ (af "heap") (ak "bank")) "weight" [af "n"]) (aY 100000) gK)) (aw jE aJ) aJ) (aw (da (bU (aZ (af "heap") (ak "bank")) "term" [af "n"])) aJ)
noncomputable def uW:List String:=["heap","n"]
theorem JI:SB G d F [11] xD:=
 ag (cE (bh (bu W (O _) (aA W (ab rfl rfl) rfl) (.cons (ab rfl rfl) rfl .nil) (.mk _ rfl)) (JH W V.xB rfl rfl) mz rfl) (ag gn az) az) (ag (bL (bu W (O _) (aA W (ab rfl rfl) rfl) (.cons (ab rfl rfl) rfl .nil) (.mk _ rfl))) az)
def rd:AS:=aw (aI (aB (aB (aZ (af "heap") (ak "edges")) (af "index") aj) (aY 2) aj) (a_ "reason")) (aw (eP (bX (aB (aB (af "reason") (aY 0) aj) (dA "told") dK)) (aw (da (cG [dA "told",aB (af "reason") (aY 1) aj])) aJ) aJ) (aw jE aJ))
noncomputable def pC:List String:=["heap","index"]
theorem Cc:SB G d F [12] rd:=
 ag (aC (aF (aF (aA W (aU rfl rfl) rfl) (ab rfl rfl)) aD) (aG rfl) rfl rfl rfl) (ag (cE (bh (aF (ab rfl rfl) aD) cf fX rfl) (ag (bL (bJ (.cons cf rfl (.cons (aF (ab rfl rfl) aD) rfl .nil)) rfl)) az) az) (ag gn az))
def rg:Nat->AR:=dG ["row"] (a_ "k") (kL (cG [dA "join",aB (af "row") (af "k") aj,aB (af "row") (aB (af "k") (aY 1) cq) aj]))
def pD:AT:=bX (aB (bM [af "row"] bH) (aY 1) gK)
def pE:AS:=aw (aI (d3 (y0 [aY 0,aB (bM [af "row"] bH) (aY 1) fV,aY 2]) ["row"] rg) (a_ "late")) (aw (aI (aB (af "late") (gO (af "row") (some (aB (bM [af "row"] bH) (aB (bM [af "row"] bH) (aY 2) pW) fV)) none none) cq) (a_ "row")) aJ)
def pF:AS:=aw (da (qY (bX (aB (bM [af "row"] bH) (aY 1) dK)) (aB (af "row") (aY 0) aj) (cG [dA "same",gY .lB [af "heap",af "a"]]))) aJ
def uX:AS:=aw (aI (bM [af "papers"] kM) (a_ "row")) (aw (jB ["a","heap","row"] pD pE) pF)
noncomputable def sD:List String:=["heap","a","papers"]
theorem Gz:SB G d F [13] uX:=
 ag (aC (ba W V.list rfl rfl (cZ _) (.cons (ab rfl rfl) rfl .nil) (v8 W)) (p6 rfl rfl) rfl rfl rfl) (ag (gi (bh (ba W V.len rfl rfl (aN _) (.cons (aU rfl rfl) rfl .nil) cJ) aD mz rfl) (ag (My (ns:=["row"]) (fs:=["row"]) rfl (pd W V.range rfl (cZ _) (.cons aD rfl (.cons (b8 (ba W V.len rfl rfl (aN _) (.cons (aU rfl rfl) rfl .nil) cJ) aD lR) rfl (.cons aD rfl .nil)))) (λ env x=>rfl) (aG rfl) (bJ (.cons cf rfl (.cons (aF (aU rfl rfl) (ab rfl rfl)) rfl (.cons (aF (aU rfl rfl) (b8 (ab rfl rfl) aD eF)) rfl .nil))) rfl) rfl (λ env he=>by cases env;cases he;kernel_rfl)) (ag (aC (b8 (ab rfl rfl) (fF (aU rfl rfl) (.some (b8 (ba W V.len rfl rfl (aN _) (.cons (aU rfl rfl) rfl .nil) cJ) (b8 (ba W V.len rfl rfl (aN _) (.cons (aU rfl rfl) rfl .nil) cJ) aD I4) lR)) .none .none) eF) (p6 rfl rfl) rfl rfl rfl) az))) (ag (bL (fY (bh (ba W V.len rfl rfl (aN _) (.cons (aU rfl rfl) rfl .nil) cJ) aD fX rfl) (aF (aU rfl rfl) aD) (bJ (.cons cf rfl (.cons (dN W (O _) V.Ab rfl rfl (.cons (ab rfl rfl) rfl (.cons (ab rfl rfl) rfl .nil))) rfl .nil)) rfl))) az))
def xE:AS:=aw (aI (af "heap") (dD (af "self") "heap")) (aw (aI (aY 0) (dD (af "self") "parts")) (aw (aI (aY 0) (dD (af "self") "level")) (aw (aI mV (dD (af "self") "mark")) (aw (aI (iA (.dI [])) (dD (af "self") "beside")) aJ))))
noncomputable def uY:List String:=["self","heap"]
theorem JJ:SB G d F [14,0] xE:=
 ag (aC (ab rfl rfl) (b9 W (ab rfl rfl)) rfl rfl rfl) (ag (aC aD (b9 W (ab rfl rfl)) rfl rfl rfl) (ag (aC aD (b9 W (ab rfl rfl)) rfl rfl rfl) (ag (aC j9 (b9 W (ab rfl rfl)) rfl rfl rfl) (ag (aC ou (b9 W (ab rfl rfl)) rfl rfl rfl) az))))
def sE:AG:=a_ "index"
def sF:AS:=aw (aI (aB (aZ (aZ (af "self") (ak "heap")) (ak "edges")) (af "index") aj) (gz [a_ "a",a_ "b",a_ "reason"])) (aw (b0 (dX (uM (aZ (af "self") (ak "beside")) mB [af "a",dx []] hZ) (cG [af "index",af "b"]))) (aw (b0 (dX (uM (aZ (af "self") (ak "beside")) mB [af "b",dx []] hZ) (cG [af "index",af "a"]))) aJ))
def Ae:AS:=aw (aI (gY .o2 [aZ (af "self") (ak "heap")]) (a_ "mark")) (aw (eP (bX (aB (af "mark") (aZ (af "self") (ak "mark")) fW)) (aw (aI (cG [af "mark",iA (.dI [])]) (gz [dD (af "self") "mark",dD (af "self") "beside"])) (aw (jx ["self"] (fq (aZ (aZ (af "self") (ak "heap")) (ak "forest"))) sE sF) aJ)) aJ) aJ)
noncomputable def xF:List String:=["self"]
theorem MS:SB G d F [14,1] Ae:=
 ag (aC (dN W (O _) V.HY rfl rfl (.cons (aA W (ab rfl rfl) rfl) rfl .nil)) (aG rfl) rfl rfl rfl) (ag (cE (bh (ab rfl rfl) (aA W (ab rfl rfl) rfl) lC rfl) (ag (p7 (bJ (.cons (ab rfl rfl) rfl (.cons ou rfl .nil)) rfl) (d7 (.cons (b9 W (ab rfl rfl)) rfl (.cons (b9 W (ab rfl rfl)) rfl .nil))) rfl (λ env he=>rfl) (λ env he=>by cases env;cases he;kernel_rfl)) (ag (fh (dw (aA W (aA W (ab rfl rfl) rfl) rfl)) (aG rfl) (ag (aC (aF (aA W (aA W (ab rfl rfl) rfl) rfl) (ab rfl rfl)) (d7 (.cons (aG rfl) rfl (.cons (aG rfl) rfl (.cons (aG rfl) rfl .nil)))) rfl rfl rfl) (ag (br (dk (xj W (aA W (ab rfl rfl) rfl) (.cons (ab rfl rfl) rfl (.cons (cx .nil rfl) rfl .nil)) (.mk _ rfl)) (bJ (.cons (ab rfl rfl) rfl (.cons (ab rfl rfl) rfl .nil)) rfl) rfl (.mk _ rfl)) rfl) (ag (br (dk (xj W (aA W (ab rfl rfl) rfl) (.cons (ab rfl rfl) rfl (.cons (cx .nil rfl) rfl .nil)) (.mk _ rfl)) (bJ (.cons (ab rfl rfl) rfl (.cons (ab rfl rfl) rfl .nil)) rfl) rfl (.mk _ rfl)) rfl) az))) (λ env x=>rfl) (λ aa h=>.inl h)) az)) az) az)
def Af:AG:=gz [a_ "index",a_ "other"]
def Ag:AS:=aw (eP (vT (bX (aB (af "index") (af "before") rS)) (vT (bX (aB (af "other") (af "came") fM)) CB)) (aw (aI (cG [af "here",af "index"]) (jw (af "came") (af "other"))) (aw (b0 (dX (af "row") (af "other"))) aJ)) aJ) aJ
def sG:AT:=vT (bX (aB (af "spot") (bM [af "row"] bH) rS)) (vT (bX (aB (af "b") (af "came") fM)) CB)
def sH:AS:=aw (p8 (cG [aB (af "row") (af "spot") aj,aB (af "spot") (aY 1) cq]) [a_ "spot",a_ "here"]) (aw (jx ["a","b","before","came","here","row","self","spot"] (fq (Te (aZ (af "self") (ak "beside")) (af "here") (dx []))) Af Ag) aJ)
def Ah:AT:=bX (aB (af "b") (af "a") fW)
def Ai:AS:=aw (aI (aB (af "came") (af "b") aj) (gz [a_ "here",a_ "index"])) (aw (b0 (dX (af "found") (cG [af "index",aB (aB (aB (aZ (aZ (af "self") (ak "heap")) (ak "edges")) (af "index") aj) (aY 0) aj) (af "here") fW]))) (aw (aI (af "here") (a_ "b")) aJ))
def Aj:AS:=aw (da (gO (af "found") none none (some (v9 1)))) aJ
def sI:AS:=aw (eP (bX (aB (af "b") (af "came") fM)) (aw jE aJ) aJ) (aw (aI (dx []) (a_ "found")) (aw (jB ["a","b","came","found","self"] Ah Ai) Aj))
def MT:AS:=aw (b0 (bU (af "self") "renewed" [])) (aw (p8 (cG [y8 (af "a") (cG []),dx [af "a"],aY 0]) [a_ "spot",a_ "row",a_ "came"]) (aw (jB ["a","b","before","came","row","self","spot"] sG sH) sI))
noncomputable def HZ:List String:=["self","a","b","before"]
theorem XN:SB G d F [14,2] MT:=
 ag (br (bu W (O _) (ab rfl rfl) .nil (.mk _ rfl)) rfl) (ag (lE (names:=[Str.ofString "came",Str.ofString "row",Str.ofString "spot"]) (bJ (.cons (zZ (ab rfl rfl) (bJ .nil rfl)) rfl (.cons (cx (.cons (ab rfl rfl) rfl .nil) rfl) rfl (.cons aD rfl .nil))) rfl) (.cons rfl (.cons rfl (.cons rfl .nil))) (λ env he=>rfl) (λ env he=>by cases env;cases he;kernel_rfl)) (ag (gi (yW (.cons (bh (ab rfl rfl) (ba W V.len rfl rfl (aN _) (.cons (ab rfl rfl) rfl .nil) cJ) I1 rfl) (.cons (bh (ab rfl rfl) (ab rfl rfl) (nj W) rfl) .nil))) (ag (lE (names:=[Str.ofString "here",Str.ofString "spot"]) (bJ (.cons (aF (ab rfl rfl) (ab rfl rfl)) rfl (.cons (b8 (ab rfl rfl) aD eF) rfl .nil)) rfl) (.cons rfl (.cons rfl .nil)) (λ env he=>rfl) (λ env he=>by cases env;cases he;kernel_rfl)) (ag (fh (dw (Ux W (aA W (ab rfl rfl) rfl) (ab rfl rfl) (cx .nil rfl) rfl rfl (.mk _ rfl))) (d7 (.cons (aG rfl) rfl (.cons (aG rfl) rfl .nil))) (ag (cE (yW (.cons (bh (ab rfl rfl) (ab rfl rfl) I1 rfl) (.cons (bh (ab rfl rfl) (ab rfl rfl) (nj W) rfl) .nil))) (ag (aC (bJ (.cons (ab rfl rfl) rfl (.cons (ab rfl rfl) rfl .nil)) rfl) (fg (ab rfl rfl) (ab rfl rfl)) rfl rfl rfl) (ag (br (dk (ab rfl rfl) (ab rfl rfl) rfl (.mk _ rfl)) rfl) az)) az) az) (λ env x=>rfl) (λ aa h=>.inl h)) az))) (ag (cE (bh (ab rfl rfl) (ab rfl rfl) (nj W) rfl) (ag gn az) az) (ag (aC (cx .nil rfl) (aG rfl) rfl rfl rfl) (ag (gi (bh (ab rfl rfl) (ab rfl rfl) lC rfl) (ag (aC (aF (ab rfl rfl) (ab rfl rfl)) (d7 (.cons (aG rfl) rfl (.cons (aG rfl) rfl .nil))) rfl rfl rfl) (ag (br (dk (ab rfl rfl) (bJ (.cons (ab rfl rfl) rfl (.cons (rR (aF (aF (aA W (aA W (ab rfl rfl) rfl) rfl) (ab rfl rfl)) aD) (ab rfl rfl) lC rfl) rfl .nil)) rfl) rfl (.mk _ rfl)) rfl) (ag (aC (ab rfl rfl) (aG rfl) rfl rfl rfl) az)))) (ag (bL (fF (ab rfl rfl) .none .none (.some pz))) az))))))
def sJ:AG:=gz [a_ "index",a_ "is_back"]
def sL:AS:=aw (aI (bU (af "self") "of_edge" [af "index"]) (a_ "paper")) (aw (b0 (dX (af "found") (qY (bX (af "is_back")) (cG [dA "turn",af "paper"]) (af "paper")))) aJ)
def sM:AS:=aw (da (gY .j6 [aZ (af "self") (ak "heap"),af "a",af "found"])) aJ
def Ak:AS:=aw (aI (dx []) (a_ "found")) (aw (jx ["a","found","self"] (fq (bU (af "self") "path" [af "a",af "b",af "before"])) sJ sL) sM)
noncomputable def xG:List String:=["self","a","b","before"]
theorem MU:SB G d F [14,4] Ak:=
 ag (aC (cx .nil rfl) (aG rfl) rfl rfl rfl) (ag (fh (dw (bu W (O _) (ab rfl rfl) (.cons (ab rfl rfl) rfl (.cons (ab rfl rfl) rfl (.cons (ab rfl rfl) rfl .nil))) (.mk _ rfl))) (d7 (.cons (aG rfl) rfl (.cons (aG rfl) rfl .nil))) (ag (aC (bu W (O _) (ab rfl rfl) (.cons (ab rfl rfl) rfl .nil) (.mk _ rfl)) (aG rfl) rfl rfl rfl) (ag (br (dk (ab rfl rfl) (fY (tY (ab rfl rfl) (λ env whole=>rfl)) (bJ (.cons cf rfl (.cons (ab rfl rfl) rfl .nil)) rfl) (ab rfl rfl)) rfl (.mk _ rfl)) rfl) az)) (λ env x=>rfl) (λ aa h=>.inl h)) (ag (bL (dN W (O _) V.xA rfl rfl (.cons (aA W (ab rfl rfl) rfl) rfl (.cons (ab rfl rfl) rfl (.cons (ab rfl rfl) rfl .nil))))) az))
def xH:Nat->AR:=qf ["index","self"] (gz [a_ "x",a_ "y"]) (bU (af "self") "between" [af "x",af "y",af "index"])
def DW:AS:=aw (aI (aB (aZ (af "self") (ak "parts")) (aY 1) cq) (dD (af "self") "parts")) (aw (eP (bX (aB (aZ (af "self") (ak "parts")) (aY 20000) gK)) (aw jE aJ) aJ) (aw (aI (aB (aZ (aZ (af "self") (ak "heap")) (ak "edges")) (af "index") aj) (gz [a_ "a",a_ "b",a_ "reason"])) (aw (eP (bX (aB (aB (af "reason") (aY 0) aj) (dA "like") fW)) (aw (da (gY .iJ [aZ (af "self") (ak "heap"),af "index"])) aJ) aJ) (aw (aI (aB (aZ (af "self") (ak "level")) (aY 1) cq) (dD (af "self") "level")) (aw (eP (bX (aB (aZ (af "self") (ak "level")) (aY 100) gK)) (aw jE aJ) aJ) (aw (aI (bM [bU (aZ (aZ (af "self") (ak "heap")) (ak "bank")) "kids" [af "a"],bU (aZ (aZ (af "self") (ak "heap")) (ak "bank")) "kids" [af "b"]] DJ) (a_ "pairs")) (aw (aI (cG [dA "under",bU (aZ (aZ (af "self") (ak "heap")) (ak "bank")) "op" [af "a"],bM [d3 (Qf (af "pairs")) ["index","self"] (xH)] eL]) (a_ "found")) (aw (aI (aB (aZ (af "self") (ak "level")) (aY 1) fV) (dD (af "self") "level")) (aw (da (af "found")) aJ)))))))))
noncomputable def Al:List String:=["self","index"]
theorem Qx:SB G d F [14,5] DW:=
 ag (aC (b8 (aA W (aU rfl rfl) rfl) aD eF) (b9 W (aU rfl rfl)) rfl rfl rfl) (ag (cE (bh (aA W (aU rfl rfl) rfl) (JH W V.xC rfl rfl) mz rfl) (ag gn az) az) (ag (aC (aF (aA W (aA W (aU rfl rfl) rfl) rfl) (aU rfl rfl)) (d7 (.cons (aG rfl) rfl (.cons (aG rfl) rfl (.cons (aG rfl) rfl .nil)))) rfl rfl rfl) (ag (cE (bh (aF (ab rfl rfl) aD) cf lC rfl) (ag (bL (dN W (O _) V.rb rfl rfl (.cons (aA W (aU rfl rfl) rfl) rfl (.cons (aU rfl rfl) rfl .nil)))) az) az) (ag (aC (b8 (aA W (aU rfl rfl) rfl) aD eF) (b9 W (aU rfl rfl)) rfl rfl rfl) (ag (cE (bh (aA W (aU rfl rfl) rfl) (JH W V.uU rfl rfl) mz rfl) (ag gn az) az) (ag (aC (ba W V.zip rfl rfl (cZ _) (.cons (bu W (O _) (aA W (aA W (aU rfl rfl) rfl) rfl) (.cons (ab rfl rfl) rfl .nil) (.mk _ rfl)) rfl (.cons (bu W (O _) (aA W (aA W (aU rfl rfl) rfl) rfl) (.cons (ab rfl rfl) rfl .nil) (.mk _ rfl)) rfl .nil)) Xk) (aG rfl) rfl rfl rfl) (ag (aC (bJ (.cons cf rfl (.cons (bu W (O _) (aA W (aA W (aU rfl rfl) rfl) rfl) (.cons (ab rfl rfl) rfl .nil) (.mk _ rfl)) rfl (.cons (ba W V.tuple rfl rfl (cZ _) (.cons (aaq (ns:=["index","self"]) (fs:=["index","self"]) rfl (ab rfl rfl) (λ env x=>rfl) (d7 (.cons (aG rfl) rfl (.cons (aG rfl) rfl .nil))) (bu W (O _) (aU rfl rfl) (.cons (ab rfl rfl) rfl (.cons (ab rfl rfl) rfl (.cons (aU rfl rfl) rfl .nil))) (.mk _ rfl))) rfl .nil) i_) rfl .nil))) rfl) (aG rfl) rfl rfl rfl) (ag (aC (b8 (aA W (aU rfl rfl) rfl) aD lR) (b9 W (aU rfl rfl)) rfl rfl rfl) (ag (bL (ab rfl rfl)) az)))))))))
def DX:Nat->AR:=dG [] (a_ "sign") (HH (qX (bX (DD (af "sign"))) (qX (bX (aB (af "sign") (dA "()[]{},:") (uf "()[]{},:"))) o9)) (af "sign"))
def MV:AS:=aw (da (PK (aB (af "text") (dA "") fW) (aB (d3 (fq (af "text")) [] DX) (dx []) v_))) aJ
noncomputable def H2:List String:=["text"]
theorem XO:SB G d F [16] MV:=
 ag (bL (Hx (rR (ab rfl rfl) cf lC rfl) (rR (Tp (ns:=[]) (fs:=[]) rfl (dw (ab rfl rfl)) (λ env x=>rfl) (aG rfl) (rU (.cons (tY (Ju W (ab rfl rfl) (.mk _ rfl)) (λ env whole=>rfl)) (.cons (bh (ab rfl rfl) cf P_ rfl) .nil))) (ab rfl rfl)) (cx .nil rfl) Ts rfl))) az
def xI:AS:=aw (aI (dx []) (dD (af "self") "nodes")) (aw (aI (iA (.dT [])) (dD (af "self") "numbers")) (aw (aI (dx []) (dD (af "self") "weights")) (aw (aI (dx []) (dD (af "self") "depths")) aJ)))
noncomputable def uZ:List String:=["self"]
theorem JK:SB G d F [17,0] xI:=
 ag (aC (cx .nil rfl) (b9 W (ab rfl rfl)) rfl rfl rfl) (ag (aC zS (b9 W (ab rfl rfl)) rfl rfl rfl) (ag (aC (cx .nil rfl) (b9 W (ab rfl rfl)) rfl rfl rfl) (ag (aC (cx .nil rfl) (b9 W (ab rfl rfl)) rfl rfl rfl) az)))
def xJ:AS:=aw (da (bM [aZ (af "self") (ak "nodes")] bH)) aJ
noncomputable def u4:List String:=["self"]
theorem JL:SB G d F [17,1] xJ:=
 ag (bL (ba W V.len rfl rfl (aN _) (.cons (aA W (ab rfl rfl) rfl) rfl .nil) cJ)) az
def Am:AG:=a_ "kid"
def An:AS:=aw (eP (I8 (Df (aY 0) (af "kid") (bM [aZ (af "self") (ak "nodes")] bH))) (aw jE aJ) aJ) aJ
def DY:Nat->AR:=dG ["self"] (a_ "kid") (kL (aB (aZ (af "self") (ak "weights")) (af "kid") aj))
def DZ:Nat->AR:=dG ["self"] (a_ "kid") (kL (aB (aZ (af "self") (ak "depths")) (af "kid") aj))
def Ao:AS:=aw (aI (bM [aZ (af "self") (ak "nodes")] bH) (jw (aZ (af "self") (ak "numbers")) (af "node"))) (aw (b0 (dX (aZ (af "self") (ak "nodes")) (af "node"))) (aw (b0 (dX (aZ (af "self") (ak "weights")) (aB (aY 1) (bM [d3 (fq (gO (af "node") (some (aY 1)) none none)) ["self"] (DY)] Dm) cq))) (aw (b0 (dX (aZ (af "self") (ak "depths")) (aB (aY 1) (bM [aB (d3 (fq (gO (af "node") (some (aY 1)) none none)) ["self"] DZ) (dx [aY 0]) cq] lF) cq))) (aw (da (aB (bM [aZ (af "self") (ak "nodes")] bH) (aY 1) fV)) aJ))))
def MW:AS:=aw (aI (aB (cG [af "op"]) (bM [af "kids"] eL) cq) (a_ "node")) (aw (eP (bX (aB (af "node") (aZ (af "self") (ak "numbers")) pe)) (aw (da (aB (aZ (af "self") (ak "numbers")) (af "node") aj)) aJ) aJ) (aw (b0 (bU (af "self") "require" [af "op"])) (aw (jx ["node","self"] (fq (gO (af "node") (some (aY 1)) none none)) Am An) Ao)))
noncomputable def H3:List String:=["self","op","kids"]
theorem XQ:SB G d F [17,2] MW:=
 ag (aC (b8 (bJ (.cons (ab rfl rfl) rfl .nil) rfl) (ba W V.tuple rfl rfl (cZ _) (.cons (ab rfl rfl) rfl .nil) i_) eF) (aG rfl) rfl rfl rfl) (ag (cE (bh (ab rfl rfl) (aA W (aU rfl rfl) rfl) (Jh W) rfl) (ag (bL (aF (aA W (aU rfl rfl) rfl) (ab rfl rfl))) az) az) (ag (br (bu W (O _) (aU rfl rfl) (.cons (ab rfl rfl) rfl .nil) (.mk _ rfl)) rfl) (ag (fh (dw (fF (ab rfl rfl) (.some aD) .none .none)) (aG rfl) (ag (cE (yV (Gr aD (ab rfl rfl) (ba W V.len rfl rfl (aN _) (.cons (aA W (aU rfl rfl) rfl) rfl .nil) cJ) rfl)) (ag gn az) az) az) (λ env x=>rfl) (λ aa h=>.inl h)) (ag (aC (ba W V.len rfl rfl (aN _) (.cons (aA W (aU rfl rfl) rfl) rfl .nil) cJ) (fg (aA W (aU rfl rfl) rfl) (ab rfl rfl)) rfl rfl rfl) (ag (br (dk (aA W (aU rfl rfl) rfl) (ab rfl rfl) rfl (.mk _ rfl)) rfl) (ag (br (dk (aA W (aU rfl rfl) rfl) (b8 aD (ba W V.sum rfl rfl (aN _) (.cons (jN (ns:=["self"]) (fs:=["self"]) rfl (dw (fF (ab rfl rfl) (.some aD) .none .none)) (λ env x=>rfl) (aG rfl) (aF (aA W (aU rfl rfl) rfl) (ab rfl rfl))) rfl .nil) WD) eF) rfl (.mk _ rfl)) rfl) (ag (br (dk (aA W (aU rfl rfl) rfl) (b8 aD (ba W V.max rfl rfl (aN _) (.cons (b8 (jN (ns:=["self"]) (fs:=["self"]) rfl (dw (fF (ab rfl rfl) (.some aD) .none .none)) (λ env x=>rfl) (aG rfl) (aF (aA W (aU rfl rfl) rfl) (ab rfl rfl))) (cx (.cons aD rfl .nil) rfl) eF) rfl .nil) xd) eF) rfl (.mk _ rfl)) rfl) (ag (bL (b8 (ba W V.len rfl rfl (aN _) (.cons (aA W (aU rfl rfl) rfl) rfl .nil) cJ) aD lR)) az))))))))
def Ap:AS:=aw (eP (qX (I8 (bX (gY .yO [af "op"]))) (qX (bX (aB (aB (af "op") (aY 0) aj) (dA "?") dK)) o9)) (aw jE aJ) aJ) aJ
noncomputable def xK:List String:=["self","op"]
theorem MX:SB G d F [17,3] Ap:=
 ag (cE (rU (.cons (yV (tY (dN W (O _) V.TR rfl rfl (.cons (ab rfl rfl) rfl .nil)) (λ env whole=>rfl))) (.cons (bh (aF (ab rfl rfl) aD) cf fX rfl) .nil))) (ag gn az) az) az
def sN:AT:=bX (aB (bM [aZ (af "self") (ak "nodes")] bH) (bM [af "many",aY 0] lF) gK)
def sO:AS:=aw (b0 (uM (aZ (af "self") (ak "numbers")) vZ [lH (aZ (af "self") (ak "nodes"))] xo)) (aw (b0 (lH (aZ (af "self") (ak "weights")))) (aw (b0 (lH (aZ (af "self") (ak "depths")))) aJ))
def Aq:AS:=aw (jB ["many","self"] sN sO) aJ
noncomputable def xM:List String:=["self","many"]
theorem MY:SB G d F [17,6] Aq:=
 ag (gi (bh (ba W V.len rfl rfl (aN _) (.cons (aA W (ab rfl rfl) rfl) rfl .nil) cJ) (ba W V.max rfl rfl (aN _) (.cons (ab rfl rfl) rfl (.cons aD rfl .nil)) xd) mz rfl) (ag (br (UA W (aA W (ab rfl rfl) rfl) (.cons (iz (aA W (ab rfl rfl) rfl) (.mk _ rfl)) rfl .nil) (.mk _ rfl)) rfl) (ag (br (iz (aA W (ab rfl rfl) rfl) (.mk _ rfl)) rfl) (ag (br (iz (aA W (ab rfl rfl) rfl) (.mk _ rfl)) rfl) az)))) az
def XR:AS:=aw (da (aB (aB (aZ (af "self") (ak "nodes")) (af "n") aj) (aY 0) aj)) aJ
noncomputable def TS:List String:=["self","n"]
theorem aca:SB G d F [17,7] XR:=
 ag (bL (aF (aF (aA W (ab rfl rfl) rfl) (ab rfl rfl)) aD)) az
def MZ:AS:=aw (da (gO (aB (aZ (af "self") (ak "nodes")) (af "n") aj) (some (aY 1)) none none)) aJ
noncomputable def H4:List String:=["self","n"]
theorem XS:SB G d F [17,8] MZ:=
 ag (bL (fF (aF (aA W (ab rfl rfl) rfl) (ab rfl rfl)) (.some aD) .none .none)) az
def Ar:AG:=a_ "kid"
def As:AS:=aw (eP (bX (aB (af "kid") (af "below") fM)) (aw (aI (mW true) (jw (af "below") (af "kid"))) (aw (b0 (dX (af "stack") (af "kid"))) aJ)) aJ) aJ
def sP:AT:=bX (aB (bM [af "stack"] bH) (aY 0) gK)
def sQ:AS:=aw (jx ["below","n","self","stack"] (fq (bU (af "self") "kids" [lH (af "stack")])) Ar As) aJ
def D0:Nat->AR:=dG ["made"] (a_ "kid") (kL (aB (af "made") (af "kid") aj))
def Au:AG:=a_ "k"
def Av:AS:=aw (aI (aB (cG [bU (af "self") "op" [af "k"]]) (bM [d3 (fq (bU (af "self") "kids" [af "k"])) ["made"] (D0)] eL) cq) (jw (af "made") (af "k"))) aJ
def Aw:AS:=aw (da (aB (af "made") (af "n") aj)) aJ
def sR:AS:=aw (aI (iA (.dI [])) (a_ "made")) (aw (jx ["made","n","self"] (fq (bM [af "below"] dZ)) Au Av) Aw)
def M0:AS:=aw (p8 (cG [y8 (af "n") (mW true),dx [af "n"]]) [a_ "stack",a_ "below"]) (aw (jB ["below","n","self","stack"] sP sQ) sR)
noncomputable def H5:List String:=["self","n"]
theorem XT:SB G d F [17,10] M0:=
 ag (lE (names:=[Str.ofString "below",Str.ofString "stack"]) (bJ (.cons (zZ (ab rfl rfl) j_) rfl (.cons (cx (.cons (ab rfl rfl) rfl .nil) rfl) rfl .nil)) rfl) (.cons rfl (.cons rfl .nil)) (λ env he=>rfl) (λ env he=>by cases env;cases he;kernel_rfl)) (ag (gi (bh (ba W V.len rfl rfl (aN _) (.cons (ab rfl rfl) rfl .nil) cJ) aD mz rfl) (ag (fh (dw (bu W (O _) (ab rfl rfl) (.cons (iz (ab rfl rfl) (.mk _ rfl)) rfl .nil) (.mk _ rfl))) (aG rfl) (ag (cE (bh (ab rfl rfl) (ab rfl rfl) (nj W) rfl) (ag (aC j_ (fg (ab rfl rfl) (ab rfl rfl)) rfl rfl rfl) (ag (br (dk (ab rfl rfl) (ab rfl rfl) rfl (.mk _ rfl)) rfl) az)) az) az) (λ env x=>rfl) (λ aa h=>.inl h)) az)) (ag (aC ou (p6 rfl rfl) rfl rfl rfl) (ag (fh (dw (ba W V.sorted rfl rfl (aN _) (.cons (ab rfl rfl) rfl .nil) (jj W))) (aG rfl) (ag (aC (b8 (bJ (.cons (bu W (O _) (ab rfl rfl) (.cons (ab rfl rfl) rfl .nil) (.mk _ rfl)) rfl .nil) rfl) (ba W V.tuple rfl rfl (cZ _) (.cons (jN (ns:=["made"]) (fs:=["made"]) rfl (dw (bu W (O _) (ab rfl rfl) (.cons (ab rfl rfl) rfl .nil) (.mk _ rfl))) (λ env x=>rfl) (aG rfl) (aF (aU rfl rfl) (ab rfl rfl))) rfl .nil) i_) eF) (fg (aU rfl rfl) (ab rfl rfl)) rfl rfl rfl) az) (λ env x=>rfl) (λ aa h=>.inl h)) (ag (bL (aF (aU rfl rfl) (ab rfl rfl))) az))))
def D1:AS:=aw (da (aB (aZ (af "self") (ak "weights")) (af "n") aj)) aJ
noncomputable def Ax:List String:=["self","n"]
theorem Qy:SB G d F [17,11] D1:=
 ag (bL (aF (aA W (ab rfl rfl) rfl) (ab rfl rfl))) az
def sS:AS:=aw (aI (dx []) (dD (af "self") "above")) (aw (aI (dx []) (dD (af "self") "lots")) (aw (aI (dx []) (dD (af "self") "merged")) aJ))
noncomputable def rh:List String:=["self"]
theorem D2:SB G d F [19,0] sS:=
 ag (aC (cx .nil rfl) (b9 W (ab rfl rfl)) rfl rfl rfl) (ag (aC (cx .nil rfl) (b9 W (ab rfl rfl)) rfl rfl rfl) (ag (aC (cx .nil rfl) (b9 W (ab rfl rfl)) rfl rfl rfl) az))
def M1:AS:=aw (b0 (dX (aZ (af "self") (ak "above")) (bM [aZ (af "self") (ak "above")] bH))) (aw (b0 (dX (aZ (af "self") (ak "lots")) (dx [bM [aZ (af "self") (ak "lots")] bH]))) (aw (da (aB (bM [aZ (af "self") (ak "above")] bH) (aY 1) fV)) aJ))
noncomputable def H6:List String:=["self"]
theorem XU:SB G d F [19,1] M1:=
 ag (br (dk (aA W (ab rfl rfl) rfl) (ba W V.len rfl rfl (aN _) (.cons (aA W (ab rfl rfl) rfl) rfl .nil) cJ) rfl (.mk _ rfl)) rfl) (ag (br (dk (aA W (ab rfl rfl) rfl) (cx (.cons (ba W V.len rfl rfl (aN _) (.cons (aA W (ab rfl rfl) rfl) rfl .nil) cJ) rfl .nil) rfl) rfl (.mk _ rfl)) rfl) (ag (bL (b8 (ba W V.len rfl rfl (aN _) (.cons (aA W (ab rfl rfl) rfl) rfl .nil) cJ) aD lR)) az))
def sT:AS:=aw (da (bM [aZ (af "self") (ak "above")] bH)) aJ
noncomputable def ri:List String:=["self"]
theorem D3:SB G d F [19,2] sT:=
 ag (bL (ba W V.len rfl rfl (aN _) (.cons (aA W (ab rfl rfl) rfl) rfl .nil) cJ)) az
def xN:AT:=bX (aB (aB (aZ (af "self") (ak "above")) (af "a") aj) (af "a") fW)
def xO:AS:=aw (aI (aB (aZ (af "self") (ak "above")) (af "a") aj) (a_ "a")) aJ
def xP:AS:=aw (da (af "a")) aJ
def H7:AS:=aw (jB ["a","self"] xN xO) xP
noncomputable def D4:List String:=["self","a"]
theorem UJ:SB G d F [19,3] H7:=
 ag (gi (bh (aF (aA W (ab rfl rfl) rfl) (ab rfl rfl)) (ab rfl rfl) lC rfl) (ag (aC (aF (aA W (ab rfl rfl) rfl) (ab rfl rfl)) (aG rfl) rfl rfl rfl) az)) (ag (bL (ab rfl rfl)) az)
def D5:AS:=aw (aI (bM [dx [bU (af "self") "find" [af "a"],bU (af "self") "find" [af "b"]]] dZ) (gz [a_ "kept",a_ "gone"])) (aw (eP (bX (aB (af "kept") (af "gone") dK)) (aw (da mV) aJ) aJ) (aw (aI (af "kept") (jw (aZ (af "self") (ak "above")) (af "gone"))) (aw (b0 (ub (aB (aZ (af "self") (ak "lots")) (af "kept") aj) (aB (aZ (af "self") (ak "lots")) (af "gone") aj))) (aw (b0 (dX (aZ (af "self") (ak "merged")) (cG [af "kept",af "gone"]))) (aw (da (cG [af "kept",af "gone"])) aJ)))))
noncomputable def Ay:List String:=["self","a","b"]
theorem Qz:SB G d F [19,4] D5:=
 ag (aC (ba W V.sorted rfl rfl (aN _) (.cons (cx (.cons (bu W (O _) (ab rfl rfl) (.cons (ab rfl rfl) rfl .nil) (.mk _ rfl)) rfl (.cons (bu W (O _) (ab rfl rfl) (.cons (ab rfl rfl) rfl .nil) (.mk _ rfl)) rfl .nil)) rfl) rfl .nil) (jj W)) (d7 (.cons (aG rfl) rfl (.cons (aG rfl) rfl .nil))) rfl rfl rfl) (ag (cE (bh (ab rfl rfl) (ab rfl rfl) fX rfl) (ag (bL j9) az) az) (ag (aC (ab rfl rfl) (fg (aA W (ab rfl rfl) rfl) (ab rfl rfl)) rfl rfl rfl) (ag (br (se (aF (aA W (ab rfl rfl) rfl) (ab rfl rfl)) (aF (aA W (ab rfl rfl) rfl) (ab rfl rfl)) rfl (.mk _ rfl)) rfl) (ag (br (dk (aA W (ab rfl rfl) rfl) (bJ (.cons (ab rfl rfl) rfl (.cons (ab rfl rfl) rfl .nil)) rfl) rfl (.mk _ rfl)) rfl) (ag (bL (bJ (.cons (ab rfl rfl) rfl (.cons (ab rfl rfl) rfl .nil)) rfl)) az)))))
def Az:AS:=aw (da (bM [aB (aZ (af "self") (ak "lots")) (bU (af "self") "find" [af "a"]) aj] dZ)) aJ
noncomputable def xQ:List String:=["self","a"]
theorem M3:SB G d F [19,5] Az:=
 ag (bL (ba W V.sorted rfl rfl (aN _) (.cons (aF (aA W (ab rfl rfl) rfl) (bu W (O _) (ab rfl rfl) (.cons (ab rfl rfl) rfl .nil) (.mk _ rfl))) rfl .nil) (jj W))) az
def AA:AT:=bX (aB (bM [aZ (af "self") (ak "merged")] bH) (bM [af "many",aY 0] lF) gK)
def AB:AS:=aw (aI (lH (aZ (af "self") (ak "merged"))) (gz [a_ "kept",a_ "gone"])) (aw (aI (af "gone") (jw (aZ (af "self") (ak "above")) (af "gone"))) (aw (qd (aB (aZ (af "self") (ak "lots")) (af "kept") aj) (aB (bM [aB (aZ (af "self") (ak "lots")) (af "kept") aj] bH) (bM [aB (aZ (af "self") (ak "lots")) (af "gone") aj] bH) fV)) aJ))
def M4:AS:=aw (jB ["many","self"] AA AB) aJ
noncomputable def H8:List String:=["self","many"]
theorem XW:SB G d F [19,8] M4:=
 ag (gi (bh (ba W V.len rfl rfl (aN _) (.cons (aA W (ab rfl rfl) rfl) rfl .nil) cJ) (ba W V.max rfl rfl (aN _) (.cons (ab rfl rfl) rfl (.cons aD rfl .nil)) xd) mz rfl) (ag (aC (iz (aA W (ab rfl rfl) rfl) (.mk _ rfl)) (d7 (.cons (aG rfl) rfl (.cons (aG rfl) rfl .nil))) rfl rfl rfl) (ag (aC (ab rfl rfl) (fg (aA W (ab rfl rfl) rfl) (ab rfl rfl)) rfl rfl rfl) (ag (oQ (aF (aA W (ab rfl rfl) rfl) (ab rfl rfl)) (b8 (ba W V.len rfl rfl (aN _) (.cons (aF (aA W (ab rfl rfl) rfl) (ab rfl rfl)) rfl .nil) cJ) (ba W V.len rfl rfl (aN _) (.cons (aF (aA W (ab rfl rfl) rfl) (ab rfl rfl)) rfl .nil) cJ) lR)) az)))) az
def AD:AG:=a_ "a"
def AH:AS:=aw (eP (bX (aB (bU (af "self") "members" [af "a"]) (dx [af "a"]) wa)) (aw jE aJ) aJ) aJ
def AJ:AS:=aw (qd (aZ (af "self") (ak "above")) (af "many")) (aw (qd (aZ (af "self") (ak "lots")) (af "many")) aJ)
def M5:AS:=aw (aI (bM [af "many",aY 0] lF) (a_ "many")) (aw (jx ["many","self"] (y0 [af "many",bM [aZ (af "self") (ak "above")] bH]) AD AH) AJ)
noncomputable def H9:List String:=["self","many"]
theorem XX:SB G d F [19,9] M5:=
 ag (aC (ba W V.max rfl rfl (aN _) (.cons (ab rfl rfl) rfl (.cons aD rfl .nil)) xd) (aG rfl) rfl rfl rfl) (ag (fh (pd W V.range rfl (cZ _) (.cons (ab rfl rfl) rfl (.cons (ba W V.len rfl rfl (aN _) (.cons (aA W (ab rfl rfl) rfl) rfl .nil) cJ) rfl .nil))) (aG rfl) (ag (cE (bh (bu W (O _) (ab rfl rfl) (.cons (ab rfl rfl) rfl .nil) (.mk _ rfl)) (cx (.cons (ab rfl rfl) rfl .nil) rfl) Tu rfl) (ag gn az) az) az) (λ env x=>rfl) (λ aa h=>.inl h)) (ag (oQ (aA W (ab rfl rfl) rfl) (ab rfl rfl)) (ag (oQ (aA W (ab rfl rfl) rfl) (ab rfl rfl)) az)))
def xR:AS:=aw (aI (MF .bank []) (dD (af "self") "bank")) (aw (aI (MF .gI []) (dD (af "self") "unions")) (aw (aI (dx []) (dD (af "self") "edges")) (aw (aI (dx []) (dD (af "self") "forest")) (aw (aI (iA (.dT [])) (dD (af "self") "known")) (aw (aI (iA (.dI [])) (dD (af "self") "above")) (aw (aI (dx []) (dD (af "self") "waiting")) (aw (aI (aY 0) (dD (af "self") "backs")) aJ)))))))
noncomputable def u5:List String:=["self"]
theorem JM:SB G d F [21,0] xR:=
 ag (aC (xt W (OM _) V.Bank rfl rfl (o8 (V.keep .bank)) .nil) (b9 W (ab rfl rfl)) rfl rfl rfl) (ag (aC (xt W (OM _) V.MO rfl rfl (o8 (V.keep .gI)) .nil) (b9 W (ab rfl rfl)) rfl rfl rfl) (ag (aC (cx .nil rfl) (b9 W (ab rfl rfl)) rfl rfl rfl) (ag (aC (cx .nil rfl) (b9 W (ab rfl rfl)) rfl rfl rfl) (ag (aC zS (b9 W (ab rfl rfl)) rfl rfl rfl) (ag (aC ou (b9 W (ab rfl rfl)) rfl rfl rfl) (ag (aC (cx .nil rfl) (b9 W (ab rfl rfl)) rfl rfl rfl) (ag (aC aD (b9 W (ab rfl rfl)) rfl rfl rfl) az)))))))
def xS:AS:=aw (da (bU (aZ (af "self") (ak "bank")) "size" [])) aJ
noncomputable def u6:List String:=["self"]
theorem JN:SB G d F [21,1] xS:=
 ag (bL (bu W (O _) (aA W (ab rfl rfl) rfl) .nil (.mk _ rfl))) az
def D6:Nat->AR:=dG ["self"] (a_ "kid") (kL (bU (af "self") "find" [af "kid"]))
def M6:AS:=aw (da (aB (cG [bU (aZ (af "self") (ak "bank")) "op" [af "n"]]) (bM [d3 (fq (bU (aZ (af "self") (ak "bank")) "kids" [af "n"])) ["self"] (D6)] eL) cq)) aJ
noncomputable def H_:List String:=["self","n"]
theorem XY:SB G d F [21,2] M6:=
 ag (bL (b8 (bJ (.cons (bu W (O _) (aA W (aU rfl rfl) rfl) (.cons (ab rfl rfl) rfl .nil) (.mk _ rfl)) rfl .nil) rfl) (ba W V.tuple rfl rfl (cZ _) (.cons (jN (ns:=["self"]) (fs:=["self"]) rfl (dw (bu W (O _) (aA W (aU rfl rfl) rfl) (.cons (ab rfl rfl) rfl .nil) (.mk _ rfl))) (λ env x=>rfl) (aG rfl) (bu W (O _) (aU rfl rfl) (.cons (ab rfl rfl) rfl .nil) (.mk _ rfl))) rfl .nil) i_) eF)) az
def Ia:Nat->AR:=dG ["self"] (a_ "kid") (kL (bU (af "self") "find" [af "kid"]))
def D7:AG:=a_ "c"
def D8:AS:=aw (b0 (dX (aB (aZ (af "self") (ak "above")) (af "c") aj) (af "n"))) aJ
def D9:AS:=aw (b0 (bU (af "self") "look_at" [af "n"])) (aw (da (af "n")) aJ)
def TU:AS:=aw (aI (bU (aZ (af "self") (ak "bank")) "take" [af "op",af "numbers"]) (a_ "n")) (aw (eP (bX (aB (af "n") (bU (aZ (af "self") (ak "unions")) "size" []) rS)) (aw (da (af "n")) aJ) aJ) (aw (b0 (bU (aZ (af "self") (ak "unions")) "make" [])) (aw (aI (dx []) (jw (aZ (af "self") (ak "above")) (af "n"))) (aw (jx ["n","self"] (fq (bM [bM [d3 (fq (af "numbers")) ["self"] (Ia)] wd] dZ)) D7 D8) D9))))
noncomputable def M7:List String:=["self","op","numbers"]
theorem aay:SB G d F [21,3] TU:=
 ag (aC (bu W (O _) (aA W (aU rfl rfl) rfl) (.cons (ab rfl rfl) rfl (.cons (ab rfl rfl) rfl .nil)) (.mk _ rfl)) (aG rfl) rfl rfl rfl) (ag (cE (bh (ab rfl rfl) (bu W (O _) (aA W (aU rfl rfl) rfl) .nil (.mk _ rfl)) I1 rfl) (ag (bL (ab rfl rfl)) az) az) (ag (br (bu W (O _) (aA W (aU rfl rfl) rfl) .nil (.mk _ rfl)) rfl) (ag (aC (cx .nil rfl) (fg (aA W (aU rfl rfl) rfl) (ab rfl rfl)) rfl rfl rfl) (ag (fh (dw (ba W V.sorted rfl rfl (aN _) (.cons (ba W V.set rfl rfl (cZ _) (.cons (jN (ns:=["self"]) (fs:=["self"]) rfl (dw (ab rfl rfl)) (λ env x=>rfl) (aG rfl) (bu W (O _) (aU rfl rfl) (.cons (ab rfl rfl) rfl .nil) (.mk _ rfl))) rfl .nil) DT) rfl .nil) (jj W))) (aG rfl) (ag (br (dk (aF (aA W (aU rfl rfl) rfl) (ab rfl rfl)) (ab rfl rfl) rfl (.mk _ rfl)) rfl) az) (λ env x=>rfl) (λ aa h=>.inl h)) (ag (br (bu W (O _) (aU rfl rfl) (.cons (ab rfl rfl) rfl .nil) (.mk _ rfl)) rfl) (ag (bL (ab rfl rfl)) az))))))
def AP:AS:=aw (aI (uM (aZ (af "self") (ak "known")) vZ [bU (af "self") "node" [af "n"],af "n"] i') (a_ "other")) (aw (eP (bX (aB (bU (af "self") "find" [af "other"]) (bU (af "self") "find" [af "n"]) fW)) (aw (b0 (bU (af "self") "join" [af "other",af "n",cG [dA "like"]])) aJ) aJ) aJ)
noncomputable def xT:List String:=["self","n"]
theorem M8:SB G d F [21,5] AP:=
 ag (aC (Jq W (aA W (ab rfl rfl) rfl) (.cons (bu W (O _) (ab rfl rfl) (.cons (ab rfl rfl) rfl .nil) (.mk _ rfl)) rfl (.cons (ab rfl rfl) rfl .nil)) (.mk _ rfl)) (aG rfl) rfl rfl rfl) (ag (cE (bh (bu W (O _) (ab rfl rfl) (.cons (ab rfl rfl) rfl .nil) (.mk _ rfl)) (bu W (O _) (ab rfl rfl) (.cons (ab rfl rfl) rfl .nil) (.mk _ rfl)) lC rfl) (ag (br (bu W (O _) (ab rfl rfl) (.cons (ab rfl rfl) rfl (.cons (ab rfl rfl) rfl (.cons (bJ (.cons cf rfl .nil) rfl) rfl .nil))) (.mk _ rfl)) rfl) az) az) az)
def M9:AS:=aw (da (bU (aZ (af "self") (ak "unions")) "find" [af "n"])) aJ
noncomputable def Ib:List String:=["self","n"]
theorem XZ:SB G d F [21,6] M9:=
 ag (bL (bu W (O _) (aA W (ab rfl rfl) rfl) (.cons (ab rfl rfl) rfl .nil) (.mk _ rfl))) az
def Ic:AS:=aw (da (bU (af "self") "join" [af "a",af "b",af "reason"])) aJ
noncomputable def D_:List String:=["self","a","b","reason"]
theorem UK:SB G d F [21,8] Ic:=
 ag (bL (bu W (O _) (ab rfl rfl) (.cons (ab rfl rfl) rfl (.cons (ab rfl rfl) rfl (.cons (ab rfl rfl) rfl .nil))) (.mk _ rfl))) az
def Ie:AS:=aw (b0 (dX (aZ (af "self") (ak "edges")) (cG [af "a",af "b",af "reason"]))) (aw (aI (bU (aZ (af "self") (ak "unions")) "merge" [af "a",af "b"]) (a_ "merged")) (aw (eP (bX (aB (af "merged") mV Dc)) (aw (da (mW false)) aJ) aJ) (aw (aI (af "merged") (gz [a_ "kept",a_ "gone"])) (aw (b0 (dX (aZ (af "self") (ak "forest")) (aB (bM [aZ (af "self") (ak "edges")] bH) (aY 1) fV))) (aw (b0 (ub (aZ (af "self") (ak "waiting")) (aB (aZ (af "self") (ak "above")) (af "gone") aj))) (aw (aI (aB (aB (aZ (af "self") (ak "above")) (af "kept") aj) (uM (aZ (af "self") (ak "above")) mB [af "gone"] ue) cq) (jw (aZ (af "self") (ak "above")) (af "kept"))) (aw (da (mW true)) aJ)))))))
noncomputable def D':List String:=["self","a","b","reason"]
theorem UL:SB G d F [21,9] Ie:=
 ag (br (dk (aA W (ab rfl rfl) rfl) (bJ (.cons (ab rfl rfl) rfl (.cons (ab rfl rfl) rfl (.cons (ab rfl rfl) rfl .nil))) rfl) rfl (.mk _ rfl)) rfl) (ag (aC (bu W (O _) (aA W (ab rfl rfl) rfl) (.cons (ab rfl rfl) rfl (.cons (ab rfl rfl) rfl .nil)) (.mk _ rfl)) (aG rfl) rfl rfl rfl) (ag (cE (bh (ab rfl rfl) j9 Wn rfl) (ag (bL j_) az) az) (ag (aC (ab rfl rfl) (d7 (.cons (aG rfl) rfl (.cons (aG rfl) rfl .nil))) rfl rfl rfl) (ag (br (dk (aA W (ab rfl rfl) rfl) (b8 (ba W V.len rfl rfl (aN _) (.cons (aA W (ab rfl rfl) rfl) rfl .nil) cJ) aD lR) rfl (.mk _ rfl)) rfl) (ag (br (se (aA W (ab rfl rfl) rfl) (aF (aA W (ab rfl rfl) rfl) (ab rfl rfl)) rfl (.mk _ rfl)) rfl) (ag (aC (b8 (aF (aA W (ab rfl rfl) rfl) (ab rfl rfl)) (Uz W (aA W (ab rfl rfl) rfl) (.cons (ab rfl rfl) rfl .nil) (.mk _ rfl)) eF) (fg (aA W (ab rfl rfl) rfl) (ab rfl rfl)) rfl rfl rfl) (ag (bL j_) az)))))))
def u7:AT:=bX (aB (bM [aZ (af "self") (ak "waiting")] bH) (aY 0) gK)
def u9:AS:=aw (b0 (bU (af "self") "look_at" [lH (aZ (af "self") (ak "waiting"))])) aJ
def Ea:AS:=aw (jB ["self"] u7 u9) aJ
noncomputable def AQ:List String:=["self"]
theorem QA:SB G d F [21,10] Ea:=
 ag (gi (bh (ba W V.len rfl rfl (aN _) (.cons (aA W (ab rfl rfl) rfl) rfl .nil) cJ) aD mz rfl) (ag (br (bu W (O _) (ab rfl rfl) (.cons (iz (aA W (ab rfl rfl) rfl) (.mk _ rfl)) rfl .nil) (.mk _ rfl)) rfl) az)) az
def sU:AS:=aw (b0 (y_ "__init__" [])) (aw (aI (dx []) (dD (af "self") "changes")) (aw (aI (dx []) (dD (af "self") "marks")) (aw (aI (aY 0) (dD (af "self") "made")) aJ)))
noncomputable def mE:List String:=["self"]
theorem Eb(WS:uO G){fd:FuncData}{oc:Value}{od:Option Addr}{gZ:Array (Option Value)}{a:Addr}(q9:G.K.lookup a=some ⟨oc,od,.func fd,gZ⟩)(FS:ji G a mE (bc (aT pw [23,0])) (bt (aT pw [23,0]))):
  jO ⟨G,d,F,bc (aT pw [23,0])⟩ a fd (bt (aT pw [23,0])) (bt (aT pw [23,0])) sU:=
 q_ W WS (O _) FS q9 .nil rfl (λ env=>⟨_,rfl⟩) (λ env he=>by cases env;cases he;kernel_rfl) (λ env=>rfl) (gp (aC (cx .nil rfl) (b9 W (ab rfl rfl)) rfl rfl rfl) (gp (aC (cx .nil rfl) (b9 W (ab rfl rfl)) rfl rfl rfl) (gp (aC aD (b9 W (ab rfl rfl)) rfl rfl rfl) sz)))
def M_:AS:=aw (b0 (dX (aZ (af "self") (ak "marks")) (cG [bM [aZ (af "self") (ak "changes")] bH,bM [aZ (af "self") (ak "waiting")] kM]))) aJ
noncomputable def Ig:List String:=["self"]
theorem X0:SB G d F [23,2] M_:=
 ag (br (dk (aA W (ab rfl rfl) rfl) (bJ (.cons (ba W V.len rfl rfl (aN _) (.cons (aA W (ab rfl rfl) rfl) rfl .nil) cJ) rfl (.cons (ba W V.list rfl rfl (cZ _) (.cons (aA W (ab rfl rfl) rfl) rfl .nil) (v8 W)) rfl .nil)) rfl) rfl (.mk _ rfl)) rfl) az
def Ec:AT:=bX (aB (bM [aZ (af "self") (ak "changes")] bH) (af "many") gK)
def Ed:AS:=aw (aI (lH (aZ (af "self") (ak "changes"))) (a_ "change")) (aw (eP (bX (aB (aB (af "change") (aY 0) aj) (dA "made") dK)) (aw (b0 (bU (af "self") "unmake" [aB (af "change") (aY 1) aj])) aJ) (aw (eP (bX (aB (aB (af "change") (aY 0) aj) (dA "known") dK)) (aw (P6 (aZ (af "self") (ak "known")) (aB (af "change") (aY 1) aj)) aJ) (aw (b0 (bU (af "self") "unjoin" [af "change"])) aJ)) aJ)) aJ)
def Ee:AS:=aw (aI (af "waiting") (dD (af "self") "waiting")) aJ
def TV:AS:=aw (eP (bX (aB (bM [aZ (af "self") (ak "marks")] bH) (aY 0) dK)) (aw jE aJ) aJ) (aw (aI (lH (aZ (af "self") (ak "marks"))) (gz [a_ "many",a_ "waiting"])) (aw (aI (aB (aZ (af "self") (ak "backs")) (aY 1) cq) (dD (af "self") "backs")) (aw (jB ["many","self","waiting"] Ec Ed) Ee)))
noncomputable def M':List String:=["self"]
theorem aaz:SB G d F [23,3] TV:=
 ag (cE (bh (ba W V.len rfl rfl (aN _) (.cons (aA W (ab rfl rfl) rfl) rfl .nil) cJ) aD fX rfl) (ag gn az) az) (ag (aC (iz (aA W (ab rfl rfl) rfl) (.mk _ rfl)) (d7 (.cons (aG rfl) rfl (.cons (aG rfl) rfl .nil))) rfl rfl rfl) (ag (aC (b8 (aA W (ab rfl rfl) rfl) aD eF) (b9 W (ab rfl rfl)) rfl rfl rfl) (ag (gi (bh (ba W V.len rfl rfl (aN _) (.cons (aA W (ab rfl rfl) rfl) rfl .nil) cJ) (ab rfl rfl) mz rfl) (ag (aC (iz (aA W (ab rfl rfl) rfl) (.mk _ rfl)) (aG rfl) rfl rfl rfl) (ag (cE (bh (aF (ab rfl rfl) aD) cf fX rfl) (ag (br (bu W (O _) (ab rfl rfl) (.cons (aF (ab rfl rfl) aD) rfl .nil) (.mk _ rfl)) rfl) az) (ag (cE (bh (aF (ab rfl rfl) aD) cf fX rfl) (ag (HK (aA W (ab rfl rfl) rfl) (aF (ab rfl rfl) aD)) az) (ag (br (bu W (O _) (ab rfl rfl) (.cons (ab rfl rfl) rfl .nil) (.mk _ rfl)) rfl) az)) az)) az))) (ag (aC (ab rfl rfl) (b9 W (ab rfl rfl)) rfl rfl rfl) az))))
def Ef:AS:=aw (eP (bX (aB (af "n") (aZ (af "self") (ak "made")) dK)) (aw (b0 (dX (aZ (af "self") (ak "changes")) (cG [dA "made",af "n"]))) (aw (aI (aB (af "n") (aY 1) cq) (dD (af "self") "made")) aJ)) aJ) (aw (aI (bU (af "self") "node" [af "n"]) (a_ "node")) (aw (eP (bX (aB (af "node") (aZ (af "self") (ak "known")) fM)) (aw (b0 (dX (aZ (af "self") (ak "changes")) (cG [dA "known",af "node"]))) aJ) aJ) (aw (b0 (y_ "look_at" [af "n"])) aJ)))
noncomputable def sV:List String:=["self","n"]
theorem QB(WS:uO G){fd:FuncData}{oc:Value}{od:Option Addr}{gZ:Array (Option Value)}{a:Addr}(q9:G.K.lookup a=some ⟨oc,od,.func fd,gZ⟩)(FS:ji G a sV (bc (aT pw [23,4])) (bt (aT pw [23,4]))):
  jO ⟨G,d,F,bc (aT pw [23,4])⟩ a fd (bt (aT pw [23,4])) (bt (aT pw [23,4])) Ef:=
 gp (cE (bh (ab rfl rfl) (aA W (ab rfl rfl) rfl) fX rfl) (ag (br (dk (aA W (ab rfl rfl) rfl) (bJ (.cons cf rfl (.cons (ab rfl rfl) rfl .nil)) rfl) rfl (.mk _ rfl)) rfl) (ag (aC (b8 (ab rfl rfl) aD eF) (b9 W (ab rfl rfl)) rfl rfl rfl) az)) az) (gp (aC (bu W (O _) (ab rfl rfl) (.cons (ab rfl rfl) rfl .nil) (.mk _ rfl)) (aG rfl) rfl rfl rfl) (gp (cE (bh (ab rfl rfl) (aA W (ab rfl rfl) rfl) (nj W) rfl) (ag (br (dk (aA W (ab rfl rfl) rfl) (bJ (.cons cf rfl (.cons (ab rfl rfl) rfl .nil)) rfl) rfl (.mk _ rfl)) rfl) az) az) (q_ W WS (O _) FS q9 (.cons (ab rfl rfl) rfl .nil) rfl (λ env=>⟨_,rfl⟩) (λ env he=>by cases env;cases he;kernel_rfl) (λ env=>rfl) sz)))
def Na:AS:=aw (aI (bM [dx [bU (af "self") "find" [af "a"],bU (af "self") "find" [af "b"]]] dZ) (gz [a_ "kept",a_ "gone"])) (aw (b0 (dX (aZ (af "self") (ak "changes")) (cG [dA "edge",af "kept",bM [aB (aZ (af "self") (ak "above")) (af "kept") aj] bH,af "gone",aB (aZ (af "self") (ak "above")) (af "gone") aj]))) (aw (da (y_ "join" [af "a",af "b",af "reason"])) aJ))
noncomputable def zd:List String:=["self","a","b","reason"]
theorem X1(WS:uO G){fd:FuncData}{oc:Value}{od:Option Addr}{gZ:Array (Option Value)}{a:Addr}(q9:G.K.lookup a=some ⟨oc,od,.func fd,gZ⟩)(FS:ji G a zd (bc (aT pw [23,5])) (bt (aT pw [23,5]))):
  jO ⟨G,d,F,bc (aT pw [23,5])⟩ a fd (bt (aT pw [23,5])) (bt (aT pw [23,5])) Na:=
 gp (aC (ba W V.sorted rfl rfl (aN _) (.cons (cx (.cons (bu W (O _) (ab rfl rfl) (.cons (ab rfl rfl) rfl .nil) (.mk _ rfl)) rfl (.cons (bu W (O _) (ab rfl rfl) (.cons (ab rfl rfl) rfl .nil) (.mk _ rfl)) rfl .nil)) rfl) rfl .nil) (jj W)) (d7 (.cons (aG rfl) rfl (.cons (aG rfl) rfl .nil))) rfl rfl rfl) (gp (br (dk (aA W (ab rfl rfl) rfl) (bJ (.cons cf rfl (.cons (ab rfl rfl) rfl (.cons (ba W V.len rfl rfl (aN _) (.cons (aF (aA W (ab rfl rfl) rfl) (ab rfl rfl)) rfl .nil) cJ) rfl (.cons (ab rfl rfl) rfl (.cons (aF (aA W (ab rfl rfl) rfl) (ab rfl rfl)) rfl .nil))))) rfl) rfl (.mk _ rfl)) rfl) (DQ W WS (O _) FS q9 (.cons (ab rfl rfl) rfl (.cons (ab rfl rfl) rfl (.cons (ab rfl rfl) rfl .nil))) rfl (λ env=>⟨_,rfl⟩) sz))
def xU:Nat->AR:=dG ["self"] (a_ "kid") (kL (bU (af "self") "find" [af "kid"]))
def u_:AG:=a_ "c"
def vc:AS:=aw (b0 (lH (aB (aZ (af "self") (ak "above")) (af "c") aj))) aJ
def vd:AS:=aw (P6 (aZ (af "self") (ak "above")) (af "n")) (aw (b0 (bU (aZ (af "self") (ak "unions")) "cut" [af "n"])) (aw (b0 (bU (aZ (af "self") (ak "bank")) "cut" [af "n"])) (aw (aI (af "n") (dD (af "self") "made")) aJ)))
def Eg:AS:=aw (jx ["n","self"] (fq (bM [bM [d3 (fq (bU (aZ (af "self") (ak "bank")) "kids" [af "n"])) ["self"] (xU)] wd] dZ)) u_ vc) vd
noncomputable def AU:List String:=["self","n"]
theorem QC:SB G d F [23,6] Eg:=
 ag (fh (dw (ba W V.sorted rfl rfl (aN _) (.cons (ba W V.set rfl rfl (cZ _) (.cons (jN (ns:=["self"]) (fs:=["self"]) rfl (dw (bu W (O _) (aA W (aU rfl rfl) rfl) (.cons (ab rfl rfl) rfl .nil) (.mk _ rfl))) (λ env x=>rfl) (aG rfl) (bu W (O _) (aU rfl rfl) (.cons (ab rfl rfl) rfl .nil) (.mk _ rfl))) rfl .nil) DT) rfl .nil) (jj W))) (aG rfl) (ag (br (iz (aF (aA W (aU rfl rfl) rfl) (ab rfl rfl)) (.mk _ rfl)) rfl) az) (λ env x=>rfl) (λ aa h=>.inl h)) (ag (HK (aA W (aU rfl rfl) rfl) (ab rfl rfl)) (ag (br (bu W (O _) (aA W (aU rfl rfl) rfl) (.cons (ab rfl rfl) rfl .nil) (.mk _ rfl)) rfl) (ag (br (bu W (O _) (aA W (aU rfl rfl) rfl) (.cons (ab rfl rfl) rfl .nil) (.mk _ rfl)) rfl) (ag (aC (ab rfl rfl) (b9 W (aU rfl rfl)) rfl rfl rfl) az))))
def Eh:AS:=aw (aI (af "change") (gz [a_ "kind",a_ "kept",a_ "many",a_ "gone",a_ "users"])) (aw (b0 (lH (aZ (af "self") (ak "edges")))) (aw (eP (bX (aB (af "kept") (af "gone") fW)) (aw (b0 (lH (aZ (af "self") (ak "forest")))) (aw (b0 (bU (aZ (af "self") (ak "unions")) "back" [aB (bM [aZ (aZ (af "self") (ak "unions")) (ak "merged")] bH) (aY 1) fV])) (aw (aI (gO (aB (aZ (af "self") (ak "above")) (af "kept") aj) none (some (af "many")) none) (jw (aZ (af "self") (ak "above")) (af "kept"))) (aw (aI (af "users") (jw (aZ (af "self") (ak "above")) (af "gone"))) aJ)))) aJ) aJ))
noncomputable def AW:List String:=["self","change"]
theorem QD:SB G d F [23,7] Eh:=
 ag (aC (ab rfl rfl) (d7 (.cons (aG rfl) rfl (.cons (aG rfl) rfl (.cons (aG rfl) rfl (.cons (aG rfl) rfl (.cons (aG rfl) rfl .nil)))))) rfl rfl rfl) (ag (br (iz (aA W (ab rfl rfl) rfl) (.mk _ rfl)) rfl) (ag (cE (bh (ab rfl rfl) (ab rfl rfl) lC rfl) (ag (br (iz (aA W (ab rfl rfl) rfl) (.mk _ rfl)) rfl) (ag (br (bu W (O _) (aA W (ab rfl rfl) rfl) (.cons (b8 (ba W V.len rfl rfl (aN _) (.cons (aA W (aA W (ab rfl rfl) rfl) rfl) rfl .nil) cJ) aD lR) rfl .nil) (.mk _ rfl)) rfl) (ag (aC (fF (aF (aA W (ab rfl rfl) rfl) (ab rfl rfl)) .none (.some (ab rfl rfl)) .none) (fg (aA W (ab rfl rfl) rfl) (ab rfl rfl)) rfl rfl rfl) (ag (aC (ab rfl rfl) (fg (aA W (ab rfl rfl) rfl) (ab rfl rfl)) rfl rfl rfl) az)))) az) az))
def Nb:AS:=aw (aI (aB (af "feed") (dA "at") aj) (a_ "at")) (aw (aI (aB (af "at") (aY 1) cq) (jw (af "feed") (dA "at"))) (aw (da (aB (qY (bX (aB (af "at") (bM [aB (af "feed") (dA "row") aj] bH) rS)) (aB (aB (af "feed") (dA "row") aj) (af "at") aj) (aB (aB (aB (aB (aB (aY 5) (af "at") vP) (af "at") vP) (aB (aY 8) (af "at") vP) cq) (aB (af "at") (aY 3) PH) cq) (aY 2) cq)) (af "many") pW)) aJ))
noncomputable def Ih:List String:=["feed","many"]
theorem X2:SB G d F [25] Nb:=
 ag (aC (aF (ab rfl rfl) cf) (aG rfl) rfl rfl rfl) (ag (aC (b8 (ab rfl rfl) aD eF) (fg (ab rfl rfl) cf) rfl rfl rfl) (ag (bL (b8 (fY (bh (ab rfl rfl) (ba W V.len rfl rfl (aN _) (.cons (aF (ab rfl rfl) cf) rfl .nil) cJ) I1 rfl) (aF (aF (ab rfl rfl) cf) (ab rfl rfl)) (b8 (b8 (b8 (b8 (b8 aD (ab rfl rfl) I3) (ab rfl rfl) I3) (b8 aD (ab rfl rfl) I3) eF) (b8 (ab rfl rfl) aD aad) eF) aD eF)) (ab rfl rfl) I4)) az))
def AX:Nat->AR:=dG ["nodes"] (a_ "kid") (kL (gY .hJ [af "nodes",af "kid"]))
def Ii:AS:=aw (da (aB (cG [aB (aB (af "nodes") (af "n") aj) (aY 0) aj]) (bM [d3 (fq (gO (aB (af "nodes") (af "n") aj) (some (aY 1)) none none)) ["nodes"] (AX)] eL) cq)) aJ
noncomputable def Ei:List String:=["nodes","n"]
theorem UM:SB G d F [26] Ii:=
 ag (bL (b8 (bJ (.cons (aF (aF (aU rfl rfl) (ab rfl rfl)) aD) rfl .nil) rfl) (ba W V.tuple rfl rfl (cZ _) (.cons (jN (ns:=["nodes"]) (fs:=["nodes"]) rfl (dw (fF (aF (aU rfl rfl) (ab rfl rfl)) (.some aD) .none .none)) (λ env x=>rfl) (aG rfl) (dN W (O _) V.lJ rfl rfl (.cons (aU rfl rfl) rfl (.cons (ab rfl rfl) rfl .nil)))) rfl .nil) i_) eF)) az
def Ej:Nat->AR:=dG ["feed","nodes"] (a_ "turn") (kL (gY .dH [af "feed",bM [bM [af "nodes"] bH,aY 4] Dl]))
def Nc:AS:=aw (aI (aB (dA "fg") (gY .dH [af "feed",aY 2]) aj) (a_ "op")) (aw (aI (aB (cG [af "op"]) (bM [d3 (y0 [qY (bX (aB (af "op") (dA "f") dK)) (aY 1) (aY 2)]) ["feed","nodes"] (Ej)] eL) cq) (a_ "node")) (aw (b0 (bU (af "heap") "add" [af "op",gO (af "node") (some (aY 1)) none none])) (aw (da (qY (bX (aB (af "node") (af "nodes") pe)) (af "nodes") (aB (af "nodes") (dx [af "node"]) cq))) aJ)))
noncomputable def Ij:List String:=["feed","heap","nodes"]
theorem X3:SB G d F [27] Nc:=
 ag (aC (aF cf (dN W (O _) V.ja rfl rfl (.cons (aU rfl rfl) rfl (.cons aD rfl .nil)))) (aG rfl) rfl rfl rfl) (ag (aC (b8 (bJ (.cons (ab rfl rfl) rfl .nil) rfl) (ba W V.tuple rfl rfl (cZ _) (.cons (jN (ns:=["feed","nodes"]) (fs:=["feed","nodes"]) rfl (pd W V.range rfl (cZ _) (.cons (fY (bh (ab rfl rfl) cf fX rfl) aD aD) rfl .nil)) (λ env x=>rfl) (aG rfl) (dN W (O _) V.ja rfl rfl (.cons (aU rfl rfl) rfl (.cons (ba W V.min rfl rfl (aN _) (.cons (ba W V.len rfl rfl (aN _) (.cons (aU rfl rfl) rfl .nil) cJ) rfl (.cons aD rfl .nil)) WA) rfl .nil)))) rfl .nil) i_) eF) (aG rfl) rfl rfl rfl) (ag (br (bu W (O _) (ab rfl rfl) (.cons (ab rfl rfl) rfl (.cons (fF (ab rfl rfl) (.some aD) .none .none) rfl .nil)) (.mk _ rfl)) rfl) (ag (bL (fY (bh (ab rfl rfl) (aU rfl rfl) (Jh W) rfl) (aU rfl rfl) (b8 (aU rfl rfl) (cx (.cons (ab rfl rfl) rfl .nil) rfl) eF))) az)))
def AY:Nat->AR:=dG ["nodes","told"] (a_ "one") (kL (gY .mT [af "one",af "nodes",af "told"]))
def AZ:Nat->AR:=dG [] (a_ "one") (kL (aB (af "one") (aY 0) aj))
def A4:Nat->AR:=dG [] (a_ "one") (kL (aB (af "one") (aY 1) aj))
def Ik:AS:=aw (aI (aB (af "paper") (aY 0) aj) (a_ "kind")) (aw (eP (bX (aB (af "kind") (dA "same") dK)) (aw (da (cG [aB (af "paper") (aY 1) aj,aB (af "paper") (aY 1) aj])) aJ) aJ) (aw (eP (bX (aB (af "kind") (dA "told") dK)) (aw (aI (Jl (af "told") (aB (af "paper") (aY 1) aj)) (a_ "pair")) (aw (da (qY (bX (aB (af "pair") mV Dc)) mV (cG [gY .hJ [af "nodes",aB (af "pair") (aY 0) aj],gY .hJ [af "nodes",aB (af "pair") (aY 1) aj]]))) aJ)) aJ) (aw (aI (d3 (fq (qY (bX (aB (af "kind") (dA "under") dK)) (aB (af "paper") (aY 2) aj) (gO (af "paper") (some (aY 1)) none none))) ["nodes","told"] AY) (a_ "some")) (aw (eP (qX (bX (aB mV (af "some") pe)) (qX (bX (aB (af "kind") (dA "rule") dK)) o9)) (aw (da mV) aJ) aJ) (aw (eP (bX (aB (af "kind") (dA "turn") dK)) (aw (da (cG [aB (aB (af "some") (aY 0) aj) (aY 1) aj,aB (aB (af "some") (aY 0) aj) (aY 0) aj])) aJ) aJ) (aw (eP (bX (aB (af "kind") (dA "join") dK)) (aw (da (qY (bX (aB (aB (aB (af "some") (aY 0) aj) (aY 1) aj) (aB (aB (af "some") (aY 1) aj) (aY 0) aj) dK)) (cG [aB (aB (af "some") (aY 0) aj) (aY 0) aj,aB (aB (af "some") (aY 1) aj) (aY 1) aj]) mV)) aJ) aJ) (aw (da (cG [aB (cG [aB (af "paper") (aY 1) aj]) (bM [d3 (fq (af "some")) [] (AZ)] eL) cq,aB (cG [aB (af "paper") (aY 1) aj]) (bM [d3 (fq (af "some")) [] (A4)] eL) cq])) aJ)))))))
noncomputable def Ek:List String:=["paper","nodes","told"]
theorem UN:SB G d F [28] Ik:=
 ag (aC (aF (ab rfl rfl) aD) (aG rfl) rfl rfl rfl) (ag (cE (bh (ab rfl rfl) cf fX rfl) (ag (bL (bJ (.cons (aF (ab rfl rfl) aD) rfl (.cons (aF (ab rfl rfl) aD) rfl .nil)) rfl)) az) az) (ag (cE (bh (ab rfl rfl) cf fX rfl) (ag (aC (HF W (aU rfl rfl) (aF (ab rfl rfl) aD) rfl (.mk _ rfl)) (aG rfl) rfl rfl rfl) (ag (bL (fY (bh (ab rfl rfl) j9 Wn rfl) j9 (bJ (.cons (dN W (O _) V.lJ rfl rfl (.cons (aU rfl rfl) rfl (.cons (aF (ab rfl rfl) aD) rfl .nil))) rfl (.cons (dN W (O _) V.lJ rfl rfl (.cons (aU rfl rfl) rfl (.cons (aF (ab rfl rfl) aD) rfl .nil))) rfl .nil)) rfl))) az)) az) (ag (My (ns:=["nodes","told"]) (fs:=["nodes","told"]) rfl (dw (fY (bh (ab rfl rfl) cf fX rfl) (aF (ab rfl rfl) aD) (fF (ab rfl rfl) (.some aD) .none .none))) (λ env x=>rfl) (aG rfl) (dN W (O _) V.sC rfl rfl (.cons (ab rfl rfl) rfl (.cons (aU rfl rfl) rfl (.cons (aU rfl rfl) rfl .nil)))) rfl (λ env he=>by cases env;cases he;kernel_rfl)) (ag (cE (rU (.cons (bh j9 (ab rfl rfl) (Jh W) rfl) (.cons (bh (ab rfl rfl) cf fX rfl) .nil))) (ag (bL j9) az) az) (ag (cE (bh (ab rfl rfl) cf fX rfl) (ag (bL (bJ (.cons (aF (aF (ab rfl rfl) aD) aD) rfl (.cons (aF (aF (ab rfl rfl) aD) aD) rfl .nil)) rfl)) az) az) (ag (cE (bh (ab rfl rfl) cf fX rfl) (ag (bL (fY (bh (aF (aF (ab rfl rfl) aD) aD) (aF (aF (ab rfl rfl) aD) aD) fX rfl) (bJ (.cons (aF (aF (ab rfl rfl) aD) aD) rfl (.cons (aF (aF (ab rfl rfl) aD) aD) rfl .nil)) rfl) j9)) az) az) (ag (bL (bJ (.cons (b8 (bJ (.cons (aF (ab rfl rfl) aD) rfl .nil) rfl) (ba W V.tuple rfl rfl (cZ _) (.cons (jN (ns:=[]) (fs:=[]) rfl (dw (ab rfl rfl)) (λ env x=>rfl) (aG rfl) (aF (ab rfl rfl) aD)) rfl .nil) i_) eF) rfl (.cons (b8 (bJ (.cons (aF (ab rfl rfl) aD) rfl .nil) rfl) (ba W V.tuple rfl rfl (cZ _) (.cons (jN (ns:=[]) (fs:=[]) rfl (dw (ab rfl rfl)) (λ env x=>rfl) (aG rfl) (aF (ab rfl rfl) aD)) rfl .nil) i_) eF) rfl .nil)) rfl)) az)))))))
def vf:AG:=a_ "one"
def vg:AS:=aw (b0 (ub (af "found") (gY .l7 [af "one"]))) aJ
def vi:AS:=aw (da (af "found")) aJ
def El:AS:=aw (eP (bX (aB (aB (af "paper") (aY 0) aj) (cG [dA "same",dA "told"]) pe)) (aw (da (qY (bX (aB (aB (af "paper") (aY 0) aj) (dA "told") dK)) (dx [aB (af "paper") (aY 1) aj]) (dx []))) aJ) aJ) (aw (aI (dx []) (a_ "found")) (aw (jx ["found"] (fq (qY (bX (aB (aB (af "paper") (aY 0) aj) (dA "under") dK)) (aB (af "paper") (aY 2) aj) (gO (af "paper") (some (aY 1)) none none))) vf vg) vi))
noncomputable def A5:List String:=["paper"]
theorem QE:SB G d F [29] El:=
 ag (cE (bh (aF (ab rfl rfl) aD) (bJ (.cons cf rfl (.cons cf rfl .nil)) rfl) (Jh W) rfl) (ag (bL (fY (bh (aF (ab rfl rfl) aD) cf fX rfl) (cx (.cons (aF (ab rfl rfl) aD) rfl .nil) rfl) (cx .nil rfl))) az) az) (ag (aC (cx .nil rfl) (aG rfl) rfl rfl rfl) (ag (fh (dw (fY (bh (aF (ab rfl rfl) aD) cf fX rfl) (aF (ab rfl rfl) aD) (fF (ab rfl rfl) (.some aD) .none .none))) (aG rfl) (ag (br (se (ab rfl rfl) (dN W (O _) V.qi rfl rfl (.cons (ab rfl rfl) rfl .nil)) rfl (.mk _ rfl)) rfl) az) (λ env x=>rfl) (λ aa h=>.inl h)) (ag (bL (ab rfl rfl)) az)))
def rj:AG:=gz [a_ "label",a_ "a",a_ "b"]
def rk:AS:=aw (aI (cG [af "a",af "b"]) (jw (af "told") (af "label"))) aJ
def sW:Nat->AR:=dG ["places"] (a_ "one") (HH (bX (aB (af "one") (af "places") fM)) (af "one"))
def rl:AG:=gz [a_ "index",gz [a_ "a",a_ "b",a_ "reason"]]
def rm:AS:=aw (aI (bU (af "whys") "of_edge" [af "index"]) (a_ "paper")) (aw (eP (bX (aB (aB (af "reason") (aY 0) aj) (dA "told") dK)) (aw (aI (af "index") (jw (af "places") (aB (af "reason") (aY 1) aj))) (aw (eP (qX (bX (aB (af "paper") (cG [dA "told",aB (af "reason") (aY 1) aj]) fW)) (qX (bX (aB (Jl (af "told") (aB (af "reason") (aY 1) aj)) (cG [af "a",af "b"]) fW)) o9)) (aw (da (mW false)) aJ) aJ) (aw S6 aJ))) aJ) (aw (eP (qX (bX (aB (aB (af "paper") (aY 0) aj) (dA "under") fW)) (qX (bX (aB (bM [aB (af "paper") (aY 2) aj] bH) (aB (bM [aB (af "nodes") (af "a") aj] bH) (aY 1) fV) fW)) (qX (bX (aB (d3 (fq (gY .l7 [af "paper"])) ["places"] sW) (dx []) wa)) o9))) (aw (da (mW false)) aJ) aJ) (aw (eP (bX (aB (gY .mT [af "paper",af "nodes",af "told"]) (cG [gY .hJ [af "nodes",af "a"],gY .hJ [af "nodes",af "b"]]) fW)) (aw (da (mW false)) aJ) aJ) aJ)))
def sX:Nat->AR:=dG [] (gz [a_ "label",a_ "a",a_ "b"]) (kL (af "label"))
def rn:AS:=aw (da (PK (aB (bM [af "places"] kM) (d3 (fq (af "events")) [] sX) v_) (aB (bU (af "heap") "size" []) (bM [af "nodes"] bH) dK))) aJ
def ro:AS:=aw (jx ["events","heap","nodes","places","told","whys"] (Tr [aZ (af "heap") (ak "edges")]) rl rm) rn
def xV:AS:=aw (aI (cG [iA (.dS []),iA (.dS [])]) (gz [a_ "told",a_ "places"])) (aw (jx ["events","heap","nodes","places","told","whys"] (fq (af "events")) rj rk) ro)
noncomputable def vj:List String:=["heap","whys","nodes","events"]
theorem JO:SB G d F [30] xV:=
 ag (p7 (bJ (.cons zR rfl (.cons zR rfl .nil)) rfl) (d7 (.cons (aG rfl) rfl (.cons (p6 rfl rfl) rfl .nil))) rfl (λ env he=>rfl) (λ env he=>by cases env;cases he;kernel_rfl)) (ag (fh (dw (ab rfl rfl)) (d7 (.cons (aG rfl) rfl (.cons (aG rfl) rfl (.cons (aG rfl) rfl .nil)))) (ag (aC (bJ (.cons (ab rfl rfl) rfl (.cons (ab rfl rfl) rfl .nil)) rfl) (fg (ab rfl rfl) (ab rfl rfl)) rfl rfl rfl) az) (λ env x=>rfl) (λ aa h=>.inl h)) (ag (fh (P9 W V.Ac rfl (.cons (aA W (ab rfl rfl) rfl) rfl .nil)) (d7 (.cons (aG rfl) rfl (.cons (d7 (.cons (aG rfl) rfl (.cons (aG rfl) rfl (.cons (aG rfl) rfl .nil)))) rfl .nil))) (ag (aC (bu W (O _) (ab rfl rfl) (.cons (ab rfl rfl) rfl .nil) (.mk _ rfl)) (aG rfl) rfl rfl rfl) (ag (cE (bh (aF (ab rfl rfl) aD) cf fX rfl) (ag (aC (ab rfl rfl) (fg (aU rfl rfl) (aF (ab rfl rfl) aD)) rfl rfl rfl) (ag (cE (rU (.cons (bh (ab rfl rfl) (bJ (.cons cf rfl (.cons (aF (ab rfl rfl) aD) rfl .nil)) rfl) lC rfl) (.cons (bh (HF W (ab rfl rfl) (aF (ab rfl rfl) aD) rfl (.mk _ rfl)) (bJ (.cons (ab rfl rfl) rfl (.cons (ab rfl rfl) rfl .nil)) rfl) lC rfl) .nil))) (ag (bL j_) az) az) (ag PQ az))) az) (ag (cE (rU (.cons (bh (aF (ab rfl rfl) aD) cf lC rfl) (.cons (bh (ba W V.len rfl rfl (aN _) (.cons (aF (ab rfl rfl) aD) rfl .nil) cJ) (b8 (ba W V.len rfl rfl (aN _) (.cons (aF (ab rfl rfl) (ab rfl rfl)) rfl .nil) cJ) aD lR) lC rfl) (.cons (bh (Tp (ns:=["places"]) (fs:=["places"]) rfl (dw (dN W (O _) V.qi rfl rfl (.cons (ab rfl rfl) rfl .nil))) (λ env x=>rfl) (aG rfl) (bh (ab rfl rfl) (aU rfl rfl) (nj W) rfl) (ab rfl rfl)) (cx .nil rfl) Tu rfl) .nil)))) (ag (bL j_) az) az) (ag (cE (bh (dN W (O _) V.sC rfl rfl (.cons (ab rfl rfl) rfl (.cons (ab rfl rfl) rfl (.cons (ab rfl rfl) rfl .nil)))) (bJ (.cons (dN W (O _) V.lJ rfl rfl (.cons (ab rfl rfl) rfl (.cons (ab rfl rfl) rfl .nil))) rfl (.cons (dN W (O _) V.lJ rfl rfl (.cons (ab rfl rfl) rfl (.cons (ab rfl rfl) rfl .nil))) rfl .nil)) rfl) lC rfl) (ag (bL j_) az) az) az)))) (λ env x=>rfl) (λ aa aa=>.inr ⟨_,_,_,rfl⟩)) (ag (bL (Hx (rR (ba W V.list rfl rfl (cZ _) (.cons (aU rfl rfl) rfl .nil) (v8 W)) (jN (ns:=[]) (fs:=[]) rfl (dw (ab rfl rfl)) (λ env x=>rfl) (d7 (.cons (aG rfl) rfl (.cons (aG rfl) rfl (.cons (aG rfl) rfl .nil)))) (ab rfl rfl)) Ts rfl) (rR (bu W (O _) (ab rfl rfl) .nil (.mk _ rfl)) (ba W V.len rfl rfl (aN _) (.cons (ab rfl rfl) rfl .nil) cJ) fX rfl))) az)))
end
end
end Mine
end
section
namespace Mine
section
open PySem
noncomputable def acb:List (Nat×List String×AS):=[(109,Ad,DV),(116,uW,xD),(121,pC,rd),(126,sD,uX),(140,uY,xE),(147,xF,Ae),(154,HZ,MT),(168,xG,Ak),(173,Al,DW),(185,H2,MV),(199,uZ,xI),(206,u4,xJ),(211,H3,MW),(218,xK,Ap),(239,xM,Aq),(246,TS,XR),(253,H4,MZ),(265,H5,M0),(272,Ax,D1),(307,rh,sS),(314,H6,M1),(321,ri,sT),(328,D4,H7),(335,Ay,D5),(342,xQ,Az),(361,H8,M4),(368,H9,M5),(389,u5,xR),(396,u6,xS),(401,H_,M6),(406,M7,TU),(420,xT,AP),(427,Ib,M9),(441,D_,Ic),(448,D',Ie),(455,AQ,Ea),(525,mE,sU),(539,Ig,M_),(546,M',TV),(554,sV,Ef),(562,zd,Na),(567,AU,Eg),(574,AW,Eh),(586,Ih,Nb),(591,Ei,Ii),(596,Ij,Nc),(601,Ek,Ik),(608,A5,El),(613,vj,xV)]
noncomputable def TX(n:Nat):List String×AS:=(acb.lookup n).getD ([],aJ)
noncomputable def acd(f:Fn):List String:=(TX f.bw).1
noncomputable def cOf(f:Fn):AS:=(TX f.bw).2
noncomputable def O:Nat->b_
 |0=>⟨λ aa aa aa aa=>False,λ aa aa aa aa=>False⟩
 |d+1=>⟨λ f=>HC (acd f) (cOf f) (O d),λ c=>TH c (O d)⟩
def dm(ao:AO)(s:U)(K:PV):Prop:=K (.ref s.length) (s++[ao])
def cj(A B:U->Prop):PV:=λ v s=>wZ v λ b=>if b then A s else B s
def tsn(A B:U->Prop):PV:=λ v s=>wZ v λ b=>if !b then A s else B s
def eJ(s:U)(K:PV)(bW:Nat->Nat->U->(U->Prop)->Prop):Prop:=∃n,bW n s.length (s++[.list []]) λ s'=>K (.ref s.length) s'
def fG(P:PV):PF:=λ f aa s=>f.out P s
def fi(Q:PF)(F:b_)(c:AS):PF:=λ f r s=>f.seq Q (λ r s=>c F r s Q) r s
def Nd(Q:PF)(F:b_)(ns:List String)(t:AT)(b:AS)(n:Nat):PF:=λ f r s=>f.turn Q (λ r s=>gM ns t b n F (dH ns r) s Q) r s
def adO(Q:PF)(F:b_)(ns:List String)(g:AG)(b:AS)(n:Nat)(x:aP):PF:=λ f r s=>f.turn Q (λ r s=>hV ns g b n x F (dH ns r) s Q) r s
end
end Mine
end
section
open PySem PySem.W PyProof.Rows PySem.Calls
namespace Mine
section
section
variable{G:bC} {d:Nat} {F:b_}
def A6:AG:=a_ "node"
def A7:AS:=aw (b0 (bU (af "heap") "add" [aB (af "node") (aY 0) aj,gO (af "node") (some (aY 1)) none none])) aJ
def A8:AG:=a_ "lap"
def A9:AS:=aw (aI (cG [qY (bX (aB (af "lap") (aY 0) gK)) (gY .dH [af "feed",aY 6]) (aY 0),aB (af "states") (v9 1) aj]) (gz [a_ "way",gz [a_ "nodes",a_ "events"]])) (aw (eP (bX (aB (af "way") (aY 5) dK)) (aw (b0 (bU (af "heap") "push" [])) (aw (b0 (dX (af "states") (cG [af "nodes",af "events"]))) aJ)) (aw (eP (vT (bX (aB (af "way") (aY 4) dK)) (vT (bX (aB (bM [af "states"] bH) (aY 1) gK)) CB)) (aw (b0 (bU (af "heap") "pop" [])) (aw (b0 (lH (af "states"))) aJ)) (aw (eP (bX (aB (af "way") (aY 3) dK)) (aw (aI (cG [gY .more [af "feed",af "heap",af "nodes"],af "events"]) (jw (af "states") (v9 1))) aJ) (aw (p8 (cG [gY .dH [af "feed",bM [af "nodes"] bH],gY .dH [af "feed",bM [af "nodes"] bH],aB (dA "t") (bM [af "lap"] Jr) cq]) [a_ "label",a_ "b",a_ "a"]) (aw (b0 (bU (af "heap") "merge" [af "a",af "b",cG [dA "told",af "label"]])) (aw (aI (cG [af "nodes",aB (af "events") (dx [cG [af "label",af "a",af "b"]]) cq]) (jw (af "states") (v9 1))) aJ)))) aJ)) aJ)) (aw (eP (bX (aB (gY .dH [af "feed",aY 3]) (aY 0) gK)) (aw (b0 (bU (af "heap") "settle" [])) aJ) aJ) aJ))
def A_:AG:=a_ "lap"
def Ba:AS:=aw (b0 (bU (af "heap") "pop" [])) aJ
def Bb:AS:=aw (b0 (bU (af "heap") "settle" [])) (aw (da (gY .hO [af "heap",af "whys",aB (aB (af "states") (aY 0) aj) (aY 0) aj,aB (aB (af "states") (aY 0) aj) (aY 1) aj])) aJ)
def Bc:AS:=aw (b0 (bU (af "heap") "settle" [])) (aw (eP (I8 (bX (gY .hO [af "heap",af "whys",aB (aB (af "states") (v9 1) aj) (aY 0) aj,aB (aB (af "states") (v9 1) aj) (aY 1) aj]))) (aw (da (mW false)) aJ) aJ) (aw (jx ["heap","states","whys"] (y0 [aB (bM [af "states"] bH) (aY 1) fV]) A_ Ba) Bb))
def Bd:AS:=aw (aI (gY .more [af "feed",af "heap",af "nodes"]) (a_ "nodes")) (aw (p8 (cG [MF .eb [af "heap"],dx [cG [af "nodes",dx []]]]) [a_ "states",a_ "whys"]) (aw (jx ["feed","heap","nodes","states","whys"] (y0 [aB (aY 4) (gY .dH [af "feed",aY 3]) cq]) A8 A9) Bc))
def Em:AS:=aw (p8 (cG [MF .levels [],dx [cG [dA "a"],cG [dA "b"],cG [dA "c"],cG [dA "f",aY 0],cG [dA "f",aY 1]]]) [a_ "nodes",a_ "heap"]) (aw (jx ["feed","heap","nodes"] (fq (af "nodes")) A6 A7) Bd)
end
end
section
section
variable{G:bC} {d:Nat} {F:b_}
theorem X4(W:Wd G)(V:Gl G)(O:∀sc,nH ⟨G,d,F,sc⟩)(OM:∀sc,y7 ⟨G,d,F,sc⟩):oN ⟨G,d,F,bc (aT pw [31])⟩ ((bt (aT pw [31])).drop 1) Em:=
 ag (lE (names:=[Str.ofString "heap",Str.ofString "nodes"]) (bJ (.cons (xt W (OM _) V.MP rfl rfl (o8 (V.keep .levels)) .nil) rfl (.cons (cx (.cons (bJ (.cons cf rfl .nil) rfl) rfl (.cons (bJ (.cons cf rfl .nil) rfl) rfl (.cons (bJ (.cons cf rfl .nil) rfl) rfl (.cons (bJ (.cons cf rfl (.cons aD rfl .nil)) rfl) rfl (.cons (bJ (.cons cf rfl (.cons aD rfl .nil)) rfl) rfl .nil))))) rfl) rfl .nil)) rfl) (.cons rfl (.cons rfl .nil)) (λ env he=>rfl) (λ env he=>by cases env;cases he;kernel_rfl)) (ag (fh (dw (ab rfl rfl)) (aG rfl) (ag (br (bu W (O _) (ab rfl rfl) (.cons (aF (ab rfl rfl) aD) rfl (.cons (fF (ab rfl rfl) (.some aD) .none .none) rfl .nil)) (.mk _ rfl)) rfl) az) (λ env x=>rfl) (λ aa h=>.inl h)) (ag (aC (dN W (O _) V.wg rfl rfl (.cons (ab rfl rfl) rfl (.cons (ab rfl rfl) rfl (.cons (ab rfl rfl) rfl .nil)))) (aG rfl) rfl rfl rfl) (ag (lE (names:=[Str.ofString "whys",Str.ofString "states"]) (bJ (.cons (xt W (OM _) V.XK rfl rfl (o8 (V.keep .eb)) (.cons (ab rfl rfl) rfl .nil)) rfl (.cons (cx (.cons (bJ (.cons (ab rfl rfl) rfl (.cons (cx .nil rfl) rfl .nil)) rfl) rfl .nil) rfl) rfl .nil)) rfl) (.cons rfl (.cons rfl .nil)) (λ env he=>rfl) (λ env he=>by cases env;cases he;kernel_rfl)) (ag (fh (pd W V.range rfl (cZ _) (.cons (b8 aD (dN W (O _) V.ja rfl rfl (.cons (ab rfl rfl) rfl (.cons aD rfl .nil))) eF) rfl .nil)) (aG rfl) (ag (p7 (bJ (.cons (fY (bh (ab rfl rfl) aD mz rfl) (dN W (O _) V.ja rfl rfl (.cons (ab rfl rfl) rfl (.cons aD rfl .nil))) aD) rfl (.cons (aF (ab rfl rfl) pz) rfl .nil)) rfl) (d7 (.cons (aG rfl) rfl (.cons (d7 (.cons (aG rfl) rfl (.cons (aG rfl) rfl .nil))) rfl .nil))) rfl (λ env he=>rfl) (λ env he=>by cases env;cases he;kernel_rfl)) (ag (cE (bh (ab rfl rfl) aD fX rfl) (ag (br (bu W (O _) (ab rfl rfl) .nil (.mk _ rfl)) rfl) (ag (br (dk (ab rfl rfl) (bJ (.cons (ab rfl rfl) rfl (.cons (ab rfl rfl) rfl .nil)) rfl) rfl (.mk _ rfl)) rfl) az)) (ag (cE (yW (.cons (bh (ab rfl rfl) aD fX rfl) (.cons (bh (ba W V.len rfl rfl (aN _) (.cons (ab rfl rfl) rfl .nil) cJ) aD mz rfl) .nil))) (ag (br (bu W (O _) (ab rfl rfl) .nil (.mk _ rfl)) rfl) (ag (br (iz (ab rfl rfl) (.mk _ rfl)) rfl) az)) (ag (cE (bh (ab rfl rfl) aD fX rfl) (ag (aC (bJ (.cons (dN W (O _) V.wg rfl rfl (.cons (ab rfl rfl) rfl (.cons (ab rfl rfl) rfl (.cons (ab rfl rfl) rfl .nil)))) rfl (.cons (ab rfl rfl) rfl .nil)) rfl) (fg (ab rfl rfl) pz) rfl rfl rfl) az) (ag (lE (names:=[Str.ofString "a",Str.ofString "b",Str.ofString "label"]) (bJ (.cons (dN W (O _) V.ja rfl rfl (.cons (ab rfl rfl) rfl (.cons (ba W V.len rfl rfl (aN _) (.cons (ab rfl rfl) rfl .nil) cJ) rfl .nil))) rfl (.cons (dN W (O _) V.ja rfl rfl (.cons (ab rfl rfl) rfl (.cons (ba W V.len rfl rfl (aN _) (.cons (ab rfl rfl) rfl .nil) cJ) rfl .nil))) rfl (.cons (b8 cf (ba W V.str rfl rfl (cZ _) (.cons (ab rfl rfl) rfl .nil) P8) eF) rfl .nil))) rfl) (.cons rfl (.cons rfl (.cons rfl .nil))) (λ env he=>rfl) (λ env he=>by cases env;cases he;kernel_rfl)) (ag (br (bu W (O _) (ab rfl rfl) (.cons (ab rfl rfl) rfl (.cons (ab rfl rfl) rfl (.cons (bJ (.cons cf rfl (.cons (ab rfl rfl) rfl .nil)) rfl) rfl .nil))) (.mk _ rfl)) rfl) (ag (aC (bJ (.cons (ab rfl rfl) rfl (.cons (b8 (ab rfl rfl) (cx (.cons (bJ (.cons (ab rfl rfl) rfl (.cons (ab rfl rfl) rfl (.cons (ab rfl rfl) rfl .nil))) rfl) rfl .nil) rfl) eF) rfl .nil)) rfl) (fg (ab rfl rfl) pz) rfl rfl rfl) az)))) az)) az)) (ag (cE (bh (dN W (O _) V.ja rfl rfl (.cons (ab rfl rfl) rfl (.cons aD rfl .nil))) aD mz rfl) (ag (br (bu W (O _) (ab rfl rfl) .nil (.mk _ rfl)) rfl) az) az) az))) (λ env x=>rfl) (λ aa h=>.inl h)) (ag (br (bu W (O _) (ab rfl rfl) .nil (.mk _ rfl)) rfl) (ag (cE (yV (tY (dN W (O _) V.mD rfl rfl (.cons (ab rfl rfl) rfl (.cons (ab rfl rfl) rfl (.cons (aF (aF (ab rfl rfl) pz) aD) rfl (.cons (aF (aF (ab rfl rfl) pz) aD) rfl .nil))))) (λ env whole=>rfl))) (ag (bL j_) az) az) (ag (fh (pd W V.range rfl (cZ _) (.cons (b8 (ba W V.len rfl rfl (aN _) (.cons (ab rfl rfl) rfl .nil) cJ) aD lR) rfl .nil)) (aG rfl) (ag (br (bu W (O _) (ab rfl rfl) .nil (.mk _ rfl)) rfl) az) (λ env x=>rfl) (λ aa h=>.inl h)) (ag (br (bu W (O _) (ab rfl rfl) .nil (.mk _ rfl)) rfl) (ag (bL (dN W (O _) V.mD rfl rfl (.cons (ab rfl rfl) rfl (.cons (ab rfl rfl) rfl (.cons (aF (aF (ab rfl rfl) aD) aD) rfl (.cons (aF (aF (ab rfl rfl) aD) aD) rfl .nil)))))) az)))))))))
end
end
end Mine
end
section
namespace Mine
section
open PySem
variable(F:b_) (P:PV)
def QF(au:AV)(s:U):Prop:=bF "size" s (λ t1 t2=>F.call t2 [.ref t1] s (λ t3 s1=>ak "edges" s1 (λ t4 s2=>bH s2 (λ t5 s3=>ak "backs" s3 (λ t6 s4=>P (.tup [t3,t5,t6]) s4) au) [t4]) au)) au
def En(au aW:AV)(s:U):Prop:=ak "bank" s (λ t1 s1=>bF "term" s1 (λ t2 t3=>F.call t3 [.ref t2,aW] s1 P) t1) au
def JP(au aW:AV)(s:U):Prop:=ak "bank" s (λ t5 s3=>bF "weight" s3 (λ t6 t7=>F.call t7 [.ref t6,aW] s3 (λ t8 s4=>gK s4 (cj (λ s5=>False) (En F P au aW)) t8 (.int 100000))) t5) au
def xW(bR:AV)(s:U):Prop:=aj s (λ t1 s1=>P (.tup [(.str "told"),t1]) s1) bR (.int 1)
def xX(bR:AV)(s:U):Prop:=aj s (λ t1 s1=>dK s1 (cj (xW P bR) (λ s2=>False)) t1 (.str "told")) bR (.int 0)
def Cd(F:b_)(P:PV)(au bp:AV)(s:U):Prop:=ak "edges" s (λ t1 s1=>aj s1 (λ t2 s2=>aj s2 (xX P) t2 (.int 2)) t1 bp) au
def jP(aQ au bP:AV)(n1:Nat)(s:U):Prop:=gM ["a","heap","row"] pD pE n1 F (dj [("a",some aQ),("heap",some au),("row",some bP)]) s (fi (fG P) F pF)
def iD(bP:AV)(n:Nat)(x:aP)(l:Nat)(s:U)(Q:U->Prop):Prop:=rg n x l F (dj [("row",some bP)]) s Q
def ze(bP:AV)(n:Nat)(x:aP)(l:Nat)(s:U)(Q:U->Prop):Prop:=cL s (Q s) (λ t3 x=>aj s (λ t4 s4=>cq s4 (λ t5 s5=>aj s5 (λ t6 s6=>b6 (.tup [(.str "join"),t4,t6]) s6 (λ s7=>iD F bP n x l s7 Q) l) bP t5) t3 (.int 1)) bP t3) x
theorem pG{F:b_}{bP:AV}{n:Nat}{x:aP}{l:Nat}{s:U}{Q:U->Prop}(h:ze F bP n x l s Q):iD F bP (n+1) x l s Q:=h
def Ce(n1:Nat)(aQ au X5 bP:AV)(s:U):Prop:=bH s (λ t1 s1=>bH s1 (λ t2 s2=>pW s2 (λ t3 s3=>fV s3 (λ t4 s4=>qV t4 λ t5=>eR (some t5) none none s4 (λ t6 s5=>cq s5 (λ t7 s6=>jP F P aQ au t7 n1 s6) X5 t6) bP) t1 t3) t2 (.int 2)) [bP]) [bP]
def Cf(n1:Nat)(aQ au bP:AV)(s:U):Prop:=bH s (λ t1 s1=>fV s1 (λ t2 s2=>mA (λ t3=>eJ s2 (λ t4 s3=>Ce F P n1 aQ au t4 bP s3) λ t5 t6 s4 t7=>iD F bP t5 t3 t6 s4 t7) [(.int 0),t2,(.int 2)]) t1 (.int 1)) [bP]
def rp(aQ au bP:AV)(s:U):Prop:=bH s (λ t1 s1=>dK s1 (cj (λ s2=>aj s2 P bP (.int 0)) (λ s3=>F.call .lB [au,aQ] s3 (λ t2 s4=>P (.tup [(.str "same"),t2]) s4))) t1 (.int 1)) [bP]
def zf(aQ au bP:AV)(n1:Nat)(s:U):Prop:=bH s (λ t2 s2=>gK s2 (cj (Cf F P n1 aQ au bP) (rp F P aQ au bP)) t2 (.int 1)) [bP]
theorem lK{F:b_}{P:PV}{aQ au bP:AV}{n1:Nat}{s:U}(h:zf F P aQ au bP n1 s):jP F P aQ au bP (n1+1) s:=h
def Cg(aQ au bP:AV)(s:U):Prop:=∃t1,jP F P aQ au bP t1 s
def GA(au aQ qk:AV)(s:U):Prop:=kM s (Cg F P aQ au) [qk]
def Eo(J:AV)(s:U):Prop:=dm (.dI []) s (λ t1 s1=>bG "beside" t1 s1 (P .none) J)
def Ep(J:AV)(s:U):Prop:=bG "mark" AV.none s (Eo P J) J
def Er(J:AV)(s:U):Prop:=bG "level" (.int 0) s (Ep P J) J
def Es(J:AV)(s:U):Prop:=bG "parts" (.int 0) s (Er P J) J
def JQ(F:b_)(P:PV)(J au:AV)(s:U):Prop:=bG "heap" au s (Es P J) J
def lW(J:AV)(n1:Nat)(x1:aP)(s:U):Prop:=hV ["self"] sE sF n1 x1 F (dj [("self",some J)]) s (fi (fi (fG P) F aJ) F aJ)
def GB(n1:Nat)(x1:aP)(aQ bx bp J:AV)(s:U):Prop:=ak "beside" s (λ t1 s1=>Bm mB s1 (λ t2=>dm (.list []) s1 (λ t3 s2=>hZ t2 s2 (λ t4 s3=>cX s3 (λ t5=>b6 (.tup [bp,aQ]) s3 (lW F P J n1 x1) t5) t4) [bx,t3])) t1) J
def GC(n1:Nat)(x1:aP)(aQ bx bp J:AV)(s:U):Prop:=ak "beside" s (λ t1 s1=>Bm mB s1 (λ t2=>dm (.list []) s1 (λ t3 s2=>hZ t2 s2 (λ t4 s3=>cX s3 (λ t5=>b6 (.tup [bp,bx]) s3 (GB F P n1 x1 aQ bx bp J) t5) t4) [aQ,t3])) t1) J
def GD(n1:Nat)(x1:aP)(bp J:AV)(s:U):Prop:=ak "heap" s (λ t1 s1=>ak "edges" s1 (λ t2 s2=>aj s2 (λ t3 s3=>di s3 (λ t4=>eA 3 t4 (bO t4 λ t5 t6=>bO t6 λ t7 t8=>bO t8 λ t9 eT=>e8 eT (GC F P n1 x1 t5 t7 bp J s3))) t3) t2 bp) t1) J
def Et(J:AV)(n1:Nat)(x1:aP)(s:U):Prop:=cL s (P .none s) (λ t9 x1=>GD F P n1 x1 t9 J s) x1
theorem sY{F:b_}{P:PV}{J:AV}{n1:Nat}{x1:aP}{s:U}(h:Et F P J n1 x1 s):lW F P J (n1+1) x1 s:=h
def GF(J:AV)(s:U):Prop:=ak "heap" s (λ t1 s1=>ak "forest" s1 (λ t2 s2=>d2 s2 (λ t3=>∃t4,lW F P J t4 t3 s2) t2) t1) J
def GG(xY J:AV)(s:U):Prop:=dm (.dI []) s (λ t1 s1=>di s1 (λ t2=>eA 2 t2 (bO t2 λ t3 t4=>bG "mark" t3 s1 (λ s2=>bO t4 λ t5 t6=>bG "beside" t5 s2 (λ s3=>e8 t6 (GF F P J s3)) J) J)) (.tup [xY,t1]))
def GH(xY J:AV)(s:U):Prop:=ak "mark" s (λ t1 s1=>fW s1 (cj (GG F P xY J) (P .none)) xY t1) J
def Nf(J:AV)(s:U):Prop:=ak "heap" s (λ t1 s1=>F.call .o2 [t1] s1 (λ t2 s2=>GH F P t2 J s2)) J
def nU(aQ bx bE bK bP J de:AV)(n2:Nat)(s:U):Prop:=gM ["a","b","before","came","row","self","spot"] sG sH n2 F (dj [("a",some aQ),("b",some bx),("before",some bE),("came",some bK),("row",some bP),("self",some J),("spot",some de)]) s (fi (fG P) F sI)
def lL(n2:Nat)(aQ bx bE bK dO bP J de:AV)(n1:Nat)(x1:aP)(s:U):Prop:=hV ["a","b","before","came","here","row","self","spot"] Af Ag n1 x1 F (dj [("a",some aQ),("b",some bx),("before",some bE),("came",some bK),("here",some dO),("row",some bP),("self",some J),("spot",some de)]) s (fi (Nd (fi (fG P) F sI) F ["a","b","before","came","row","self","spot"] sG sH n2) F aJ)
def QG(n2 n1:Nat)(x1:aP)(aQ bx bE bK dO gh bP J de:AV)(s:U):Prop:=cX s (λ t1=>b6 gh s (lL F P n2 aQ bx bE bK dO bP J de n1 x1) t1) bP
def QH(n2 n1:Nat)(x1:aP)(aQ bx bE bK dO bp gh bP J de:AV)(s:U):Prop:=cP (.tup [dO,bp]) s (QG F P n2 n1 x1 aQ bx bE bK dO gh bP J de) bK gh
def Eu(n2 n1:Nat)(x1:aP)(aQ bx bE bK dO bP J de:AV)(s:U):Prop:=lL F P n2 aQ bx bE bK dO bP J de n1 x1 s
def QI(n2 n1:Nat)(x1:aP)(aQ bx bE bK dO bp gh bP J de:AV)(s:U):Prop:=rS s (cj (λ s1=>fM s1 (cj (QH F P n2 n1 x1 aQ bx bE bK dO bp gh bP J de) (Eu F P n2 n1 x1 aQ bx bE bK dO bP J de)) gh bK) (Eu F P n2 n1 x1 aQ bx bE bK dO bP J de)) bp bE
def Ng(n2:Nat)(aQ bx bE bK dO bP J de:AV)(n1:Nat)(x1:aP)(s:U):Prop:=cL s (nU F P aQ bx bE bK bP J de n2 s) (λ xZ x1=>di s (λ Il=>eA 2 Il (bO Il λ Be Nh=>bO Nh λ X6 X7=>e8 X7 (QI F P n2 n1 x1 aQ bx bE bK dO Be X6 bP J de s))) xZ) x1
theorem Bf{F:b_}{P:PV}{n2:Nat}{aQ bx bE bK dO bP J de:AV}{n1:Nat}{x1:aP}{s:U}(h:Ng F P n2 aQ bx bE bK dO bP J de n1 x1 s):lL F P n2 aQ bx bE bK dO bP J de (n1+1) x1 s:=h
def QJ(n2:Nat)(aQ bx bE bK dO bP J de:AV)(s:U):Prop:=ak "beside" s (λ t1 s1=>Bm mB s1 (λ t2=>qV dO λ t3=>dm (.list []) s1 (λ t4 s2=>Jk s2 t2 λ t5=>(λ t6 s3=>d2 s3 (λ t7=>∃t8,lL F P n2 aQ bx bE bK dO bP J de t8 t7 s3) t6) ((bD t5 t3).getD t4) s2)) t1) J
def QK(n2:Nat)(aQ bx bE bK bP J de:AV)(s:U):Prop:=aj s (λ t1 s1=>cq s1 (λ t2 s2=>di s2 (λ t3=>eA 2 t3 (bO (t3.reverse) λ t4 t5=>bO t5 λ t6 t7=>e8 t7 (QJ F P n2 aQ bx bE bK t6 bP J t4 s2))) (.tup [t1,t2])) de (.int 1)) bP de
def ql(aQ bx bK bz J:AV)(n3:Nat)(s:U):Prop:=gM ["a","b","came","found","self"] Ah Ai n3 F (dj [("a",some aQ),("b",some bx),("came",some bK),("found",some bz),("self",some J)]) s (fi (fG P) F Aj)
def QL(n3:Nat)(aQ bK bz dO J:AV)(s:U):Prop:=ql F P aQ dO bK bz J n3 s
def QM(n3:Nat)(aQ bK bz dO bp J:AV)(s:U):Prop:=cX s (λ t1=>ak "heap" s (λ t2 s1=>ak "edges" s1 (λ t3 s2=>aj s2 (λ t4 s3=>aj s3 (λ t5 s4=>fW s4 (λ t6 s5=>b6 (.tup [bp,t6]) s5 (QL F P n3 aQ bK bz dO J) t1) t5 dO) t4 (.int 0)) t3 bp) t2) J) bz
def QN(n3:Nat)(aQ bx bK bz J:AV)(s:U):Prop:=aj s (λ t1 s1=>di s1 (λ t2=>eA 2 t2 (bO t2 λ t3 t4=>bO t4 λ t5 t6=>e8 t6 (QM F P n3 aQ bK bz t3 t5 J s1))) t1) bK bx
def sZ(bz:AV)(s:U):Prop:=qV (.int (-1)) λ t1=>eR none none (some t1) s P bz
def Ni(aQ bx bK bz J:AV)(n3:Nat)(s:U):Prop:=fW s (cj (QN F P n3 aQ bx bK bz J) (sZ P bz)) bx aQ
theorem Bg{F:b_}{P:PV}{aQ bx bK bz J:AV}{n3:Nat}{s:U}(h:Ni F P aQ bx bK bz J n3 s):ql F P aQ bx bK bz J (n3+1) s:=h
def Nj(aQ bx bK bz J:AV)(s:U):Prop:=∃t1,ql F P aQ bx bK bz J t1 s
def Nk(aQ bx bK J:AV)(s:U):Prop:=dm (.list []) s (λ t1 s1=>Nj F P aQ bx bK t1 J s1)
def s_(aQ bx bK J:AV)(s:U):Prop:=fM s (cj (λ s1=>False) (Nk F P aQ bx bK J)) bx bK
def Nl(aQ bx bE bK bP J de:AV)(n2:Nat)(s:U):Prop:=bH s (λ t52 s33=>rS s33 (cj (λ s34=>fM s34 (cj (QK F P n2 aQ bx bE bK bP J de) (s_ F P aQ bx bK J)) bx bK) (s_ F P aQ bx bK J)) de t52) [bP]
theorem Nm{F:b_}{P:PV}{aQ bx bE bK bP J de:AV}{n2:Nat}{s:U}(h:Nl F P aQ bx bE bK bP J de n2 s):nU F P aQ bx bE bK bP J de (n2+1) s:=h
def Nn(aQ bx bE bK bP J de:AV)(s:U):Prop:=∃t1,nU F P aQ bx bE bK bP J de t1 s
def Np(aQ bx bE J:AV)(s:U):Prop:=qV aQ λ t1=>(s++[AO.dI []])[s.length]?=some (.dI [])/\dm (.list [aQ]) ((s++[AO.dI []]).set s.length (.dI [(t1,(.tup []))])) (λ t2 s1=>di s1 (λ t3=>eA 3 t3 (bO (t3.reverse) λ t4 t5=>bO t5 λ t6 t7=>bO t7 λ t8 t9=>e8 t9 (Nn F P aQ bx bE t8 t6 J t4 s1))) (.tup [(.ref s.length),t2,(.int 0)]))
def X8(J aQ bx bE:AV)(s:U):Prop:=bF "renewed" s (λ t1 t2=>F.call t2 [.ref t1] s (λ t3 s1=>Np F P aQ bx bE J s1)) J
def iL(aQ bz J:AV)(n1:Nat)(x1:aP)(s:U):Prop:=hV ["a","found","self"] sJ sL n1 x1 F (dj [("a",some aQ),("found",some bz),("self",some J)]) s (fi (fG P) F sM)
def vm(aQ bz J:AV)(s:U):Prop:=ak "heap" s (λ t1 s1=>F.call .j6 [t1,aQ,bz] s1 P) J
def GI(n1:Nat)(x1:aP)(aQ bz tc aX J:AV)(s:U):Prop:=cX s (λ t1=>cj (λ s1=>b6 (.tup [(.str "turn"),aX]) s1 (iL F P aQ bz J n1 x1) t1) (λ s2=>b6 aX s2 (iL F P aQ bz J n1 x1) t1) tc s) bz
def GJ(n1:Nat)(x1:aP)(aQ bz bp tc J:AV)(s:U):Prop:=bF "of_edge" s (λ t1 t2=>F.call t2 [.ref t1,bp] s (λ t3 s1=>GI F P n1 x1 aQ bz tc t3 J s1)) J
def Ew(aQ bz J:AV)(n1:Nat)(x1:aP)(s:U):Prop:=cL s (vm F P aQ bz J s) (λ t2 x1=>di s (λ t5=>eA 2 t5 (bO t5 λ t6 t7=>bO t7 λ t8 t9=>e8 t9 (GJ F P n1 x1 aQ bz t6 t8 J s))) t2) x1
theorem td{F:b_}{P:PV}{aQ bz J:AV}{n1:Nat}{x1:aP}{s:U}(h:Ew F P aQ bz J n1 x1 s):iL F P aQ bz J (n1+1) x1 s:=h
def GK(aQ bx bE bz J:AV)(s:U):Prop:=bF "path" s (λ t1 t2=>F.call t2 [.ref t1,aQ,bx,bE] s (λ t3 s1=>d2 s1 (λ t4=>∃t5,iL F P aQ bz J t5 t4 s1) t3)) J
def Nq(J aQ bx bE:AV)(s:U):Prop:=dm (.list []) s (λ t1 s1=>GK F P aQ bx bE t1 J s1)
def JR(bp J:AV)(s:U):Prop:=ak "heap" s (λ t1 s1=>F.call .iJ [t1,bp] s1 P) J
def m7(bp J:AV)(n:Nat)(x:aP)(l:Nat)(s:U)(Q:U->Prop):Prop:=xH n x l F (dj [("index",some bp),("self",some J)]) s Q
def GL(bp J:AV)(n:Nat)(x:aP)(l:Nat)(s:U)(Q:U->Prop):Prop:=asZ x λ X9=>ug s X9 Q λ X_ Ex=>di Ex (λ Nr=>eA 2 Nr (bO Nr λ Yb Yc=>bO Yc λ Yd Ye=>e8 Ye (bF "between" Ex (λ Yg Yh=>F.call Yh [.ref Yg,Yb,Yd,bp] Ex (λ t45 Nt=>b6 t45 Nt (λ Yi=>m7 F bp J n x l Yi Q) l)) J))) X_
theorem vo{F:b_}{bp J:AV}{n:Nat}{x:aP}{l:Nat}{s:U}{Q:U->Prop}(h:GL F bp J n x l s Q):m7 F bp J (n+1) x l s Q:=h
def JS(bz J:AV)(s:U):Prop:=ak "level" s (λ t1 s1=>fV s1 (λ t2 s2=>bG "level" t2 s2 (P bz) J) t1 (.int 1)) J
def JT(aQ bp UO J:AV)(s:U):Prop:=ak "heap" s (λ t1 s1=>ak "bank" s1 (λ t2 s2=>bF "op" s2 (λ t3 t4=>F.call t4 [.ref t3,aQ] s2 (λ t5 s3=>Jy s3 (λ t6=>eJ s3 (λ t7 s4=>eL s4 (λ t8 s5=>JS P (.tup [(.str "under"),t5,t8]) J s5) [t7]) λ t9 eT s6 ft=>m7 F bp J t9 t6 eT s6 ft) UO)) t2) t1) J
def JU(aQ bx bp J:AV)(s:U):Prop:=ak "heap" s (λ t1 s1=>ak "bank" s1 (λ t2 s2=>bF "kids" s2 (λ t3 t4=>F.call t4 [.ref t3,aQ] s2 (λ t5 s3=>ak "heap" s3 (λ t6 s4=>ak "bank" s4 (λ t7 s5=>bF "kids" s5 (λ t8 t9=>F.call t9 [.ref t8,bx] s5 (λ eT s6=>DJ s6 (λ ft s7=>JT F P aQ bp ft J s7) [t5,eT])) t7) t6) J)) t2) t1) J
def JW(aQ bx bp J:AV)(s:U):Prop:=ak "level" s (λ t1 s1=>gK s1 (cj (λ s2=>False) (JU F P aQ bx bp J)) t1 (.int 100)) J
def JX(aQ bx bp J:AV)(s:U):Prop:=ak "level" s (λ t1 s1=>cq s1 (λ t2 s2=>bG "level" t2 s2 (JW F P aQ bx bp J) J) t1 (.int 1)) J
def JY(aQ bx bp bR J:AV)(s:U):Prop:=aj s (λ t1 s1=>fW s1 (cj (JR F P bp J) (JX F P aQ bx bp J)) t1 (.str "like")) bR (.int 0)
def JZ(bp J:AV)(s:U):Prop:=ak "heap" s (λ t1 s1=>ak "edges" s1 (λ t2 s2=>aj s2 (λ t3 s3=>di s3 (λ t4=>eA 3 t4 (bO t4 λ t5 t6=>bO t6 λ t7 t8=>bO t8 λ t9 eT=>e8 eT (JY F P t5 t7 bp t9 J s3))) t3) t2 bp) t1) J
def GN(bp J:AV)(s:U):Prop:=ak "parts" s (λ t1 s1=>gK s1 (cj (λ s2=>False) (JZ F P bp J)) t1 (.int 20000)) J
def QO(J bp:AV)(s:U):Prop:=ak "parts" s (λ t1 s1=>cq s1 (λ t2 s2=>bG "parts" t2 s2 (GN F P bp J) J) t1 (.int 1)) J
def qm(n:Nat)(x:aP)(l:Nat)(s:U)(Q:U->Prop):Prop:=DX n x l F (dj []) s Q
def Ey(t1:AV)(n:Nat)(x:aP)(l:Nat)(Q:U->Prop)(s1:U):Prop:=b6 t1 s1 (λ s2=>qm F n x l s2 Q) l
def Nu(n:Nat)(x:aP)(l:Nat)(s:U)(Q:U->Prop):Prop:=cL s (Q s) (λ t4 x=>zM t4 λ t5=>eQ t5=true/\cj (Ey F t4 n x l Q) (λ s8=>(uf "()[]{},:") s8 (cj (Ey F t4 n x l Q) (λ vq=>qm F n x l vq Q)) t4 (.str "()[]{},:")) (.bool false) s) x
theorem Bh{F:b_}{n:Nat}{x:aP}{l:Nat}{s:U}{Q:U->Prop}(h:Nu F n x l s Q):qm F (n+1) x l s Q:=h
def Yj(v_text:AV)(s:U):Prop:=fW s (λ t2 s2=>wZ t2 λ t3=>if t3 then d2 s2 (λ t7=>eJ s2 (λ ft x4=>dm (.list []) x4 (λ gr Ez=>v_ Ez P ft gr)) λ eT t8 Nv t9=>qm F eT t7 t8 Nv t9) v_text else P (.bool false) s2) v_text (.str "")
def EA(J:AV)(s:U):Prop:=dm (.list []) s (λ t1 s1=>bG "depths" t1 s1 (P .none) J)
def EB(J:AV)(s:U):Prop:=dm (.list []) s (λ t1 s1=>bG "weights" t1 s1 (EA P J) J)
def EC(J:AV)(s:U):Prop:=dm (.dT []) s (λ t1 s1=>bG "numbers" t1 s1 (EB P J) J)
def J0(F:b_)(P:PV)(J:AV)(s:U):Prop:=dm (.list []) s (λ t1 s1=>bG "nodes" t1 s1 (EC P J) J)
def J1(F:b_)(P:PV)(J:AV)(s:U):Prop:=ak "nodes" s (λ t1 s1=>bH s1 P [t1]) J
def QP(bZ J:AV)(s:U):Prop:=ak "numbers" s (λ t1 s1=>aj s1 P t1 bZ) J
def qn(bZ J:AV)(n1:Nat)(x1:aP)(s:U):Prop:=hV ["node","self"] Am An n1 x1 F (dj [("node",some bZ),("self",some J)]) s (fi (fG P) F Ao)
def qo(J:AV)(n:Nat)(x:aP)(l:Nat)(s:U)(Q:U->Prop):Prop:=DY n x l F (dj [("self",some J)]) s Q
def Nw(J:AV)(n:Nat)(x:aP)(l:Nat)(s:U)(Q:U->Prop):Prop:=cL s (Q s) (λ vt x=>ak "weights" s (λ ED TY=>aj TY (λ xZ Yk=>b6 xZ Yk (λ Nx=>qo F J n x l Nx Q) l) ED vt) J) x
theorem Bi{F:b_}{J:AV}{n:Nat}{x:aP}{l:Nat}{s:U}{Q:U->Prop}(h:Nw F J n x l s Q):qo F J (n+1) x l s Q:=h
def qp(J:AV)(n:Nat)(x:aP)(l:Nat)(s:U)(Q:U->Prop):Prop:=DZ n x l F (dj [("self",some J)]) s Q
def Ny(J:AV)(n:Nat)(x:aP)(l:Nat)(s:U)(Q:U->Prop):Prop:=cL s (Q s) (λ Yl x=>ak "depths" s (λ TZ Nt=>aj Nt (λ Ym Yi=>b6 Ym Yi (λ s27=>qp F J n x l s27 Q) l) TZ Yl) J) x
theorem Bj{F:b_}{J:AV}{n:Nat}{x:aP}{l:Nat}{s:U}{Q:U->Prop}(h:Ny F J n x l s Q):qp F J (n+1) x l s Q:=h
def QQ(J:AV)(s:U):Prop:=ak "nodes" s (λ t1 s1=>bH s1 (λ t2 s2=>fV s2 P t2 (.int 1)) [t1]) J
def QR(bZ J:AV)(s:U):Prop:=ak "depths" s (λ t1 s1=>cX s1 (λ t2=>eR (some 1) none none s1 (λ t3 s2=>d2 s2 (λ t4=>eJ s2 (λ t5 s3=>dm (.list [(.int 0)]) s3 (λ t6 s4=>cq s4 (λ t7 s5=>lF s5 (λ t8 s6=>cq s6 (λ t9 s7=>b6 t9 s7 (QQ P J) t2) (.int 1) t8) [t7]) t5 t6)) λ eT ft s8 gr=>qp F J eT t4 ft s8 gr) t3) bZ) t1) J
def QS(bZ J:AV)(s:U):Prop:=ak "weights" s (λ t1 s1=>cX s1 (λ t2=>eR (some 1) none none s1 (λ t3 s2=>d2 s2 (λ t4=>eJ s2 (λ t5 s3=>Dm s3 (λ t6 s4=>cq s4 (λ t7 s5=>b6 t7 s5 (QR F P bZ J) t2) (.int 1) t6) [t5]) λ t8 t9 s6 eT=>qo F J t8 t4 t9 s6 eT) t3) bZ) t1) J
def QT(bZ J:AV)(s:U):Prop:=ak "nodes" s (λ t1 s1=>cX s1 (λ t2=>b6 bZ s1 (QS F P bZ J) t2) t1) J
def EE(bZ J:AV)(s:U):Prop:=ak "nodes" s (λ t1 s1=>bH s1 (λ t2 s2=>ak "numbers" s2 (λ t3 s3=>cP t2 s3 (QT F P bZ J) t3 bZ) J) [t1]) J
def QU(n1:Nat)(x1:aP)(lX bZ J:AV)(s:U):Prop:=o7 (λ t1 t2 t3=>if t1<=t2 then t3 .none else False) s (λ t4 s1=>ak "nodes" s1 (λ t5 s2=>bH s2 (λ t6 s3=>o7 (λ t7 t8 t9=>if !decide (t7<t8)then False else qn F P bZ J n1 x1 s3) s3 (λ aa aa=>True) lX t6) [t5]) J) (.int 0) lX
def Nz(bZ J:AV)(n1:Nat)(x1:aP)(s:U):Prop:=cL s (EE F P bZ J s) (λ eT x1=>QU F P n1 x1 eT bZ J s) x1
theorem Bk{F:b_}{P:PV}{bZ J:AV}{n1:Nat}{x1:aP}{s:U}(h:Nz F P bZ J n1 x1 s):qn F P bZ J (n1+1) x1 s:=h
def NA(bZ J:AV)(s:U):Prop:=eR (some 1) none none s (λ t1 s1=>d2 s1 (λ t2=>∃t3,qn F P bZ J t3 t2 s1) t1) bZ
def NB(bZ eU J:AV)(s:U):Prop:=bF "require" s (λ t1 t2=>F.call t2 [.ref t1,eU] s (λ t3 s1=>NA F P bZ J s1)) J
def NC(bZ eU J:AV)(s:U):Prop:=ak "numbers" s (λ t1 s1=>pe s1 (cj (QP P bZ J) (NB F P bZ eU J)) bZ t1) J
def Yn(J eU x5:AV)(s:U):Prop:=eL s (λ t1 s1=>cq s1 (λ t2 s2=>NC F P t2 eU J s2) (.tup [eU]) t1) [x5]
def ND(J eU:AV)(s:U):Prop:=F.call .yO [eU] s (tsn (λ s5=>False) (λ s6=>aj s6 (λ t2 s7=>dK s7 (cj (λ s8=>False) (P .none)) t2 (.str "?")) eU (.int 0)))
def oR(aK J:AV)(n1:Nat)(s:U):Prop:=gM ["many","self"] sN sO n1 F (dj [("many",some aK),("self",some J)]) s (fi (fG P) F aJ)
def GO(n1:Nat)(aK J:AV)(s:U):Prop:=ak "depths" s (λ t1 s1=>cX s1 (λ t2=>fO s1 (λ t3 s2=>oR F P aK J n1 s2) t2) t1) J
def GP(n1:Nat)(aK J:AV)(s:U):Prop:=ak "weights" s (λ t1 s1=>cX s1 (λ t2=>fO s1 (λ t3 s2=>GO F P n1 aK J s2) t2) t1) J
def GQ(n1:Nat)(aK J:AV)(s:U):Prop:=ak "numbers" s (λ t1 s1=>Bm vZ s1 (λ t2=>ak "nodes" s1 (λ t3 s2=>cX s2 (λ t4=>fO s2 (λ t5 s3=>xo t2 s3 (λ t6 s4=>GP F P n1 aK J s4) [t5]) t4) t3) J) t1) J
def EF(aK J:AV)(n1:Nat)(s:U):Prop:=ak "nodes" s (λ t1 s1=>bH s1 (λ t2 s2=>lF s2 (λ t3 s3=>gK s3 (cj (GQ F P n1 aK J) (P .none)) t2 t3) [aK,(.int 0)]) [t1]) J
theorem tg{F:b_}{P:PV}{aK J:AV}{n1:Nat}{s:U}(h:EF F P aK J n1 s):oR F P aK J (n1+1) s:=h
def NF(J aK:AV)(s:U):Prop:=∃Bl,oR F P aK J Bl s
def ace(F:b_)(P:PV)(J aW:AV)(s:U):Prop:=ak "nodes" s (λ t1 s1=>aj s1 (λ t2 s2=>aj s2 P t2 (.int 0)) t1 aW) J
def Yo(F:b_)(P:PV)(J aW:AV)(s:U):Prop:=ak "nodes" s (λ t1 s1=>aj s1 (λ t2 s2=>eR (some 1) none none s2 P t2) t1 aW) J
def nV(cy aW J cO:AV)(n2:Nat)(s:U):Prop:=gM ["below","n","self","stack"] sP sQ n2 F (dj [("below",some cy),("n",some aW),("self",some J),("stack",some cO)]) s (fi (fG P) F sR)
def nW(n2:Nat)(cy aW J cO:AV)(n1:Nat)(x1:aP)(s:U):Prop:=hV ["below","n","self","stack"] Ar As n1 x1 F (dj [("below",some cy),("n",some aW),("self",some J),("stack",some cO)]) s (fi (Nd (fi (fG P) F sR) F ["below","n","self","stack"] sP sQ n2) F aJ)
def QV(n2 n1:Nat)(x1:aP)(cy lX aW J cO:AV)(s:U):Prop:=cX s (λ t1=>b6 lX s (nW F P n2 cy aW J cO n1 x1) t1) cO
def QW(n2 n1:Nat)(x1:aP)(cy lX aW J cO:AV)(s:U):Prop:=cP (.bool true) s (QV F P n2 n1 x1 cy lX aW J cO) cy lX
def QX(n2 n1:Nat)(x1:aP)(cy aW J cO:AV)(s:U):Prop:=nW F P n2 cy aW J cO n1 x1 s
def QY(n2 n1:Nat)(x1:aP)(cy lX aW J cO:AV)(s:U):Prop:=fM s (cj (QW F P n2 n1 x1 cy lX aW J cO) (QX F P n2 n1 x1 cy aW J cO)) lX cy
def NG(n2:Nat)(cy aW J cO:AV)(n1:Nat)(x1:aP)(s:U):Prop:=cL s (nV F P cy aW J cO n2 s) (λ t9 x1=>QY F P n2 n1 x1 cy t9 aW J cO s) x1
theorem Bn{F:b_}{P:PV}{n2:Nat}{cy aW J cO:AV}{n1:Nat}{x1:aP}{s:U}(h:NG F P n2 cy aW J cO n1 x1 s):nW F P n2 cy aW J cO (n1+1) x1 s:=h
def QZ(n2:Nat)(cy aW J cO:AV)(s:U):Prop:=bF "kids" s (λ t1 t2=>cX s (λ t3=>fO s (λ t4 s1=>F.call t2 [.ref t1,t4] s1 (λ t5 s2=>d2 s2 (λ t6=>∃t7,nW F P n2 cy aW J cO t7 t6 s2) t5)) t3) cO) J
def qq(eH aW J:AV)(n3:Nat)(x3:aP)(s:U):Prop:=hV ["made","n","self"] Au Av n3 x3 F (dj [("made",some eH),("n",some aW),("self",some J)]) s (fi (fG P) F Aw)
def qr(eH:AV)(n:Nat)(x:aP)(l:Nat)(s:U)(Q:U->Prop):Prop:=D0 n x l F (dj [("made",some eH)]) s Q
def NH(eH:AV)(n:Nat)(x:aP)(l:Nat)(s:U)(Q:U->Prop):Prop:=cL s (Q s) (λ NI x=>aj s (λ NJ Nx=>b6 NJ Nx (λ NK=>qr F eH n x l NK Q) l) eH NI) x
theorem Bo{F:b_}{eH:AV}{n:Nat}{x:aP}{l:Nat}{s:U}{Q:U->Prop}(h:NH F eH n x l s Q):qr F eH (n+1) x l s Q:=h
def Q0(n3:Nat)(x3:aP)(Yp eH aW J:AV)(s:U):Prop:=bF "op" s (λ t1 t2=>F.call t2 [.ref t1,Yp] s (λ t3 s1=>bF "kids" s1 (λ t4 t5=>F.call t5 [.ref t4,Yp] s1 (λ t6 s2=>d2 s2 (λ t7=>eJ s2 (λ t8 s3=>eL s3 (λ t9 s4=>cq s4 (λ eT s5=>cP eT s5 (qq F P eH aW J n3 x3) eH Yp) (.tup [t3]) t9) [t8]) λ ft gr s6 lu=>qr F eH ft t7 gr s6 lu) t6)) J)) J
def NL(eH aW J:AV)(n3:Nat)(x3:aP)(s:U):Prop:=cL s (aj s P eH aW) (λ xZ x3=>Q0 F P n3 x3 xZ eH aW J s) x3
theorem Bp{F:b_}{P:PV}{eH aW J:AV}{n3:Nat}{x3:aP}{s:U}(h:NL F P eH aW J n3 x3 s):qq F P eH aW J (n3+1) x3 s:=h
def Q1(cy eH aW J:AV)(s:U):Prop:=dZ s (λ t1 s1=>d2 s1 (λ t2=>∃t3,qq F P eH aW J t3 t2 s1) t1) [cy]
def EG(cy aW J:AV)(s:U):Prop:=dm (.dI []) s (λ t1 s1=>Q1 F P cy t1 aW J s1)
def NM(cy aW J cO:AV)(n2:Nat)(s:U):Prop:=bH s (λ t8 s2=>gK s2 (cj (QZ F P n2 cy aW J cO) (EG F P cy aW J)) t8 (.int 0)) [cO]
theorem th{F:b_}{P:PV}{cy aW J cO:AV}{n2:Nat}{s:U}(h:NM F P cy aW J cO n2 s):nV F P cy aW J cO (n2+1) s:=h
def NN(cy aW J cO:AV)(s:U):Prop:=∃t1,nV F P cy aW J cO t1 s
def Yq(J aW:AV)(s:U):Prop:=qV aW λ t1=>(s++[AO.dI []])[s.length]?=some (.dI [])/\dm (.list [aW]) ((s++[AO.dI []]).set s.length (.dI [(t1,(.bool true))])) (λ t2 s1=>di s1 (λ t3=>eA 2 t3 (bO (t3.reverse) λ t4 t5=>bO t5 λ t6 t7=>e8 t7 (NN F P t6 aW J t4 s1))) (.tup [(.ref s.length),t2]))
def Q2(F:b_)(P:PV)(J aW:AV)(s:U):Prop:=ak "weights" s (λ t1 s1=>aj s1 P t1 aW) J
def zg(J:AV)(s:U):Prop:=dm (.list []) s (λ t1 s1=>bG "merged" t1 s1 (P .none) J)
def zh(J:AV)(s:U):Prop:=dm (.list []) s (λ t1 s1=>bG "lots" t1 s1 (zg P J) J)
def EH(F:b_)(P:PV)(J:AV)(s:U):Prop:=dm (.list []) s (λ t1 s1=>bG "above" t1 s1 (zh P J) J)
def Q3(J:AV)(s:U):Prop:=ak "above" s (λ t1 s1=>bH s1 (λ t2 s2=>fV s2 P t2 (.int 1)) [t1]) J
def Q4(J:AV)(s:U):Prop:=ak "lots" s (λ t1 s1=>cX s1 (λ t2=>ak "lots" s1 (λ t3 s2=>bH s2 (λ t4 s3=>dm (.list [t4]) s3 (λ t5 s4=>b6 t5 s4 (Q3 P J) t2)) [t3]) J) t1) J
def Yr(F:b_)(P:PV)(J:AV)(s:U):Prop:=ak "above" s (λ t1 s1=>cX s1 (λ t2=>ak "above" s1 (λ t3 s2=>bH s2 (λ t4 s3=>b6 t4 s3 (Q4 P J) t2) [t3]) J) t1) J
def EI(F:b_)(P:PV)(J:AV)(s:U):Prop:=ak "above" s (λ t1 s1=>bH s1 P [t1]) J
def oz(aQ J:AV)(n1:Nat)(s:U):Prop:=gM ["a","self"] xN xO n1 F (dj [("a",some aQ),("self",some J)]) s (fi (fG P) F xP)
def NO(n1:Nat)(aQ J:AV)(s:U):Prop:=ak "above" s (λ t1 s1=>aj s1 (λ t2 s2=>oz F P t2 J n1 s2) t1 aQ) J
def J2(aQ J:AV)(n1:Nat)(s:U):Prop:=ak "above" s (λ t1 s1=>aj s1 (λ t2 s2=>fW s2 (cj (NO F P n1 aQ J) (P aQ)) t2 aQ) t1 aQ) J
theorem x6{F:b_}{P:PV}{aQ J:AV}{n1:Nat}{s:U}(h:J2 F P aQ J n1 s):oz F P aQ J (n1+1) s:=h
def UP(J aQ:AV)(s:U):Prop:=∃t5,oz F P aQ J t5 s
def J3(cw cF J:AV)(s:U):Prop:=ak "merged" s (λ t1 s1=>cX s1 (λ t2=>b6 (.tup [cF,cw]) s1 (P (.tup [cF,cw])) t2) t1) J
def J4(cw cF J:AV)(s:U):Prop:=ak "lots" s (λ t1 s1=>aj s1 (λ t2 s2=>cX s2 (λ t3=>ak "lots" s2 (λ t4 s3=>aj s3 (λ t5 s4=>sd t3 s4 (J3 P cw cF J) t5) t4 cw) J) t2) t1 cF) J
def J5(cw cF J:AV)(s:U):Prop:=ak "above" s (λ t1 s1=>cP cF s1 (J4 P cw cF J) t1 cw) J
def J6(cw cF J:AV)(s:U):Prop:=dK s (cj (P AV.none) (J5 P cw cF J)) cF cw
def Q5(J aQ bx:AV)(s:U):Prop:=bF "find" s (λ t1 t2=>F.call t2 [.ref t1,aQ] s (λ t3 s1=>bF "find" s1 (λ t4 t5=>F.call t5 [.ref t4,bx] s1 (λ t6 s2=>dm (.list [t3,t6]) s2 (λ t7 s3=>dZ s3 (λ t8 s4=>di s4 (λ t9=>eA 2 t9 (bO t9 λ eT ft=>bO ft λ gr lu=>e8 lu (J6 P gr eT J s4))) t8) [t7]))) J)) J
def NP(J aQ:AV)(s:U):Prop:=ak "lots" s (λ t1 s1=>bF "find" s1 (λ t2 t3=>F.call t3 [.ref t2,aQ] s1 (λ t4 s2=>aj s2 (λ t5 s3=>dZ s3 P [t5]) t1 t4)) J) J
def wh(aK J:AV)(n1:Nat)(s:U):Prop:=gM ["many","self"] AA AB n1 F (dj [("many",some aK),("self",some J)]) s (fi (fG P) F aJ)
def Q6(n1:Nat)(cw cF aK J:AV)(s:U):Prop:=ak "lots" s (λ t1 s1=>aj s1 (λ t2 s2=>ak "lots" s2 (λ t3 s3=>aj s3 (λ t4 s4=>bH s4 (λ t5 s5=>ak "lots" s5 (λ t6 s6=>aj s6 (λ t7 s7=>bH s7 (λ t8 s8=>fV s8 (λ t9 s9=>ow s9 (wh F P aK J n1) t2 t9) t5 t8) [t7]) t6 cw) J) [t4]) t3 cF) J) t1 cF) J
def Q7(n1:Nat)(cw cF aK J:AV)(s:U):Prop:=ak "above" s (λ t1 s1=>cP cw s1 (Q6 F P n1 cw cF aK J) t1 cw) J
def Q8(n1:Nat)(aK J:AV)(s:U):Prop:=ak "merged" s (λ t1 s1=>cX s1 (λ t2=>fO s1 (λ t3 s2=>di s2 (λ t4=>eA 2 t4 (bO t4 λ t5 t6=>bO t6 λ t7 t8=>e8 t8 (Q7 F P n1 t7 t5 aK J s2))) t3) t2) t1) J
def NQ(aK J:AV)(n1:Nat)(s:U):Prop:=ak "merged" s (λ t1 s1=>bH s1 (λ t2 s2=>lF s2 (λ t3 s3=>gK s3 (cj (Q8 F P n1 aK J) (P .none)) t2 t3) [aK,(.int 0)]) [t1]) J
theorem Bq{F:b_}{P:PV}{aK J:AV}{n1:Nat}{s:U}(h:NQ F P aK J n1 s):wh F P aK J (n1+1) s:=h
def Ys(J aK:AV)(s:U):Prop:=∃Be,wh F P aK J Be s
def wi(aK J:AV)(n1:Nat)(x1:aP)(s:U):Prop:=hV ["many","self"] AD AH n1 x1 F (dj [("many",some aK),("self",some J)]) s (fi (fG P) F AJ)
def Q9(aK J:AV)(s:U):Prop:=ak "lots" s (λ t1 s1=>ow s1 (P .none) t1 aK) J
def Q_(aK J:AV)(s:U):Prop:=ak "above" s (λ t1 s1=>ow s1 (Q9 P aK J) t1 aK) J
def Ra(n1:Nat)(x1:aP)(aQ aK J:AV)(s:U):Prop:=bF "members" s (λ t1 t2=>F.call t2 [.ref t1,aQ] s (λ t3 s1=>dm (.list [aQ]) s1 (λ t4 s2=>wa s2 (cj (λ s3=>False) (wi F P aK J n1 x1)) t3 t4))) J
def NR(aK J:AV)(n1:Nat)(x1:aP)(s:U):Prop:=cL s (Q_ P aK J s) (λ t2 x1=>Ra F P n1 x1 t2 aK J s) x1
theorem Br{F:b_}{P:PV}{aK J:AV}{n1:Nat}{x1:aP}{s:U}(h:NR F P aK J n1 x1 s):wi F P aK J (n1+1) x1 s:=h
def Rb(aK J:AV)(s:U):Prop:=ak "above" s (λ t1 s1=>bH s1 (λ t2 s2=>mA (λ t3=>∃t4,wi F P aK J t4 t3 s2) [aK,t2]) [t1]) J
def Yt(J aK:AV)(s:U):Prop:=lF s (λ t1 s1=>Rb F P t1 J s1) [aK,(.int 0)]
def EJ(J:AV)(s:U):Prop:=dm (.list []) s (λ t1 s1=>bG "waiting" t1 s1 (λ s2=>bG "backs" (.int 0) s2 (P .none) J) J)
def EK(J:AV)(s:U):Prop:=dm (.dI []) s (λ t1 s1=>bG "above" t1 s1 (EJ P J) J)
def EL(J:AV)(s:U):Prop:=dm (.dT []) s (λ t1 s1=>bG "known" t1 s1 (EK P J) J)
def EM(J:AV)(s:U):Prop:=dm (.list []) s (λ t1 s1=>bG "forest" t1 s1 (EL P J) J)
def EN(J:AV)(s:U):Prop:=dm (.list []) s (λ t1 s1=>bG "edges" t1 s1 (EM P J) J)
def EO(J:AV)(s:U):Prop:=F.jS .gI [] s (λ t1 s1=>bG "unions" t1 s1 (EN P J) J)
def J7(J:AV)(s:U):Prop:=F.jS .bank [] s (λ t1 s1=>bG "bank" t1 s1 (EO F P J) J)
def J8(J:AV)(s:U):Prop:=ak "bank" s (λ t1 s1=>bF "size" s1 (λ t2 t3=>F.call t3 [.ref t2] s1 P) t1) J
def qt(J:AV)(n:Nat)(x:aP)(l:Nat)(s:U)(Q:U->Prop):Prop:=D6 n x l F (dj [("self",some J)]) s Q
def NT(J:AV)(n:Nat)(x:aP)(l:Nat)(s:U)(Q:U->Prop):Prop:=cL s (Q s) (λ t5 x=>bF "find" s (λ t6 t7=>F.call t7 [.ref t6,t5] s (λ t8 s3=>b6 t8 s3 (λ s4=>qt F J n x l s4 Q) l)) J) x
theorem Bs{F:b_}{J:AV}{n:Nat}{x:aP}{l:Nat}{s:U}{Q:U->Prop}(h:NT F J n x l s Q):qt F J (n+1) x l s Q:=h
def Yu(J aW:AV)(s:U):Prop:=ak "bank" s (λ t1 s1=>bF "op" s1 (λ t2 t3=>F.call t3 [.ref t2,aW] s1 (λ t4 s2=>ak "bank" s2 (λ ft s5=>bF "kids" s5 (λ gr lu=>F.call lu [.ref gr,aW] s5 (λ NU s6=>d2 s6 (λ eT=>eJ s6 (λ vt s8=>eL s8 (λ ED s9=>cq s9 P (.tup [t4]) ED) [vt]) λ NV EP s7 Bl=>qt F J NV eT EP s7 Bl) NU)) ft) J)) t1) J
def uh(aW J:AV)(n1:Nat)(x1:aP)(s:U):Prop:=hV ["n","self"] D7 D8 n1 x1 F (dj [("n",some aW),("self",some J)]) s (fi (fG P) F D9)
def Im(aW J:AV)(s:U):Prop:=bF "look_at" s (λ t1 t2=>F.call t2 [.ref t1,aW] s (λ t3 s1=>P aW s1)) J
def UQ(n1:Nat)(x1:aP)(Yv aW J:AV)(s:U):Prop:=ak "above" s (λ t1 s1=>aj s1 (λ t2 s2=>cX s2 (λ t3=>b6 aW s2 (uh F P aW J n1 x1) t3) t2) t1 Yv) J
def Rc(aW J:AV)(n1:Nat)(x1:aP)(s:U):Prop:=cL s (Im F P aW J s) (λ ft x1=>UQ F P n1 x1 ft aW J s) x1
theorem ER{F:b_}{P:PV}{aW J:AV}{n1:Nat}{x1:aP}{s:U}(h:Rc F P aW J n1 x1 s):uh F P aW J (n1+1) x1 s:=h
def ui(J:AV)(n:Nat)(x:aP)(l:Nat)(s:U)(Q:U->Prop):Prop:=Ia n x l F (dj [("self",some J)]) s Q
def Rd(J:AV)(n:Nat)(x:aP)(l:Nat)(s:U)(Q:U->Prop):Prop:=cL s (Q s) (λ xZ x=>bF "find" s (λ Il Be=>F.call Be [.ref Il,xZ] s (λ Nh x4=>b6 Nh x4 (λ Ez=>ui F J n x l Ez Q) l)) J) x
theorem ES{F:b_}{J:AV}{n:Nat}{x:aP}{l:Nat}{s:U}{Q:U->Prop}(h:Rd F J n x l s Q):ui F J (n+1) x l s Q:=h
def UR(aW eN J:AV)(s:U):Prop:=d2 s (λ t1=>eJ s (λ t2 s1=>wd s1 (λ t3 s2=>dZ s2 (λ t4 s3=>d2 s3 (λ t5=>∃t6,uh F P aW J t6 t5 s3) t4) [t3]) [t2]) λ t7 t8 s4 t9=>ui F J t7 t1 t8 s4 t9) eN
def US(aW eN J:AV)(s:U):Prop:=dm (.list []) s (λ t1 s1=>ak "above" s1 (λ t2 s2=>cP t1 s2 (UR F P aW eN J) t2 aW) J)
def UT(aW eN J:AV)(s:U):Prop:=ak "unions" s (λ t1 s1=>bF "make" s1 (λ t2 t3=>F.call t3 [.ref t2] s1 (λ t4 s2=>US F P aW eN J s2)) t1) J
def UU(aW eN J:AV)(s:U):Prop:=ak "unions" s (λ t1 s1=>bF "size" s1 (λ t2 t3=>F.call t3 [.ref t2] s1 (λ t4 s2=>rS s2 (cj (P aW) (UT F P aW eN J)) aW t4)) t1) J
def aaA(J eU eN:AV)(s:U):Prop:=ak "bank" s (λ t1 s1=>bF "take" s1 (λ t2 t3=>F.call t3 [.ref t2,eU,eN] s1 (λ t4 s2=>UU F P t4 eN J s2)) t1) J
def GR(aW gh J:AV)(s:U):Prop:=bF "join" s (λ t1 t2=>F.call t2 [.ref t1,gh,aW,(.tup [(.str "like")])] s (λ t3 s1=>P .none s1)) J
def GS(aW gh J:AV)(s:U):Prop:=bF "find" s (λ t1 t2=>F.call t2 [.ref t1,gh] s (λ t3 s1=>bF "find" s1 (λ t4 t5=>F.call t5 [.ref t4,aW] s1 (λ t6 s2=>fW s2 (cj (GR F P aW gh J) (P .none)) t3 t6)) J)) J
def NW(J aW:AV)(s:U):Prop:=ak "known" s (λ t1 s1=>Bm vZ s1 (λ t2=>bF "node" s1 (λ t3 t4=>F.call t4 [.ref t3,aW] s1 (λ t5 s2=>i' t2 s2 (λ t6 s3=>GS F P aW t6 J s3) [t5,aW])) J) t1) J
def Yw(J aW:AV)(s:U):Prop:=ak "unions" s (λ t1 s1=>bF "find" s1 (λ t2 t3=>F.call t3 [.ref t2,aW] s1 P) t1) J
def UW(J aQ bx bR:AV)(s:U):Prop:=bF "join" s (λ t1 t2=>F.call t2 [.ref t1,aQ,bx,bR] s P) J
def NX(cw cF J:AV)(s:U):Prop:=ak "above" s (λ t1 s1=>aj s1 (λ t2 s2=>ak "above" s2 (λ t3 s3=>Bm mB s3 (λ t4=>ue t4 s3 (λ t5 s4=>cq s4 (λ t6 s5=>ak "above" s5 (λ t7 s6=>cP t6 s6 (P (.bool true)) t7 cF) J) t2 t5) [cw]) t3) J) t1 cF) J
def NY(cw cF J:AV)(s:U):Prop:=ak "waiting" s (λ t1 s1=>cX s1 (λ t2=>ak "above" s1 (λ t3 s2=>aj s2 (λ t4 s3=>sd t2 s3 (NX P cw cF J) t4) t3 cw) J) t1) J
def NZ(cw cF J:AV)(s:U):Prop:=ak "forest" s (λ t1 s1=>cX s1 (λ t2=>ak "edges" s1 (λ t3 s2=>bH s2 (λ t4 s3=>fV s3 (λ t5 s4=>b6 t5 s4 (NY P cw cF J) t2) t4 (.int 1)) [t3]) J) t1) J
def N0(qu J:AV)(s:U):Prop:=di s (λ t1=>eA 2 t1 (bO t1 λ t2 t3=>bO t3 λ t4 t5=>e8 t5 (NZ P t4 t2 J s))) qu
def N1(qu J:AV)(s:U):Prop:=Dc s (cj (P (.bool false)) (N0 P qu J)) qu AV.none
def N2(aQ bx J:AV)(s:U):Prop:=ak "unions" s (λ t1 s1=>bF "merge" s1 (λ t2 t3=>F.call t3 [.ref t2,aQ,bx] s1 (λ t4 s2=>N1 P t4 J s2)) t1) J
def UX(J aQ bx bR:AV)(s:U):Prop:=ak "edges" s (λ t1 s1=>cX s1 (λ t2=>b6 (.tup [aQ,bx,bR]) s1 (N2 F P aQ bx J) t2) t1) J
def qv(J:AV)(n1:Nat)(s:U):Prop:=gM ["self"] u7 u9 n1 F (dj [("self",some J)]) s (fi (fG P) F aJ)
def J9(n1:Nat)(J:AV)(s:U):Prop:=bF "look_at" s (λ t1 t2=>ak "waiting" s (λ t3 s1=>cX s1 (λ t4=>fO s1 (λ t5 s2=>F.call t2 [.ref t1,t5] s2 (λ t6 s3=>qv F P J n1 s3)) t4) t3) J) J
def GU(J:AV)(n1:Nat)(s:U):Prop:=ak "waiting" s (λ t1 s1=>bH s1 (λ t2 s2=>gK s2 (cj (J9 F P n1 J) (P .none)) t2 (.int 0)) [t1]) J
theorem vu{F:b_}{P:PV}{J:AV}{n1:Nat}{s:U}(h:GU F P J n1 s):qv F P J (n1+1) s:=h
def Rf(J:AV)(s:U):Prop:=∃t9,qv F P J t9 s
def zi(J:AV)(s:U):Prop:=dm (.list []) s (λ t1 s1=>bG "marks" t1 s1 (λ s2=>bG "made" (.int 0) s2 (P .none) J) J)
def zj(J:AV)(s:U):Prop:=dm (.list []) s (λ t1 s1=>bG "changes" t1 s1 (zi P J) J)
def ET(J:AV)(s:U):Prop:=DO "__init__" s (λ t1 t2=>F.call t2 [.ref t1] s (λ t3 s1=>zj P J s1)) J
def Yx(F:b_)(P:PV)(J:AV)(s:U):Prop:=ak "marks" s (λ t1 s1=>cX s1 (λ t2=>ak "changes" s1 (λ t3 s2=>bH s2 (λ t4 s3=>ak "waiting" s3 (λ t5 s4=>kM s4 (λ t6 s5=>b6 (.tup [t4,t6]) s5 (P .none) t2) [t5]) J) [t3]) J) t1) J
def nq(aK J cu:AV)(n1:Nat)(s:U):Prop:=gM ["many","self","waiting"] Ec Ed n1 F (dj [("many",some aK),("self",some J),("waiting",some cu)]) s (fi (fG P) F Ee)
def UY(n1:Nat)(d0 aK J cu:AV)(s:U):Prop:=bF "unmake" s (λ t1 t2=>aj s (λ t3 s1=>F.call t2 [.ref t1,t3] s1 (λ t4 s2=>nq F P aK J cu n1 s2)) d0 (.int 1)) J
def UZ(n1:Nat)(d0 aK J cu:AV)(s:U):Prop:=ak "known" s (λ t1 s1=>aj s1 (λ t2 s2=>sr s2 (nq F P aK J cu n1) t1 t2) d0 (.int 1)) J
def U0(n1:Nat)(d0 aK J cu:AV)(s:U):Prop:=bF "unjoin" s (λ t1 t2=>F.call t2 [.ref t1,d0] s (λ t3 s1=>nq F P aK J cu n1 s1)) J
def U1(n1:Nat)(d0 aK J cu:AV)(s:U):Prop:=aj s (λ t1 s1=>dK s1 (cj (UZ F P n1 d0 aK J cu) (U0 F P n1 d0 aK J cu)) t1 (.str "known")) d0 (.int 0)
def U2(n1:Nat)(d0 aK J cu:AV)(s:U):Prop:=aj s (λ t1 s1=>dK s1 (cj (UY F P n1 d0 aK J cu) (U1 F P n1 d0 aK J cu)) t1 (.str "made")) d0 (.int 0)
def U3(n1:Nat)(aK J cu:AV)(s:U):Prop:=ak "changes" s (λ t1 s1=>cX s1 (λ t2=>fO s1 (λ t3 s2=>U2 F P n1 t3 aK J cu s2) t2) t1) J
def Io(J cu:AV)(s:U):Prop:=bG "waiting" cu s (P .none) J
def Rg(aK J cu:AV)(n1:Nat)(s:U):Prop:=ak "changes" s (λ ft s6=>bH s6 (λ gr s7=>gK s7 (cj (U3 F P n1 aK J cu) (Io P J cu)) gr aK) [ft]) J
theorem EU{F:b_}{P:PV}{aK J cu:AV}{n1:Nat}{s:U}(h:Rg F P aK J cu n1 s):nq F P aK J cu (n1+1) s:=h
def U4(aK J cu:AV)(s:U):Prop:=∃t1,nq F P aK J cu t1 s
def U5(aK J cu:AV)(s:U):Prop:=ak "backs" s (λ t1 s1=>cq s1 (λ t2 s2=>bG "backs" t2 s2 (U4 F P aK J cu) J) t1 (.int 1)) J
def Rh(J:AV)(s:U):Prop:=ak "marks" s (λ t1 s1=>cX s1 (λ t2=>fO s1 (λ t3 s2=>di s2 (λ t4=>eA 2 t4 (bO t4 λ t5 t6=>bO t6 λ t7 t8=>e8 t8 (U5 F P t5 J t7 s2))) t3) t2) t1) J
def aaB(J:AV)(s:U):Prop:=ak "marks" s (λ t48 s42=>bH s42 (λ t49 s43=>dK s43 (cj (λ s44=>False) (Rh F P J)) t49 (.int 0)) [t48]) J
def x7(aW J:AV)(s:U):Prop:=DO "look_at" s (λ t1 t2=>F.call t2 [.ref t1,aW] s (λ t3 s1=>P .none s1)) J
def J_(aW bZ J:AV)(s:U):Prop:=ak "changes" s (λ t1 s1=>cX s1 (λ t2=>b6 (.tup [(.str "known"),bZ]) s1 (x7 F P aW J) t2) t1) J
def J'(aW bZ J:AV)(s:U):Prop:=ak "known" s (λ t1 s1=>fM s1 (cj (J_ F P aW bZ J) (x7 F P aW J)) bZ t1) J
def qw(aW J:AV)(s:U):Prop:=bF "node" s (λ t1 t2=>F.call t2 [.ref t1,aW] s (λ t3 s1=>J' F P aW t3 J s1)) J
def Ka(aW J:AV)(s:U):Prop:=cq s (λ t1 s1=>bG "made" t1 s1 (qw F P aW J) J) aW (.int 1)
def Kb(aW J:AV)(s:U):Prop:=ak "changes" s (λ t1 s1=>cX s1 (λ t2=>b6 (.tup [(.str "made"),aW]) s1 (Ka F P aW J) t2) t1) J
def Ri(J aW:AV)(s:U):Prop:=ak "made" s (λ vt NK=>dK NK (cj (Kb F P aW J) (qw F P aW J)) aW vt) J
def Rj(aQ bx bR J:AV)(s:U):Prop:=DO "join" s (λ t1 t2=>F.call t2 [.ref t1,aQ,bx,bR] s P) J
def Rk(aQ bx cw cF bR J:AV)(s:U):Prop:=ak "changes" s (λ t1 s1=>cX s1 (λ t2=>ak "above" s1 (λ t3 s2=>aj s2 (λ t4 s3=>bH s3 (λ t5 s4=>ak "above" s4 (λ t6 s5=>aj s5 (λ t7 s6=>b6 (.tup [(.str "edge"),cF,t5,cw,t7]) s6 (Rj F P aQ bx bR J) t2) t6 cw) J) [t4]) t3 cF) J) t1) J
def Yy(J aQ bx bR:AV)(s:U):Prop:=bF "find" s (λ t1 t2=>F.call t2 [.ref t1,aQ] s (λ t3 s1=>bF "find" s1 (λ t4 t5=>F.call t5 [.ref t4,bx] s1 (λ t6 s2=>dm (.list [t3,t6]) s2 (λ t7 s3=>dZ s3 (λ t8 s4=>di s4 (λ t9=>eA 2 t9 (bO t9 λ eT ft=>bO ft λ gr lu=>e8 lu (Rk F P aQ bx gr eT bR J s4))) t8) [t7]))) J)) J
def m8(aW J:AV)(n1:Nat)(x1:aP)(s:U):Prop:=hV ["n","self"] u_ vc n1 x1 F (dj [("n",some aW),("self",some J)]) s (fi (fG P) F vd)
def Kc(aW J:AV)(s:U):Prop:=ak "bank" s (λ t1 s1=>bF "cut" s1 (λ t2 t3=>F.call t3 [.ref t2,aW] s1 (λ t4 s2=>bG "made" aW s2 (P .none) J)) t1) J
def Kd(aW J:AV)(s:U):Prop:=ak "unions" s (λ t1 s1=>bF "cut" s1 (λ t2 t3=>F.call t3 [.ref t2,aW] s1 (λ t4 s2=>Kc F P aW J s2)) t1) J
def x8(aW J:AV)(s:U):Prop:=ak "above" s (λ t1 s1=>sr s1 (Kd F P aW J) t1 aW) J
def Ke(n1:Nat)(x1:aP)(Yv aW J:AV)(s:U):Prop:=ak "above" s (λ t1 s1=>aj s1 (λ t2 s2=>cX s2 (λ t3=>fO s2 (λ t4 s3=>m8 F P aW J n1 x1 s3) t3) t2) t1 Yv) J
def GV(aW J:AV)(n1:Nat)(x1:aP)(s:U):Prop:=cL s (x8 F P aW J s) (λ t1 x1=>Ke F P n1 x1 t1 aW J s) x1
theorem vx{F:b_}{P:PV}{aW J:AV}{n1:Nat}{x1:aP}{s:U}(h:GV F P aW J n1 x1 s):m8 F P aW J (n1+1) x1 s:=h
def m9(J:AV)(n:Nat)(x:aP)(l:Nat)(s:U)(Q:U->Prop):Prop:=xU n x l F (dj [("self",some J)]) s Q
def GW(J:AV)(n:Nat)(x:aP)(l:Nat)(s:U)(Q:U->Prop):Prop:=cL s (Q s) (λ NV x=>bF "find" s (λ vt ED=>F.call ED [.ref vt,NV] s (λ xZ x4=>b6 xZ x4 (λ Ez=>m9 F J n x l Ez Q) l)) J) x
theorem vy{F:b_}{J:AV}{n:Nat}{x:aP}{l:Nat}{s:U}{Q:U->Prop}(h:GW F J n x l s Q):m9 F J (n+1) x l s Q:=h
def Rl(J aW:AV)(s:U):Prop:=ak "bank" s (λ Nh s14=>bF "kids" s14 (λ X6 X7=>F.call X7 [.ref X6,aW] s14 (λ NI TY=>d2 TY (λ Be=>eJ TY (λ t30 Nx=>wd Nx (λ t31 NK=>dZ NK (λ Yl s19=>d2 s19 (λ Bl=>∃EP,m8 F P aW J EP Bl s19) Yl) [t31]) [t30]) λ t29 NJ Yk t28=>m9 F J t29 Be NJ Yk t28) NI)) Nh) J
def Kf(cw J gQ:AV)(s:U):Prop:=ak "above" s (λ t1 s1=>cP gQ s1 (P .none) t1 cw) J
def Kg(cw cF aK J gQ:AV)(s:U):Prop:=ak "above" s (λ t1 s1=>aj s1 (λ t2 s2=>qV aK λ t3=>eR none (some t3) none s2 (λ t4 s3=>ak "above" s3 (λ t5 s4=>cP t4 s4 (Kf P cw J gQ) t5 cF) J) t2) t1 cF) J
def Kh(cw cF aK J gQ:AV)(s:U):Prop:=ak "unions" s (λ t1 s1=>bF "back" s1 (λ t2 t3=>ak "unions" s1 (λ t4 s2=>ak "merged" s2 (λ t5 s3=>bH s3 (λ t6 s4=>fV s4 (λ t7 s5=>F.call t3 [.ref t2,t7] s5 (λ t8 s6=>Kg P cw cF aK J gQ s6)) t6 (.int 1)) [t5]) t4) J) t1) J
def Ki(cw cF aK J gQ:AV)(s:U):Prop:=ak "forest" s (λ t1 s1=>cX s1 (λ t2=>fO s1 (λ t3 s2=>Kh F P cw cF aK J gQ s2) t2) t1) J
def Kj(cw cF aK J gQ:AV)(s:U):Prop:=fW s (cj (Ki F P cw cF aK J gQ) (P .none)) cF cw
def Kk(cw cF aK J gQ:AV)(s:U):Prop:=ak "edges" s (λ t1 s1=>cX s1 (λ t2=>fO s1 (λ t3 s2=>Kj F P cw cF aK J gQ s2) t2) t1) J
def Rm(J d0:AV)(s:U):Prop:=di s (λ t1=>eA 5 t1 (bO t1 λ t2 t3=>bO t3 λ t4 t5=>bO t5 λ t6 t7=>bO t7 λ t8 t9=>bO t9 λ eT ft=>e8 ft (Kk F P t8 t4 t6 J eT s))) d0
def Rn(qx aL aK:AV)(s:U):Prop:=aj s (λ t1 s1=>bH s1 (λ t2 s2=>rS s2 (cj (λ s3=>aj s3 (λ t3 s4=>aj s4 (λ t4 s5=>pW s5 P t4 aK) t3 qx) aL (.str "row")) (λ s6=>vP s6 (λ t5 s7=>vP s7 (λ t6 s8=>vP s8 (λ t7 s9=>cq s9 (λ t8 vq=>PH vq (λ t9 Nv=>cq Nv (λ eT x4=>cq x4 (λ ft Ez=>pW Ez P ft aK) eT (.int 2)) t8 t9) qx (.int 3)) t6 t7) (.int 8) qx) t5 qx) (.int 5) qx)) qx t2) [t1]) aL (.str "row")
def Ro(qx aL aK:AV)(s:U):Prop:=cq s (λ t1 s1=>cP t1 s1 (Rn P qx aL aK) aL (.str "at")) qx (.int 1)
def Yz(F:b_)(P:PV)(aL aK:AV)(s:U):Prop:=aj s (λ t1 s1=>Ro P t1 aL aK s1) aL (.str "at")
def mh(aq:AV)(n:Nat)(x:aP)(l:Nat)(s:U)(Q:U->Prop):Prop:=AX n x l F (dj [("nodes",some aq)]) s Q
def Kl(aq:AV)(n:Nat)(x:aP)(l:Nat)(s:U)(Q:U->Prop):Prop:=cL s (Q s) (λ t3 x=>F.call .hJ [aq,t3] s (λ t4 s3=>b6 t4 s3 (λ s4=>mh F aq n x l s4 Q) l)) x
theorem x9{F:b_}{aq:AV}{n:Nat}{x:aP}{l:Nat}{s:U}{Q:U->Prop}(h:Kl F aq n x l s Q):mh F aq (n+1) x l s Q:=h
def U6(aq aW:AV)(s:U):Prop:=aj s (λ t1 s1=>aj s1 (λ t2 s2=>aj s2 (λ t7 s5=>eR (some 1) none none s5 (λ t8 s6=>d2 s6 (λ t6=>eJ s6 (λ gr s8=>eL s8 (λ lu s9=>cq s9 P (.tup [t2]) lu) [gr]) λ ft t9 s7 eT=>mh F aq ft t6 t9 s7 eT) t8) t7) aq aW) t1 (.int 0)) aq aW
def qy(aL aq:AV)(n:Nat)(x:aP)(l:Nat)(s:U)(Q:U->Prop):Prop:=Ej n x l F (dj [("feed",some aL),("nodes",some aq)]) s Q
def N3(aL aq:AV)(n:Nat)(x:aP)(l:Nat)(s:U)(Q:U->Prop):Prop:=cL s (Q s) (λ t3 x=>bH s (λ t4 s3=>Dl s3 (λ t5 s4=>F.call .dH [aL,t5] s4 (λ t6 s5=>b6 t6 s5 (λ s6=>qy F aL aq n x l s6 Q) l)) [t4,(.int 4)]) [aq]) x
theorem Bt{F:b_}{aL aq:AV}{n:Nat}{x:aP}{l:Nat}{s:U}{Q:U->Prop}(h:N3 F aL aq n x l s Q):qy F aL aq (n+1) x l s Q:=h
def EV(bZ aq:AV)(s:U):Prop:=pe s (cj (P aq) (λ s1=>dm (.list [bZ]) s1 (λ t1 s2=>cq s2 P aq t1))) bZ aq
def EW(au bZ aq eU:AV)(s:U):Prop:=bF "add" s (λ t1 t2=>eR (some 1) none none s (λ t3 s1=>F.call t2 [.ref t1,eU,t3] s1 (λ t4 s2=>EV P bZ aq s2)) bZ) au
def wj(aL:AV)(au:AV)(aq:AV)(eU:AV)(t8:AV)(s1:U):Prop:=mA (λ t1=>eJ s1 (λ t2 s2=>eL s2 (λ t3 s3=>cq s3 (λ t4 s4=>EW F P au t4 aq eU s4) (.tup [eU]) t3) [t2]) λ t5 t6 s5 t7=>qy F aL aq t5 t1 t6 s5 t7) [t8]
def Rp(aL au aq eU:AV)(s:U):Prop:=dK s (cj (wj F P aL au aq eU (.int 1)) (wj F P aL au aq eU (.int 2))) eU (.str "f")
def YA(aL au aq:AV)(s:U):Prop:=F.call .dH [aL,(.int 2)] s (λ t1 s1=>aj s1 (Rp F P aL au aq) (.str "fg") t1)
def N4(aX:AV)(s:U):Prop:=aj s (λ t1 s1=>aj s1 (λ t2 s2=>P (.tup [t1,t2]) s2) aX (.int 1)) aX (.int 1)
def N5(aq v_pair:AV)(s:U):Prop:=Dc s (cj (P AV.none) (λ s1=>aj s1 (λ t1 s2=>F.call .hJ [aq,t1] s2 (λ t2 s3=>aj s3 (λ t3 s4=>F.call .hJ [aq,t3] s4 (λ t4 s5=>P (.tup [t2,t4]) s5)) v_pair (.int 1))) v_pair (.int 0))) v_pair AV.none
def N6(aq aX bl:AV)(s:U):Prop:=Bm Jj s (λ t1=>aj s (λ t2 s1=>zM t2 λ t3=>Du s1 t1 λ t4=>(N5 F P aq) ((bD t4 t3).getD .none) s1) aX (.int 1)) bl
def oA(aq bl:AV)(n:Nat)(x:aP)(l:Nat)(s:U)(Q:U->Prop):Prop:=AY n x l F (dj [("nodes",some aq),("told",some bl)]) s Q
def Km(aq bl:AV)(n:Nat)(x:aP)(l:Nat)(s:U)(Q:U->Prop):Prop:=cL s (Q s) (λ NI x=>F.call .mT [NI,aq,bl] s (λ NJ Ex=>b6 NJ Ex (λ Nt=>oA F aq bl n x l Nt Q) l)) x
theorem x_{F:b_}{aq bl:AV}{n:Nat}{x:aP}{l:Nat}{s:U}{Q:U->Prop}(h:Km F aq bl n x l s Q):oA F aq bl (n+1) x l s Q:=h
def N7(eV:AV)(s:U):Prop:=aj s (λ t1 s1=>aj s1 (λ t2 s2=>aj s2 (λ t3 s3=>aj s3 (λ t4 s4=>P (.tup [t2,t4]) s4) t3 (.int 0)) eV (.int 0)) t1 (.int 1)) eV (.int 0)
def N8(eV:AV)(s:U):Prop:=aj s (λ t1 s1=>aj s1 (λ t2 s2=>aj s2 (λ t3 s3=>aj s3 (λ t4 s4=>dK s4 (cj (λ s5=>aj s5 (λ t5 s6=>aj s6 (λ t6 s7=>aj s7 (λ t7 s8=>aj s8 (λ t8 s9=>P (.tup [t6,t8]) s9) t7 (.int 1)) eV (.int 1)) t5 (.int 0)) eV (.int 0)) (P AV.none)) t2 t4) t3 (.int 0)) eV (.int 1)) t1 (.int 1)) eV (.int 0)
def oB(n:Nat)(x:aP)(l:Nat)(s:U)(Q:U->Prop):Prop:=AZ n x l F (dj []) s Q
def Kn(n:Nat)(x:aP)(l:Nat)(s:U)(Q:U->Prop):Prop:=cL s (Q s) (λ t62 x=>aj s (λ t63 s60=>b6 t63 s60 (λ s61=>oB F n x l s61 Q) l) t62 (.int 0)) x
theorem ya{F:b_}{n:Nat}{x:aP}{l:Nat}{s:U}{Q:U->Prop}(h:Kn F n x l s Q):oB F (n+1) x l s Q:=h
def oC(n:Nat)(x:aP)(l:Nat)(s:U)(Q:U->Prop):Prop:=A4 n x l F (dj []) s Q
def Ko(n:Nat)(x:aP)(l:Nat)(s:U)(Q:U->Prop):Prop:=cL s (Q s) (λ t73 x=>aj s (λ t74 s67=>b6 t74 s67 (λ s68=>oC F n x l s68 Q) l) t73 (.int 1)) x
theorem yb{F:b_}{n:Nat}{x:aP}{l:Nat}{s:U}{Q:U->Prop}(h:Ko F n x l s Q):oC F (n+1) x l s Q:=h
def N9(aX eV:AV)(s:U):Prop:=aj s (λ t1 s1=>d2 s1 (λ t2=>eJ s1 (λ t3 s2=>eL s2 (λ t4 s3=>cq s3 (λ t5 s4=>aj s4 (λ t6 s5=>d2 s5 (λ t7=>eJ s5 (λ t8 s6=>eL s6 (λ t9 s7=>cq s7 (λ eT s8=>P (.tup [t5,eT]) s8) (.tup [t6]) t9) [t8]) λ ft gr s9 lu=>oC F ft t7 gr s9 lu) eV) aX (.int 1)) (.tup [t1]) t4) [t3]) λ NU EP vq Bl=>oB F NU t2 EP vq Bl) eV) aX (.int 1)
def Kp(eg aX eV:AV)(s:U):Prop:=dK s (cj (N8 P eV) (N9 F P aX eV)) eg (.str "join")
def yc(eg aX eV:AV)(s:U):Prop:=dK s (cj (N7 P eV) (Kp F P eg aX eV)) eg (.str "turn")
def Kq(eg aX eV:AV)(s:U):Prop:=pe s (cj (P AV.none) (λ s1=>dK s1 (cj (P AV.none) (yc F P eg aX eV)) eg (.str "rule"))) AV.none eV
def qz(eg:AV)(aq:AV)(aX:AV)(bl:AV)(t5:AV)(s1:U):Prop:=d2 s1 (λ t1=>eJ s1 (Kq F P eg aX) λ t2 t3 s2 t4=>oA F aq bl t2 t1 t3 s2 t4) t5
def yd(eg aq aX bl:AV)(s:U):Prop:=dK s (cj (λ s1=>aj s1 (qz F P eg aq aX bl) aX (.int 2)) (λ s2=>eR (some 1) none none s2 (qz F P eg aq aX bl) aX)) eg (.str "under")
def Kr(eg aq aX bl:AV)(s:U):Prop:=yd F P eg aq aX bl s
def qA(eg aq aX bl:AV)(s:U):Prop:=dK s (cj (N6 F P aq aX bl) (Kr F P eg aq aX bl)) eg (.str "told")
def Ks(eg aq aX bl:AV)(s:U):Prop:=qA F P eg aq aX bl s
def Kt(eg aq aX bl:AV)(s:U):Prop:=dK s (cj (N4 P aX) (Ks F P eg aq aX bl)) eg (.str "same")
def U7(aX aq bl:AV)(s:U):Prop:=aj s (λ t1 s1=>Kt F P t1 aq aX bl s1) aX (.int 0)
def Ku(aX:AV)(s:U):Prop:=aj s (λ t1 s1=>dK s1 (cj (λ s2=>aj s2 (λ t2 s3=>dm (.list [t2]) s3 P) aX (.int 1)) (λ s4=>dm (.list []) s4 P)) t1 (.str "told")) aX (.int 0)
def m_(bz:AV)(n1:Nat)(x1:aP)(s:U):Prop:=hV ["found"] vf vg n1 x1 F (dj [("found",some bz)]) s (fi (fG P) F vi)
def Kv(n1:Nat)(x1:aP)(bz aaC:AV)(s:U):Prop:=cX s (λ t1=>F.call .l7 [aaC] s (λ t2 s1=>sd t1 s1 (m_ F P bz n1 x1) t2)) bz
def GX(bz:AV)(n1:Nat)(x1:aP)(s:U):Prop:=cL s (P bz s) (λ gr x1=>Kv F P n1 x1 bz gr s) x1
theorem vz{F:b_}{P:PV}{bz:AV}{n1:Nat}{x1:aP}{s:U}(h:GX F P bz n1 x1 s):m_ F P bz (n1+1) x1 s:=h
def qB(bz:AV)(t3:AV)(s1:U):Prop:=d2 s1 (λ t1=>∃t2,m_ F P bz t2 t1 s1) t3
def ye(bz aX:AV)(s:U):Prop:=aj s (λ t1 s1=>dK s1 (cj (λ s2=>aj s2 (qB F P bz) aX (.int 2)) (λ s3=>eR (some 1) none none s3 (qB F P bz) aX)) t1 (.str "under")) aX (.int 0)
def Kw(aX:AV)(s:U):Prop:=dm (.list []) s (λ t1 s1=>ye F P t1 aX s1)
def Rq(aX:AV)(s:U):Prop:=aj s (λ Il Ex=>pe Ex (cj (Ku P aX) (Kw F P aX)) Il (.tup [(.str "same"),(.str "told")])) aX (.int 0)
def kO(aS au aq bk bl aE:AV)(n1:Nat)(x1:aP)(s:U):Prop:=hV ["events","heap","nodes","places","told","whys"] rj rk n1 x1 F (dj [("events",some aS),("heap",some au),("nodes",some aq),("places",some bk),("told",some bl),("whys",some aE)]) s (fi (fG P) F ro)
def gR(aS au aq bk bl aE:AV)(n2:Nat)(x2:aP)(s:U):Prop:=hV ["events","heap","nodes","places","told","whys"] rl rm n2 x2 F (dj [("events",some aS),("heap",some au),("nodes",some aq),("places",some bk),("told",some bl),("whys",some aE)]) s (fi (fG P) F rn)
def kP(n:Nat)(x:aP)(l:Nat)(s:U)(Q:U->Prop):Prop:=sX n x l F (dj []) s Q
def Ci(n:Nat)(x:aP)(l:Nat)(s:U)(Q:U->Prop):Prop:=cL s (Q s) (λ gr x=>di s (λ lu=>eA 3 lu (bO lu λ NU EP=>bO EP λ Bl NV=>bO NV λ vt ED=>e8 ED (b6 NU s (λ s5=>kP F n x l s5 Q) l))) gr) x
theorem rq{F:b_}{n:Nat}{x:aP}{l:Nat}{s:U}{Q:U->Prop}(h:Ci F n x l s Q):kP F (n+1) x l s Q:=h
def ti(aS au aq bk:AV)(s:U):Prop:=kM s (λ t1 s1=>d2 s1 (λ t2=>eJ s1 (λ t3 s2=>v_ s2 (λ t4 s3=>wZ t4 λ t5=>if t5 then bF "size" s3 (λ t6 t7=>F.call t7 [.ref t6] s3 (λ t8 s4=>bH s4 (λ t9 s5=>dK s5 P t8 t9) [aq])) au else P (.bool false) s3) t1 t3) λ eT ft s6 gr=>kP F eT t2 ft s6 gr) aS) [bk]
def tj(n2:Nat)(x2:aP)(aS au aq bk bl aE:AV)(s:U):Prop:=gR F P aS au aq bk bl aE n2 x2 s
def EX(n2:Nat)(x2:aP)(aS au aq bk bl aE:AV)(s:U):Prop:=tj F P n2 x2 aS au aq bk bl aE s
def EY(n2:Nat)(x2:aP)(aQ bx aS au aq aX bk bR bl aE:AV)(s:U):Prop:=aj s (λ t1 s1=>fW s1 (cj (P (.bool false)) (λ s2=>Bm Jj s2 (λ t2=>aj s2 (λ t3 s3=>zM t3 λ t4=>Du s3 t2 λ t5=>(λ t6 s4=>fW s4 (cj (P (.bool false)) (EX F P n2 x2 aS au aq bk bl aE)) t6 (.tup [aQ,bx])) ((bD t5 t4).getD .none) s3) bR (.int 1)) bl)) aX (.tup [(.str "told"),t1])) bR (.int 1)
def EZ(n2:Nat)(x2:aP)(aQ bx aS au bp aq aX bk bR bl aE:AV)(s:U):Prop:=aj s (λ t1 s1=>cP bp s1 (EY F P n2 x2 aQ bx aS au aq aX bk bR bl aE) bk t1) bR (.int 1)
def tq(n2:Nat)(x2:aP)(aQ bx aS au aq aX bk bl aE:AV)(s:U):Prop:=F.call .mT [aX,aq,bl] s (λ t1 s1=>F.call .hJ [aq,aQ] s1 (λ t2 s2=>F.call .hJ [aq,bx] s2 (λ t3 s3=>fW s3 (cj (P (.bool false)) (tj F P n2 x2 aS au aq bk bl aE)) t1 (.tup [t2,t3]))))
def E0(n2:Nat)(x2:aP)(aQ bx aS au aq aX bk bl aE:AV)(s:U):Prop:=tq F P n2 x2 aQ bx aS au aq aX bk bl aE s
def jc(bk:AV)(n:Nat)(x:aP)(l:Nat)(s:U)(Q:U->Prop):Prop:=sW n x l F (dj [("places",some bk)]) s Q
def Cj(bk:AV)(n:Nat)(x:aP)(l:Nat)(s:U)(Q:U->Prop):Prop:=cL s (Q s) (λ t71 x=>fM s (cj (λ s52=>b6 t71 s52 (λ s53=>jc F bk n x l s53 Q) l) (λ s54=>jc F bk n x l s54 Q)) t71 bk) x
theorem rr{F:b_}{bk:AV}{n:Nat}{x:aP}{l:Nat}{s:U}{Q:U->Prop}(h:Cj F bk n x l s Q):jc F bk (n+1) x l s Q:=h
def rx(n2:Nat)(x2:aP)(aQ bx aS au aq aX bk bl aE:AV)(s:U):Prop:=aj s (λ t1 s1=>fW s1 (cj (P (.bool false)) (λ s2=>aj s2 (λ t2 s3=>bH s3 (λ t3 s4=>aj s4 (λ t4 s5=>bH s5 (λ t5 s6=>fV s6 (λ t6 s7=>fW s7 (cj (P (.bool false)) (λ s8=>F.call .l7 [aX] s8 (λ t7 s9=>d2 s9 (λ t8=>eJ s9 (λ t9 vq=>dm (.list []) vq (λ eT Nv=>wa Nv (cj (P (.bool false)) (E0 F P n2 x2 aQ bx aS au aq aX bk bl aE)) t9 eT)) λ ft gr x4 lu=>jc F bk ft t8 gr x4 lu) t7))) t3 t6) t5 (.int 1)) [t4]) aq aQ) [t2]) aX (.int 2))) t1 (.str "under")) aX (.int 0)
def Ck(n2:Nat)(x2:aP)(aQ bx aS au aq aX bk bl aE:AV)(s:U):Prop:=rx F P n2 x2 aQ bx aS au aq aX bk bl aE s
def Cm(n2:Nat)(x2:aP)(aQ bx aS au bp aq aX bk bR bl aE:AV)(s:U):Prop:=aj s (λ t1 s1=>dK s1 (cj (EZ F P n2 x2 aQ bx aS au bp aq aX bk bR bl aE) (Ck F P n2 x2 aQ bx aS au aq aX bk bl aE)) t1 (.str "told")) bR (.int 0)
def mF(n2:Nat)(x2:aP)(aQ bx aS au bp aq bk bR bl aE:AV)(s:U):Prop:=bF "of_edge" s (λ t1 t2=>F.call t2 [.ref t1,bp] s (λ t3 s1=>Cm F P n2 x2 aQ bx aS au bp aq t3 bk bR bl aE s1)) aE
def Cn(aS au aq bk bl aE:AV)(n2:Nat)(x2:aP)(s:U):Prop:=cL s (ti F P aS au aq bk s) (λ t9 x2=>di s (λ TZ=>eA 2 TZ (bO TZ λ Ym t35=>bO t35 λ X_ X9=>di s (λ Nr=>eA 3 Nr (bO Nr λ Yb Yc=>bO Yc λ Yd Ye=>bO Ye λ Yg Yh=>e8 Yh (e8 X9 (mF F P n2 x2 Yb Yd aS au Ym aq bk Yg bl aE s)))) X_)) t9) x2
theorem ry{F:b_}{P:PV}{aS au aq bk bl aE:AV}{n2:Nat}{x2:aP}{s:U}(h:Cn F P aS au aq bk bl aE n2 x2 s):gR F P aS au aq bk bl aE (n2+1) x2 s:=h
def rz(aS au aq bk bl aE:AV)(s:U):Prop:=ak "edges" s (λ t1 s1=>Jt s1 (λ t2=>∃t3,gR F P aS au aq bk bl aE t3 t2 s1) [t1]) au
def Cp(n1:Nat)(x1:aP)(aQ bx aS au nr aq bk bl aE:AV)(s:U):Prop:=cP (.tup [aQ,bx]) s (kO F P aS au aq bk bl aE n1 x1) bl nr
def Cq(aS au aq bk bl aE:AV)(n1:Nat)(x1:aP)(s:U):Prop:=cL s (rz F P aS au aq bk bl aE s) (λ t8 x1=>di s (λ t84=>eA 3 t84 (bO t84 λ t85 t86=>bO t86 λ t87 t88=>bO t88 λ t89 t90=>e8 t90 (Cp F P n1 x1 t87 t89 aS au t85 aq bk bl aE s))) t8) x1
theorem rA{F:b_}{P:PV}{aS au aq bk bl aE:AV}{n1:Nat}{x1:aP}{s:U}(h:Cq F P aS au aq bk bl aE n1 x1 s):kO F P aS au aq bk bl aE (n1+1) x1 s:=h
def Cr(aS au aq bk bl aE:AV)(s:U):Prop:=d2 s (λ t1=>∃t2,kO F P aS au aq bk bl aE t2 t1 s) aS
def Ky(au aE aq aS:AV)(s:U):Prop:=dm (.dS []) s (λ t1 s1=>dm (.dS []) s1 (λ t2 s2=>di s2 (λ t3=>eA 2 t3 (bO t3 λ t4 t5=>bO t5 λ t6 t7=>e8 t7 (Cr F P aS au aq t6 t4 aE s2))) (.tup [t1,t2])))
theorem Rr{d:Nat}{P:PV}{au:AV}{s:U}(h:QF (O d) P au s):(O (d+1)).call .o2 [au] s P:=⟨rfl,h⟩
theorem Kz{d:Nat}{P:PV}{au aW:AV}{s:U}(h:JP (O d) P au aW s):(O (d+1)).call .lB [au,aW] s P:=⟨rfl,h⟩
theorem Cs{d:Nat}{P:PV}{au bp:AV}{s:U}(h:Cd (O d) P au bp s):(O (d+1)).call .iJ [au,bp] s P:=⟨rfl,h⟩
theorem GY{d:Nat}{P:PV}{au aQ qk:AV}{s:U}(h:GA (O d) P au aQ qk s):(O (d+1)).call .j6 [au,aQ,qk] s P:=⟨rfl,h⟩
theorem KC{d:Nat}{P:PV}{J au:AV}{s:U}(h:JQ (O d) P J au s):(O (d+1)).call .vL [J,au] s P:=⟨rfl,h⟩
theorem N_{d:Nat}{P:PV}{J:AV}{s:U}(h:Nf (O d) P J s):(O (d+1)).call .yM [J] s P:=⟨rfl,h⟩
theorem YB{d:Nat}{P:PV}{J aQ bx bE:AV}{s:U}(h:X8 (O d) P J aQ bx bE s):(O (d+1)).call .PB [J,aQ,bx,bE] s P:=⟨rfl,h⟩
theorem N'{d:Nat}{P:PV}{J aQ bx bE:AV}{s:U}(h:Nq (O d) P J aQ bx bE s):(O (d+1)).call .yN [J,aQ,bx,bE] s P:=⟨rfl,h⟩
theorem Rt{d:Nat}{P:PV}{J bp:AV}{s:U}(h:QO (O d) P J bp s):(O (d+1)).call .C6 [J,bp] s P:=⟨rfl,h⟩
theorem YC{d:Nat}{P:PV}{v_text:AV}{s:U}(h:Yj (O d) P v_text s):(O (d+1)).call .yO [v_text] s P:=⟨rfl,h⟩
theorem KD{d:Nat}{P:PV}{J:AV}{s:U}(h:J0 (O d) P J s):(O (d+1)).call .C7 [J] s P:=⟨rfl,h⟩
theorem KG{d:Nat}{P:PV}{J:AV}{s:U}(h:J1 (O d) P J s):(O (d+1)).call .pS [J] s P:=⟨rfl,h⟩
theorem Oa{d:Nat}{P:PV}{J eU x5:AV}{s:U}(h:Yn (O d) P J eU x5 s):(O (d+1)).call .take [J,eU,x5] s P:=⟨rfl,h⟩
theorem Ob{d:Nat}{P:PV}{J eU:AV}{s:U}(h:ND (O d) P J eU s):(O (d+1)).call .o3 [J,eU] s P:=⟨rfl,h⟩
theorem Oc{d:Nat}{P:PV}{J aK:AV}{s:U}(h:NF (O d) P J aK s):(O (d+1)).call .tV [J,aK] s P:=⟨rfl,h⟩
theorem acf{d:Nat}{P:PV}{J aW:AV}{s:U}(h:ace (O d) P J aW s):(O (d+1)).call .op [J,aW] s P:=⟨rfl,h⟩
theorem YD{d:Nat}{P:PV}{J aW:AV}{s:U}(h:Yo (O d) P J aW s):(O (d+1)).call .IX [J,aW] s P:=⟨rfl,h⟩
theorem YE{d:Nat}{P:PV}{J aW:AV}{s:U}(h:Yq (O d) P J aW s):(O (d+1)).call .IY [J,aW] s P:=⟨rfl,h⟩
theorem Ru{d:Nat}{P:PV}{J aW:AV}{s:U}(h:Q2 (O d) P J aW s):(O (d+1)).call .weight [J,aW] s P:=⟨rfl,h⟩
theorem E1{d:Nat}{P:PV}{J:AV}{s:U}(h:EH (O d) P J s):(O (d+1)).call .wL [J] s P:=⟨rfl,h⟩
theorem YF{d:Nat}{P:PV}{J:AV}{s:U}(h:Yr (O d) P J s):(O (d+1)).call .jS [J] s P:=⟨rfl,h⟩
theorem E2{d:Nat}{P:PV}{J:AV}{s:U}(h:EI (O d) P J s):(O (d+1)).call .mS [J] s P:=⟨rfl,h⟩
theorem U8{d:Nat}{P:PV}{J aQ:AV}{s:U}(h:UP (O d) P J aQ s):(O (d+1)).call .CA [J,aQ] s P:=⟨rfl,h⟩
theorem E3{d:Nat}{P:PV}{J aQ bx:AV}{s:U}(h:Q5 (O d) P J aQ bx s):(O (d+1)).call .rI [J,aQ,bx] s P:=⟨rfl,h⟩
theorem Od{d:Nat}{P:PV}{J aQ:AV}{s:U}(h:NP (O d) P J aQ s):(O (d+1)).call .tW [J,aQ] s P:=⟨rfl,h⟩
theorem YG{d:Nat}{P:PV}{J aK:AV}{s:U}(h:Ys (O d) P J aK s):(O (d+1)).call .fN [J,aK] s P:=⟨rfl,h⟩
theorem YH{d:Nat}{P:PV}{J aK:AV}{s:U}(h:Yt (O d) P J aK s):(O (d+1)).call .IZ [J,aK] s P:=⟨rfl,h⟩
theorem KH{d:Nat}{P:PV}{J:AV}{s:U}(h:J7 (O d) P J s):(O (d+1)).call .vM [J] s P:=⟨rfl,h⟩
theorem KJ{d:Nat}{P:PV}{J:AV}{s:U}(h:J8 (O d) P J s):(O (d+1)).call .pT [J] s P:=⟨rfl,h⟩
theorem YI{d:Nat}{P:PV}{J aW:AV}{s:U}(h:Yu (O d) P J aW s):(O (d+1)).call .gf [J,aW] s P:=⟨rfl,h⟩
theorem T1{d:Nat}{P:PV}{J eU eN:AV}{s:U}(h:aaA (O d) P J eU eN s):(O (d+1)).call .add [J,eU,eN] s P:=⟨rfl,h⟩
theorem Bu{d:Nat}{P:PV}{J aW:AV}{s:U}(h:NW (O d) P J aW s):(O (d+1)).call .ni [J,aW] s P:=⟨rfl,h⟩
theorem YJ{d:Nat}{P:PV}{J aW:AV}{s:U}(h:Yw (O d) P J aW s):(O (d+1)).call .find [J,aW] s P:=⟨rfl,h⟩
theorem U9{d:Nat}{P:PV}{J aQ bx bR:AV}{s:U}(h:UW (O d) P J aQ bx bR s):(O (d+1)).call .merge [J,aQ,bx,bR] s P:=⟨rfl,h⟩
theorem Ip{d:Nat}{P:PV}{J aQ bx bR:AV}{s:U}(h:UX (O d) P J aQ bx bR s):(O (d+1)).call .wM [J,aQ,bx,bR] s P:=⟨rfl,h⟩
theorem Rv{d:Nat}{P:PV}{J:AV}{s:U}(h:Rf (O d) P J s):(O (d+1)).call .rJ [J] s P:=⟨rfl,h⟩
theorem E4{d:Nat}{P:PV}{J:AV}{s:U}(h:ET (O d) P J s):(O (d+1)).call .wN [J] s P:=⟨rfl,h⟩
theorem YK{d:Nat}{P:PV}{J:AV}{s:U}(h:Yx (O d) P J s):(O (d+1)).call .push [J] s P:=⟨rfl,h⟩
theorem aaD{d:Nat}{P:PV}{J:AV}{s:U}(h:aaB (O d) P J s):(O (d+1)).call .pop [J] s P:=⟨rfl,h⟩
theorem Rw{d:Nat}{P:PV}{J aW:AV}{s:U}(h:Ri (O d) P J aW s):(O (d+1)).call .wO [J,aW] s P:=⟨rfl,h⟩
theorem YL{d:Nat}{P:PV}{J aQ bx bR:AV}{s:U}(h:Yy (O d) P J aQ bx bR s):(O (d+1)).call .join [J,aQ,bx,bR] s P:=⟨rfl,h⟩
theorem Rx{d:Nat}{P:PV}{J aW:AV}{s:U}(h:Rl (O d) P J aW s):(O (d+1)).call .wQ [J,aW] s P:=⟨rfl,h⟩
theorem E5{d:Nat}{P:PV}{J d0:AV}{s:U}(h:Rm (O d) P J d0 s):(O (d+1)).call .wR [J,d0] s P:=⟨rfl,h⟩
theorem YM{d:Nat}{P:PV}{aL aK:AV}{s:U}(h:Yz (O d) P aL aK s):(O (d+1)).call .dH [aL,aK] s P:=⟨rfl,h⟩
theorem U_{d:Nat}{P:PV}{aq aW:AV}{s:U}(h:U6 (O d) P aq aW s):(O (d+1)).call .hJ [aq,aW] s P:=⟨rfl,h⟩
theorem YN{d:Nat}{P:PV}{aL au aq:AV}{s:U}(h:YA (O d) P aL au aq s):(O (d+1)).call .more [aL,au,aq] s P:=⟨rfl,h⟩
theorem zk{d:Nat}{P:PV}{aX aq bl:AV}{s:U}(h:U7 (O d) P aX aq bl s):(O (d+1)).call .mT [aX,aq,bl] s P:=⟨rfl,h⟩
theorem wk{d:Nat}{P:PV}{aX:AV}{s:U}(h:Rq (O d) P aX s):(O (d+1)).call .l7 [aX] s P:=⟨rfl,h⟩
theorem KN{d:Nat}{P:PV}{au aE aq aS:AV}{s:U}(h:Ky (O d) P au aE aq aS s):(O (d+1)).call .hO [au,aE,aq,aS] s P:=⟨rfl,h⟩
end
section
open PySem
variable(F:b_) (P:PV)
def qC(aL au aq:AV)(n1:Nat)(x1:aP)(s:U):Prop:=hV ["feed","heap","nodes"] A6 A7 n1 x1 F (dj [("feed",some aL),("heap",some au),("nodes",some aq)]) s (fi (fG P) F Bd)
def jX(aL au aq aO aE:AV)(n2:Nat)(x2:aP)(s:U):Prop:=hV ["feed","heap","nodes","states","whys"] A8 A9 n2 x2 F (dj [("feed",some aL),("heap",some au),("nodes",some aq),("states",some aO),("whys",some aE)]) s (fi (fG P) F Bc)
def qD(au aO aE:AV)(n3:Nat)(x3:aP)(s:U):Prop:=hV ["heap","states","whys"] A_ Ba n3 x3 F (dj [("heap",some au),("states",some aO),("whys",some aE)]) s (fi (fG P) F Bb)
def E6(au aO aE:AV)(s:U):Prop:=aj s (λ t1 s1=>aj s1 (λ t2 s2=>aj s2 (λ t3 s3=>aj s3 (λ t4 s4=>F.call .hO [au,aE,t2,t4] s4 P) t3 (.int 1)) aO (.int 0)) t1 (.int 0)) aO (.int 0)
def E7(au aO aE:AV)(s:U):Prop:=bF "settle" s (λ t1 t2=>F.call t2 [.ref t1] s (λ t3 s1=>E6 F P au aO aE s1)) au
def Ry(n3:Nat)(x3:aP)(au aO aE:AV)(s:U):Prop:=bF "pop" s (λ t1 t2=>F.call t2 [.ref t1] s (λ t3 s1=>qD F P au aO aE n3 x3 s1)) au
def Oe(au aO aE:AV)(n3:Nat)(x3:aP)(s:U):Prop:=cL s (E7 F P au aO aE s) (λ Be x3=>Ry F P n3 x3 au aO aE s) x3
theorem Bv{F:b_}{P:PV}{au aO aE:AV}{n3:Nat}{x3:aP}{s:U}(h:Oe F P au aO aE n3 x3 s):qD F P au aO aE (n3+1) x3 s:=h
def E8(au aO aE:AV)(s:U):Prop:=bH s (λ t1 s1=>fV s1 (λ t2 s2=>mA (λ t3=>∃t4,qD F P au aO aE t4 t3 s2) [t2]) t1 (.int 1)) [aO]
def Rz(au aO aE:AV)(s:U):Prop:=aj s (λ t1 s1=>aj s1 (λ t2 s2=>aj s2 (λ t3 s3=>aj s3 (λ t4 s4=>F.call .hO [au,aE,t2,t4] s4 (tsn (P (.bool false)) (E8 F P au aO aE))) t3 (.int 1)) aO (.int (-1))) t1 (.int 0)) aO (.int (-1))
def qE(au aO aE:AV)(s:U):Prop:=bF "settle" s (λ t1 t2=>F.call t2 [.ref t1] s (λ t3 s1=>Rz F P au aO aE s1)) au
def RA(n2:Nat)(x2:aP)(aL au aq aO aE:AV)(s:U):Prop:=bF "settle" s (λ t1 t2=>F.call t2 [.ref t1] s (λ t3 s1=>jX F P aL au aq aO aE n2 x2 s1)) au
def RB(n2:Nat)(x2:aP)(aL au aq aO aE:AV)(s:U):Prop:=jX F P aL au aq aO aE n2 x2 s
def ib(n2:Nat)(x2:aP)(aL au aq aO aE:AV)(s:U):Prop:=F.call .dH [aL,(.int 3)] s (λ t1 s1=>gK s1 (cj (RA F P n2 x2 aL au aq aO aE) (RB F P n2 x2 aL au aq aO aE)) t1 (.int 0))
def Of(n2:Nat)(x2:aP)(aS aL au aq aO aE:AV)(s:U):Prop:=cX s (λ t1=>b6 (.tup [aq,aS]) s (ib F P n2 x2 aL au aq aO aE) t1) aO
def Bw(n2:Nat)(x2:aP)(aS aL au aq aO aE:AV)(s:U):Prop:=bF "push" s (λ t1 t2=>F.call t2 [.ref t1] s (λ t3 s1=>Of F P n2 x2 aS aL au aq aO aE s1)) au
def Og(n2:Nat)(x2:aP)(aL au aq aO aE:AV)(s:U):Prop:=cX s (λ t1=>fO s (λ t2 s1=>ib F P n2 x2 aL au aq aO aE s1) t1) aO
def tv(n2:Nat)(x2:aP)(aL au aq aO aE:AV)(s:U):Prop:=bF "pop" s (λ t1 t2=>F.call t2 [.ref t1] s (λ t3 s1=>Og F P n2 x2 aL au aq aO aE s1)) au
def Bx(n2:Nat)(x2:aP)(aS aL au aq aO aE:AV)(s:U):Prop:=F.call .more [aL,au,aq] s (λ t1 s1=>cP (.tup [t1,aS]) s1 (ib F P n2 x2 aL au aq aO aE) aO (.int (-1)))
def Oh(n2:Nat)(x2:aP)(aQ bx aS aL au nr aq aO aE:AV)(s:U):Prop:=dm (.list [(.tup [nr,aQ,bx])]) s (λ t1 s1=>cq s1 (λ t2 s2=>cP (.tup [aq,t2]) s2 (ib F P n2 x2 aL au aq aO aE) aO (.int (-1))) aS t1)
def Oi(n2:Nat)(x2:aP)(aQ bx aS aL au nr aq aO aE:AV)(s:U):Prop:=bF "merge" s (λ t1 t2=>F.call t2 [.ref t1,aQ,bx,(.tup [(.str "told"),nr])] s (λ t3 s1=>Oh F P n2 x2 aQ bx aS aL au nr aq aO aE s1)) au
def By(n2:Nat)(x2:aP)(aS aL au iX aq aO aE:AV)(s:U):Prop:=bH s (λ t1 s1=>F.call .dH [aL,t1] s1 (λ t2 s2=>bH s2 (λ t3 s3=>F.call .dH [aL,t3] s3 (λ t4 s4=>Jr s4 (λ t5 s5=>cq s5 (λ t6 s6=>di s6 (λ t7=>eA 3 t7 (bO (t7.reverse) λ t8 t9=>bO t9 λ eT ft=>bO ft λ gr lu=>e8 lu (Oi F P n2 x2 gr eT aS aL au t8 aq aO aE s6))) (.tup [t2,t4,t6])) (.str "t") t5) [iX])) [aq])) [aq]
def tw(n2:Nat)(x2:aP)(aS aL au iX aq aO oE aE:AV)(s:U):Prop:=dK s (cj (Bx F P n2 x2 aS aL au aq aO aE) (By F P n2 x2 aS aL au iX aq aO aE)) oE (.int 3)
def Bz(n2:Nat)(x2:aP)(aS aL au iX aq aO oE aE:AV)(s:U):Prop:=dK s (cj (λ s1=>bH s1 (λ t1 s2=>gK s2 (cj (tv F P n2 x2 aL au aq aO aE) (tw F P n2 x2 aS aL au iX aq aO oE aE)) t1 (.int 1)) [aO]) (tw F P n2 x2 aS aL au iX aq aO oE aE)) oE (.int 4)
def Oj(n2:Nat)(x2:aP)(aS aL au iX aq aO oE aE:AV)(s:U):Prop:=dK s (cj (Bw F P n2 x2 aS aL au aq aO aE) (Bz F P n2 x2 aS aL au iX aq aO oE aE)) oE (.int 5)
def tx(n2:Nat)(x2:aP)(aL:AV)(au:AV)(iX:AV)(aO:AV)(aE:AV)(gr:AV)(s1:U):Prop:=aj s1 (λ t1 s2=>di s2 (λ t2=>eA 2 t2 (bO t2 λ t3 t4=>bO t4 λ t5 t6=>di s2 (λ t7=>eA 2 t7 (bO t7 λ t8 t9=>bO t9 λ eT ft=>e8 ft (e8 t6 (Oj F P n2 x2 eT aL au iX t8 aO t3 aE s2)))) t5)) (.tup [gr,t1])) aO (.int (-1))
def BA(n2:Nat)(x2:aP)(aL au iX aO aE:AV)(s:U):Prop:=gK s (cj (λ s1=>F.call .dH [aL,(.int 6)] s1 (tx F P n2 x2 aL au iX aO aE)) (tx F P n2 x2 aL au iX aO aE (.int 0))) iX (.int 0)
def Ol(aL au aq aO aE:AV)(n2:Nat)(x2:aP)(s:U):Prop:=cL s (qE F P au aO aE s) (λ vt x2=>BA F P n2 x2 aL au vt aO aE s) x2
theorem BB{F:b_}{P:PV}{aL au aq aO aE:AV}{n2:Nat}{x2:aP}{s:U}(h:Ol F P aL au aq aO aE n2 x2 s):jX F P aL au aq aO aE (n2+1) x2 s:=h
def BC(aL au aq aO aE:AV)(s:U):Prop:=F.call .dH [aL,(.int 3)] s (λ t1 s1=>cq s1 (λ t2 s2=>mA (λ t3=>∃t4,jX F P aL au aq aO aE t4 t3 s2) [t2]) (.int 4) t1)
def Om(aL au aq:AV)(s:U):Prop:=F.jS .eb [au] s (λ t1 s1=>dm (.list []) s1 (λ t2 s2=>dm (.list [(.tup [aq,t2])]) s2 (λ t3 s3=>di s3 (λ t4=>eA 2 t4 (bO (t4.reverse) λ t5 t6=>bO t6 λ t7 t8=>e8 t8 (BC F P aL au aq t5 t7 s3))) (.tup [t1,t3]))))
def BD(aL au aq:AV)(s:U):Prop:=F.call .more [aL,au,aq] s (Om F P aL au)
def Oo(n1:Nat)(x1:aP)(aL au bZ aq:AV)(s:U):Prop:=bF "add" s (λ t1 t2=>aj s (λ t3 s1=>eR (some 1) none none s1 (λ t4 s2=>F.call t2 [.ref t1,t3,t4] s2 (λ t5 s3=>qC F P aL au aq n1 x1 s3)) bZ) bZ (.int 0)) au
def Oq(aL au aq:AV)(n1:Nat)(x1:aP)(s:U):Prop:=cL s (BD F P aL au aq s) (λ t8 x1=>Oo F P n1 x1 aL au t8 aq s) x1
theorem BE{F:b_}{P:PV}{aL au aq:AV}{n1:Nat}{x1:aP}{s:U}(h:Oq F P aL au aq n1 x1 s):qC F P aL au aq (n1+1) x1 s:=h
def Ot(aL au aq:AV)(s:U):Prop:=d2 s (λ t1=>∃t2,qC F P aL au aq t2 t1 s) aq
def yf(aL:AV)(s:U):Prop:=F.jS .levels [] s (λ t1 s1=>dm (.list [(.tup [(.str "a")]),(.tup [(.str "b")]),(.tup [(.str "c")]),(.tup [(.str "f"),(.int 0)]),(.tup [(.str "f"),(.int 1)])]) s1 (λ t2 s2=>di s2 (λ t3=>eA 2 t3 (bO (t3.reverse) λ t4 t5=>bO t5 λ t6 t7=>e8 t7 (Ot F P aL t6 t4 s2))) (.tup [t1,t2])))
theorem ada{F:b_}{P:PV}{aL RC:AV}{s:U}(h:yf F P aL s):Em F (jU (lU ["script"] [RC] λ aa=>none) "feed" aL) s (fG P):=h
end
section
set_option genInjectivity false
set_option genSizeOf false
open PySem
abbrev aR:=Nat×AO
structure Holds(σ:U)(cs:List aR):Prop where
 iU:∀l ao,(l,ao)∈cs->σ[l]?=some ao
 nodup:(cs.map (·.1)).Nodup
theorem Holds.kN{σ:U}{a b:List aR}(h:Holds σ a)(p:a.Perm b):Holds σ b:=
 ⟨λ l ao hm=>h.iU l ao (p.mem_iff.mpr hm),(p.map _).nodup_iff.mp h.nodup⟩
theorem Holds.sub{σ:U}{a b:List aR}(h:Holds σ b)(p:a.Sublist b):Holds σ a:=
 ⟨λ l ao hm=>h.iU l ao (p.subset hm),(p.map _).nodup h.nodup⟩
theorem Holds.lt{σ:U}{cs:List aR}(h:Holds σ cs){l:Nat}{ao:AO}(hm:(l,ao)∈cs):l<σ.length:=
 (List.getElem?_eq_some_iff.mp (h.iU l ao hm)).1
theorem Holds.new{σ:U}{cs:List aR}(h:Holds σ cs)(ao:AO):Holds (σ++[ao]) ((σ.length,ao)::cs):=by
 refine ⟨λ l o hm=>?_,?_⟩
 ·rcases List.mem_cons.mp hm with e|hm
  ·cases e;exact List.getElem?_concat_length ..
  ·refine ae (List.getElem?_append_left (h.lt hm)) ?_;exact h.iU l o hm
 ·rw [List.map_cons,List.nodup_cons];refine ⟨λ hm=>?_,h.nodup⟩;obtain ⟨⟨l,o⟩,hm,e⟩:=List.mem_map.mp hm;have:=h.lt hm;simp only at e;lia
noncomputable def gS(cs:List aR)(l:Nat)(ao:AO):List aR:=cs.map λ c=>if c.1=l then(l,ao)else c
theorem RD(cs:List aR)(l:Nat)(ao:AO):(gS cs l ao).map (·.1)=cs.map (·.1):=by
 unfold gS;refine ae List.map_map ?_;apply List.map_congr_left;intro c _;simp only [Function.comp];split
 ·rename_i h;exact h.symm
 ·rfl
theorem Holds.set{σ:U}{cs:List aR}(h:Holds σ cs){l:Nat}{old:AO}(hm:(l,old)∈cs)(ao:AO):Holds (σ.set l ao) (gS cs l ao):=by
 refine ⟨λ k o hk=>?_,by rw [RD];exact h.nodup⟩;obtain ⟨⟨k',o'⟩,DB,e⟩:=List.mem_map.mp hk;by_cases e1:k'=l
 ·simp only [e1,if_true]at e;cases e;exact List.getElem?_set_self (h.lt hm)
 ·simp only [e1,if_false]at e;cases e;refine ae (List.getElem?_set_ne (Ne.symm e1)) ?_;exact h.iU _ _ DB
theorem iM(a b:List aR)(l:Nat)(ao:AO):gS (a++b) l ao=gS a l ao++gS b l ao:=List.map_append ..
theorem oF(c:aR)(b:List aR)(l:Nat)(ao:AO):gS (c::b) l ao=(if c.1=l then(l,ao)else c)::gS b l ao:=rfl
theorem ie{a:List aR}{l:Nat}(h:l∉a.map (·.1))(ao:AO):gS a l ao=a:=by
 unfold gS;rw [List.map_congr_left (g:=id)]
 ·simp
 ·intro c hc;refine ae (if_neg (λ e=>h (List.mem_map.mpr ⟨c,hc,e⟩))) ?_;rfl
abbrev aM:=String×List Nat
structure Core where
 ai:List aM
 ah:List Nat
 bg:List (List Nat)
 merged:List (Nat×Nat)
 ay:List (Nat×Nat×Option String)
 aH:List Nat
 known:List (aM×Nat)
 aV:Nat->Option (List Nat)
inductive dB where
 |made(n:Nat)
 |known(k:aM)
 |jy(kept DF gone:Nat)(us:List Nat)
structure Hp extends Core where
 made:Nat
 bT:List Nat
 d4:Nat
 cz:List (Nat×List Nat)
 bj:List dB
structure Ext where
 ud:List (Nat×Nat)
 K:List AV
structure Gh extends Ext where
 eu:List Nat
 wl:Nat
 dj:List Nat
noncomputable def nl(l:List Nat):List AV:=l.map λ(n:Nat)=>.int n
noncomputable def bq(k:aM):AV:=.tup (.str k.1::nl k.2)
noncomputable def eh(k:aM):List AK:=.s k.1::k.2.map λ(n:Nat)=>.i n
noncomputable def tA(ns:List aM):List (List AK×AV):=ns.zipIdx.map λ p=>(eh p.1,.int p.2)
noncomputable def jY:Option String->AV
 |some l=>.tup [.str "told",.str l]
 |none=>.tup [.str "like"]
noncomputable def iE(e:Nat×Nat×Option String):AV:=.tup [.int e.1,.int e.2.1,jY e.2.2]
noncomputable def d5(p:Nat×Nat):AV:=.tup [.int p.1,.int p.2]
noncomputable def iY:dB×Nat->AV
 |(.made n,_)=>.tup [.str "made",.int n]
 |(.known k,_)=>.tup [.str "known",bq k]
 |(.jy kept DF gone _,l)=>.tup [.str "edge",.int kept,.int DF,.int gone,.ref l]
noncomputable def jk:dB×Nat->List aR
 |(.jy kept _ gone us,l)=>if kept=gone then[]else[(l,.list (nl us))]
 |_=>[]
theorem tB(k n g:Nat)(us:List Nat)(l:Nat):jk (.jy k n g us,l)=if k=g then[]else[(l,.list (nl us))]:=rfl
noncomputable def vA(f:List Nat->Nat):List aM->List Nat->List Nat
 |[],acc=>acc
 |k::r,acc=>vA f r (acc++[f (k.2.map λ i=>acc.getD i 0)])
theorem CI(f:List Nat->Nat)(k:aM)(r:List aM)(acc:List Nat):vA f (k::r) acc=vA f r (acc++[f (k.2.map λ i=>acc.getD i 0)]):=rfl
noncomputable def d8(ns:List aM):List Nat:=vA (λ l=>1+l.sum) ns []
noncomputable def fu(ns:List aM):List Nat:=vA (λ l=>1+l.foldr max 0) ns []
noncomputable def us(H:Hp)(c:Nat):List Nat:=(H.aV c).getD []
noncomputable def hd(wl d4 made:Nat):List (String×AV):=[("bank",.ref 5),("unions",.ref 11),("edges",.ref 16),("forest",.ref 17),("known",.ref 18),("above",.ref 19),("waiting",.ref wl),("backs",.int d4),("changes",.ref 21),("marks",.ref 22),("made",.int made)]
noncomputable def bd:List (String×AV):=[("nodes",.ref 7),("numbers",.ref 8),("weights",.ref 9),("depths",.ref 10)]
noncomputable def YO:List (String×AV):=[("above",.ref 13),("lots",.ref 14),("merged",.ref 15)]
noncomputable def dF(H:Hp)(g:Gh):List aR:=[
 (3,.inst .levels),(4,.dS (hd g.wl H.d4 H.made)),(5,.inst .bank),(6,.dS bd),(7,.list (H.ai.map bq)),(8,.dT (tA H.ai)),(9,.list (nl (d8 H.ai))),(10,.list (nl (fu H.ai))),
 (11,.inst .gI),(12,.dS YO),(13,.list (nl H.ah)),(14,.list (g.eu.map .ref)),(15,.list (H.merged.map d5)),(16,.list (H.ay.map iE)),(17,.list (nl H.aH)),
 (18,.dT (H.known.map λ p=>(eh p.1,.int p.2))),(19,.dI (g.ud.map λ p=>((p.1:Int),.ref p.2))),(21,.list g.K),(22,.list ((H.cz.zip g.dj).map λ p=>.tup [.int p.1.1,.ref p.2]))]
noncomputable def eW(H:Hp)(g:Gh):List aR:=(H.bg.zip g.eu).map λ p=>(p.2,.list (nl p.1))
noncomputable def eX(H:Hp)(g:Gh):List aR:=g.ud.map λ p=>(p.2,.list (nl (us H p.1)))
noncomputable def fj(H:Hp)(g:Gh):List aR:=[(g.wl,.list (nl H.bT))]
noncomputable def ew(H:Hp)(g:Gh):List aR:=(H.cz.zip g.dj).map λ p=>(p.2,.list (nl p.1.2))
noncomputable def dq(H:Hp)(g:Gh):List aR:=eW H g++eX H g++fj H g++ew H g
structure Ou(H:Hp)(g:Gh):Prop where
 dC:g.eu.length=H.bg.length
 iG:g.dj.length=H.cz.length
 eo:(g.ud.map (·.1)).Nodup
 eO:∀c,c∈g.ud.map (·.1)↔∃l,H.aV c=some l
structure dz(H:Hp):Prop where
 ai:H.ai.length<=1000
 gf:∀k∈H.ai,k.2.length<=900
 wt:∀w∈d8 H.ai,w<=100000
 ah:H.ah.length<=1000
 bg:H.bg.length<=1000
 dC:∀l∈H.bg,l.length<=1000
 merged:H.merged.length<=1000
 ay:H.ay.length<=1000
 aH:H.aH.length<=400
 known:H.known.length<=1000
 aV:∀c l,H.aV c=some l->c<1000
 gC:∀c,(us H c).length<=1000
 bT:H.bT.length<=1000
 cz:H.cz.length<=1000
structure Rep(σ:U)(H:Hp)(g:Gh)(R:List aR):Prop where
 ok:Ou H g
 holds:Holds σ (dF H g++(dq H g++R))
theorem Rep.kQ{σ:U}{H:Hp}{g:Gh}{R:List aR}(h:Rep σ H g R){l:Nat}{ao:AO}(hm:(l,ao)∈dF H g):σ[l]?=some ao:=h.holds.iU l ao (List.mem_append_left _ hm)
section
variable{σ:U} {H:Hp} {g:Gh} {R:List aR}
theorem Rep.c3(h:Rep σ H g R):σ[3]?=some (.inst .levels):=h.kQ (List.mem_of_getElem? (i:=0) rfl)
theorem Rep.c4(h:Rep σ H g R):σ[4]?=some (.dS (hd g.wl H.d4 H.made)):=h.kQ (List.mem_of_getElem? (i:=1) rfl)
theorem Rep.c5(h:Rep σ H g R):σ[5]?=some (.inst .bank):=h.kQ (List.mem_of_getElem? (i:=2) rfl)
theorem Rep.c6(h:Rep σ H g R):σ[6]?=some (.dS bd):=h.kQ (List.mem_of_getElem? (i:=3) rfl)
theorem Rep.c7(h:Rep σ H g R):σ[7]?=some (.list (H.ai.map bq)):=h.kQ (List.mem_of_getElem? (i:=4) rfl)
theorem Rep.c8(h:Rep σ H g R):σ[8]?=some (.dT (tA H.ai)):=h.kQ (List.mem_of_getElem? (i:=5) rfl)
theorem Rep.c9(h:Rep σ H g R):σ[9]?=some (.list (nl (d8 H.ai))):=h.kQ (List.mem_of_getElem? (i:=6) rfl)
theorem Rep.E9(h:Rep σ H g R):σ[10]?=some (.list (nl (fu H.ai))):=h.kQ (List.mem_of_getElem? (i:=7) rfl)
theorem Rep.BF(h:Rep σ H g R):σ[11]?=some (.inst .gI):=h.kQ (List.mem_of_getElem? (i:=8) rfl)
theorem Rep.BG(h:Rep σ H g R):σ[12]?=some (.dS YO):=h.kQ (List.mem_of_getElem? (i:=9) rfl)
theorem Rep.Iq(h:Rep σ H g R):σ[13]?=some (.list (nl H.ah)):=h.kQ (List.mem_of_getElem? (i:=10) rfl)
theorem Rep.Ov(h:Rep σ H g R):σ[14]?=some (.list (g.eu.map .ref)):=h.kQ (List.mem_of_getElem? (i:=11) rfl)
theorem Rep.Ow(h:Rep σ H g R):σ[15]?=some (.list (H.merged.map d5)):=h.kQ (List.mem_of_getElem? (i:=12) rfl)
theorem Rep.tC(h:Rep σ H g R):σ[16]?=some (.list (H.ay.map iE)):=h.kQ (List.mem_of_getElem? (i:=13) rfl)
theorem Rep.E_(h:Rep σ H g R):σ[17]?=some (.list (nl H.aH)):=h.kQ (List.mem_of_getElem? (i:=14) rfl)
theorem Rep.YP(h:Rep σ H g R):σ[18]?=some (.dT (H.known.map λ p=>(eh p.1,.int p.2))):=h.kQ (List.mem_of_getElem? (i:=15) rfl)
theorem Rep.c19(h:Rep σ H g R):σ[19]?=some (.dI (g.ud.map λ p=>((p.1:Int),.ref p.2))):=h.kQ (List.mem_of_getElem? (i:=16) rfl)
theorem Rep.BH(h:Rep σ H g R):σ[21]?=some (.list g.K):=h.kQ (List.mem_of_getElem? (i:=17) rfl)
theorem Rep.Ox(h:Rep σ H g R):σ[22]?=some (.list ((H.cz.zip g.dj).map λ p=>.tup [.int p.1.1,.ref p.2])):=h.kQ (List.mem_of_getElem? (i:=18) rfl)
end
noncomputable def nf(ah:List Nat):Nat->Nat->Nat
 |0,a=>a
 |n+1,a=>if ah.getD a a=a then a else nf ah n (ah.getD a a)
theorem nu(ah:List Nat)(n a:Nat):nf ah (n+1) a=if ah.getD a a=a then a else nf ah n (ah.getD a a):=rfl
noncomputable def ax(ah:List Nat)(a:Nat):Nat:=nf ah (a+1) a
def d6(ah:List Nat):Prop:=∀(i p:Nat),ah[i]?=some p->p<=i
theorem KO{ah:List Nat}(hp:d6 ah)(n:Nat):∀(m a:Nat),a<n->a<m->nf ah n a=nf ah m a:=by
 induction n with
 |zero=>exact λ aa aa h aa=>if_pos h
 |succ n ih=>
  intro m a h1 h2;cases m with
  |zero=>exact if_pos h2
  |succ m=>
   rw [nu,nu];split
   ·rfl
   ·rename_i cD;have ed:ah.getD a a<a:=by
     rw [List.getD_eq_getElem?_getD]at cD⊢;cases e:ah[a]?with
     |none=>rw [e]at cD;simp at cD
     |some p=>rw [e]at cD;have:=hp a p e;simp at cD⊢;exact (Nat.lt_of_le_of_ne this cD)
    exact ih m _ (dc ed h1 (by simp+arith only)) (dc ed h2 (by simp+arith only))
theorem kq{ah:List Nat}(hp:d6 ah){a p:Nat}(h:ah[a]?=some p)(cD:p≠a):ax ah a=ax ah p:=by
 have hle:=hp a p h;unfold ax;rw [nu];have e:ah.getD a a=p:=by simp [List.getD_eq_getElem?_getD,h]
 refine ae e<|ae (if_neg cD) ?_;exact KO hp _ _ _ ((Nat.lt_of_le_of_ne hle cD)) (Nat.lt_succ_self _)
theorem gw{ah:List Nat}{a:Nat}(h:ah[a]?=some a):ax ah a=a:=by
 unfold ax;rw [nu];have e:ah.getD a a=a:=by simp [List.getD_eq_getElem?_getD,h]
 exact if_pos (by assumption)
theorem RE{ah:List Nat}(hp:d6 ah):∀(n a:Nat),nf ah n a<=a:=by
 intro bN;induction bN with
 |zero=>
  intro a;exact Nat.le_refl _
 |succ n ih=>
  intro a;rw [nu];split
  ·exact Nat.le_refl _
  ·refine Nat.le_trans (ih _) ?_;refine ae List.getD_eq_getElem?_getD ?_;cases e:ah[a]?with
   |none=>exact Nat.le_refl _
   |some p=>exact hp a p e
theorem pH{ah:List Nat}(hp:d6 ah)(a:Nat):ax ah a<=a:=RE hp _ _
theorem Holds.f'{σ:U}{cs:List aR}(h:Holds σ cs)(t:U):Holds (σ++t) cs:=
 ⟨λ l ao hm=>by refine ae (List.getElem?_append_left (h.lt hm)) ?_;exact h.iU l ao hm,h.nodup⟩
section
variable{σ:U} {H:Hp} {g:Gh} {R:List aR}
theorem Rep.f'(h:Rep σ H g R)(t:U):Rep (σ++t) H g R:=⟨h.ok,h.holds.f' t⟩
theorem KP{H:Hp}{g:Gh}{l:Nat}{ao:AO}(X:List aR)(hn:((dF H g++X).map (·.1)).Nodup)(hl:l∈(dF H g).map (·.1)):gS (dF H g++X) l ao=gS (dF H g) l ao++X:=by rw [iM,ie (a:=X)];intro hm;rw [List.map_append,List.nodup_append]at hn;exact hn.2.2 l hl l hm rfl
theorem Rep.jz{H':Hp}{g':Gh}{R':List aR}(h:Rep σ H g R){l:Nat}{old ao:AO}(hm:(l,old)∈dF H g)(hf:dF H' g'=gS (dF H g) l ao)(hd:(dq H g++R).Perm (dq H' g'++R'))(hg:Ou H' g'):Rep (σ.set l ao) H' g' R':=by refine ⟨hg,?_⟩;have:=h.holds.set (List.mem_append_left _ hm) ao;rw [KP _ h.holds.nodup (List.mem_map.mpr ⟨_,hm,rfl⟩),<-hf]at this;exact this.kN (List.Perm.append_left _ hd)
theorem Rep.RF{H':Hp}{g':Gh}(h:Rep σ H g R){l:Nat}{old ao:AO}(hm:(l,old)∈dq H g)(hf:dF H' g'=dF H g)(hd:dq H' g'=gS (dq H g) l ao)(hg:Ou H' g'):Rep (σ.set l ao) H' g' R:=by refine ⟨hg,?_⟩;have hn:=h.holds.nodup;have:=h.holds.set (List.mem_append_right _ (List.mem_append_left _ hm)) ao;rw [List.map_append,List.map_append,List.nodup_append,List.nodup_append]at hn;have hl:l∈(dq H g).map (·.1):=List.mem_map.mpr ⟨_,hm,rfl⟩;rw [iM,iM,ie (a:=dF H g) (λ q=>hn.2.2 l q l (List.mem_append_left _ hl) rfl),ie (a:=R) (λ q=>hn.2.1.2.2 l hl l q rfl),<-hd,<-hf]at this;exact this
theorem Rep.new(h:Rep σ H g R)(ao:AO):Rep (σ++[ao]) H g ((σ.length,ao)::R):=by
 refine ⟨h.ok,(h.holds.new ao).kN ?_⟩;have p1:((σ.length,ao)::(dF H g++(dq H g++R))).Perm (dF H g++(dq H g++((σ.length,ao)::R))):=by rw [<-List.append_assoc,<-List.append_assoc];exact List.perm_middle.symm
 exact p1
theorem Rep.bI(h:Rep σ H g R){R':List aR}(p:R.Perm R'):Rep σ H g R':=
 ⟨h.ok,h.holds.kN (List.Perm.append_left _ (List.Perm.append_left _ p))⟩
end
section
variable{σ:U} {H:Hp} {g:Gh} {R:List aR}
theorem Rep.RG{l:Nat}{old:AO}(h:Rep σ H g ((l,old)::R))(x:AO):Rep (σ.set l x) H g ((l,x)::R):=by
 refine ⟨h.ok,?_⟩;have h1:Holds σ ((l,old)::(dF H g++(dq H g++R))):=h.holds.kN (by rw [<-List.append_assoc,<-List.append_assoc];exact List.perm_middle)
 have h2:=h1.set (.head _) x;have hn:=h1.nodup;rw [List.map_cons,List.nodup_cons]at hn;rw [oF,if_pos rfl,ie hn.1]at h2;refine h2.kN ?_;rw [<-List.append_assoc,<-List.append_assoc];exact List.perm_middle.symm
theorem Rep.sub{A:List aR}(h:Rep σ H g (A++R)):Rep σ H g R:=
 ⟨h.ok,h.holds.sub (List.Sublist.append (.refl _) (List.Sublist.append (.refl _) (List.sublist_append_right _ _)))⟩
theorem Rep.lM{c:aR}(h:Rep σ H g (c::R)):Rep σ H g R:=Rep.sub (A:=[c]) h
end
noncomputable def Hp.yg(H:Hp)(x:List aM):Hp:={H with ai:=x}
noncomputable def Hp.qF(H:Hp)(x:List Nat):Hp:={H with ah:=x}
noncomputable def Hp.lY(H:Hp)(x:List (List Nat)):Hp:={H with bg:=x}
noncomputable def Hp.pI(H:Hp)(x:List (Nat×Nat)):Hp:={H with merged:=x}
noncomputable def Hp.tD(H:Hp)(x:List (Nat×Nat×Option String)):Hp:={H with ay:=x}
noncomputable def Hp.uj(H:Hp)(x:List Nat):Hp:={H with aH:=x}
noncomputable def Hp.Fb(H:Hp)(x:List (aM×Nat)):Hp:={H with known:=x}
noncomputable def Hp.fw(H:Hp)(x:Nat->Option (List Nat)):Hp:={H with aV:=x}
noncomputable def Hp.aaE(H:Hp)(x:Nat):Hp:={H with made:=x}
noncomputable def Hp.wm(H:Hp)(x:List Nat):Hp:={H with bT:=x}
noncomputable def Hp.YQ(H:Hp)(x:Nat):Hp:={H with d4:=x}
noncomputable def Hp.Oy(H:Hp)(x:List (Nat×List Nat)):Hp:={H with cz:=x}
noncomputable def Hp.wo(H:Hp)(x:List dB):Hp:={H with bj:=x}
noncomputable def Hp.aaF(H:Hp)(x:Core):Hp:={H with toCore:=x}
structure RS(H:Hp)(K:Ext)(R:List aR)where
 σ:U
 g:Gh
 rep:Rep σ H g R
 k:g.toExt=K
section
variable{H:Hp} {K:Ext} {R:List aR} {C:PV} {D:Nat->Fn->Prop} {A B:U->Prop} {s:U} (w:RS H K R)
theorem RS.a3{x:String}{v:AV}(hx:(fT .levels).contains x=true)(e:bD (hd w.g.wl H.d4 H.made) x=some v)(k:C v w.σ):ak x w.σ C (.ref 3):=.mk w.rep.c3 w.rep.c4 hx e k
theorem RS.a5{x:String}{v:AV}(hx:(fT .bank).contains x=true)(e:bD bd x=some v)(k:C v w.σ):ak x w.σ C (.ref 5):=.mk w.rep.c5 w.rep.c6 hx e k
theorem RS.YR{x:String}{v:AV}(hx:(fT .gI).contains x=true)(e:bD YO x=some v)(k:C v w.σ):ak x w.σ C (.ref 11):=.mk w.rep.BF w.rep.BG hx e k
theorem RS.iH(k:C (.ref 5) w.σ):ak "bank" w.σ C (.ref 3):=w.a3 (by kernel_rfl) (by kernel_rfl) k
theorem RS.ig(k:C (.ref 11) w.σ):ak "unions" w.σ C (.ref 3):=w.a3 (by kernel_rfl) (by kernel_rfl) k
theorem RS.gT(k:C (.ref 16) w.σ):ak "edges" w.σ C (.ref 3):=w.a3 (by kernel_rfl) (by kernel_rfl) k
theorem RS.wq(k:C (.ref 17) w.σ):ak "forest" w.σ C (.ref 3):=w.a3 (by kernel_rfl) (by kernel_rfl) k
theorem RS.uk(k:C (.ref 18) w.σ):ak "known" w.σ C (.ref 3):=w.a3 (by kernel_rfl) (by kernel_rfl) k
theorem RS.fU(k:C (.ref 19) w.σ):ak "above" w.σ C (.ref 3):=w.a3 (by kernel_rfl) (by kernel_rfl) k
theorem RS.mi(k:C (.ref w.g.wl) w.σ):ak "waiting" w.σ C (.ref 3):=w.a3 (by kernel_rfl) (by kernel_rfl) k
theorem RS.Ir(k:C (.int H.d4) w.σ):ak "backs" w.σ C (.ref 3):=w.a3 (by kernel_rfl) (by kernel_rfl) k
theorem RS.jd(k:C (.ref 21) w.σ):ak "changes" w.σ C (.ref 3):=w.a3 (by kernel_rfl) (by kernel_rfl) k
theorem RS.zl(k:C (.ref 22) w.σ):ak "marks" w.σ C (.ref 3):=w.a3 (by kernel_rfl) (by kernel_rfl) k
theorem RS.YS(k:C (.int H.made) w.σ):ak "made" w.σ C (.ref 3):=w.a3 (by kernel_rfl) (by kernel_rfl) k
theorem RS.pJ(k:C (.ref 7) w.σ):ak "nodes" w.σ C (.ref 5):=w.a5 (by kernel_rfl) (by kernel_rfl) k
theorem RS.oG(k:C (.ref 8) w.σ):ak "numbers" w.σ C (.ref 5):=w.a5 (by kernel_rfl) (by kernel_rfl) k
theorem RS.Oz(k:C (.ref 9) w.σ):ak "weights" w.σ C (.ref 5):=w.a5 (by kernel_rfl) (by kernel_rfl) k
theorem RS.acg(k:C (.ref 10) w.σ):ak "depths" w.σ C (.ref 5):=w.a5 (by kernel_rfl) (by kernel_rfl) k
theorem RS.f6(k:C (.ref 13) w.σ):ak "above" w.σ C (.ref 11):=w.YR (by kernel_rfl) (by kernel_rfl) k
theorem RS.kR(k:C (.ref 14) w.σ):ak "lots" w.σ C (.ref 11):=w.YR (by kernel_rfl) (by kernel_rfl) k
theorem RS.nX(k:C (.ref 15) w.σ):ak "merged" w.σ C (.ref 11):=w.YR (by kernel_rfl) (by kernel_rfl) k
theorem RS.yh(k:D 3 .pT):bF "size" w.σ D (.ref 3):=.mk w.rep.c3 w.rep.c4 (by kernel_rfl) (by kernel_rfl) k
theorem RS.Fc(k:D 3 .gf):bF "node" w.σ D (.ref 3):=.mk w.rep.c3 w.rep.c4 (by kernel_rfl) (by kernel_rfl) k
theorem RS.T3(k:D 3 .add):bF "add" w.σ D (.ref 3):=.mk w.rep.c3 w.rep.c4 (by kernel_rfl) (by kernel_rfl) k
theorem RS.mj(k:D 3 .find):bF "find" w.σ D (.ref 3):=.mk w.rep.c3 w.rep.c4 (by kernel_rfl) (by kernel_rfl) k
theorem RS.U'(k:D 3 .merge):bF "merge" w.σ D (.ref 3):=.mk w.rep.c3 w.rep.c4 (by kernel_rfl) (by kernel_rfl) k
theorem RS.wu(k:D 3 .rJ):bF "settle" w.σ D (.ref 3):=.mk w.rep.c3 w.rep.c4 (by kernel_rfl) (by kernel_rfl) k
theorem RS.YT(k:D 3 .push):bF "push" w.σ D (.ref 3):=.mk w.rep.c3 w.rep.c4 (by kernel_rfl) (by kernel_rfl) k
theorem RS.T4(k:D 3 .pop):bF "pop" w.σ D (.ref 3):=.mk w.rep.c3 w.rep.c4 (by kernel_rfl) (by kernel_rfl) k
theorem RS.Fd(k:D 3 .wO):bF "look_at" w.σ D (.ref 3):=.mk w.rep.c3 w.rep.c4 (by kernel_rfl) (by kernel_rfl) k
theorem RS.OA(k:D 3 .join):bF "join" w.σ D (.ref 3):=.mk w.rep.c3 w.rep.c4 (by kernel_rfl) (by kernel_rfl) k
theorem RS.RH(k:D 3 .wQ):bF "unmake" w.σ D (.ref 3):=.mk w.rep.c3 w.rep.c4 (by kernel_rfl) (by kernel_rfl) k
theorem RS.RI(k:D 3 .wR):bF "unjoin" w.σ D (.ref 3):=.mk w.rep.c3 w.rep.c4 (by kernel_rfl) (by kernel_rfl) k
theorem RS.KQ(k:D 5 .pS):bF "size" w.σ D (.ref 5):=.mk w.rep.c5 w.rep.c6 (by kernel_rfl) (by kernel_rfl) k
theorem RS.OB(k:D 5 .take):bF "take" w.σ D (.ref 5):=.mk w.rep.c5 w.rep.c6 (by kernel_rfl) (by kernel_rfl) k
theorem RS.BI(k:D 5 .o3):bF "require" w.σ D (.ref 5):=.mk w.rep.c5 w.rep.c6 (by kernel_rfl) (by kernel_rfl) k
theorem RS.OC(k:D 5 .tV):bF "cut" w.σ D (.ref 5):=.mk w.rep.c5 w.rep.c6 (by kernel_rfl) (by kernel_rfl) k
theorem RS.RJ(k:D 5 .op):bF "op" w.σ D (.ref 5):=.mk w.rep.c5 w.rep.c6 (by kernel_rfl) (by kernel_rfl) k
theorem RS.pK(k:D 5 .IX):bF "kids" w.σ D (.ref 5):=.mk w.rep.c5 w.rep.c6 (by kernel_rfl) (by kernel_rfl) k
theorem RS.YU(k:D 5 .IY):bF "term" w.σ D (.ref 5):=.mk w.rep.c5 w.rep.c6 (by kernel_rfl) (by kernel_rfl) k
theorem RS.RK(k:D 5 .weight):bF "weight" w.σ D (.ref 5):=.mk w.rep.c5 w.rep.c6 (by kernel_rfl) (by kernel_rfl) k
theorem RS.YV(k:D 11 .jS):bF "make" w.σ D (.ref 11):=.mk w.rep.BF w.rep.BG (by kernel_rfl) (by kernel_rfl) k
theorem RS.tE(k:D 11 .mS):bF "size" w.σ D (.ref 11):=.mk w.rep.BF w.rep.BG (by kernel_rfl) (by kernel_rfl) k
theorem RS.ny(k:D 11 .CA):bF "find" w.σ D (.ref 11):=.mk w.rep.BF w.rep.BG (by kernel_rfl) (by kernel_rfl) k
theorem RS.Fe(k:D 11 .rI):bF "merge" w.σ D (.ref 11):=.mk w.rep.BF w.rep.BG (by kernel_rfl) (by kernel_rfl) k
theorem RS.OD(k:D 11 .tW):bF "members" w.σ D (.ref 11):=.mk w.rep.BF w.rep.BG (by kernel_rfl) (by kernel_rfl) k
theorem RS.YW(k:D 11 .fN):bF "back" w.σ D (.ref 11):=.mk w.rep.BF w.rep.BG (by kernel_rfl) (by kernel_rfl) k
theorem RS.YX(k:D 11 .IZ):bF "cut" w.σ D (.ref 11):=.mk w.rep.BF w.rep.BG (by kernel_rfl) (by kernel_rfl) k
theorem Iu(i:Nat){n:Nat}(h:i<n):w9 (i:Int) n i:=⟨h,.inl rfl⟩
theorem dp{l n:Nat}{xs:List AV}(h:s[l]?=some (.list xs))(e:xs.length=n)(k:C (.int n) s):bH s C [.ref l]:=.l h (e▸k)
theorem adl{n:Nat}{xs:List AV}(e:xs.length=n)(k:C (.int n) s):bH s C [.tup xs]:=.t (e▸k)
theorem eY{l i:Nat}{xs:List AV}{v:AV}(h:s[l]?=some (.list xs))(e:xs[i]?=some v)(k:C v s):aj s C (.ref l) (.int i):=.l h (Iu i (List.getElem?_eq_some_iff.mp e).1) e k
theorem KW{i:Nat}{xs:List AV}{v:AV}(e:xs[i]?=some v)(k:C v s):aj s C (.tup xs) (.int i):=.u (Iu i (List.getElem?_eq_some_iff.mp e).1) e k
theorem df{v:AV}{xs:List AV}(k:C v s):aj s C (.tup (v::xs)) (.int 0):=KW (i:=0) rfl k
theorem eZ{u v:AV}{xs:List AV}(k:C v s):aj s C (.tup (u::v::xs)) (.int 1):=KW (i:=1) rfl k
theorem yi{u v z:AV}{xs:List AV}(k:C z s):aj s C (.tup (u::v::z::xs)) (.int 2):=KW (i:=2) rfl k
theorem ng{v:AV}{xs:List AV}(k:C (.tup xs) s):eR (some 1) none none s C (.tup (v::xs)):=.t rfl rfl rfl (by decide) (by simp only [List.length_cons];omega) k
theorem cN(l:List Nat):(nl l).length=l.length:=List.length_map ..
theorem kT(l:List Nat)(n:Nat):nl (l++[n])=nl l++[.int n]:=List.map_append
theorem Ff(a b:List Nat):nl (a++b)=nl a++nl b:=List.map_append
theorem YY(l:List Nat)(i n:Nat):nl (l.set i n)=(nl l).set i (.int n):=by simp [nl]
theorem zm(l:List Nat)(n:Nat):nl (l.take n)=(nl l).take n:=by simp [nl,List.map_take]
theorem Fg(f:Nat->Nat)(l:List Nat):l.map (λ x=>AV.int (f x))=nl (l.map f):=by simp [nl]
theorem iI{l:List Nat}{i n:Nat}(h:l[i]?=some n):(nl l)[i]?=some (.int n):=by simp [nl,h]
theorem RS.YZ(k:C (.int H.ai.length) w.σ):bH w.σ C [.ref 7]:=dp w.rep.c7 (List.length_map ..) k
theorem RS.CJ(k:C (.int H.ah.length) w.σ):bH w.σ C [.ref 13]:=dp w.rep.Iq (cN _) k
theorem RS.aaG(k:C (.int H.bg.length) w.σ):bH w.σ C [.ref 14]:=dp w.rep.Ov ((List.length_map ..).trans w.rep.ok.dC) k
theorem RS.KX(k:C (.int H.merged.length) w.σ):bH w.σ C [.ref 15]:=dp w.rep.Ow (List.length_map ..) k
theorem RS.T5(k:C (.int H.ay.length) w.σ):bH w.σ C [.ref 16]:=dp w.rep.tC (List.length_map ..) k
theorem RS.Y0{n:Nat}{k:aM}(h:H.ai[n]?=some k)(c:C (bq k) w.σ):aj w.σ C (.ref 7) (.int n):=eY w.rep.c7 (by simp [h]) c
theorem RS.ach{n m:Nat}(h:(d8 H.ai)[n]?=some m)(c:C (.int m) w.σ):aj w.σ C (.ref 9) (.int n):=eY w.rep.c9 (iI h) c
theorem RS.adm{n m:Nat}(h:(fu H.ai)[n]?=some m)(c:C (.int m) w.σ):aj w.σ C (.ref 10) (.int n):=eY w.rep.E9 (iI h) c
theorem RS.KY{n p:Nat}(h:H.ah[n]?=some p)(c:C (.int p) w.σ):aj w.σ C (.ref 13) (.int n):=eY w.rep.Iq (iI h) c
theorem RS.CK{n:Nat}{e:Nat×Nat×Option String}(h:H.ay[n]?=some e)(c:C (iE e) w.σ):aj w.σ C (.ref 16) (.int n):=eY w.rep.tC (by simp [h]) c
theorem qG{α:Type}(S:List α):S=[]\/∃T s,S=T++[s]:=by
 rcases List.eq_nil_or_concat S with h|⟨T,s,h⟩
 ·exact .inl h
 ·exact .inr ⟨T,s,ae h<|ae List.concat_eq_append rfl⟩
theorem RL(σ:U)(a b:AO):(σ++[a]).set σ.length b=σ++[b]:=by refine ae (List.set_append_right _ _ (Nat.le_refl _)) ?_;simp
theorem ij{n:Nat}{a b:Int}{c:Bool}(h:decide (a=b)=c):gX (n+1) (.int a) (.int b) c:=h▸iP.ii
theorem um{n:Nat}{xs ys:List AV}{b:Bool}(h:mK (gX n) xs ys b):gX (n+1) (.tup xs) (.tup ys) b:=iP.tt h
theorem KZ{a b:Nat}(h:a≠b):decide ((a:Int)=b)=false:=decide_eq_false λ e=>h (Int.ofNat.inj e)
theorem zo{a b:Nat}(h:a=b):decide ((a:Int)=b)=true:=decide_eq_true (congrArg _ h)
theorem K0{a b:Nat}(h:a≠b)(k:A s):fW s (cj A B) (.int a) (.int b):=⟨_,ij (KZ h),k⟩
theorem zp{a b:Nat}(h:a=b)(k:B s):fW s (cj A B) (.int a) (.int b):=⟨_,ij (zo h),k⟩
theorem zq{a b:Nat}(h:a=b)(k:A s):dK s (cj A B) (.int a) (.int b):=⟨_,ij (zo h),k⟩
theorem wx{a b:Nat}(h:a≠b)(k:B s):dK s (cj A B) (.int a) (.int b):=⟨_,ij (KZ h),k⟩
theorem K1{a b:Int}(h:a<b)(k:A s):rS s (cj A B) (.int a) (.int b):=.mk (by refine ae (decide_eq_true h) ?_;exact k)
theorem K2{a b:Int}(h:b<=a)(k:B s):rS s (cj A B) (.int a) (.int b):=.mk (by refine ae (decide_eq_false (Int.not_lt.mpr h)) ?_;exact k)
theorem qH{a b:Int}(h:b<a)(k:A s):gK s (cj A B) (.int a) (.int b):=.mk (by refine ae (decide_eq_true h) ?_;exact k)
theorem kU{a b:Int}(h:a<=b)(k:B s):gK s (cj A B) (.int a) (.int b):=.mk (by refine ae (decide_eq_false (Int.not_lt.mpr h)) ?_;exact k)
theorem lM{a b:Nat}(h:a=b+1)(k:C (.int b) s):fV s C (.int a) (.int 1):=.mk (by refine ae (show(a:Int) -1=b by omega) ?_;exact k)
noncomputable def RS.f'(t:U):RS H K R:=⟨w.σ++t,w.g,w.rep.f' t,w.k⟩
noncomputable def RS.new(ao:AO):RS H K ((w.σ.length,ao)::R):=⟨w.σ++[ao],w.g,w.rep.new ao,w.k⟩
theorem RS.rB(ao:AO)(k:∀l(w':RS H K ((l,ao)::R)),C (.ref l) w'.σ):dm ao w.σ C:=k _ (w.new ao)
end
section
variable{H:Hp} {K:Ext} {R:List aR} {C:PV} {c:aR}
theorem RS.jo{l:Nat}{ao:AO}(w:RS H K ((l,ao)::R)):w.σ[l]?=some ao:=w.rep.holds.iU _ _ (by simp)
theorem RS.mG{l:Nat}{ao:AO}(w:RS H K (c::(l,ao)::R)):w.σ[l]?=some ao:=w.rep.holds.iU _ _ (by simp)
noncomputable def RS.bI{R':List aR}(w:RS H K R)(p:R.Perm R'):RS H K R':=⟨w.σ,w.g,w.rep.bI p,w.k⟩
noncomputable def RS.drop(w:RS H K (c::R)):RS H K R:=⟨w.σ,w.g,w.rep.lM,w.k⟩
noncomputable def RS.qI{c1:aR}(w:RS H K (c::c1::R)):RS H K (c::R):=⟨w.σ,w.g,(w.rep.bI (.swap _ _ _)).lM,w.k⟩
noncomputable def RS.put{l:Nat}{old:AO}(w:RS H K ((l,old)::R))(x:AO):RS H K ((l,x)::R):=⟨w.σ.set l x,w.g,w.rep.RG x,w.k⟩
theorem RS.zr{l:Nat}{xs:List AV}{v:AV}{A:U->Prop}(w:RS H K ((l,.list xs)::R))(h:xs.length<10000)(k:∀w':RS H K ((l,.list (xs++[v]))::R),A w'.σ):b6 v w.σ A l:=.mk w.jo h (k (w.put _))
noncomputable def RS.Y1{l:Nat}{old:AO}(w:RS H K (c::(l,old)::R))(x:AO):RS H K (c::(l,x)::R):=⟨w.σ.set l x,w.g,((w.rep.bI (.swap _ _ _)).RG x).bI (.swap _ _ _),w.k⟩
theorem RS.Y2{l:Nat}{kvs:List (Int×AV)}{i:Int}{v:AV}{A:U->Prop}(w:RS H K ((l,.dI kvs)::R))(h:kvs.length<=10000)(k:∀w':RS H K ((l,.dI (dY kvs i v))::R),A w'.σ):cP v w.σ A (.ref l) (.int i):=.i w.jo h (k (w.put _))
theorem RS.aaH{l x:Nat}{L:List Nat}{A:U->Prop}(w:RS H K (c::(l,.list (nl L))::R))(h:L.length<10000)(k:∀w':RS H K (c::(l,.list (nl (L++[x])))::R),A w'.σ):b6 (.int x) w.σ A l:=.mk w.mG (by rwa [cN]) (by rw [<-kT];exact k (w.Y1 _))
theorem RS.aaI{l x:Nat}{L:List Nat}(w:RS H K (c::(l,.list (nl (L++[x])))::R))(k:∀w':RS H K (c::(l,.list (nl L))::R),C (.int x) w'.σ):fO w.σ C l:=.mk (xs:=nl L) (by rw [w.mG,kT]) (k (w.Y1 _))
theorem K3{α:Type}(I:Nat->List AV->U->Prop)(hg:∀l acc σ,I l acc σ->σ[l]?=some (.list acc))(hp:∀l acc h_ σ,I l acc σ->I l h_ (σ.set l (.list h_)))(bW:Nat->aP->Nat->U->(U->Prop)->Prop)(it:List α->aP)(ks:List α)(f:α->AV){ys:List AV}(e:ks.map f=ys)(hz:ks.length<10000)
  (he:∀n l acc σ Q,I l acc σ->Q σ->bW (n+1) (it []) l σ Q)(hs:∀x us n l acc σ Q,x∈ks->I l acc σ->(∀σ',I l acc σ'->b6 (f x) σ' (λ s=>bW n (it us) l s Q) l)->bW (n+1) (it (x::us)) l σ Q){σ:U}(h0:I σ.length [] (σ++[.list []]))(k:∀l σ',I l ys σ'->C (.ref l) σ'):
  eJ σ C λ n l s Q=>bW n (it ks) l s Q:=by
 refine ⟨ks.length+1,?_⟩;have key:∀(us:List α)(acc nY:List AV)(l:Nat)(Q:U->Prop)(σ:U),I l acc σ->acc++us.map f=nY->(∀v∈us,v∈ks)->acc.length+us.length<10000->(∀σ',I l nY σ'->Q σ')->bW (us.length+1) (it us) l σ Q:=λ us=>by
  induction us with
  |nil=>
   intro acc nY l Q σ h e _ _ k;cases (List.append_nil acc).symm.trans e;exact he _ _ _ _ _ h (k _ h)
  |cons v us ih=>intro acc nY l Q σ h e hm hz k;simp only [List.length_cons]at hz;exact hs v _ _ l acc σ Q (hm v (.head _)) h λ σ' h'=>.mk (hg _ _ _ h') (nC hz) (ih (acc++[f v]) nY l Q _ (hp _ _ _ _ h') (by refine cQ e ?_;exact List.append_assoc ..) (λ u hu=>hm u (.tail _ hu)) (by simp;exact bQ hz (by simp+arith only)) k)
 exact key ks [] _ _ _ _ h0 e (λ aa h=>h) (by simpa using hz) (k _)
theorem RS.K4{α:Type}(w:RS H K R)(bW:Nat->aP->Nat->U->(U->Prop)->Prop)(ks:List α)(g f:α->AV){ys:List AV}(e:ks.map f=ys)(hz:ks.length<10000)(he:∀n l s Q,Q s->bW (n+1) (.tup []) l s Q)
  (hs:∀x vs n l acc(w:RS H K ((l,.list acc)::R))Q,x∈ks->(∀w':RS H K ((l,.list acc)::R),b6 (f x) w'.σ (λ s=>bW n (.tup vs) l s Q) l)->bW (n+1) (.tup (g x::vs)) l w.σ Q)
  (k:∀l(w':RS H K ((l,.list ys)::R)),C (.ref l) w'.σ):eJ w.σ C λ n l s Q=>bW n (.tup (ks.map g)) l s Q:=
 K3 (λ l acc σ=>∃w:RS H K ((l,.list acc)::R),w.σ=σ) (λ _ _ _ ⟨w,e⟩=>e▸w.jo) (λ _ _ _ _ ⟨w,e⟩=>⟨w.put _,e▸rfl⟩) bW (λ us=>.tup (us.map g)) ks f e hz (λ n l _ σ Q _ q=>he n l σ Q q) (λ x us n l acc σ Q hx ⟨w,e⟩ h=>e▸hs x _ n l acc w Q hx λ w'=>h _ ⟨w',rfl⟩) ⟨w.new _,rfl⟩ λ l σ ⟨w,e⟩=>e▸k l w
end
end
section
open PySem
section
variable{H:Hp} {K:Ext} {R:List aR} {C:PV} {d:Nat} (w:RS H K R)
theorem GZ(k:C (.int H.ai.length) w.σ):(O (d+1)).call .pS [.ref 5] w.σ C:=KG (w.pJ (w.YZ k))
theorem vB(k:C (.int H.ai.length) w.σ):(O (d+2)).call .pT [.ref 3] w.σ C:=KJ (w.iH (w.KQ (GZ w k)))
theorem rC(k:C (.int H.ah.length) w.σ):(O (d+1)).call .mS [.ref 11] w.σ C:=E2 (w.f6 (w.CJ k))
theorem K5{n:Nat}{k:aM}(hn:H.ai[n]?=some k)(c:C (.str k.1) w.σ):(O (d+1)).call .op [.ref 5,.int n] w.σ C:=acf (w.pJ (w.Y0 hn (df c)))
theorem nz{n:Nat}{k:aM}(hn:H.ai[n]?=some k)(c:C (.tup (nl k.2)) w.σ):(O (d+1)).call .IX [.ref 5,.int n] w.σ C:=YD (w.pJ (w.Y0 hn (ng c)))
theorem OE{n m:Nat}(h:(d8 H.ai)[n]?=some m)(c:C (.int m) w.σ):(O (d+1)).call .weight [.ref 5,.int n] w.σ C:=Ru (w.Oz (w.ach h c))
theorem K6(hu:d6 H.ah):∀a:Nat,a<H.ah.length->C (.int (ax H.ah a)) w.σ->∃n,oz (O d) C (.int a) (.ref 11) n w.σ:=λ a=>by
 induction a using Nat.strongRecOn with
 |ind a ih=>
  intro ha k;have hp:=List.getElem?_eq_getElem ha;generalize H.ah[a]=p at hp;by_cases e:p=a
  ·subst e;exact ⟨1,x6 (w.f6 (w.KY hp (zp rfl (gw hp▸k))))⟩
  ·have hle:=hu a p hp;obtain ⟨n,h⟩:=ih p ((Nat.lt_of_le_of_ne hle e)) (Nat.lt_of_le_of_lt hle ha) (kq hu hp e▸k);exact ⟨n+1,x6 (w.f6 (w.KY hp (K0 e (w.f6 (w.KY hp h)))))⟩
theorem lN(hu:d6 H.ah){a:Nat}(ha:a<H.ah.length)(k:C (.int (ax H.ah a)) w.σ):(O (d+1)).call .CA [.ref 11,.int a] w.σ C:=U8 (K6 w hu a ha k)
theorem ku(hu:d6 H.ah){a:Nat}(ha:a<H.ah.length)(k:C (.int (ax H.ah a)) w.σ):(O (d+2)).call .find [.ref 3,.int a] w.σ C:=YJ (w.ig (w.ny (lN w hu ha k)))
noncomputable def iZ(ah:List Nat)(k:aM):aM:=(k.1,k.2.map (ax ah))
theorem Va(hu:d6 H.ah)(hf:dz H){n:Nat}{k:aM}(hn:H.ai[n]?=some k)(hk:∀x∈k.2,x<H.ah.length)(c:∀w':RS H K R,C (bq (iZ H.ah k)) w'.σ):(O (d+3)).call .gf [.ref 3,.int n] w.σ C:=
 have hz:=hf.gf k (List.mem_of_getElem? hn)
 YI (w.iH (w.RJ (K5 w hn (w.iH (w.pK (nz w hn (.t (w.K4 (qt (O (d+2)) (.ref 3)) k.2 _ (λ x=>.int (ax H.ah x)) (ys:=nl (k.2.map (ax H.ah))) (Fg _ _) (fb hz rfl) (λ aa aa aa aa h=>Bs (.te h)) (λ x vs n l acc w Q hx h=>Bs (.ts (w.mj (ku w hu (hk x hx) (h w)))))
  λ l w'=>.l w'.jo (.t (by rw [cN,List.length_map];exact Nat.le_trans (Nat.add_le_add_left hz 1) (by decide)) (c w'.drop))))))))))
end
end
section
open PySem
section
variable{σ:U} {H:Hp} {g:Gh} {R:List aR}
theorem Rep.K7(h:Rep σ H g R):((dq H g).map (·.1)).Nodup:=by have hn:=h.holds.nodup;rw [List.map_append,List.map_append,List.nodup_append,List.nodup_append]at hn;exact hn.2.1.1
theorem wy{A B C:List aR}{l:Nat}{ao:AO}(hn:((A++B++C).map (·.1)).Nodup)(hl:l∈B.map (·.1)):gS (A++B++C) l ao=A++gS B l ao++C:=by rw [List.map_append,List.map_append,List.nodup_append,List.nodup_append]at hn;rw [iM,iM,ie (a:=A) (λ q=>hn.1.2.2 l q l hl rfl),ie (a:=C) (λ q=>hn.2.2 l (List.mem_append_right _ hl) l q rfl)]
theorem RM{α:Type}(F:α->AO)(xs:List α)(ls:List Nat)(k l:Nat)(x':α)(hn:ls.Nodup)(h:ls[k]?=some l):gS ((xs.zip ls).map λ p=>(p.2,F p.1)) l (F x')=((xs.set k x').zip ls).map λ p=>(p.2,F p.1):=by
 induction xs generalizing ls k with
 |nil=>rfl
 |cons x xs ih=>cases ls with
  |nil=>exact if_pos h
  |cons m ls=>
   rw [List.nodup_cons]at hn;cases k with
   |zero=>
    simp only [List.getElem?_cons_zero,Option.some.injEq]at h;subst h;simp only [List.zip_cons_cons,List.map_cons,oF,if_true,List.set_cons_zero];rw [ie];intro q;refine bA (List.mem_map.mp q) λ c hc e=>?_;obtain ⟨p,hp,rfl⟩:=List.mem_map.mp hc;exact hn.1 (e▸(List.of_mem_zip hp).2)
   |succ k=>simp only [List.getElem?_cons_succ]at h;have cD:m≠l:=λ q=>hn.1 (q▸List.mem_of_getElem? h);simp only [List.zip_cons_cons,List.map_cons,oF,if_neg cD,List.set_cons_succ,ih ls k hn.2 h]
theorem RN{α:Type}(F:α->AO)(xs:List α)(ls:List Nat)(h:xs.length=ls.length):((xs.zip ls).map λ p=>((p.2,F p.1):aR)).map (·.1)=ls:=by
 induction xs generalizing ls with
 |nil=>cases ls with
  |nil=>rfl
  |cons=>cases h
 |cons x xs ih=>cases ls with
  |nil=>rfl
  |cons m ls=>exact congrArg (List.cons m) (ih ls (Nat.succ.inj h))
theorem Rep.Y3(h:Rep σ H g R):(eW H g).map (·.1)=g.eu:=RN (λ l=>.list (nl l)) _ _ h.ok.dC.symm
theorem Rep.aci(h:Rep σ H g R):g.eu.Nodup:=by have:=h.K7;simp only [dq,List.append_assoc,List.map_append,h.Y3]at this;exact (List.nodup_append.mp this).1
theorem Rep.Y4(h:Rep σ H g R){k l:Nat}{L:List Nat}(hk:H.bg[k]?=some L)(hl:g.eu[k]?=some l):(l,AO.list (nl L))∈dq H g:=by have:(L,l)∈H.bg.zip g.eu:=List.mem_of_getElem? (i:=k) (by rw [List.getElem?_zip_eq_some];exact ⟨hk,hl⟩);simp only [dq,List.append_assoc];exact List.mem_append_left _ (List.mem_map.mpr ⟨_,this,rfl⟩)
theorem Rep.aaJ(h:Rep σ H g R){k:Nat}{L:List Nat}(hk:H.bg[k]?=some L):∃l,g.eu[k]?=some l/\σ[l]?=some (.list (nl L)):=by
 have ed:k<g.eu.length:=by refine ae h.ok.dC ?_;exact (List.getElem?_eq_some_iff.mp hk).1
 exact ⟨_,List.getElem?_eq_getElem ed,h.holds.iU _ _ (List.mem_append_right _ (List.mem_append_left _ (h.Y4 hk (List.getElem?_eq_getElem ed))))⟩
theorem Rep.OF(h:Rep σ H g R){k l:Nat}{L L':List Nat}(hk:H.bg[k]?=some L)(hl:g.eu[k]?=some l):Rep (σ.set l (.list (nl L'))) {H with bg:=H.bg.set k L'} g R:=by
 refine h.RF (old:=.list (nl L)) (h.Y4 hk hl) rfl ?_ ⟨by simp [h.ok.dC],h.ok.iG,h.ok.eo,h.ok.eO⟩;have hn:=h.K7;have e:dq H g=[]++eW H g++(eX H g++fj H g++ew H g):=by simp [dq]
 rw [e]at hn⊢;refine ae (wy hn (by rw [h.Y3];exact List.mem_of_getElem? hl)) ?_;simp only [eW];refine ae (RM (λ l=>.list (nl l)) _ _ k l L' h.aci hl) ?_;simp [dq,eW,eX,fj,ew,us]
theorem Rep.kN{H':Hp}{g':Gh}{R':List aR}(h:Rep σ H g R)(hf:dF H' g'=dF H g)(hd:(dq H g++R).Perm (dq H' g'++R'))(hg:Ou H' g'):Rep σ H' g' R':=
 ⟨hg,by refine ae hf ?_;exact h.holds.kN (List.Perm.append_left _ hd)⟩
theorem Rep.Fh(h:Rep σ H g R)(x:List Nat):Rep (σ.set 13 (.list (nl x))) {H with ah:=x} g R:=
 h.jz (l:=13) (old:=.list (nl H.ah)) (List.mem_of_getElem? (i:=10) rfl) rfl (.refl _) ⟨h.ok.dC,h.ok.iG,h.ok.eo,h.ok.eO⟩
theorem Rep.BJ(h:Rep σ H g R)(x:List (Nat×Nat)):Rep (σ.set 15 (.list (x.map d5))) {H with merged:=x} g R:=
 h.jz (l:=15) (old:=.list (H.merged.map d5)) (List.mem_of_getElem? (i:=12) rfl) rfl (.refl _) ⟨h.ok.dC,h.ok.iG,h.ok.eo,h.ok.eO⟩
theorem Rep.Fj(h:Rep σ H g R)(x:List (Nat×Nat×Option String)):Rep (σ.set 16 (.list (x.map iE))) {H with ay:=x} g R:=
 h.jz (l:=16) (old:=.list (H.ay.map iE)) (List.mem_of_getElem? (i:=13) rfl) rfl (.refl _) ⟨h.ok.dC,h.ok.iG,h.ok.eo,h.ok.eO⟩
theorem Rep.BK(h:Rep σ H g R)(x:List Nat):Rep (σ.set 17 (.list (nl x))) {H with aH:=x} g R:=
 h.jz (l:=17) (old:=.list (nl H.aH)) (List.mem_of_getElem? (i:=14) rfl) rfl (.refl _) ⟨h.ok.dC,h.ok.iG,h.ok.eo,h.ok.eO⟩
noncomputable def fQ(x:List (aM×Nat)):List (List AK×AV):=x.map λ p=>(eh p.1,.int p.2)
theorem Rep.Fl(h:Rep σ H g R):σ[18]?=some (.dT (fQ H.known)):=h.YP
theorem Rep.Fm(h:Rep σ H g R)(x:List (aM×Nat)):Rep (σ.set 18 (.dT (fQ x))) {H with known:=x} g R:=
 h.jz (l:=18) (old:=.dT (fQ H.known)) (List.mem_of_getElem? (i:=15) rfl) rfl (.refl _) ⟨h.ok.dC,h.ok.iG,h.ok.eo,h.ok.eO⟩
theorem Rep.Y5(h:Rep σ H g R)(x:List AV):Rep (σ.set 21 (.list x)) H {g with K:=x} R:=
 h.jz (l:=21) (old:=.list g.K) (List.mem_of_getElem? (i:=17) rfl) rfl (.refl _) ⟨h.ok.dC,h.ok.iG,h.ok.eo,h.ok.eO⟩
theorem Rep.uo(h:Rep σ H g R)(x:Nat):Rep (σ.set 4 (.dS (hd g.wl H.d4 x))) {H with made:=x} g R:=
 h.jz (l:=4) (old:=.dS (hd g.wl H.d4 H.made)) (List.mem_of_getElem? (i:=1) rfl) rfl (.refl _) ⟨h.ok.dC,h.ok.iG,h.ok.eo,h.ok.eO⟩
theorem Rep.wz(h:Rep σ H g R)(x:Nat):Rep (σ.set 4 (.dS (hd g.wl x H.made))) {H with d4:=x} g R:=
 h.jz (l:=4) (old:=.dS (hd g.wl H.d4 H.made)) (List.mem_of_getElem? (i:=1) rfl) rfl (.refl _) ⟨h.ok.dC,h.ok.iG,h.ok.eo,h.ok.eO⟩
theorem Rep.K8{wl:Nat}{W:List Nat}(h:Rep σ H g ((wl,.list (nl W))::R)):Rep (σ.set 4 (.dS (hd wl H.d4 H.made))) {H with bT:=W} {g with wl:=wl} R:=by refine Rep.lM (c:=(g.wl,.list (nl H.bT))) (h.jz (l:=4) (old:=.dS (hd g.wl H.d4 H.made)) (List.mem_of_getElem? (i:=1) rfl) rfl ?_ ⟨h.ok.dC,h.ok.iG,h.ok.eo,h.ok.eO⟩);refine (?_:List.Perm (eW H g++eX H g++[(g.wl,AO.list (nl H.bT))]++ew H g++((wl,AO.list (nl W))::R)) (eW H g++eX H g++[(wl,AO.list (nl W))]++ew H g++((g.wl,AO.list (nl H.bT))::R)));simp only [List.append_assoc];refine List.Perm.append_left _ (List.Perm.append_left _ ?_);simp only [List.cons_append,List.nil_append];refine (List.Perm.cons _ List.perm_middle).trans ?_;refine (List.Perm.swap _ _ _).trans ?_;exact List.Perm.cons _ List.perm_middle.symm
theorem Rep.cW(h:Rep σ H g R):σ[g.wl]?=some (.list (nl H.bT)):=h.holds.iU _ _ (by simp [dq,fj])
theorem Rep.Iv(h:Rep σ H g R)(W:List Nat):Rep (σ.set g.wl (.list (nl W))) {H with bT:=W} g R:=by refine h.RF (old:=.list (nl H.bT)) (by simp [dq,fj]) rfl ?_ ⟨h.ok.dC,h.ok.iG,h.ok.eo,h.ok.eO⟩;have hn:=h.K7;have e:dq H g=(eW H g++eX H g)++fj H g++ew H g:=rfl;rw [e]at hn⊢;refine ae (wy hn (.head _)) ?_;simp [dq,eW,eX,fj,ew,us,gS]
noncomputable def cM(f:Nat->Option (List Nat))(c:Nat)(v:Option (List Nat)):Nat->Option (List Nat):=λ x=>if x=c then v else f x
noncomputable def eI(ud:List (Nat×Nat)):List (Int×AV):=ud.map λ p=>((p.1:Int),.ref p.2)
theorem Rep.zt(h:Rep σ H g R):σ[19]?=some (.dI (eI g.ud)):=h.c19
theorem jZ{ud:List (Nat×Nat)}{c l:Nat}(hn:(ud.map (·.1)).Nodup)(hm:(c,l)∈ud):∃A B,ud=A++(c,l)::B/\(∀p∈A,p.1≠c)/\(∀p∈B,p.1≠c):=by
 refine Wb (List.append_of_mem hm) λ A B e=>?_;subst e;rw [List.map_append,List.map_cons,List.nodup_append,List.nodup_cons]at hn;refine ⟨A,B,rfl,λ p hp q=>?_,λ p hp q=>?_⟩
 ·exact hn.2.2 p.1 (List.mem_map.mpr ⟨p,hp,rfl⟩) c (.head _) q
 ·exact hn.2.1.1 (List.mem_map.mpr ⟨p,hp,q⟩)
theorem nA{A B:List (Nat×Nat)}{c l:Nat}(hA:∀p∈A,p.1≠c):bD (eI (A++(c,l)::B)) (c:Int)=some (.ref l):=by
 unfold bD eI;rw [List.map_append,List.find?_append,List.find?_eq_none.mpr]
 ·simp
 ·intro p hp;obtain ⟨q,hq,rfl⟩:=List.mem_map.mp hp;have:=hA q hq;simp only [decide_eq_true_eq]
  exact_mod_cast this
theorem Fo{A:List (Nat×Nat)}{c:Nat}(hA:∀p∈A,p.1≠c):bD (eI A) (c:Int)=none:=by
 unfold bD eI;rw [List.find?_eq_none.mpr]
 ·rfl
 ·intro p hp;obtain ⟨q,hq,rfl⟩:=List.mem_map.mp hp;have:=hA q hq;simp only [decide_eq_true_eq]
  exact_mod_cast this
theorem Iw{A:List (Nat×Nat)}{c:Nat}(hA:∀p∈A,p.1≠c):kJ (eI A) (c:Int)=eI A:=by
 unfold kJ eI;rw [List.filter_eq_self];intro p hp;obtain ⟨q,hq,rfl⟩:=List.mem_map.mp hp;have:=hA q hq;simp only [ne_eq,decide_eq_true_eq]
 exact_mod_cast this
theorem Iy{A B:List (Nat×Nat)}{c l:Nat}(hA:∀p∈A,p.1≠c)(hB:∀p∈B,p.1≠c):kJ (eI (A++(c,l)::B)) (c:Int)=eI (A++B):=by have e1:eI (A++(c,l)::B)=eI A++((c:Int),AV.ref l)::eI B:=List.map_append ..;have e2:eI (A++B)=eI A++eI B:=List.map_append ..;rw [e1,e2];have h1:=Iw hA;have h2:=Iw hB;unfold kJ at h1 h2⊢;rw [List.filter_append,List.filter_cons,h1,h2];simp
theorem Fp{A:List (Nat×Nat)}{c l:Nat}(hA:∀p∈A,p.1≠c):dY (eI A) (c:Int) (.ref l)=eI (A++[(c,l)]):=by
 unfold dY;rw [if_neg]
 ·simp [eI]
 ·simp only [eI,List.any_map,List.any_eq_true,not_exists,not_and];intro p hp;have:=hA p hp;simp only [Function.comp,decide_eq_true_eq]
  exact_mod_cast this
theorem Vb{A B:List (Nat×Nat)}{c l l':Nat}(hA:∀p∈A,p.1≠c)(hB:∀p∈B,p.1≠c):dY (eI (A++(c,l)::B)) (c:Int) (.ref l')=eI (A++(c,l')::B):=by
 unfold dY;rw [if_pos (by simp [eI])];simp only [eI,List.map_append,List.map_cons,if_true,List.map_map];congr 1
 ·apply List.map_congr_left;intro p hp;have:=hA p hp;simp only [Function.comp];rw [if_neg (by exact_mod_cast this)]
 ·congr 1;apply List.map_congr_left;intro p hp;have:=hB p hp;simp only [Function.comp];exact ae (if_neg (by exact_mod_cast this)) rfl
theorem Rep.CL(h:Rep σ H g R){c:Nat}{L:List Nat}(hc:H.aV c=some L):∃A B l,g.ud=A++(c,l)::B/\(∀p∈A,p.1≠c)/\(∀p∈B,p.1≠c)/\σ[l]?=some (.list (nl L)):=by refine bA (List.mem_map.mp ((h.ok.eO c).mpr ⟨L,hc⟩)) λ p hp e=>?_;obtain ⟨c',l⟩:=p;simp only at e;subst e;refine yL (jZ h.ok.eo hp) λ A B e hA hB=>?_;refine ⟨A,B,l,e,hA,hB,h.holds.iU _ _ (List.mem_append_right _ (List.mem_append_left _ ?_))⟩;have:(l,AO.list (nl L))∈eX H g:=List.mem_map.mpr ⟨_,hp,by simp [us,hc]⟩;simp only [dq];simp [this]
theorem Rep.Y6(h:Rep σ H g R){c:Nat}(hc:H.aV c=none):∀p∈g.ud,p.1≠c:=by intro p hp e;refine d9 ((h.ok.eO c).mp (List.mem_map.mpr ⟨p,hp,e⟩)) λ L q=>?_;rw [hc]at q;cases q
theorem yj(H:Hp)(c:Nat)(v:Option (List Nat))(x:Nat):us {H with aV:=cM H.aV c v} x=if x=c then v.getD []else us H x:=by unfold us cM;simp only;split<;>rfl
theorem j0{H:Hp}{c:Nat}{v:Option (List Nat)}{A:List (Nat×Nat)}(hA:∀p∈A,p.1≠c):(A.map λ p=>((p.2,.list (nl (us {H with aV:=cM H.aV c v} p.1))):aR))=A.map λ p=>(p.2,.list (nl (us H p.1))):=by apply List.map_congr_left;intro p hp;rw [yj,if_neg (hA p hp)]
theorem Rep.uq(h:Rep σ H g R){c l:Nat}{A B:List (Nat×Nat)}(e:g.ud=A++(c,l)::B)(hA:∀p∈A,p.1≠c)(hB:∀p∈B,p.1≠c)(L:List Nat):Rep (σ.set l (.list (nl L))) {H with aV:=cM H.aV c (some L)} g R:=by
 have e0:dq H g=(eW H g++A.map λ p=>((p.2,.list (nl (us H p.1))):aR))++[(l,AO.list (nl (us H c)))]++(B.map (λ p=>((p.2,.list (nl (us H p.1))):aR))++fj H g++ew H g):=by simp [dq,eX,e]
 refine h.RF (old:=.list (nl (us H c))) (by rw [e0];simp) rfl ?_ ⟨h.ok.dC,h.ok.iG,h.ok.eo,λ x=>?_⟩
 ·have hn:=h.K7;rw [e0]at hn⊢;rw [wy hn (.head _)];simp only [dq,eX,e,List.map_append,List.map_cons,j0 hA,j0 hB];simp only [yj,if_true,gS,List.map_cons,List.map_nil,Option.getD_some];simp [eW,fj,ew]
 ·rw [h.ok.eO x];by_cases q:x=c
  ·subst q;simp only [cM,if_true];exact ⟨λ aa=>⟨_,rfl⟩,λ aa=>(h.ok.eO x).mp (by refine ae e ?_;simp)⟩
  ·simp only [cM,if_neg q]
theorem Rep.ur(h:Rep σ H g R){c l:Nat}{A B:List (Nat×Nat)}(e:g.ud=A++(c,l)::B)(hA:∀p∈A,p.1≠c)(hB:∀p∈B,p.1≠c):Rep (σ.set 19 (.dI (eI (A++B)))) {H with aV:=cM H.aV c none} {g with ud:=A++B} ((l,.list (nl (us H c)))::R):=by
 refine h.jz (l:=19) (old:=.dI (eI g.ud)) (List.mem_of_getElem? (i:=16) rfl) rfl ?_ ⟨h.ok.dC,h.ok.iG,?_,λ x=>?_⟩
 ·have e0:dq H g++R=(eW H g++A.map λ p=>((p.2,.list (nl (us H p.1))):aR))++(l,AO.list (nl (us H c)))::(B.map (λ p=>((p.2,.list (nl (us H p.1))):aR))++fj H g++ew H g++R):=by simp [dq,eX,e]
  refine ae e0 ?_;simp only [dq,eX,List.map_append,j0 hA,j0 hB];refine List.perm_middle.trans ?_;refine List.Perm.trans ?_ List.perm_middle.symm;refine List.Perm.cons _ ?_;simp [eW,fj,ew]
 ·have:=h.ok.eo;rw [e]at this;exact (((List.sublist_cons_self _ _).append_left A).map _).nodup this
 ·have:=h.ok.eO x;rw [e]at this;simp only [cM];by_cases q:x=c
  ·subst q;simp only [if_true,reduceCtorEq,exists_const,iff_false];intro hm;refine bA (List.mem_map.mp hm) λ p hp e=>?_;rcases List.mem_append.mp hp with k|k
   ·exact hA p k e
   ·exact hB p k e
  ·rw [if_neg q,<-this];simp only [List.map_append,List.map_cons,List.mem_append,List.mem_cons,q,false_or]
theorem Rep.uu{l:Nat}{L:List Nat}(h:Rep σ H g ((l,.list (nl L))::R)){c:Nat}(hA:∀p∈g.ud,p.1≠c):Rep (σ.set 19 (.dI (eI (g.ud++[(c,l)])))) {H with aV:=cM H.aV c (some L)} {g with ud:=g.ud++[(c,l)]} R:=by
 refine h.jz (l:=19) (old:=.dI (eI g.ud)) (List.mem_of_getElem? (i:=16) rfl) rfl ?_ ⟨h.ok.dC,h.ok.iG,?_,λ x=>?_⟩
 ·simp only [dq,eX,List.map_append,j0 hA];simp only [yj,if_true,List.map_cons,List.map_nil,Option.getD_some];refine List.perm_middle.trans ?_;simp only [List.append_assoc,List.singleton_append];refine List.Perm.trans ?_ (List.Perm.append_left _ (List.perm_middle.symm));refine List.Perm.trans ?_ List.perm_middle.symm;exact List.Perm.refl _
 ·rw [List.map_append,List.nodup_append];refine ⟨h.ok.eo,by simp,λ a ha b hb=>?_⟩;obtain ⟨p,hp,rfl⟩:=List.mem_map.mp ha;simp at hb;subst hb;exact hA p hp
 ·have:=h.ok.eO x;simp only [cM];by_cases q:x=c
  ·subst q;simp
  ·rw [if_neg q,<-this];simp [q]
theorem K9{α:Type}(X:List α)(a:α)(Y:List α)(b:α)(Z:List α):(X++a::(Y++b::Z)).Perm (X++b::(Y++a::Z)):=by refine List.Perm.append_left _ ?_;refine (List.Perm.cons _ List.perm_middle).trans ?_;refine (List.Perm.swap _ _ _).trans ?_;exact List.Perm.cons _ List.perm_middle.symm
theorem Rep.qJ{l':Nat}{L:List Nat}(h:Rep σ H g ((l',.list (nl L))::R)){c l:Nat}{A B:List (Nat×Nat)}(e:g.ud=A++(c,l)::B)(hA:∀p∈A,p.1≠c)(hB:∀p∈B,p.1≠c):Rep (σ.set 19 (.dI (eI (A++(c,l')::B)))) {H with aV:=cM H.aV c (some L)} {g with ud:=A++(c,l')::B} R:=by
 refine Rep.lM (c:=(l,.list (nl (us H c)))) (h.jz (l:=19) (old:=.dI (eI g.ud)) (List.mem_of_getElem? (i:=16) rfl) rfl ?_ ⟨h.ok.dC,h.ok.iG,?_,λ x=>?_⟩)
 ·have e0:dq H g++(l',AO.list (nl L))::R=(eW H g++A.map λ p=>((p.2,.list (nl (us H p.1))):aR))++(l,AO.list (nl (us H c)))::(B.map (λ p=>((p.2,.list (nl (us H p.1))):aR))++fj H g++ew H g++(l',AO.list (nl L))::R):=by simp [dq,eX,e]
  refine ae e0 ?_;refine (K9 _ _ _ _ _).trans (.of_eq ?_);simp only [dq,eX,List.map_append,List.map_cons,j0 hA,j0 hB];simp only [yj,if_true,Option.getD_some];simp [eW,fj,ew]
 ·have:=h.ok.eo;rw [e]at this;simpa using this
 ·have:=h.ok.eO x;rw [e]at this;simp only [cM];by_cases q:x=c
  ·subst q;simp
  ·rw [if_neg q,<-this];simp
theorem Rep.Fq{l:Nat}{L:List Nat}(h:Rep σ H g ((l,.list (nl L))::R)):Rep (σ.set 14 (.list ((g.eu++[l]).map .ref))) {H with bg:=H.bg++[L]} {g with eu:=g.eu++[l]} R:=by
 refine h.jz (l:=14) (old:=.list (g.eu.map .ref)) (List.mem_of_getElem? (i:=11) rfl) rfl ?_ ⟨by simp [h.ok.dC],h.ok.iG,h.ok.eo,h.ok.eO⟩;have e3:eW {H with bg:=H.bg++[L]} {g with eu:=g.eu++[l]}=eW H g++[(l,.list (nl L))]:=by simp only [eW];refine ae (List.zip_append h.ok.dC.symm) ?_;exact List.map_append ..
 simp only [dq,e3];refine (?_:List.Perm (eW H g++eX H g++fj H g++ew H g++((l,.list (nl L))::R)) (eW H g++[(l,.list (nl L))]++eX H g++fj H g++ew H g++R));simp only [List.append_assoc,List.singleton_append];refine List.Perm.append_left _ ?_;simp only [<-List.append_assoc];exact List.perm_middle
theorem Rep.RO(h:Rep σ H g R)(n:Nat):Rep (σ.set 14 (.list ((g.eu.map .ref).take n))) {H with bg:=H.bg.take n} {g with eu:=g.eu.take n} R:=by
 refine Rep.sub (A:=((H.bg.drop n).zip (g.eu.drop n)).map λ p=>(p.2,.list (nl p.1))) (h.jz (l:=14) (old:=.list (g.eu.map .ref)) (List.mem_of_getElem? (i:=11) rfl) (by rw [<-List.map_take];rfl) ?_ ⟨by simp [h.ok.dC],h.ok.iG,h.ok.eo,h.ok.eO⟩);have e:eW H g=eW {H with bg:=H.bg.take n} {g with eu:=g.eu.take n}++((H.bg.drop n).zip (g.eu.drop n)).map λ p=>(p.2,.list (nl p.1)):=by simp only [eW];rw [<-List.map_append,<-List.zip_append (by simp [h.ok.dC]),List.take_append_drop,List.take_append_drop]
 simp only [dq];refine ae e ?_;refine (?_:List.Perm (eW {H with bg:=H.bg.take n} {g with eu:=g.eu.take n}++_++eX H g++fj H g++ew H g++R) (eW {H with bg:=H.bg.take n} {g with eu:=g.eu.take n}++eX H g++fj H g++ew H g++(_++R)));simp only [List.append_assoc];refine List.Perm.append_left _ ?_;simp only [<-List.append_assoc];refine List.Perm.append_right R ?_;simp only [List.append_assoc];exact List.perm_append_comm.trans (.of_eq (List.append_assoc ..))
end
theorem Y7(x y:Nat):iS [(x:Int),(y:Int)]=[((min x y:Nat):Int),((max x y:Nat):Int)]:=by
 simp only [Hy,Uv,CD,S8];by_cases h:x<=y
 ·rw [if_pos (by exact_mod_cast h),Nat.min_eq_left h,Nat.max_eq_right h]
 ·exact ae (if_neg (by exact_mod_cast h))<|ae (Nat.min_eq_right (Nat.le_of_lt (Nat.lt_of_not_le h)))<|ae (Nat.max_eq_left (Nat.le_of_lt (Nat.lt_of_not_le h))) rfl
noncomputable def vC(C:Core)(x y:Nat):Core:={C with ah:=C.ah.set (max x y) (min x y),bg:=C.bg.set (min x y) (C.bg.getD (min x y) []++C.bg.getD (max x y) []),merged:=C.merged++[(min x y,max x y)]}
section
variable{H:Hp} {K:Ext} {R:List aR} {C:PV} {A:U->Prop} (w:RS H K R)
theorem RS.T6{i x:Nat}(hi:i<H.ah.length)(k:∀w':RS (H.qF (H.ah.set i x)) K R,A w'.σ):cP (.int x) w.σ A (.ref 13) (.int i):=
 .l w.rep.Iq (Iu i (by rwa [cN])) (YY ..▸k ⟨_,w.g,w.rep.Fh _,w.k⟩)
theorem RS.aaK{x:Nat}(h:H.ah.length<10000)(k:∀w':RS (H.qF (H.ah++[x])) K R,A w'.σ):b6 (.int x) w.σ A 13:=.mk w.rep.Iq (by rwa [cN]) (kT ..▸k ⟨_,w.g,w.rep.Fh _,w.k⟩)
theorem RS.aaL{n:Nat}(h:n<=H.ah.length)(k:∀w':RS (H.qF (H.ah.take n)) K R,A w'.σ):ow w.σ A (.ref 13) (.int n):=.mk w.rep.Iq (by rwa [cN]) (zm ..▸k ⟨_,w.g,w.rep.Fh _,w.k⟩)
theorem RS.dC{i:Nat}{L:List Nat}(h:H.bg[i]?=some L)(k:∀l,w.g.eu[i]?=some l->w.σ[l]?=some (.list (nl L))->C (.ref l) w.σ):aj w.σ C (.ref 14) (.int i):=
 bA (w.rep.aaJ h) λ l h1 h2=>eY w.rep.Ov (by simp [h1]) (k l h1 h2)
theorem RS.Y8{i l m:Nat}{L M:List Nat}(h:H.bg[i]?=some L)(hl:w.g.eu[i]?=some l)(h1:w.σ[l]?=some (.list (nl L)))(h2:w.σ[m]?=some (.list (nl M)))(hz:L.length+M.length<=10000)(k:∀w':RS (H.lY (H.bg.set i (L++M))) K R,A w'.σ):sd l w.σ A (.ref m):=
 .mk h1 h2 (by rwa [cN,cN]) (Ff ..▸k ⟨_,w.g,w.rep.OF h hl,w.k⟩)
theorem RS.Y9{i l n:Nat}{L:List Nat}(h:H.bg[i]?=some L)(hl:w.g.eu[i]?=some l)(h1:w.σ[l]?=some (.list (nl L)))(hn:n<=L.length)(k:∀w':RS (H.lY (H.bg.set i (L.take n))) K R,A w'.σ):ow w.σ A (.ref l) (.int n):=
 .mk h1 (by rwa [cN]) (zm ..▸k ⟨_,w.g,w.rep.OF h hl,w.k⟩)
theorem RS.Fq{l:Nat}{L:List Nat}(w:RS H K ((l,.list (nl L))::R))(h:H.bg.length<10000)(k:∀w':RS (H.lY (H.bg++[L])) K R,A w'.σ):b6 (.ref l) w.σ A 14:=
 .mk w.rep.Ov (by rwa [List.length_map,w.rep.ok.dC]) (by refine ae (show w.g.eu.map AV.ref++[.ref l]=(w.g.eu++[l]).map .ref by simp) ?_;exact k ⟨_,_,w.rep.Fq,w.k⟩)
theorem RS.Vc{n:Nat}(h:n<=H.bg.length)(k:∀w':RS (H.lY (H.bg.take n)) K R,A w'.σ):ow w.σ A (.ref 14) (.int n):=.mk w.rep.Ov (by rwa [List.length_map,w.rep.ok.dC]) (k ⟨_,_,w.rep.RO n,w.k⟩)
theorem RS.aaM{p:Nat×Nat}(h:H.merged.length<10000)(k:∀w':RS (H.pI (H.merged++[p])) K R,A w'.σ):b6 (d5 p) w.σ A 15:=
 .mk w.rep.Ow (by rwa [List.length_map]) (by refine ae (show H.merged.map d5++[d5 p]=(H.merged++[p]).map d5 by simp) ?_;exact k ⟨_,w.g,w.rep.BJ _,w.k⟩)
theorem RS.aaN{p:Nat×Nat}{ms:List (Nat×Nat)}(h:H.merged=ms++[p])(k:∀w':RS (H.pI (ms)) K R,C (d5 p) w'.σ):fO w.σ C 15:=
 .mk (xs:=ms.map d5) (by refine ae w.rep.Ow<|ae h<|ae List.map_append ?_;rfl) (k ⟨_,w.g,w.rep.BJ _,w.k⟩)
theorem RS.K_{l x y:Nat}(w:RS H K ((l,.list [.int x,.int y])::R))(k:∀l(w':RS H K ((l,.list [.int (min x y:Nat),.int (max x y:Nat)])::R)),C (.ref l) w'.σ):dZ w.σ C [.ref l]:=
 .x (.l (.l w.jo (ns:=[(x:Int),(y:Int)]) rfl (Nat.le_of_ble_eq_true rfl) (by rw [Y7];exact k _ (w.drop.new _))))
end
section
variable{H:Hp} {K:Ext} {R:List aR} {C:PV} {d:Nat} (w:RS H K R)
theorem Vd(hf:dz H){m:Nat}(hm:H.bg.length=m)(k:∀w':RS ((H.qF (H.ah++[H.ah.length])).lY (H.bg++[[m]])) K R,C (.int H.ah.length) w'.σ):(O (d+1)).call .jS [.ref 11] w.σ C:=by have h1:=hf.ah;have h2:=hf.bg;subst hm;exact YF (w.f6 (.mk w.rep.Iq (w.f6 (w.CJ (w.aaK (fb h1 rfl) λ w=>w.kR (.mk w.rep.Ov (w.kR (w.aaG (w.rB _ λ l w=>RS.Fq (L:=[H.bg.length]) w (show H.bg.length<10000 by exact fb h2 rfl) λ w=>w.f6 (w.CJ (lM (List.length_append ..) (k w))))))))))))
theorem G0(hu:d6 H.ah){a b:Nat}(ha:a<H.ah.length)(hb:b<H.ah.length)(he:ax H.ah a=ax H.ah b)(k:∀w':RS H K R,C .none w'.σ):(O (d+2)).call .rI [.ref 11,.int a,.int b] w.σ C:=
 E3 (w.ny (lN w hu ha (w.ny (lN w hu hb (w.rB _ λ l w=>w.K_ λ l w=>.l w.jo (zq (by rw [he,Nat.min_self,Nat.max_self]) (k w.drop)))))))
theorem OG(hf:dz H)(hu:d6 H.ah){a b x y:Nat}(ha:a<H.ah.length)(hb:b<H.ah.length)(hx:ax H.ah a=x)(hy:ax H.ah b=y)(cD:x≠y)(px:H.bg.length=H.ah.length)
  (k:∀w':RS (H.aaF (vC H.toCore x y)) K R,C (d5 (min x y,max x y)) w'.σ):(O (d+2)).call .rI [.ref 11,.int a,.int b] w.σ C:=by
 have hr:x<H.ah.length:=hx▸Nat.lt_of_le_of_lt (pH hu a) ha;have hs:y<H.ah.length:=hy▸Nat.lt_of_le_of_lt (pH hu b) hb;refine E3 (w.ny (lN w hu ha (hx▸w.ny (lN w hu hb (hy▸w.rB _ λ l w=>w.K_ λ l w=>.l w.jo ?_)))));have h1:max x y<H.bg.length:=mxl (Nat.lt_of_lt_of_le hr (b7 px)) (Nat.lt_of_lt_of_le hs (b7 px));have h2:min x y<H.bg.length:=mml (Nat.lt_of_lt_of_le hr (b7 px));have hL:=List.getElem?_eq_getElem h2;have hM:=List.getElem?_eq_getElem h1;have z1:=hf.dC _ (List.mem_of_getElem? hL);have z2:=hf.dC _ (List.mem_of_getElem? hM);have z3:=hf.merged;rw [show vC H.toCore x y={H.toCore with ah:=H.ah.set (max x y) (min x y),bg:=H.bg.set (min x y) (H.bg[min x y]++H.bg[max x y]),merged:=H.merged++[(min x y,max x y)]} by simp [vC,List.getD_eq_getElem?_getD,h1,h2]]at k;exact wx (L8 cD) (w.drop.f6 (w.drop.T6 (Nat.lt_of_lt_of_le h1 (bS px)) λ w=>w.kR (w.dC hL λ l hl c=>.mk c (w.kR (w.dC hM λ m hm c'=>w.Y8 hL hl c c' (SQ z1 z2 rfl) λ w=>w.nX (.mk w.rep.Ow (RS.aaM (p:=(min x y,max x y)) w (show H.merged.length<10000 by exact fb z3 rfl) λ w=>k w)))))))
end
end
section
open PySem
section
variable{s:U} {C:PV} {D:aP->Prop}
theorem Fs{n:Nat}(k:C (.int n) s):lF s C [.int n,.int 0]:=.i (k)
theorem Ve{a b:Nat}(h:a<=b)(hb:b<=100000)(k:D (.mM a 1 (b -a))):mA D [.int a,.int b]:=.b (rok h hb) (by unfold qa;have e:=rzN a (b -a);rw [Nat.add_sub_cancel' h]at e;refine ae e ?_;exact k)
theorem aaO{l m:Nat}{xs:List AV}{ns:List Int}{A B:U->Prop}(h1:s[l]?=some (.list xs))(h2:s[m]?=some (.list xs))(hn:fm xs=some ns)(k:B s):wa s (cj A B) (.ref l) (.ref m):=.mk h1 h2 hn hn (by refine ae (decide_eq_true rfl) ?_;exact k)
theorem aaP{a b:Nat}(h:b<=a)(k:C (.int (a -b:Nat)) s):fV s C (.int a) (.int b):=.mk (by refine cQ (Int.ofNat_sub h) ?_;exact k)
end
section
variable{H:Hp} {K:Ext} {R:List aR} {C:PV} {d:Nat} (w:RS H K R)
theorem Vf(hf:dz H){ms:List (Nat×Nat)}{kept gone:Nat}(hm:H.merged=ms++[(kept,gone)])(hg:gone<H.ah.length)(hk:kept<H.ah.length)(px:H.bg.length=H.ah.length){Lk Lg:List Nat}(hL:H.bg[kept]?=some Lk)(hM:H.bg[gone]?=some Lg)(hle:Lg.length<=Lk.length)
  {p:List Nat}{ls:List (List Nat)}(e1:H.ah.set gone gone=p)(e2:H.bg.set kept (Lk.take (Lk.length -Lg.length))=ls)(k:∀w':RS (((H.pI ms).qF p).lY ls) K R,C .none w'.σ):(O (d+1)).call .fN [.ref 11,.int ms.length] w.σ C:=by
 have e:H.merged.length=ms.length+1:=by refine ae hm ?_;exact List.length_append ..
 subst e1 e2;exact
 YG ⟨2,Bq (w.nX (w.KX (Fs (qH (by omega) (w.nX (.mk w.rep.Ow (w.aaN hm λ w=>.t (w.f6 (w.T6 hg λ w=>w.kR (w.dC hL λ l hl c=>w.kR (w.dC hL λ l' fc c1=>by cases hl.symm.trans fc;exact dp c (cN _) (w.kR (w.dC hM λ m hm c'=>dp c' (cN _) (aaP hle (w.Y9 hL hl c ((Nat.sub_le (Lk.length) (Lg.length))) λ w=>Bq (w.nX (w.KX (Fs (kU (Int.le_refl _) (k w))))))))))))))))))))⟩
theorem G1(hu:d6 H.ah){a:Nat}(ha:a<H.ah.length)(hL:H.bg[ax H.ah a]?=some [a])(k:∀l(w':RS H K ((l,.list [.int a])::R)),C (.ref l) w'.σ):(O (d+2)).call .tW [.ref 11,.int a] w.σ C:=
 Od (w.kR (w.ny (lN w hu ha (w.dC hL λ l hl c=>.x (.l (.l c (ns:=[(a:Int)]) rfl (Nat.le_of_ble_eq_true rfl) (k _ (w.new _))))))))
theorem Vg(hf:dz H)(hu:d6 H.ah){n:Nat}(hn:H.ah.length=n+1)(hp:H.ah[n]?=some n)(px:H.bg.length=H.ah.length)(hL:H.bg[n]?=some [n]){p:List Nat}{ls:List (List Nat)}(e1:H.ah.take n=p)(e2:H.bg.take n=ls)
  (k:∀w':RS ((H.qF p).lY ls) K R,C .none w'.σ):(O (d+3)).call .IZ [.ref 11,.int n] w.σ C:=by
 have hz:=hf.ah;subst e1 e2;exact
 YH (Fs (w.f6 (w.CJ (Ve (Nat.le_of_lt (b7 hn)) (nc hz rfl) ⟨2,by rw [hn,Nat.add_sub_cancel_left];exact Br (.rs (w.OD (G1 w hu ((b7 hn)) ((gw hp).symm▸hL) λ l w=>w.rB _ λ m w=>aaO w.mG w.jo rfl (Br (.re (w.drop.drop.f6 (w.drop.drop.aaL (Nat.le_of_lt (b7 hn)) λ w=>w.kR (RS.Vc w (show n<=H.bg.length by exact Nat.le_of_lt (Nat.lt_of_lt_of_le (b7 hn) (b7 px))) k))))))))⟩))))
end
end
section
open PySem
theorem jl{k k':aM}(h:eh k=eh k'):k=k':=by
 obtain ⟨a,l⟩:=k;obtain ⟨b,m⟩:=k';simp only [eh,List.cons.injEq,AK.s.injEq]at h;obtain ⟨rfl,h⟩:=h;have:l=m:=by
  revert h;induction l generalizing m with
  |nil=>intro h;cases m with|nil=>rfl|cons _ _=>exact if_pos h
  |cons x r ih=>
   intro h;cases m with
   |nil=>exact if_pos h
   |cons y s=>simp only [List.map_cons,List.cons.injEq,AK.i.injEq]at h;exact ae (show x=y by exact_mod_cast h.1)<|ae (ih (m:=s) h.2) rfl
 exact congrArg _ this
theorem Y_:∀l:List Nat,hU (nl l)=some (l.map λ(n:Nat)=>AK.i n):=by
 intro bN;induction bN with
 |nil=>
  skip;exact rfl
 |cons x r ih=>skip;have:=ih;simp only [nl,List.map_cons,hU,Dg]at this⊢;exact ae this rfl
theorem gD(k:aM):hU (.str k.1::nl k.2)=some (eh k):=by simp [hU,Dg,Y_,eh]
theorem OH{A B:List (aM×Nat)}{k:aM}{v:Nat}(hA:∀p∈A,p.1≠k):bD (fQ (A++(k,v)::B)) (eh k)=some (.int v):=by
 unfold bD fQ;rw [List.map_append,List.find?_append,List.find?_eq_none.mpr]
 ·simp
 ·intro p hp;obtain ⟨q,hq,rfl⟩:=List.mem_map.mp hp;have:=hA q hq;simp only [decide_eq_true_eq];exact λ e=>this (jl e)
theorem Vh{A:List (aM×Nat)}{k:aM}(hA:∀p∈A,p.1≠k):bD (fQ A) (eh k)=none:=by
 unfold bD fQ;rw [List.find?_eq_none.mpr]
 ·rfl
 ·intro p hp;obtain ⟨q,hq,rfl⟩:=List.mem_map.mp hp;have:=hA q hq;simp only [decide_eq_true_eq];exact λ e=>this (jl e)
theorem OI{A:List (aM×Nat)}{k:aM}(v:Nat)(hA:∀p∈A,p.1≠k):dY (fQ A) (eh k) (.int v)=fQ (A++[(k,v)]):=by
 unfold dY;rw [if_neg]
 ·simp [fQ]
 ·simp only [fQ,List.any_map,List.any_eq_true,not_exists,not_and];intro p hp;have:=hA p hp;simp only [Function.comp,decide_eq_true_eq];exact λ e=>this (jl e)
theorem OJ{A:List (aM×Nat)}{k:aM}{v:Nat}(hA:∀p∈A,p.1≠k):kJ (fQ (A++[(k,v)])) (eh k)=fQ A:=by
 have h1:(fQ A).filter (λ kv=>decide (kv.1≠eh k))=fQ A:=by rw [List.filter_eq_self];intro p hp;obtain ⟨q,hq,rfl⟩:=List.mem_map.mp hp;have:=hA q hq;simp only [ne_eq,decide_eq_true_eq];exact λ e=>this (jl e)
 have e1:fQ (A++[(k,v)])=fQ A++[(eh k,AV.int v)]:=List.map_append ..;unfold kJ;rw [e1,List.filter_append,h1];simp
theorem acR(ns:List aM):tA ns=fQ ns.zipIdx:=rfl
theorem uv{ns:List aM}{k:aM}(h:k∉ns):∀p∈ns.zipIdx,p.1≠k:=by intro p hp e;obtain ⟨a,i⟩:=p;simp only at e;subst e;have:=(List.mem_zipIdx hp).2.2;exact h (by refine ae this ?_;exact List.getElem_mem _)
theorem Ft(ns:List aM)(k:aM):(ns++[k]).zipIdx=ns.zipIdx++[(k,ns.length)]:=by simp [List.zipIdx_append]
theorem Iz(f:List Nat->Nat):∀(ns:List aM)(acc:List Nat),(vA f ns acc).length=acc.length+ns.length:=by
 intro bN;induction bN with
 |nil=>
  intro acc;exact rfl
 |cons k r ih=>intro acc;rw [CI,ih];simp;exact Nat.add_right_comm ..
theorem IA(f:List Nat->Nat)(k:aM):∀(ns:List aM)(acc:List Nat),vA f (ns++[k]) acc=vA f ns acc++[f (k.2.map λ i=>(vA f ns acc).getD i 0)]:=by
 intro bN;induction bN with
 |nil=>
  intro acc;exact rfl
 |cons a r ih=>intro acc;rw [List.cons_append,CI,CI,ih]
theorem vD(ns:List aM)(k:aM):d8 (ns++[k])=d8 ns++[1+(k.2.map λ i=>(d8 ns).getD i 0).sum]:=IA _ _ _ _
theorem yk(ns:List aM)(k:aM):fu (ns++[k])=fu ns++[1+(k.2.map λ i=>(fu ns).getD i 0).foldr max 0]:=IA _ _ _ _
theorem vE(ns:List aM):(d8 ns).length=ns.length:=by rw [d8,Iz];exact Nat.add_comm ..
theorem La(ns:List aM):(fu ns).length=ns.length:=by rw [fu,Iz];exact Nat.add_comm ..
noncomputable abbrev IB(a b c e:AO):List aR:=[(7,a),(8,b),(9,c),(10,e),(5,.inst .bank),(6,.dS bd)]
def cn(σ:U)(a b c e:AO)(X:List aR):Prop:=Holds σ (IB a b c e++X)
section
variable{σ:U} {a b c e:AO} {X:List aR} (h:cn σ a b c e X)
include h
theorem cn.at{l:Nat}{x:AO}(hm:(l,x)∈IB a b c e):σ[l]?=some x:=h.iU _ _ (List.mem_append_left _ hm)
theorem cn.c5:σ[5]?=some (.inst .bank):=h.at (.tail _ (.tail _ (.tail _ (.tail _ (.head _)))))
theorem cn.c6:σ[6]?=some (.dS bd):=h.at (.tail _ (.tail _ (.tail _ (.tail _ (.tail _ (.head _))))))
theorem cn.c7:σ[7]?=some a:=h.at (.head _)
theorem cn.c8:σ[8]?=some b:=h.at (.tail _ (.head _))
theorem cn.c9:σ[9]?=some c:=h.at (.tail _ (.tail _ (.head _)))
theorem cn.E9:σ[10]?=some e:=h.at (.tail _ (.tail _ (.tail _ (.head _))))
theorem cn.set{l:Nat}{old x a' b' c' e':AO}(hm:(l,old)∈IB a b c e)(q:gS (IB a b c e) l x=IB a' b' c' e'):cn (σ.set l x) a' b' c' e' X:=by
 have hn:=h.nodup;rw [List.map_append,List.nodup_append]at hn;have:=Holds.set h (List.mem_append_left _ hm) x
 rwa [iM,ie (a:=X) (λ hx=>hn.2.2 l (List.mem_map.mpr ⟨_,hm,rfl⟩) l hx rfl),q]at this
theorem cn.s7(x:AO):cn (σ.set 7 x) x b c e X:=h.set (.head _) rfl
theorem cn.s8(x:AO):cn (σ.set 8 x) a x c e X:=h.set (.tail _ (.head _)) rfl
theorem cn.s9(x:AO):cn (σ.set 9 x) a b x e X:=h.set (.tail _ (.tail _ (.head _))) rfl
theorem cn.vq(x:AO):cn (σ.set 10 x) a b c x X:=h.set (.tail _ (.tail _ (.tail _ (.head _)))) rfl
theorem cn.f'(t:U):cn (σ++t) a b c e X:=Holds.f' h t
theorem cn.new(ao:AO):cn (σ++[ao]) a b c e ((σ.length,ao)::X):=(Holds.new h ao).kN List.perm_middle.symm
end
section
variable{σ:U} {a b c e:AO} {X:List aR}
theorem cn.T7{l:Nat}{x:AO}(h:cn σ a b c e ((l,x)::X)):σ[l]?=some x:=h.iU _ _ (List.mem_append_right _ (.head _))
theorem cn.put{l:Nat}{old:AO}(h:cn σ a b c e ((l,old)::X))(x:AO):cn (σ.set l x) a b c e ((l,x)::X):=by have p:=Holds.kN h List.perm_middle;have h1:=p.set (.head _) x;have hn:=p.nodup;rw [List.map_cons,List.nodup_cons]at hn;rw [oF,if_pos rfl,ie hn.1]at h1;exact h1.kN List.perm_middle.symm
theorem cn.drop{x:aR}(h:cn σ a b c e (x::X)):cn σ a b c e X:=Holds.sub h (.append (.refl _) (List.sublist_cons_self _ _))
end
noncomputable def CM(H:Hp)(g:Gh)(R:List aR):List aR:=(dF H g).take 2++((dF H g).drop 8++(dq H g++R))
theorem yl(H:Hp)(g:Gh)(R:List aR)(ns:List aM):(IB (.list (ns.map bq)) (.dT (tA ns)) (.list (nl (d8 ns))) (.list (nl (fu ns)))++CM H g R).Perm (dF {H with ai:=ns} g++(dq {H with ai:=ns} g++R)):=by have e:dF {H with ai:=ns} g++(dq {H with ai:=ns} g++R)=(dF H g).take 2++([((5:Nat),AO.inst .bank),(6,.dS bd)]++[(7,.list (ns.map bq)),(8,.dT (tA ns)),(9,.list (nl (d8 ns))),(10,.list (nl (fu ns)))]++((dF H g).drop 8++(dq H g++R))):=rfl;refine ae e ?_;unfold CM;rw [<-List.append_assoc,<-List.append_assoc ((dF H g).take 2)];exact List.Perm.append_right _ (List.perm_append_comm.trans (.append_left _ (List.perm_append_comm (l₁:=[_,_,_,_]) (l₂:=[_,_]))))
theorem Rep.toBank{σ:U}{H:Hp}{g:Gh}{R:List aR}(h:Rep σ H g R):cn σ (.list (H.ai.map bq)) (.dT (fQ H.ai.zipIdx)) (.list (nl (d8 H.ai))) (.list (nl (fu H.ai))) (CM H g R):=
 h.holds.kN (yl H g R H.ai).symm
theorem cn.toRep{σ:U}{H:Hp}{g:Gh}{R:List aR}{ns:List aM}(hg:Ou H g)(h:cn σ (.list (ns.map bq)) (.dT (fQ ns.zipIdx)) (.list (nl (d8 ns))) (.list (nl (fu ns))) (CM H g R)):Rep σ {H with ai:=ns} g R:=
 ⟨⟨hg.dC,hg.iG,hg.eo,hg.eO⟩,Holds.kN h (yl H g R ns)⟩
theorem zu:∀l:List Nat,fm (nl l)=some (l.map Int.ofNat):=by
 intro bN;induction bN with
 |nil=>
  skip;exact rfl
 |cons x r ih=>skip;have:=ih;simp only [nl,List.map_cons,fm]at this⊢;refine ae this ?_;rfl
theorem Y':∀l:List Nat,(l.map Int.ofNat).sum=Int.ofNat l.sum:=by
 intro bN;induction bN with
 |nil=>
  skip;exact rfl
 |cons x r ih=>skip;refine ae List.map_cons<|ae List.sum_cons<|ae List.sum_cons<|ae (ih) ?_;rfl
theorem Lb(n:Int){l:List Int}(h:l≠[]):jM (n::l)=max n (jM l):=by
 cases l with
 |nil=>exact absurd rfl h
 |cons a r=>rfl
theorem Za:∀l:List Nat,jM (l.map Int.ofNat++[0])=Int.ofNat (l.foldr max 0):=by
 intro bN;induction bN with
 |nil=>
  skip;exact rfl
 |cons x r ih=>skip;refine ae List.map_cons<|ae List.cons_append<|ae (Lb _ (by simp))<|ae (ih)<|ae List.foldr_cons ?_;simp only [Int.ofNat_eq_natCast];lia
theorem Zb{x:List (aM×Nat)}{k:aM}{v:Nat}(hm:(k,v)∈x)(hu:∀v',(k,v')∈x->v'=v):bD (fQ x) (eh k)=some (.int v):=by
 unfold bD;cases e:(fQ x).find? λ kv=>decide (kv.1=eh k)with
 |none=>
  rw [List.find?_eq_none]at e;have:=e _ (List.mem_map.mpr ⟨_,hm,rfl⟩);simp at this
 |some p=>have h1:=List.find?_some e;obtain ⟨⟨k',v'⟩,hq,rfl⟩:=List.mem_map.mp (List.mem_of_find?_eq_some e);simp only [decide_eq_true_eq]at h1;have:=jl h1;subst this;refine ae (hu v' hq) ?_;rfl
theorem Fu{ns:List aM}{k:aM}{n:Nat}(hn:ns[n]?=some k)(hu:∀m,ns[m]?=some k->m=n):bD (fQ ns.zipIdx) (eh k)=some (.int n):=
 Zb (List.mem_zipIdx_iff_getElem?.mpr hn) λ v' hv=>hu v' (List.mem_zipIdx_iff_getElem?.mp hv)
section
variable{σ:U} {a b c e:AO} {X:List aR} {C:PV} {D:Nat->Fn->Prop} {A B:U->Prop} {d:Nat}
theorem cn.av(h:cn σ a b c e X){x:String}{v:AV}(hx:(fT .bank).contains x=true)(q:bD bd x=some v)(k:C v σ):ak x σ C (.ref 5):=.mk h.c5 h.c6 hx q k
theorem cn.a7(h:cn σ a b c e X)(k:C (.ref 7) σ):ak "nodes" σ C (.ref 5):=h.av (by kernel_rfl) (by kernel_rfl) k
theorem cn.a8(h:cn σ a b c e X)(k:C (.ref 8) σ):ak "numbers" σ C (.ref 5):=h.av (by kernel_rfl) (by kernel_rfl) k
theorem cn.a9(h:cn σ a b c e X)(k:C (.ref 9) σ):ak "weights" σ C (.ref 5):=h.av (by kernel_rfl) (by kernel_rfl) k
theorem cn.Zc(h:cn σ a b c e X)(k:C (.ref 10) σ):ak "depths" σ C (.ref 5):=h.av (by kernel_rfl) (by kernel_rfl) k
theorem cn.BI(h:cn σ a b c e X)(k:D 5 .o3):bF "require" σ D (.ref 5):=.mk h.c5 h.c6 (by kernel_rfl) (by kernel_rfl) k
theorem inT{l:Nat}{x:List (aM×Nat)}{k:aM}{n:Nat}(h:σ[l]?=some (.dT (fQ x)))(q:bD (fQ x) (eh k)=some (.int n))(p:A σ):pe σ (cj A B) (bq k) (.ref l):=.t h (gD k) (by refine ae q ?_;exact p)
theorem acj{l:Nat}{x:List (aM×Nat)}{k:aM}(h:σ[l]?=some (.dT (fQ x)))(q:bD (fQ x) (eh k)=none)(p:B σ):pe σ (cj A B) (bq k) (.ref l):=.t h (gD k) (by refine ae q ?_;exact p)
theorem tF(x:List (aM×Nat)):(fQ x).length=x.length:=List.length_map ..
theorem ym{l x:Nat}{L:List Nat}(h:σ[l]?=some (.list (nl (L++[x]))))(k:C (.int x) (σ.set l (.list (nl L)))):fO σ C l:=.mk (by rw [h,kT]) k
theorem Fv{l x:Nat}{L:List Nat}(h:σ[l]?=some (.list (nl L)))(hz:L.length<10000)(k:A (σ.set l (.list (nl (L++[x]))))):b6 (.int x) σ A l:=.mk h (by rwa [cN]) (kT ..▸k)
theorem adn{a b:Nat}(k:C (.int (a+b:Nat)) σ):cq σ C (.int a) (.int b):=.i k
theorem Zd{a:Nat}(k:C (.int (1+a:Nat)) σ):cq σ C (.int 1) (.int a):=.i k
theorem Ze{l:Nat}{xs:List Nat}(h:σ[l]?=some (.list (nl xs)))(h1:∀x∈xs,x<=100000)(hz:xs.length<=1000)(k:C (.int xs.sum) σ):Dm σ C [.ref l]:=
 .l h (zu xs) (by unfold CF;rw [Bool.and_eq_true,List.all_eq_true];refine ⟨λ n hn=>?_,by simpa using hz⟩;obtain ⟨m,hm,rfl⟩:=List.mem_map.mp hn;have:=h1 m hm;simp only [Int.ofNat_eq_natCast,decide_eq_true_eq];omega) (Y' xs▸k)
theorem Fw{op:String}{P:String->Prop}(h:eQ op=true)(h1:P "a")(h2:P "b")(h3:P "c")(h4:P "f")(h5:P "g"):P op:=by
 have:op∈["a","b","c","f","g"]:=by simpa [eQ]using h
 simp only [List.mem_cons,List.not_mem_nil,or_false]at this;rcases this with rfl|rfl|rfl|rfl|rfl<;>assumption
theorem fx{n:Nat}{a b:String}{c:Bool}(h:(a==b)=c):gX (n+1) (.str a) (.str b) c:=h▸iP.ss
theorem lZ{x y:AV}{b:Bool}(h:gX 40 x y b)(k:C (.bool !b) σ):fW σ C x y:=⟨_,h,k⟩
theorem yn{x y:AV}{b:Bool}(h:gX 40 x y b)(k:C (.bool b) σ):dK σ C x y:=⟨_,h,k⟩
theorem Vi{op:String}(h:eQ op=true)(k:C (.bool true) (σ++[.list []]++[.list []])):(O (d+1)).call .yO [.str op] σ C:=
 YC (lZ (b:=false) (fx (Fw (P:=λ op=>(op=="")=false) h rfl rfl rfl rfl rfl))
  (.x h ⟨2,Bh (.xs ⟨h,.mk h (Bh (.xe (.eq (xs:=[]) (ys:=[]) (by simp) (List.getElem?_concat_length ..) rfl .nil k)))⟩)⟩))
theorem lx{c:Char}(k:C (.str (String.ofList [c])) σ):aj σ C (.str (String.ofList [c])) (.int 0):=.x (j:=0) (c:=c) ⟨by simp,.inl rfl⟩ (by simp) (by simp) k
theorem aaQ{op:String}(h:eQ op=true):∃c,op=String.ofList [c]/\(op=="?")=false:=
 Fw (P:=λ op=>∃c,op=String.ofList [c]/\(op=="?")=false) h ⟨'a',by kernel_rfl,rfl⟩ ⟨'b',by kernel_rfl,rfl⟩ ⟨'c',by kernel_rfl,rfl⟩ ⟨'f',by kernel_rfl,rfl⟩ ⟨'g',by kernel_rfl,rfl⟩
theorem Lc{op:String}(h:eQ op=true)(k:C .none (σ++[.list []]++[.list []])):(O (d+2)).call .o3 [.ref 5,.str op] σ C:=
 Ob (Vi h (by obtain ⟨c,rfl,e⟩:=aaQ h;exact lx (yn (b:=false) (fx e) k)))
end
section
variable{H:Hp} {K:Ext} {R:List aR} {C:PV} {d:Nat} (w:RS H K R)
theorem Ld(hf:dz H){ns:List aM}{k:aM}(hn:H.ai=ns++[k])(hk:k∉ns){m:Nat}(hm:ns.length=m)(c:∀w':RS (H.yg ns) K R,C .none w'.σ):(O (d+1)).call .tV [.ref 5,.int m] w.σ C:=by
 subst hm;have hz:=hf.ai;have r:=w.rep.toBank;have hg:=w.rep.ok;have e:H.ai.length=ns.length+1:=by refine ae hn ?_;exact List.length_append ..
 rw [hn,Ft,vD,yk]at r;have r1:=r.s7 (.list (ns.map bq));have r2:=r1.s8 (.dT (fQ ns.zipIdx));have r3:=r2.s9 (.list (nl (d8 ns)));have r4:=r3.vq (.list (nl (fu ns)));refine Oc ⟨2,tg (w.pJ (w.YZ (Fs (qH (by omega) (w.oG (.mk r.c8 ⟨_,rfl⟩ (w.pJ (.mk r.c7 (.mk (xs:=ns.map bq) (by refine ae r.c7 ?_;simp;rfl) (.mk r1.c8 (gD k) (by rw [tF];simp;exact dc hz (b7 e) (by simp+arith only)) (OH (B:=[]) (uv hk)) ?_))))))))))⟩;refine ae (OJ (uv hk)) ?_;exact r2.a9 (.mk r2.c9 (ym r2.c9 (r3.Zc (.mk r3.E9 (ym r3.E9 (tg (r4.a7 (dp r4.c7 (List.length_map ..) (Fs (kU (Int.le_refl _) (c ⟨_,w.g,r4.toRep hg,w.k⟩)))))))))))
end
end
section
open PySem
section
variable{σ:U} {a b c e:AO} {X:List aR} {C:PV} {A:U->Prop} {d:Nat}
theorem cn.comp(h:cn σ a b c e X)(bW:Nat->aP->Nat->U->(U->Prop)->Prop)(ks:List Nat)(f:Nat->Nat)(hz:ks.length<10000)(he:∀n l s Q,Q s->bW (n+1) (.tup []) l s Q)
  (hs:∀x vs n l acc σ Q,x∈ks->cn σ a b c e ((l,.list acc)::X)->(b6 (.int (f x)) σ (λ s=>bW n (.tup vs) l s Q) l)->bW (n+1) (.tup (.int (x:Nat)::vs)) l σ Q)
  (k:∀l σ',cn σ' a b c e ((l,.list (nl (ks.map f)))::X)->C (.ref l) σ'):eJ σ C λ n l s Q=>bW n (.tup (nl ks)) l s Q:=
 K3 (λ l acc σ=>cn σ a b c e ((l,.list acc)::X)) (λ aa aa aa h=>h.T7) (λ aa aa aa aa h=>h.put _) bW (λ us=>.tup (nl us)) ks (λ x=>.int (f x)) (Fg f ks) hz (λ n l _ σ Q _ q=>he n l σ Q q) (λ x us n l acc σ Q hx h k=>hs x _ n l acc σ Q hx h (k _ h)) (h.new _) k
theorem Zf{l:Nat}{xs:List Nat}(h:σ[l]?=some (.list (nl xs++[.int 0])))(k:C (.int (xs.foldr max 0:Nat)) σ):lF σ C [.ref l]:=
 .l h (ns:=xs.map Int.ofNat++[0]) (by have:=zu (xs++[0]);rw [kT]at this;simpa using this) (by simp) (by rw [Za];exact k)
end
section
variable{H:Hp} {K:Ext} {R:List aR} {C:PV} {d:Nat} (w:RS H K R)
theorem RP(hf:dz H){op:String}{ks:List Nat}{n:Nat}(hn:H.ai[n]?=some (op,ks))(hu:∀m,H.ai[m]?=some (op,ks)->m=n)(k:C (.int n) w.σ):(O (d+1)).call .take [.ref 5,.str op,.tup (nl ks)] w.σ C:=
 have hz:=hf.gf _ (List.mem_of_getElem? hn);have r:=w.rep.toBank
 Oa (.t (.t (by rw [cN];exact Nat.le_trans (Nat.add_le_add_left hz 1) (by decide)) (w.oG (inT (k:=(op,ks)) r.c8 (Fu hn hu) (w.oG (.t r.c8 (gD (op,ks)) (Fu hn hu) k))))))
theorem RQ(hf:dz H){op:String}{ks:List Nat}(k9:eQ op=true)(fZ:(op,ks)∉H.ai)(hk:∀i∈ks,i<H.ai.length)(hz:ks.length<=900)(k:∀w':RS (H.yg (H.ai++[(op,ks)])) K R,C (.int H.ai.length) w'.σ):
  (O (d+3)).call .take [.ref 5,.str op,.tup (nl ks)] w.σ C:=by
 have hm:=Vh (uv fZ);have Fx:=hf.ai;have hg:=w.rep.ok;have gk:=w.k;revert k;have r:=w.rep.toBank;have wl:=vE H.ai;have dl:=La H.ai;intro k;refine Oa (.t (.t (by rw [cN];exact Nat.le_trans (Nat.add_le_add_left hz 1) (by decide)) (w.oG (acj (k:=(op,ks)) r.c8 hm (w.BI (Lc k9 (ng (.t ⟨ks.length+1,?_⟩))))))));have r:=(r.f' [.list []]).f' [.list []];generalize w.σ++[.list []]++[.list []]=σ at r⊢;have key:∀us:List Nat,(∀i∈us,i<H.ai.length)->EE (O (d+2)) C (bq (op,ks)) (.ref 5) σ->qn (O (d+2)) C (bq (op,ks)) (.ref 5) (us.length+1) (.tup (nl us)) σ:=λ us=>by
  induction us with
  |nil=>exact λ aa q=>Bk (.te q)
  |cons i us ih=>exact λ hi q=>Bk (.ts (.mk (by refine ae (if_pos (Int.natCast_nonneg i)) ?_;exact r.a7 (dp r.c7 (List.length_map ..) (.mk (by refine ae (decide_eq_true (Int.ofNat_lt.mpr (hi i (.head _)))) ?_;exact ih (λ j hj=>hi j (.tail _ hj)) q))))))
 refine key ks hk (r.a7 (dp r.c7 (List.length_map ..) (r.a8 (.t r.c8 (gD (op,ks)) (by rw [tF];simp;exact nc Fx rfl) ?_))));rw [OI _ (uv fZ),<-Ft];have r:=r.s8 (.dT (fQ (H.ai++[(op,ks)]).zipIdx));refine r.a7 (.mk r.c7 (.mk r.c7 (by simp;exact fb Fx rfl) ?_));refine ae (show H.ai.map bq++[bq (op,ks)]=(H.ai++[(op,ks)]).map bq by simp) ?_;have r:=r.s7 (.list ((H.ai++[(op,ks)]).map bq));have iU:∀(W:List Nat),W.length=H.ai.length->∀i∈ks,W[i]?=some (W.getD i 0):=λ W e i hi=>by refine ae List.getD_eq_getElem?_getD<|ae (List.getElem?_eq_getElem (by rw [e];exact hk i hi)) ?_;rfl
 refine r.a9 (.mk r.c9 (ng (.t (r.comp (qo (O (d+2)) (.ref 5)) ks (λ i=>(d8 H.ai).getD i 0) (fb hz rfl) (λ aa aa aa aa q=>Bi (.te q)) (λ i vs n l acc σ Q hi r q=>Bi (.ts (r.a9 (eY r.c9 (iI (iU _ wl i hi)) q)))) λ l σ r=>Ze r.T7 (λ x hx=>?_) (by simp;exact nc hz rfl) (Zd (Fv r.c9 (fb (Nat.le_trans (bS wl) Fx) rfl) ?_))))))
 ·obtain ⟨i,hi,rfl⟩:=List.mem_map.mp hx;exact hf.wt _ (List.mem_of_getElem? (iU _ wl i hi))
 have r:=(r.drop).s9 (.list (nl (d8 H.ai++[1+(ks.map λ i=>(d8 H.ai).getD i 0).sum])));rw [<-vD H.ai (op,ks)]at r⊢;refine r.Zc (.mk r.E9 (ng (.t (r.comp (qp (O (d+2)) (.ref 5)) ks (λ i=>(fu H.ai).getD i 0) (fb hz rfl) (λ aa aa aa aa q=>Bj (.te q)) (λ i vs n l acc σ Q hi r q=>Bj (.ts (r.Zc (eY r.E9 (iI (iU _ dl i hi)) q)))) λ l σ r=>?_))));have r2:=r.new (.list [.int 0]);have r3:=r2.new (.list (nl (ks.map λ i=>(fu H.ai).getD i 0)++[.int 0]));refine .l (r2.iU _ _ (List.mem_of_getElem? (i:=7) rfl)) r2.T7 (by rw [cN];simp;exact nc hz rfl) (Zf r3.T7 (Zd (Fv r3.E9 (fb (Nat.le_trans (bS dl) Fx) rfl) ?_)));have r:=(r3.drop.drop.drop).vq (.list (nl (fu H.ai++[1+(ks.map λ i=>(fu H.ai).getD i 0).foldr max 0])));rw [<-yk H.ai (op,ks)]at r⊢;exact r.a7 (dp r.c7 (List.length_map ..) (lM (List.length_append ..) (k ⟨_,_,r.toRep hg,gk⟩)))
end
end
section
open PySem
noncomputable def BL:List aM->List AV->List AV
 |[],acc=>acc
 |k::r,acc=>BL r (acc++[.tup (.str k.1::k.2.map λ i=>acc.getD i .none)])
theorem CN(k:aM)(r:List aM)(acc:List AV):BL (k::r) acc=BL r (acc++[.tup (.str k.1::k.2.map λ i=>acc.getD i .none)]):=rfl
noncomputable def CO(ns:List aM):List AV:=BL ns []
noncomputable def dn(ns:List aM)(n:Nat):AV:=(CO ns).getD n .none
def i0(ns:List aM):Prop:=∀(n:Nat)(k:aM),ns[n]?=some k->∀i∈k.2,i<n
theorem Vj:∀(ns:List aM)(acc:List AV),(BL ns acc).length=acc.length+ns.length:=by
 intro bN;induction bN with
 |nil=>
  intro acc;exact rfl
 |cons k r ih=>intro acc;rw [CN,ih];simp;exact Nat.add_right_comm ..
theorem IC:∀(ns:List aM)(acc:List AV)(i:Nat),i<acc.length->(BL ns acc)[i]?=acc[i]?:=by
 intro bN;induction bN with
 |nil=>
  intro acc i h;exact rfl
 |cons k r ih=>intro acc i h;rw [CN,ih _ i (by simp;exact Nat.lt_succ_of_lt h),List.getElem?_append_left h]
theorem Zg(ns:List aM):∀(acc:List AV)(n:Nat)(k:aM),ns[n]?=some k->(∀i∈k.2,i<acc.length+n)->(BL ns acc)[acc.length+n]?=some (.tup (.str k.1::k.2.map λ i=>(BL ns acc).getD i .none)):=by
 induction ns with
 |nil=>intro acc n k h _;exact if_pos h
 |cons k' r ih=>
  intro acc n k h hk;cases n with
  |zero=>
   simp only [List.getElem?_cons_zero,Option.some.injEq]at h;subst h;rw [CN,IC r _ _ (by simp)];simp only [Nat.add_zero,List.getElem?_concat_length,Option.some.injEq,AV.tup.injEq,List.cons.injEq,true_and];apply List.map_congr_left;intro i hi;have:=hk i hi;exact ae List.getD_eq_getElem?_getD<|ae List.getD_eq_getElem?_getD<|ae (IC r _ i (by simp;exact Nat.lt_succ_of_lt this))<|ae (List.getElem?_append_left (this)) rfl
  |succ n=>simp only [List.getElem?_cons_succ]at h;have:=ih (acc++[.tup (.str k'.1::k'.2.map λ i=>acc.getD i .none)]) n k h (λ i hi=>by have:=hk i hi;simp;exact bQ this (by simp+arith only));simp only [List.length_append,List.length_cons,List.length_nil]at this;rw [CN,<-this];congr 1;simp+arith only
theorem abC(ns:List aM):(CO ns).length=ns.length:=by rw [CO,Vj];exact Nat.add_comm ..
theorem nB{ns:List aM}(hb:i0 ns){n:Nat}{k:aM}(h:ns[n]?=some k):dn ns n=.tup (.str k.1::k.2.map (dn ns)):=by have:=Zg ns [] n k h (λ i hi=>by simpa using hb n k h i hi);simp only [List.length_nil,Nat.zero_add]at this;rw [dn,CO,List.getD_eq_getElem?_getD,this];rfl
theorem lO:∀{N:Nat}{l:List Nat},l.Nodup->(∀b∈l,b<N)->l.length<=N:=by
 intro bN;induction bN with
 |zero=>
  intro l zz h;cases l with
  |nil=>simp
  |cons a r=>have:=h a (.head _);lia
 |succ N ih=>
  intro l hn h;have h1:(l.erase N).length<=N:=ih (hn.erase N) λ b hb=>by
   have q:=h b (List.mem_of_mem_erase hb);have:b≠N:=λ e=>by subst e;exact (List.Nodup.not_mem_erase hn) hb
   lia
  by_cases hm:N∈l
  ·rw [List.length_erase_of_mem hm]at h1;lia
  ·rw [List.erase_of_not_mem hm]at h1;exact Nat.le_succ_of_le h1
noncomputable def mP(B:List Nat):List (Int×AV):=B.map λ(b:Nat)=>((b:Int),.bool true)
theorem aaR{B:List Nat}(k:Nat):(bD (mP B) (k:Int)).isSome=decide (k∈B):=by unfold bD mP;refine ae Option.isSome_map ?_;apply Bool.eq_iff_iff.mpr;rw [List.find?_isSome];simp only [List.mem_map,decide_eq_true_eq];exact ⟨λ ⟨p,⟨b,hb,e⟩,q⟩=>by subst e;simp only at q;rwa [show k=b by lia],λ h=>⟨_,⟨k,h,rfl⟩,rfl⟩⟩
theorem Zh{B:List Nat}{k:Nat}(h:k∉B):dY (mP B) (k:Int) (.bool true)=mP (B++[k]):=by
 unfold dY;rw [if_neg]
 ·simp [mP]
 ·simp only [mP,List.any_map,List.any_eq_true,not_exists,not_and];intro b hb e;simp only [Function.comp,decide_eq_true_eq]at e;exact h (by rwa [show k=b by lia])
noncomputable def zv(n:Nat):List Nat->List Nat
 |[]=>[n]
 |m::r=>if n<=m then n::m::r else m::zv n r
theorem Zi(n m:Nat)(r:List Nat):zv n (m::r)=if n<=m then n::m::r else m::zv n r:=rfl
noncomputable def je:List Nat->List Nat
 |[]=>[]
 |n::r=>zv n (je r)
theorem RR(n:Nat)(r:List Nat):je (n::r)=zv n (je r):=rfl
theorem Zj(n:Nat):∀l:List Nat,ins (n:Int) (l.map Int.ofNat)=(zv n l).map Int.ofNat:=by
 intro bN;induction bN with
 |nil=>
  skip;exact rfl
 |cons m r ih=>
  skip;simp only [List.map_cons,CD,Zi];by_cases h:n<=m
  ·refine ae (if_pos h)<|ae (if_pos (by simpa using h)) ?_;rfl
  ·refine ae (if_neg h)<|ae (if_neg (by simpa using h))<|ae (ih) ?_;rfl
theorem qK:∀l:List Nat,iS (l.map Int.ofNat)=(je l).map Int.ofNat:=by
 intro bN;induction bN with
 |nil=>
  skip;exact rfl
 |cons n r ih=>skip;rw [List.map_cons,Hy,ih,RR];exact Zj n _
theorem Fy(l:List Nat):(l.map Int.ofNat).map Int.toNat=l:=by simp [Function.comp_def]
theorem l5(l:List Nat):(je l).Perm l:=by
 have:=(jh (l.map Int.ofNat)).map Int.toNat
 rw [qK,Fy,Fy]at this;exact this
theorem Ct(l:List Nat):(je l).Pairwise (·<=·):=by have:=nN (l.map Int.ofNat);rw [qK,List.pairwise_map]at this;exact this.imp λ h=>by simpa using h
theorem ID(l:List Nat):(l.map Int.ofNat).map AV.int=nl l:=List.map_map ..
noncomputable def yo(ns:List aM)(D:List Nat):List (Int×AV):=D.map λ(b:Nat)=>((b:Int),dn ns b)
theorem OK{ns:List aM}{D:List Nat}{b:Nat}(h:b∈D):bD (yo ns D) (b:Int)=some (dn ns b):=by
 unfold bD;cases e:(yo ns D).find? λ kv=>decide (kv.1=(b:Int))with
 |none=>
  rw [List.find?_eq_none]at e;have:=e _ (List.mem_map.mpr ⟨_,h,rfl⟩);simp at this
 |some p=>
  have h1:=List.find?_some e;obtain ⟨b',hq,rfl⟩:=List.mem_map.mp (List.mem_of_find?_eq_some e);simp only [decide_eq_true_eq]at h1;have:b'=b:=by lia
  subst this;rfl
theorem Zk{ns:List aM}{D:List Nat}{k:Nat}(h:k∉D):dY (yo ns D) (k:Int) (dn ns k)=yo ns (D++[k]):=by
 unfold dY;rw [if_neg]
 ·simp [yo]
 ·simp only [yo,List.any_map,List.any_eq_true,not_exists,not_and];intro b hb e;simp only [Function.comp,decide_eq_true_eq]at e;exact h (by rwa [show k=b by lia])
section
variable{H:Hp} {K:Ext} {R:List aR} {C:PV} {d l1 l2 l3 l4 n m:Nat}
theorem RT(hz:H.ai.length<=60):∀(ks B S:List Nat)(w:RS H K ((l1,.dI (mP B))::(l2,.list (nl S))::R)),(∀x∈ks,x<H.ai.length)->B.Nodup->(∀x∈B,x<H.ai.length)->S.length<=B.length+100->
  (∀new B' S',B++new=B'->S++new=S'->B'.Nodup->(∀x∈new,x∈ks)->(∀x∈ks,x∈B')->∀w':RS H K ((l1,.dI (mP B'))::(l2,.list (nl S'))::R),nV (O d) C (.ref l1) (.int n) (.ref 5) (.ref l2) m w'.σ)->
  nW (O d) C m (.ref l1) (.int n) (.ref 5) (.ref l2) (ks.length+1) (.tup (nl ks)) w.σ:=by
 intro bN;induction bN with
 |nil=>
  intro B S w zz hB zz zz k;exact Bn (.te (k [] B S (List.append_nil _) (List.append_nil _) hB (λ aa h=>h) (λ aa h=>nomatch h) w))
 |cons x ks ih=>
  intro B S w hx hB hl hS k;have ON:=lO hB hl;refine Bn (.ts (.i w.jo ?_));rw [aaR];by_cases hm:x∈B
  ·rw [decide_eq_true hm];exact ih B S w (λ y hy=>hx y (.tail _ hy)) hB hl hS λ new B' S' e1 e2 h1 h2 h3=>k new B' S' e1 e2 h1 (λ y hy=>.tail _ (h2 y hy)) λ y hy=>by
    rcases List.mem_cons.mp hy with rfl|hy
    ·exact e1▸List.mem_append_left _ hm
    ·exact h3 y hy
  ·rw [decide_eq_false hm];have hn:(B++[x]).Nodup:=by rw [List.nodup_append];exact ⟨hB,by simp,λ a ha b hb e=>hm (by simp at hb;exact hb▸e▸ha)⟩
   refine w.Y2 (by simp [mP];exact nc (Nat.le_trans ON hz) rfl) ?_;refine ae (Zh hm) ?_;exact λ w=>.mk w.mG (w.aaH (fJ hz hS ON (by simp+arith only)) λ w=>ih (B++[x]) (S++[x]) w (λ y hy=>hx y (.tail _ hy)) hn (λ y hy=>by
     rcases List.mem_append.mp hy with q|q
     ·exact hl y q
     ·exact List.mem_singleton.mp q▸hx x (.head _)) (by simp;exact hS) λ new B' S' e1 e2 h1 h2 h3=>k (x::new) B' S' ((List.append_cons ..).trans e1) ((List.append_cons ..).trans e2) h1 (λ y hy=>by
     rcases List.mem_cons.mp hy with rfl|hy
     ·exact .head _
     ·exact .tail _ (h2 y hy)) λ y hy=>by
     rcases List.mem_cons.mp hy with rfl|hy
     ·refine cQ e1 ?_;simp
     ·exact h3 y hy)
def OO(H:Hp)(B S:List Nat):Prop:=∀b∈B,b∈S\/∀k,H.ai[b]?=some k->∀i∈k.2,i∈B
theorem Lf(hz:H.ai.length<=60)(lh:i0 H.ai)(k:∀B,B.Nodup->(∀x∈B,x<H.ai.length)->n∈B->OO H B []->∀l1(w':RS H K ((l1,.dI (mP B))::(l2,.list [])::R)),EG (O (d+1)) C (.ref l1) (.int n) (.ref 5) w'.σ):
  ∀(m:Nat)(B S:List Nat)(w:RS H K ((l1,.dI (mP B))::(l2,.list (nl S))::R)),S.length+H.ai.length=B.length+m->m<=100->B.Nodup->(∀x∈B,x<H.ai.length)->(∀x∈S,x<H.ai.length)->n∈B->OO H B S->
  nV (O (d+1)) C (.ref l1) (.int n) (.ref 5) (.ref l2) (m+1) w.σ:=λ m=>by
 induction m with
 |zero=>
  intro B S w hm _ hB hl _ hn hc;have:=lO hB hl;have e:S=[]:=List.length_eq_zero_iff.mp (Nat.le_antisymm (dc this (bS hm) (by simp+arith only)) (Nat.zero_le _));subst e;exact th (dp w.mG rfl (kU (Int.le_refl _) (k B hB hl hn hc _ w)))
 |succ m ih=>
  intro B S w hm T8 hB hl hS hn hc;have:=lO hB hl;rcases qG S with rfl|⟨S,s,rfl⟩
  ·exact th (dp w.mG rfl (kU (Int.le_refl _) (k B hB hl hn hc _ w)))
  ·have hk:=List.getElem?_eq_getElem (hS s (List.mem_append_right _ (.head _)));generalize H.ai[s]'_=kk at hk;simp only [List.length_append,List.length_cons,List.length_nil]at hm;refine th (dp w.mG (cN _) (qH (by simp) (w.pK (.mk w.mG (w.aaI λ w=>nz w hk (.t ⟨_,RT hz kk.2 B S w (λ x hx=>Nat.lt_trans (lh s kk hk x hx) (hS s (List.mem_append_right _ (.head _)))) hB hl (dc T8 (bS hm) (by simp+arith only)) λ new B' S' e1 e2 h1 h2 h3 w=>?_⟩))))));have pA:∀x∈new,x<H.ai.length:=λ x hx=>Nat.lt_trans (lh s kk hk x (h2 x hx)) (hS s (List.mem_append_right _ (.head _)));subst e1 e2;refine ih _ _ w (by simp;exact Nat.le_antisymm (bQ (bS hm) (by simp+arith only)) (bQ (b7 hm) (by simp+arith only))) (Nat.le_of_lt T8) h1 (λ x hx=>(List.mem_append.mp hx).elim (hl x) (pA x)) (λ x hx=>(List.mem_append.mp hx).elim (λ q=>hS x (List.mem_append_left _ q)) (pA x)) (List.mem_append_left _ hn) λ b hb=>?_;rcases List.mem_append.mp hb with hb|hb
   ·rcases hc b hb with q|q
    ·rcases List.mem_append.mp q with q|q
     ·exact .inl (List.mem_append_left _ q)
     ·cases List.mem_singleton.mp q;exact .inr λ k2 e=>by cases hk.symm.trans e;exact h3
    ·exact .inr λ k2 e i hi=>List.mem_append_left _ (q k2 e i hi)
   ·exact .inl (List.mem_append_right _ hb)
theorem OP(hf:dz H)(lh:i0 H.ai)(hn:n<H.ai.length):∀(i3 pre SB:List Nat)(w:RS H K ((l4,.dI (yo H.ai pre))::(l3,.list (nl SB))::R)),pre++i3=SB->SB.Pairwise (·<·)->(∀b∈SB,b<H.ai.length)->(∀b∈SB,∀k,H.ai[b]?=some k->∀i∈k.2,i∈SB)->n∈SB->SB.length<=100->
  (∀w':RS H K ((l4,.dI (yo H.ai SB))::(l3,.list (nl SB))::R),C (dn H.ai n) w'.σ)->qq (O (d+1)) C (.ref l4) (.int n) (.ref 5) (i3.length+1) (.list l3 pre.length) w.σ:=λ i3=>by
 induction i3 with
 |nil=>
  intro pre SB w e _ _ _ hm _ k;rw [List.append_nil]at e;subst e;exact Bp (.le w.mG (Nat.le_of_eq (cN _)) (.i w.jo (OK hm) (k w)))
 |cons b i3 ih=>
  intro pre SB w e hs hl hc hm hz k;have hb:b∈SB:=e▸List.mem_append_right _ (.head _);have hk:=List.getElem?_eq_getElem (hl b hb);generalize H.ai[b]'_=kk at hk;have BM:=hf.gf kk (List.mem_of_getElem? hk);have hp:=hs;rw [<-e,List.pairwise_append,List.pairwise_cons]at hp;have vW:∀j∈kk.2,j∈pre:=λ j hj=>by
   have h1:=hc b hb kk hk j hj;have h2:=lh b kk hk j hj;rw [<-e]at h1;rcases List.mem_append.mp h1 with q|q
   ·exact q
   ·rcases List.mem_cons.mp q with rfl|q
    ·omega
    ·have:=hp.2.1.1 j q;omega
  refine Bp (.ls w.mG (x:=.int b) (iI (by refine cQ e ?_;simp)) (w.RJ (K5 w hk (w.pK (nz w hk (.t (w.K4 (qr (O (d+1)) (.ref l4)) kk.2 _ (dn H.ai) rfl (fb BM rfl) (λ aa aa aa aa q=>Bo (.te q)) (λ x vs n l acc w Q hx q=>Bo (.ts (.i w.mG (OK (vW x hx)) (q w)))) λ l w=>.l w.jo (.t (by simp;exact nc (Nat.add_le_add_left BM _) rfl) ?_))))))));refine ae (show AV.tup ([.str kk.1]++kk.2.map (dn H.ai))=dn H.ai b from(nB lh hk).symm) ?_;have hlen:=congrArg List.length e;simp only [List.length_append,List.length_cons]at hlen;refine w.drop.Y2 (by simp [yo];exact dc hz (bS hlen) (by simp+arith only)) ?_;refine ae (Zk λ q=>Nat.lt_irrefl b (hp.2.2 b q b (.head _))) ?_;exact λ w=>List.length_append (as:=pre) (bs:=[b])▸ih (pre++[b]) SB w ((List.append_cons ..).symm.trans e) hs hl hc hm hz k
theorem RS.Zl{c:aR}{l:Nat}{B:List Nat}(w:RS H K (c::(l,.dI (mP B))::R))(hz:B.length<64)(k:∀l'(w':RS H K ((l',.list (nl (je B)))::c::(l,.dI (mP B))::R)),C (.ref l') w'.σ):dZ w.σ C [.ref l]:=
 .x (.d w.mG (by simpa [mP]using hz) (by rw [show(mP B).map (·.1)=B.map Int.ofNat by exact List.map_map ..,qK,ID];exact k _ (w.new _)))
theorem Vk(w:RS H K R)(hf:dz H)(hz:H.ai.length<=60)(lh:i0 H.ai)(hn:n<H.ai.length)(k:∀w':RS H K R,C (dn H.ai n) w'.σ):(O (d+2)).call .IY [.ref 5,.int n] w.σ C:=by refine YE ⟨List.getElem?_concat_length ..,?_⟩;rw [RL];refine RS.rB (w.new _:RS H K ((w.σ.length,.dI (mP [n]))::R)) _ λ l w=>.t ⟨_,Lf hz lh (λ B hB hl hm hc l1 w=>w.rB _ λ l4 w=>?_) H.ai.length [n] [n] (w.bI (.swap _ _ _)) (rfl) (nc hz rfl) (by simp) (by simpa using hn) (by simpa using hn) (.head _) λ aa h=>.inl h⟩;have hp:=l5 B;have ON:=lO hB hl;have qc:∀b,b∈je B↔b∈B:=λ b=>hp.mem_iff;refine w.Zl (fb (Nat.le_trans ON hz) rfl) λ l3 w=>.l w.jo ⟨_,OP (l4:=l4) hf lh hn (je B) [] (je B) (w.bI (.swap _ _ _)) rfl ?_ (λ b hb=>hl b ((qc b).mp hb)) (λ b hb k hk i hi=>(qc i).mpr (((hc b ((qc b).mp hb)).resolve_left (List.not_mem_nil)) k hk i hi)) ((qc n).mpr hm) (by refine ae hp.length_eq ?_;exact nc (Nat.le_trans ON hz) rfl) λ w=>k w.drop.drop.drop.drop⟩;exact ((Ct B).and (hp.nodup_iff.mpr hB)).imp λ ⟨p,q⟩=>(Nat.lt_of_le_of_ne p q)
end
end
section
open PySem
noncomputable def eG(C:Core)(c:Nat):List Nat:=(C.aV c).getD []
noncomputable def dJ(C:Core)(a b:Nat)(r:Option String):Core:=
  if ax C.ah a=ax C.ah b then{C with ay:=C.ay++[(a,b,r)]}
  else{vC C (ax C.ah a) (ax C.ah b)with
    ay:=C.ay++[(a,b,r)],aH:=C.aH++[C.ay.length]
    aV:=cM (cM C.aV (max (ax C.ah a) (ax C.ah b)) none) (min (ax C.ah a) (ax C.ah b)) (some (eG C (min (ax C.ah a) (ax C.ah b))++eG C (max (ax C.ah a) (ax C.ah b))))}
noncomputable def kW(H:Hp)(a b:Nat):List Nat:=if ax H.ah a=ax H.ah b then H.bT else H.bT++eG H.toCore (max (ax H.ah a) (ax H.ah b))
structure Ok(H:Hp):Prop where
  le:d6 H.ah
  bg:H.bg.length=H.ah.length
  ai:H.ai.length=H.ah.length
  below:i0 H.ai
  aV:∀c,H.ah[c]?=some c->∃L,H.aV c=some L
  known:∀p∈H.known,p.2<H.ah.length
  eO:∀c L,H.aV c=some L->c<H.ah.length
theorem Lh{ah:List Nat}(hp:d6 ah):∀(n a:Nat),a<n->a<ah.length->ah[nf ah n a]?=some (nf ah n a):=by
  intro bN;induction bN with
  |zero=>
    intro a h zz;exact if_pos h
  |succ n ih=>
    intro a h hl;obtain ⟨p,e⟩:∃p,ah[a]?=some p:=⟨_,List.getElem?_eq_getElem hl⟩
    have e':ah.getD a a=p:=by simp [List.getD_eq_getElem?_getD,e]
    rw [nu,e'];split
    · rename_i q;subst q;exact e
    · have:=hp a p e
      exact ih p (by lia) (Nat.lt_of_le_of_lt this hl)
theorem e7{ah:List Nat}(hp:d6 ah){a:Nat}(h:a<ah.length):ah[ax ah a]?=some (ax ah a):=Lh hp _ _ (Nat.lt_succ_self _) h
theorem pL{ah:List Nat}(hp:d6 ah){a:Nat}(h:a<ah.length):ax ah a<ah.length:=Nat.lt_of_le_of_lt (pH hp a) h
section
variable{H:Hp}
theorem dz.Zm(hf:dz H){E:List (Nat×Nat×Option String)}(hz:E.length<=1000):dz {H with ay:=E}:=
  ⟨hf.ai,hf.gf,hf.wt,hf.ah,hf.bg,hf.dC,hf.merged,hz,hf.aH,hf.known,hf.aV,hf.gC,hf.bT,hf.cz⟩
theorem OQ{ud:List (Nat×Nat)}{c l l':Nat}(hn:(ud.map (·.1)).Nodup)(h1:(c,l)∈ud)(h2:(c,l')∈ud):l=l':=by
  refine yL (jZ hn h1) λ A B e hA hB=>?_;subst e;rcases List.mem_append.mp h2 with q|q
  · exact absurd rfl (hA _ q)
  · rcases List.mem_cons.mp q with q|q
    · cases q;rfl
    · exact absurd rfl (hB _ q)
theorem kX{C:Core}{c:Nat}{L:List Nat}(h:C.aV c=some L):eG C c=L:=by simp [eG,h]
end
noncomputable def lP(yp:List dB)(gG:List Nat):List aR:=(yp.zip gG).flatMap jk
section
variable{σ:U} {H:Hp} {g:Gh} {R:List aR} {gG:List Nat}
theorem Rep.BN(h:Rep σ H g R)(c:List dB):Rep σ {H with bj:=c} g R:=⟨⟨h.ok.dC,h.ok.iG,h.ok.eo,h.ok.eO⟩,h.holds⟩
theorem Rep.uw(h:Rep σ H g R)(hf:dz H):g.ud.length<=1000:=by
  have:=lO (N:=1000) h.ok.eo λ c hc=>by refine d9 ((h.ok.eO c).mp hc) λ L hL=>?_;exact hf.aV c L hL
  simpa using this
theorem wA{yp:List dB}{c:dB}{l:Nat}(hl:gG.length=yp.length):lP (yp++[c]) (gG++[l])=lP yp gG++jk (c,l):=by unfold lP;refine ae (List.zip_append hl.symm) ?_;simp
theorem Li{yp:List dB}{c:dB}{l:Nat}(hl:gG.length=yp.length):((yp++[c]).zip (gG++[l])).map iY=(yp.zip gG).map iY++[iY (c,l)]:=by refine ae (List.zip_append hl.symm) ?_;exact List.map_append ..
noncomputable def fy(H:Hp)(a b:Nat)(r:Option String):Hp:=
  {H with toCore:=dJ H.toCore a b r,bT:=kW H a b,
           bj:=H.bj++[.jy (min (ax H.ah a) (ax H.ah b)) (eG H.toCore (min (ax H.ah a) (ax H.ah b))).length (max (ax H.ah a) (ax H.ah b)) (eG H.toCore (max (ax H.ah a) (ax H.ah b)))]}
theorem tG(ho:Ok H){a b:Nat}(ha:a<H.ah.length)(hb:b<H.ah.length):∃L,H.aV (min (ax H.ah a) (ax H.ah b))=some L:=by
  rcases Nat.le_total (ax H.ah a) (ax H.ah b)with q|q
  · refine ae (Nat.min_eq_left q) ?_;exact ho.aV _ (e7 ho.le ha)
  · refine ae (Nat.min_eq_right q) ?_;exact ho.aV _ (e7 ho.le hb)
theorem tH(ho:Ok H){a b:Nat}(ha:a<H.ah.length)(hb:b<H.ah.length):∃L,H.aV (max (ax H.ah a) (ax H.ah b))=some L:=by
  rcases Nat.le_total (ax H.ah a) (ax H.ah b)with q|q
  · refine ae (Nat.max_eq_right q) ?_;exact ho.aV _ (e7 ho.le hb)
  · refine ae (Nat.max_eq_left q) ?_;exact ho.aV _ (e7 ho.le ha)
end
section
variable{H:Hp} {K:Ext} {R:List aR} {C:PV} {A:U->Prop} {c l:Nat} {L:List Nat} (w:RS H K R)
theorem RS.ud(w:RS H K R):w.g.ud=K.ud:=congrArg Ext.ud w.k
theorem RS.uw(w:RS H K R)(hf:dz H):K.ud.length<=1000:=w.ud▸w.rep.uw hf
theorem RS.yq(hm:(c,l)∈K.ud)(h:H.aV c=some L):w.σ[l]?=some (.list (nl L)):=
  vK (w.rep.CL h) λ A B l' e aa aa h=>by
    have e':(c,l')∈K.ud:=by refine cQ w.ud<|ae e ?_;exact List.mem_append_right _ (.head _)
    exact OQ (w.ud▸w.rep.ok.eo) e' hm▸h
theorem RS.gC(h:H.aV c=some L)(k:∀l,(c,l)∈K.ud->w.σ[l]?=some (.list (nl L))->C (.ref l) w.σ):aj w.σ C (.ref 19) (.int c):=
  vK (w.rep.CL h) λ A B l e hA aa h=>.i w.rep.zt (by refine ae e ?_;exact nA hA) (k l (by refine cQ w.ud<|ae e ?_;exact List.mem_append_right _ (.head _)) h)
theorem RS.aaS(hm:(c,l)∈K.ud)(k:C (.ref l) w.σ):aj w.σ C (.ref 19) (.int c):=by obtain ⟨A,B,e,hA,_⟩:=jZ w.rep.ok.eo (w.ud.symm▸hm);exact .i w.rep.zt (by refine ae e ?_;exact nA hA) k
theorem RS.Vl(hm:(c,l)∈K.ud)(h:H.aV c=some L)(hz:K.ud.length<=1000)(k:∀ud,(∀c' l',c'≠c->(c',l')∈K.ud->(c',l')∈ud)->ud.length<=1000->∀w':RS (H.fw (cM H.aV c none)) {K with ud:=ud} ((l,.list (nl L))::R),C (.ref l) w'.σ):ue 19 w.σ C [.int c]:=by
  obtain ⟨A,B,e,hA,hB⟩:=jZ w.rep.ok.eo (w.ud.symm▸hm);have r:=w.rep.ur e hA hB;rw [show us H c=L by simp [us,h]]at r;refine .mk w.rep.zt (by simpa [eI,w.ud]using Nat.le_trans hz (by decide)) (by refine ae e ?_;exact nA hA) ?_;refine ae e<|ae (Iy hA hB) ?_;refine k (A++B) (λ c' l' hc q=>?_) (by rw [<-w.ud,e]at hz;simp at hz⊢;exact Nat.le_of_lt hz) ⟨_,_,r,congrArg (λ e:Ext=>(⟨A++B,e.K⟩:Ext)) w.k⟩;rw [<-w.ud,e]at q;rcases List.mem_append.mp q with q|q
  · exact List.mem_append_left _ q
  · rcases List.mem_cons.mp q with q|q
    · cases q;exact absurd rfl hc
    · exact List.mem_append_right _ q
theorem RS.qJ{l':Nat}{L':List Nat}(w:RS H K ((l',.list (nl L'))::R))(h:H.aV c=some L)(hz:K.ud.length<=1000)(k:∀ud,ud.length=K.ud.length->∀w':RS (H.fw (cM H.aV c (some L'))) {K with ud:=ud} R,A w'.σ):cP (.ref l') w.σ A (.ref 19) (.int c):=
  vK (w.rep.CL h) λ A' B' l e hA hB aa=>.i w.rep.zt (by simpa [eI,w.ud]using Nat.le_trans hz (by decide)) (by refine ae e<|ae (Vb hA hB) ?_;exact k _ (by refine cQ w.ud<|ae e ?_;simp) ⟨_,_,w.rep.qJ e hA hB,congrArg (λ e:Ext=>(⟨_,e.K⟩:Ext)) w.k⟩)
theorem RS.Vm(h:w.σ[l]?=some (.list (nl L)))(hz:H.bT.length+L.length<=10000)(k:∀w':RS (H.wm (H.bT++L)) K R,A w'.σ):sd w.g.wl w.σ A (.ref l):=
  .mk w.rep.cW h (by rwa [cN,cN]) (Ff ..▸k ⟨_,w.g,w.rep.Iv _,w.k⟩)
theorem RS.T9{e:Nat×Nat×Option String}(h:H.ay.length<10000)(k:∀w':RS (H.tD (H.ay++[e])) K R,A w'.σ):b6 (iE e) w.σ A 16:=
  .mk w.rep.tC (by rwa [List.length_map]) (by refine ae (show H.ay.map iE++[iE e]=(H.ay++[e]).map iE by simp) ?_;exact k ⟨_,w.g,w.rep.Fj _,w.k⟩)
theorem RS.aaT{x:Nat}(h:H.aH.length<10000)(k:∀w':RS (H.uj (H.aH++[x])) K R,A w'.σ):b6 (.int x) w.σ A 17:=
  .mk w.rep.E_ (by rwa [cN]) (kT ..▸k ⟨_,w.g,w.rep.BK _,w.k⟩)
theorem RS.T_{x:AV}(h:K.K.length<10000)(k:∀w':RS H {K with K:=K.K++[x]} R,A w'.σ):b6 x w.σ A 21:=
  have e:w.g.K=K.K:=congrArg Ext.K w.k
  .mk w.rep.BH (by rwa [e]) (by refine ae e ?_;exact k ⟨_,_,w.rep.Y5 _,congrArg (λ e:Ext=>(⟨e.ud,K.K++[x]⟩:Ext)) w.k⟩)
end
section
variable{H:Hp} {K:Ext} {R:List aR} {C:PV} {d a b:Nat} (w:RS H K R)
theorem RU(hf:dz H)(ho:Ok H)(ha:a<H.ah.length)(hb:b<H.ah.length)(r:Option String)(he:ax H.ah a=ax H.ah b)(ly:H.ay.length<1000)(k:∀w':RS (H.tD (H.ay++[(a,b,r)])) K R,C (.bool false) w'.σ):
    (O (d+3)).call .wM [.ref 3,.int a,.int b,jY r] w.σ C:=
  Ip (w.gT (.mk w.rep.tC (w.T9 (e:=(a,b,r)) (Nat.lt_trans ly (by decide)) λ w=>w.ig (w.Fe (G0 w ho.le ha hb he λ w=>.nn (k w))))))
theorem RV(hf:dz H)(ho:Ok H)(ha:a<H.ah.length)(hb:b<H.ah.length)(r:Option String)(cD:ax H.ah a≠ax H.ah b)(ly:H.ay.length<1000){l:Nat}(hl:(max (ax H.ah a) (ax H.ah b),l)∈K.ud)
    (k:∀ud(w':RS {H with toCore:=dJ H.toCore a b r,bT:=kW H a b} {K with ud:=ud} ((l,.list (nl (eG H.toCore (max (ax H.ah a) (ax H.ah b)))))::R)),C (.bool true) w'.σ):
    (O (d+3)).call .wM [.ref 3,.int a,.int b,jY r] w.σ C:=by
  have Xn:=hf.bT;have hff:=hf.aH;have BO:=w.uw hf;obtain ⟨Lk,oH⟩:=tG ho ha hb;obtain ⟨Lg,oI⟩:=tH ho ha hb;unfold dJ kW at k;rw [if_neg cD,if_neg cD,kX oH,kX oI]at k;generalize hx:ax H.ah a=x at*;generalize hy:ax H.ah b=y at*;have vF:min x y≠max x y:=L8 cD;have HG:Lk.length<=1000:=by have:=hf.gC (min x y);simpa [us,oH]using this
  have hlg:Lg.length<=1000:=by have:=hf.gC (max x y);simpa [us,oI]using this
  refine Ip (w.gT (.mk w.rep.tC (w.T9 (e:=(a,b,r)) (Nat.lt_trans ly (by decide)) λ w=>w.ig (w.Fe (OG w (hf.Zm (by simp;exact Nat.le_of_lt_succ ly)) ho.le ha hb hx hy cD ho.bg λ w=>.tn (.t ?_))))));generalize min x y=kept at*;generalize max x y=gone at*;refine w.wq (.mk w.rep.E_ (w.gT (w.T5 (lM (List.length_append ..) (w.aaT (Nat.lt_of_le_of_lt hff (by decide)) λ w=>w.mi (.mk w.rep.cW (w.fU (w.aaS hl (w.Vm (w.yq hl oI) (show H.bT.length+Lg.length<=10000 by exact SQ Xn hlg rfl) λ w=>w.fU (w.gC (L:=Lk) oH λ lk HG c=>w.fU (.mk w.rep.c19 ⟨_,rfl⟩ (w.Vl hl (L:=Lg) oI BO λ ud hud ack w=>?_))))))))))));have e6:cM H.aV gone none kept=some Lk:=by rw [cM,if_neg vF];exact oH
  refine .l ((w.yq (hud _ _ vF HG) e6)) w.jo (by rw [cN,cN];omega) ?_;rw [<-Ff];exact RS.fU (w.new _) (RS.qJ (w.new _) (c:=kept) (L:=Lk) e6 ack λ ud aa w=>k ud w)
end
end
section
set_option genInjectivity false
set_option genSizeOf false
open PySem
structure LX where
 ud:List (Nat×Nat)
 gG:List Nat
noncomputable def LX.K(x:LX)(cs:List dB):Ext:=⟨x.ud,(cs.zip x.gG).map iY⟩
noncomputable def LX.R(x:LX)(cs:List dB)(R:List aR):List aR:=lP cs x.gG++R
structure LS(H:Hp)(R:List aR)where
 x:LX
 w:RS H (x.K H.bj) (x.R H.bj R)
 len:x.gG.length=H.bj.length
noncomputable abbrev LS.ud{H:Hp}{R:List aR}(w:LS H R):List (Nat×Nat):=w.x.ud
noncomputable abbrev LS.gG{H:Hp}{R:List aR}(w:LS H R):List Nat:=w.x.gG
noncomputable def RS.to{H H':Hp}{K K':Ext}{R R':List aR}(w:RS H K R)(rep:Rep w.σ H' w.g R')(k:K=K'):RS H' K' R':=⟨w.σ,w.g,rep,w.k.trans k⟩
section
variable{H:Hp} {R:List aR} {C:PV} {d a b:Nat} (w:LS H R)
theorem LS.Lj:(w.x.K H.bj).K.length=H.bj.length:=by simp [LX.K,w.len]
theorem IE(hf:dz H)(ho:Ok H)(ha:a<H.ah.length)(hb:b<H.ah.length)(r:Option String)(ly:H.ay.length<1000)(nZ:H.bj.length<=1000)(k:∀q(w':LS (fy H a b r) R),C (.bool q) w'.w.σ):
  (O (d+4)).call .join [.ref 3,.int a,.int b,jY r] w.w.σ C:=by
 obtain ⟨Lk,oH⟩:=tG ho ha hb;obtain ⟨Lg,oI⟩:=tH ho ha hb;refine YL<|w.w.mj<|ku w.w ho.le ha<|w.w.mj<|ku w.w ho.le hb<|w.w.rB _ λ l w2=>w2.K_ λ l w2=>.l w2.jo<|w2.drop.jd<|.mk w2.drop.rep.BH<|w2.drop.fU<|w2.drop.gC oH λ lk aa c=>dp c (cN _)<|w2.drop.fU<|w2.drop.gC oI λ l hl aa=>w2.drop.T_ (x:=iY (.jy (min (ax H.ah a) (ax H.ah b)) Lk.length (max (ax H.ah a) (ax H.ah b)) Lg,l)) (by refine ae w.Lj ?_;exact fb nZ rfl) λ w2=>.mk (f:=.wM) w2.rep.c3 w2.rep.c4 (by kernel_rfl) ?_
 have eK:(⟨w.ud,(H.bj.zip w.gG).map iY++[iY (.jy (min (ax H.ah a) (ax H.ah b)) Lk.length (max (ax H.ah a) (ax H.ah b)) Lg,l)]⟩:Ext)=⟨w.ud,((fy H a b r).bj.zip (w.gG++[l])).map iY⟩:=by simp only [fy,kX oH,kX oI,Li w.len]
 have eC:lP (fy H a b r).bj (w.gG++[l])=lP H.bj w.gG++jk (.jy (min (ax H.ah a) (ax H.ah b)) Lk.length (max (ax H.ah a) (ax H.ah b)) Lg,l):=by simp only [fy,kX oH,kX oI,wA w.len]
 have el:(w.gG++[l]).length=(fy H a b r).bj.length:=by simp [fy,w.len]
 by_cases cD:ax H.ah a=ax H.ah b
 ·refine RU w2 hf ho ha hb r cD ly λ w3=>k _ ⟨⟨_,w.gG++[l]⟩,w3.to ?_ eK,el⟩;have this:=w3.rep.BN (fy H a b r).bj;revert this;generalize w3.σ=s3;generalize w3.g=g3;dsimp only [LX.R];rw [eC,cD,tB,if_pos (by exact rfl),List.append_nil,show(fy H a b r)={H with ay:=H.ay++[(a,b,r)],bj:=(fy H a b r).bj} by unfold fy dJ kW;rw [if_pos cD,if_pos cD]];exact id
 ·refine RV w2 hf ho ha hb r cD ly hl λ ud w3=>k _ ⟨⟨ud,w.gG++[l]⟩,w3.to ?_ (congrArg (λ e:Ext=>(⟨ud,e.K⟩:Ext)) eK),el⟩;dsimp only [LX.R];rw [eC,tB,if_neg (L8 cD),List.append_assoc];have this:=w3.rep.BN (fy H a b r).bj;revert this;generalize w3.σ=s3;generalize w3.g=g3;refine ae (kX oI) ?_;exact λ h=>h.bI List.perm_middle.symm
end
end
section
set_option genInjectivity false
set_option genSizeOf false
open PySem
noncomputable def gx(x:List (aM×Nat))(k:aM):Option Nat:=(x.find? λ p=>decide (p.1=k)).map (·.2)
theorem ux(x:List (aM×Nat))(k:aM):bD (fQ x) (eh k)=(gx x k).map λ(v:Nat)=>AV.int v:=by
 unfold bD gx fQ;rw [List.find?_map];simp only [Option.map_map];have:((λ kv:List AK×AV=>decide (kv.1=eh k))∘λ p:aM×Nat=>(eh p.1,AV.int p.2))=λ p=>decide (p.1=k):=by
  funext p;simp only [Function.comp];by_cases h:p.1=k
  ·simp [h]
  ·exact ae (decide_eq_false h)<|ae (decide_eq_false (λ q=>h (jl q))) rfl
 refine ae this ?_;rfl
theorem BP{x:List (aM×Nat)}{k:aM}{v:Nat}(h:gx x k=some v):(k,v)∈x:=by unfold gx at h;refine bA (Option.map_eq_some_iff.mp h) λ p hp e=>?_;have h1:=List.find?_some hp;have h2:=List.mem_of_find?_eq_some hp;simp only [decide_eq_true_eq]at h1;obtain ⟨a,b⟩:=p;simp only at h1 e;refine cQ h1<|cQ e ?_;exact h2
theorem yr{x:List (aM×Nat)}{k:aM}(h:gx x k=none):∀p∈x,p.1≠k:=by unfold gx at h;rw [Option.map_eq_none_iff,List.find?_eq_none]at h;intro p hp e;exact h p hp (decide_eq_true e)
noncomputable def tI(H:Hp)(n:Nat):aM:=H.ai.getD n ("",[])
noncomputable def i4(H:Hp)(n:Nat):aM:=iZ H.ah (tI H n)
noncomputable def ik(H:Hp)(n:Nat):Hp:=if n=H.made then{H with made:=n+1,bj:=H.bj++[.made n]}else H
noncomputable def kY(H:Hp)(n:Nat):Hp:=
 match gx H.known (i4 H n)with
 |none=>{ik H n with known:=H.known++[(i4 H n,n)],bj:=(ik H n).bj++[.known (i4 H n)]}
 |some v=>if ax H.ah v=ax H.ah n then ik H n else fy (ik H n) v n none
theorem Vn(wl d4 made x:Nat):dY (hd wl d4 made) "made" (.int x)=hd wl d4 x:=by kernel_rfl
theorem RW(wl d4 made x:Nat):dY (hd wl d4 made) "backs" (.int x)=hd wl x made:=by kernel_rfl
theorem Ll(wl d4 made x:Nat):dY (hd wl d4 made) "waiting" (.ref x)=hd x d4 made:=by kernel_rfl
section
variable{H:Hp}
theorem Ok.same{H H':Hp}(h:Ok H)(h1:H'.ai=H.ai)(h2:H'.ah=H.ah)(h3:H'.bg=H.bg)(h4:H'.aV=H.aV)(h5:H'.known=H.known):Ok H':=
 ⟨by refine ae h2 ?_;exact h.le,by refine ae h2<|ae h3 ?_;exact h.bg,by refine ae h1<|ae h2 ?_;exact h.ai,by refine ae h1 ?_;exact h.below,by refine ae h2<|ae h4 ?_;exact h.aV,by refine ae h5<|ae h2 ?_;exact h.known,by refine ae h4<|ae h2 ?_;exact h.eO⟩
theorem dz.adb(hf:dz H){E:List (aM×Nat)}(hz:E.length<=1000):dz {H with known:=E}:=
 ⟨hf.ai,hf.gf,hf.wt,hf.ah,hf.bg,hf.dC,hf.merged,hf.ay,hf.aH,hz,hf.aV,hf.gC,hf.bT,hf.cz⟩
theorem dz.CP(hf:dz H)(x:Nat)(c:List dB):dz {H with made:=x,bj:=c}:=
 ⟨hf.ai,hf.gf,hf.wt,hf.ah,hf.bg,hf.dC,hf.merged,hf.ay,hf.aH,hf.known,hf.aV,hf.gC,hf.bT,hf.cz⟩
theorem dz.RX(hf:dz H){W:List Nat}(hz:W.length<=1000):dz {H with bT:=W}:=
 ⟨hf.ai,hf.gf,hf.wt,hf.ah,hf.bg,hf.dC,hf.merged,hf.ay,hf.aH,hf.known,hf.aV,hf.gC,hz,hf.cz⟩
end
noncomputable def CQ(H:Hp)(n:Nat):Hp:=match gx H.known (i4 H n)with
 |none=>{H with known:=H.known++[(i4 H n,n)],bj:=H.bj++[.known (i4 H n)]}
 |some v=>if ax H.ah v=ax H.ah n then H else fy H v n none
theorem RY(H:Hp)(n:Nat):kY H n=CQ (ik H n) n:=by
 unfold kY CQ ik;by_cases h:n=H.made
 ·simp only [if_pos h];rfl
 ·simp only [if_neg h]
structure RZ(H:Hp):Prop where
 jf:dz H
 ok:Ok H
 ay:H.ay.length<1000
 bj:H.bj.length<=900
 known:H.known.length<1000
 mH:∀n∈H.bT,n<H.ah.length
inductive pM:Hp->Hp->Nat->Prop
 |done {H:Hp}:RZ H->H.bT=[]->pM H H 0
 |step {H H':Hp} {W:List Nat} {n k:Nat}:RZ H->H.bT=W++[n]->pM (kY {H with bT:=W} n) H' k->pM H H' (k+1)
section
variable{σ:U} {H:Hp} {g:Gh} {R:List aR}
theorem Rep.Vo{l:Nat}{m:Nat}{W:List Nat}(h:Rep σ H g ((l,.list (nl W))::R)):Rep (σ.set 22 (.list (((H.cz++[(m,W)]).zip (g.dj++[l])).map λ p=>.tup [.int p.1.1,.ref p.2]))) {H with cz:=H.cz++[(m,W)]} {g with dj:=g.dj++[l]} R:=by
 refine h.jz (l:=22) (old:=.list ((H.cz.zip g.dj).map λ p=>.tup [.int p.1.1,.ref p.2])) (List.mem_of_getElem? (i:=18) rfl) rfl ?_ ⟨h.ok.dC,by simp [h.ok.iG],h.ok.eo,h.ok.eO⟩;have e3:ew {H with cz:=H.cz++[(m,W)]} {g with dj:=g.dj++[l]}=ew H g++[(l,.list (nl W))]:=by simp only [ew];refine ae (List.zip_append h.ok.iG.symm) ?_;exact List.map_append ..
 simp only [dq,e3];refine (?_:List.Perm (eW H g++eX H g++fj H g++ew H g++((l,.list (nl W))::R)) (eW H g++eX H g++fj H g++(ew H g++[(l,.list (nl W))])++R));simp only [List.append_assoc,List.singleton_append];exact List.Perm.refl _
end
section
variable{H:Hp} {K:Ext} {R:List aR} {C:PV} {A B:U->Prop} {d n:Nat} {k:aM} (w:RS H K R)
theorem RS.acm(h:gx H.known k=none)(p:A w.σ):fM w.σ (cj A B) (bq k) (.ref 18):=.t w.rep.Fl (gD k) (by rw [ux,h];exact p)
theorem RS.inK{v:Nat}(h:gx H.known k=some v)(p:B w.σ):fM w.σ (cj A B) (bq k) (.ref 18):=.t w.rep.Fl (gD k) (by rw [ux,h];exact p)
theorem RS.acn(h:gx H.known k=none)(hz:H.known.length<1000)(c:∀w':RS (H.Fb (H.known++[(k,n)])) K R,C (.int n) w'.σ):i' 18 w.σ C [bq k,.int n]:=
 .new w.rep.Fl (gD k) (by rw [tF];exact nc (Nat.le_of_lt hz) rfl) (by rw [ux,h];rfl) (by refine ae (OI n (yr h)) ?_;exact c ⟨_,w.g,w.rep.Fm _,w.k⟩)
theorem RS.aco{v:Nat}(h:gx H.known k=some v)(hz:H.known.length<1000)(c:C (.int v) w.σ):i' 18 w.σ C [bq k,.int n]:=
 .old w.rep.Fl (gD k) (by rw [tF];exact nc (Nat.le_of_lt hz) rfl) (by rw [ux,h];rfl) c
theorem RS.uo(c:∀w':RS (H.aaE n) K R,A w'.σ):bG "made" (.int n) w.σ A (.ref 3):=.mk w.rep.c3 w.rep.c4 (by kernel_rfl) (Nat.le_of_ble_eq_true rfl) (by rw [Vn];exact c ⟨_,w.g,w.rep.uo n,w.k⟩)
theorem qL{s:U}{a:Nat}(k:C (.int (a+1:Nat)) s):cq s C (.int a) (.int 1):=.i k
theorem wB(hf:dz H)(ho:Ok H)(hn:n<H.ah.length)(c:∀w':RS H K R,C (bq (i4 H n)) w'.σ):(O (d+3)).call .gf [.ref 3,.int n] w.σ C:=
 have hk:H.ai[n]?=some (tI H n):=by unfold tI;refine ae List.getD_eq_getElem?_getD<|ae (List.getElem?_eq_getElem (by rw [ho.ai];exact hn)) ?_;rfl
 Va w ho.le hf hk (λ x hx=>Nat.lt_trans (ho.below n _ hk x hx) hn) c
theorem RS.acp{W:List Nat}(h:H.bT=W++[n])(k:∀w':RS (H.wm W) K R,C (.int n) w'.σ):fO w.σ C w.g.wl:=.mk (xs:=nl W) (by rw [w.rep.cW,h,kT]) (k ⟨_,w.g,w.rep.Iv W,w.k⟩)
end
section
variable{H:Hp} {R:List aR} {C:PV} {A:U->Prop} {d n:Nat} (w:LS H R)
theorem LS.Zn(c:dB)(hc:jk (c,0)=[])(hz:H.bj.length<10000)(k:∀w':LS (H.wo (H.bj++[c])) R,A w'.w.σ):b6 (iY (c,0)) w.w.σ A 21:=
 w.w.T_ (by rwa [w.Lj]) λ w2=>k ⟨⟨w.ud,w.gG++[0]⟩,w2.to (by have:=w2.rep.BN (H.bj++[c]);revert this;generalize w2.σ=s;generalize w2.g=g;dsimp only [LX.R];rw [show(H.wo (H.bj++[c])).bj=H.bj++[c] from rfl,wA w.len,hc,List.append_nil];exact id) (congrArg (Ext.mk w.ud) (Li w.len).symm),by refine (?_:_=(H.bj++[c]).length);simp [w.len]⟩
theorem G2(hf:dz H)(ho:Ok H)(hn:n<H.ah.length)(tJ:H.known.length<1000)(e:gx H.known (i4 H n)=none)(k:∀w':LS (H.Fb (H.known++[(i4 H n,n)])) R,C .none w'.w.σ):(O (d+5)).call .ni [.ref 3,.int n] w.w.σ C:=
 Bu<|w.w.uk<|.mk w.w.rep.YP ⟨_,rfl⟩<|w.w.Fc<|wB w.w hf ho hn λ w2=>w2.acn e tJ λ w2=>w2.mj<|ku w2 ho.le hn<|w2.mj<|ku w2 ho.le hn<|zp rfl<|k ⟨w.x,w2,w.len⟩
theorem G3(hf:dz H)(ho:Ok H)(hn:n<H.ah.length)(ly:H.ay.length<1000)(nZ:H.bj.length<=1000)(tJ:H.known.length<1000){v:Nat}(e:gx H.known (i4 H n)=some v)(k:∀w':LS (if ax H.ah v=ax H.ah n then H else fy H v n none) R,C .none w'.w.σ):
  (O (d+5)).call .ni [.ref 3,.int n] w.w.σ C:=by
 have hv:=ho.known _ (BP e);refine Bu<|w.w.uk<|.mk w.w.rep.YP ⟨_,rfl⟩<|w.w.Fc<|wB w.w hf ho hn λ w2=>w2.aco e tJ<|w2.mj<|ku w2 ho.le hv<|w2.mj<|ku w2 ho.le hn ?_;by_cases he:ax H.ah v=ax H.ah n
 ·rw [if_pos he]at k;exact zp he<|k ⟨w.x,w2,w.len⟩
 ·rw [if_neg he]at k;exact K0 he<|w2.OA<|IE ⟨w.x,w2,w.len⟩ hf ho hv hn none ly nZ λ q w=>k w
theorem vG(hf:dz H)(ho:Ok H)(hn:n<H.ah.length)(ly:H.ay.length<1000)(nZ:H.bj.length<=950)(tJ:H.known.length<1000)(k:∀w':LS (CQ H n) R,C .none w'.w.σ):qw (O (d+5)) C (.int n) (.ref 3) w.w.σ:=by
 refine w.w.Fc<|wB w.w hf ho hn λ w2=>w2.uk ?_;unfold CQ at k;cases e:gx H.known (i4 H n)with
 |none=>
  rw [e]at k;exact w2.acm e<|w2.jd<|.mk w2.rep.BH<|LS.Zn ⟨w.x,w2,w.len⟩ (.known (i4 H n)) rfl (fb nZ rfl) λ w=>.mk (f:=.ni) w.w.rep.c3 w.w.rep.c4 (by kernel_rfl)<|G2 w (hf.CP H.made _) (ho.same rfl rfl rfl rfl rfl) hn tJ e k
 |some v=>rw [e]at k;exact w2.inK e<|.mk (f:=.ni) w2.rep.c3 w2.rep.c4 (by kernel_rfl)<|G3 ⟨w.x,w2,w.len⟩ hf ho hn ly (nc nZ rfl) tJ e k
theorem BQ(hf:dz H)(ho:Ok H)(hn:n<H.ah.length)(ly:H.ay.length<1000)(nZ:H.bj.length<=900)(tJ:H.known.length<1000)(k:∀w':LS (kY H n) R,C .none w'.w.σ):(O (d+6)).call .wO [.ref 3,.int n] w.w.σ C:=by
 rw [RY]at k;unfold ik at k;refine Rw<|w.w.YS ?_;by_cases h:n=H.made
 ·rw [if_pos h]at k;exact zq h<|w.w.jd<|.mk w.w.rep.BH<|w.Zn (.made n) rfl (fb nZ rfl) λ w=>qL<|w.w.uo λ w2=>vG ⟨w.x,w2,w.len⟩ (hf.CP _ _) (ho.same rfl rfl rfl rfl rfl) hn ly (by show(H.bj++[_]).length<=950;simp;exact nc nZ rfl) tJ k
 ·rw [if_neg h]at k;exact wx h<|vG w hf ho hn ly (nc nZ rfl) tJ k
theorem BR{H H':Hp}{m:Nat}(hs:pM H H' m)(w:LS H R)(k:∀w':LS H' R,C .none w'.w.σ):(O (d+7)).call .rJ [.ref 3] w.w.σ C:=by
 refine Rv ⟨m+1,?_⟩;induction hs with
 |done h hw=>exact vu<|w.w.mi<|dp w.w.rep.cW (by refine ae hw ?_;rfl)<|kU (Int.le_refl _)<|k w
 |@step H H' W n m h hw _ ih=>exact vu<|w.w.mi<|dp w.w.rep.cW (cN _)<|qH (by refine ae hw ?_;simp)<|w.w.Fd<|w.w.mi<|.mk w.w.rep.cW<|w.w.acp hw λ w2=>BQ ⟨w.x,w2,w.len⟩ (h.jf.RX (by have:=h.jf.bT;rw [hw]at this;simp at this;exact Nat.le_succ_of_le this)) (h.ok.same rfl rfl rfl rfl rfl) (h.mH n (by refine ae hw ?_;exact List.mem_append_right _ (.head _))) h.ay h.bj h.known λ w=>ih w k
theorem Vp(hf:dz H)(nZ:H.bj.length<=900)(k:∀w':LS (H.Oy (H.cz++[(H.bj.length,H.bT)])) R,C .none w'.w.σ):(O (d+1)).call .push [.ref 3] w.w.σ C:=by
 have hzm:=hf.cz;have e:(H.cz.zip w.w.g.dj).length=H.cz.length:=by simp [w.w.rep.ok.iG]
 refine YK<|w.w.zl<|.mk w.w.rep.Ox<|w.w.jd<|dp w.w.rep.BH ((congrArg (λ e:Ext=>e.K.length) w.w.k).trans w.Lj)<|w.w.mi<|.l<|.l w.w.rep.cW<|.mk (w.w.new (.list (nl H.bT))).rep.Ox (by rw [List.length_map,show(w.w.new (.list (nl H.bT))).g=w.w.g from rfl,e];exact fb hzm rfl) ?_;have r:=Rep.Vo (m:=H.bj.length) (w.w.rep.new (.list (nl H.bT)));rw [List.zip_append w.w.rep.ok.iG.symm,List.map_append]at r;exact k ⟨w.x,⟨_,_,r,w.w.k⟩,w.len⟩
theorem R0(hf:dz H)(ho:Ok H){a b:Nat}(ha:a<H.ah.length)(hb:b<H.ah.length)(r:Option String)(ly:H.ay.length<1000)(nZ:H.bj.length<=1000)(k:∀q(w':LS (fy H a b r) R),C (.bool q) w'.w.σ):
  (O (d+5)).call .merge [.ref 3,.int a,.int b,jY r] w.w.σ C:=U9<|w.w.OA<|IE w hf ho ha hb r ly nZ k
end
end
section
open PySem
noncomputable def dP:List Nat->List Nat
 |[]=>[]
 |x::r=>if(dP r).contains x then dP r else x::dP r
theorem qM(x:Nat)(r:List Nat):dP (x::r)=if(dP r).contains x then dP r else x::dP r:=rfl
theorem R1:dP []=[]:=rfl
theorem Fz:∀l:List Nat,ia (l.map Int.ofNat)=(dP l).map Int.ofNat
 |[]=>rfl
 |x::r=>by
  rw [List.map_cons,ia,Fz r,qM];have e:((dP r).map Int.ofNat).contains (Int.ofNat x)=(dP r).contains x:=by rw [Bool.eq_iff_iff];simp only [List.contains_iff_mem,List.mem_map];exact ⟨λ ⟨y,hy,e⟩=>by rwa [show x=y from(Int.ofNat.inj e).symm],λ h=>⟨x,h,rfl⟩⟩
  refine ae e ?_;split<;>rfl
noncomputable def gE(ah ks:List Nat):List Nat:=je (dP (ks.map (ax ah)))
noncomputable def wC(n:Nat):List Nat->(Nat->Option (List Nat))->Nat->Option (List Nat)
 |[],f=>f
 |c::r,f=>wC n r (cM f c (some ((f c).getD []++[n])))
theorem OS(n c:Nat)(r:List Nat)(f:Nat->Option (List Nat)):wC n (c::r) f=wC n r (cM f c (some ((f c).getD []++[n]))):=rfl
noncomputable def dg(C:Core)(k:aM):Core:={C with
 ai:=C.ai++[k],ah:=C.ah++[C.ah.length],bg:=C.bg++[[C.ah.length]]
 aV:=wC C.ah.length (gE (C.ah++[C.ah.length]) k.2) (cM C.aV C.ah.length (some []))}
theorem fk{l:List Nat}{x:Nat}:x∈dP l↔x∈l:=by
 induction l with
 |nil=>exact Iff.rfl
 |cons y r ih=>
  rw [qM];split
  ·rename_i h;rw [List.contains_iff_mem]at h;rw [ih,List.mem_cons];exact ⟨.inr,λ q=>by rcases q with rfl|q;exact ih.mp h;exact q⟩
  ·rw [List.mem_cons,List.mem_cons,ih]
theorem gU:∀l:List Nat,(dP l).Nodup
 |[]=>List.nodup_nil
 |y::r=>by
  rw [qM];split
  ·exact gU r
  ·rename_i h;rw [List.contains_iff_mem]at h;exact List.nodup_cons.mpr ⟨h,gU r⟩
theorem wD{ah ks:List Nat}{c:Nat}:c∈gE ah ks↔∃k∈ks,ax ah k=c:=by unfold gE;rw [(l5 _).mem_iff,fk,List.mem_map]
theorem yt(ah ks:List Nat):(gE ah ks).Nodup:=(l5 _).nodup_iff.mpr (gU _)
theorem yu:∀l:List Nat,(dP l).length<=l.length
 |[]=>Nat.le_refl _
 |y::r=>by have:=yu r;rw [qM];split<;>simp<;>lia
theorem FA(ah ks:List Nat):(gE ah ks).length<=ks.length:=by unfold gE;refine ae ((l5 _).length_eq) ?_;exact Nat.le_trans (yu _) (by simp)
noncomputable def wF(H:Hp)(k:aM):Hp:=kY {H with toCore:=dg H.toCore k} H.ah.length
section
variable{H:Hp} {K:Ext} {R:List aR} {C:PV} {A B:U->Prop} {d n l c:Nat} {L:List Nat} (w:RS H K R)
theorem RS.uu(w:RS H K ((l,.list (nl L))::R))(h:H.aV c=none)(hz:K.ud.length<=1000){f:Nat->Option (List Nat)}(e:cM H.aV c (some L)=f)(k:∀ud(w':RS (H.fw f) {K with ud:=ud} R),A w'.σ):cP (.ref l) w.σ A (.ref 19) (.int c):=by
 subst e;have hA:=w.rep.Y6 h;exact
 .i w.rep.zt (by simpa [eI,w.ud]using Nat.le_trans hz (by decide)) (by refine ae (Fp hA) ?_;exact k _ ⟨_,_,w.rep.uu hA,congrArg (λ e:Ext=>(⟨_,e.K⟩:Ext)) w.k⟩)
theorem RS.uq(hm:(c,l)∈K.ud)(L:List Nat):Rep (w.σ.set l (.list (nl L))) (H.fw (cM H.aV c (some L))) w.g R:=by obtain ⟨A,B,e,hA,hB⟩:=jZ w.rep.ok.eo (w.ud.symm▸hm);exact w.rep.uq e hA hB L
theorem RS.Vq(hm:(c,l)∈K.ud)(h:H.aV c=some L)(hz:L.length<10000)(k:∀w':RS (H.fw (cM H.aV c (some (L++[n])))) K R,A w'.σ):b6 (.int n) w.σ A l:=
 Fv (w.yq hm h) hz (k ⟨_,w.g,w.uq hm _,w.k⟩)
theorem RS.IF(hu:d6 H.ah){ks:List Nat}(pA:ks.length<=2)(ed:∀k∈ks,k<H.ah.length)(bW:Nat->aP->Nat->U->(U->Prop)->Prop)(he:∀n l s Q,Q s->bW (n+1) (.tup []) l s Q)
  (hs:∀x vs n l s Q,bF "find" s (λ t1 t2=>(O (d+2)).call t2 [.ref t1,x] s (λ t3 s1=>b6 t3 s1 (λ s=>bW n (.tup vs) l s Q) l)) (.ref 3)->bW (n+1) (.tup (x::vs)) l s Q)
  (k:∀l(w':RS H K ((l,.list (nl (gE H.ah ks)))::R)),C (.ref l) w'.σ):eJ w.σ (λ t s=>wd s (λ t s=>dZ s C [t]) [t]) λ n l s Q=>bW n (.tup (nl ks)) l s Q:=
 w.K4 bW ks _ (λ x=>.int (ax H.ah x)) (Fg _ _) (fb pA rfl) he (λ x vs n l acc w Q hx q=>hs _ _ _ _ _ _<|w.mj<|ku w hu (ed x hx)<|q w)
  λ l w=>.mk w.jo (zu _) (by simpa using pA)<|.s (w.new _).jo<|by rw [Fz,qK,ID];exact k _ ((w.new _).new _).qI.qI
theorem Vr(H0:Hp){l3:Nat}{CS:List Nat}:∀(i3 pre:List Nat)(f:Nat->Option (List Nat))(w:RS (H0.fw f) K ((l3,.list (nl CS))::R)),pre++i3=CS->(∀c∈i3,∃L,f c=some L/\L.length+i3.length<=5000)->
  (∀w':RS (H0.fw (wC n i3 f)) K ((l3,.list (nl CS))::R),Im (O d) C (.int n) (.ref 3) w'.σ)->uh (O d) C (.int n) (.ref 3) (i3.length+1) (.list l3 pre.length) w.σ:=λ i3=>by
 induction i3 with
 |nil=>
  intro pre f w e _ k;rw [List.append_nil]at e;subst e;exact ER<|.le w.jo (Nat.le_of_eq (cN _)) (k w)
 |cons c i3 ih=>
  intro pre f w e hc k;obtain ⟨L,hL,hz⟩:=hc c (.head _);simp only [List.length_cons]at hz;refine ER<|.ls w.jo (x:=.int c) (iI (by refine cQ e ?_;simp))<|w.fU<|w.gC hL λ l hl cl=>.mk cl<|w.Vq hl hL (bQ hz (by simp+arith only)) λ w=>?_;refine ae (show pre.length+1=(pre++[c]).length by simp) ?_;refine ih (pre++[c]) (cM f c (some (L++[n]))) w ((List.append_cons ..).symm.trans e) (λ c' oh=>?_) (by rw [OS,hL]at k;exact k);obtain ⟨L',hL',fc⟩:=hc c' (.tail _ oh);simp only [List.length_cons]at fc;by_cases q:c'=c
  ·exact ⟨L++[n],if_pos (by assumption),by simp;exact bQ hz (by simp+arith only)⟩
  ·exact ⟨L',by simp [cM,q,hL'],Nat.le_of_lt fc⟩
end
section
variable{H:Hp} {R:List aR} {C:PV} {d:Nat} {op:String} {ks:List Nat} (w:LS H R)
theorem Vs(hf:dz H)(ho:Ok H){n:Nat}(hn:H.ai[n]?=some (op,ks))(hu:∀m,H.ai[m]?=some (op,ks)->m=n)(k:C (.int n) w.w.σ):(O (d+2)).call .add [.ref 3,.str op,.tup (nl ks)] w.w.σ C:=
 T1<|w.w.iH<|w.w.OB<|RP w.w hf hn hu<|w.w.ig<|w.w.tE<|rC w.w<|K1 (Int.ofNat_lt.mpr (by refine cQ ho.ai ?_;exact (List.getElem?_eq_some_iff.mp hn).1)) k
theorem IG(hf:dz H)(ho:Ok H)(k9:eQ op=true)(fZ:(op,ks)∉H.ai)(hk:∀i∈ks,i<H.ai.length)(hz:ks.length<=2)
  (xv:dz {H with toCore:=dg H.toCore (op,ks)})(ix:Ok {H with toCore:=dg H.toCore (op,ks)})(ly:H.ay.length<1000)(nZ:H.bj.length<=900)(tJ:H.known.length<1000)(k:∀w':LS (wF H (op,ks)) R,C (.int H.ah.length) w'.w.σ):
  (O (d+7)).call .add [.ref 3,.str op,.tup (nl ks)] w.w.σ C:=by
 have uN:=ho.ai;have adP:H.ah.length+1<=1000:=by have:=xv.ah;simpa [dg]using this
 have BO:=w.w.uw hf;have Zo:dz (H.yg (H.ai++[(op,ks)])):=⟨xv.ai,xv.gf,xv.wt,hf.ah,hf.bg,hf.dC,hf.merged,hf.ay,hf.aH,hf.known,hf.aV,hf.gC,hf.bT,hf.cz⟩
 have aaU:H.aV H.ah.length=none:=by
  cases q:H.aV H.ah.length with
  |none=>rfl
  |some L=>exact absurd (ho.eO _ L q) (Nat.not_lt_of_le (Nat.le_refl _))
 refine T1<|w.w.iH<|w.w.OB<|RQ w.w hf k9 fZ hk (nc hz rfl) λ w2=>?_;rw [uN];refine w2.ig<|w2.tE<|rC w2<|K2 (Int.le_refl _)<|w2.ig<|w2.YV<|Vd w2 Zo ho.bg λ w2=>w2.rB _ λ l w2=>w2.fU<|RS.uu (L:=[]) w2 aaU BO rfl λ ud w2=>.t<|w2.IF ix.le hz (λ k e6=>by have:=hk k e6;show k<(H.ah++[H.ah.length]).length;simp;exact dc (bS uN) this (by simp+arith only)) (ui (O (d+6)) (.ref 3)) (λ aa aa aa aa q=>ES (.te q)) (λ aa aa aa aa aa aa q=>ES (.ts q)) λ l3 w2=>.l w2.jo ⟨_,Vr (((H.yg (H.ai++[(op,ks)])).qF (H.ah++[H.ah.length])).lY (H.bg++[[H.ah.length]])) (gE (H.ah++[H.ah.length]) ks) [] _ w2 rfl (λ c hc=>?_) λ w3=>?_⟩
 ·obtain ⟨k,e6,rfl⟩:=wD.mp hc;have BM:k<H.ah.length:=by rw [<-uN];exact hk k e6
  have oJ:=e7 ix.le (a:=k) (by simp [dg];exact Nat.lt_succ_of_lt BM);have FC:=pH ix.le k;simp only [dg]at oJ FC;rw [List.getElem?_append_left (Nat.lt_of_le_of_lt FC BM)]at oJ;obtain ⟨L,hL⟩:=ho.aV _ oJ;have hLl:=hf.gC (ax (H.ah++[H.ah.length]) k);simp only [us,hL,Option.getD_some]at hLl;have pj:=FA (H.ah++[H.ah.length]) ks;exact ⟨L,by rw [cM,if_neg (Nat.ne_of_lt (Nat.lt_of_le_of_lt FC BM))];exact hL,fJ hz hLl pj (by simp+arith only)⟩
 ·exact w3.Fd<|BQ ⟨⟨ud,w.gG⟩,w3.drop,w.len⟩ xv ix (n:=H.ah.length) (show H.ah.length<(H.ah++[H.ah.length]).length by simp) ly nZ tJ k
end
end
section
open PySem
theorem Ua(xs:List AV)(a:Nat):∀m:Nat,((List.range m).map (a+·)).filterMap (xs[·]?)=(xs.drop a).take m:=by
 intro bN;induction bN with
 |zero=>
  skip;exact rfl
 |succ m ih=>skip;refine ae List.range_succ<|ae List.map_append<|ae List.filterMap_append<|ae (ih)<|ae List.take_succ<|ae List.getElem?_drop ?_;congr 1
theorem FD{n m:Nat}:clipAt n (m:Int)=min m n:=by unfold clipAt;refine ae (if_neg (Int.not_lt.2 (Int.natCast_nonneg m))) ?_;exact nmx m n
theorem IH(xs:List AV)(m:Nat):iV xs none (some (m:Int)) none=xs.take m:=by
 unfold iV;rw [sliceBounds_plain];simp only [Option.elim,FD];have:=sliceRange_one 0 (min m xs.length);simp only [Nat.sub_zero]at this;rw [this,Ua];simp only [List.drop_zero];rcases Nat.le_total m xs.length with q|q
 ·rw [Nat.min_eq_left q]
 ·exact ae (Nat.min_eq_right q)<|ae List.take_length<|ae (List.take_of_length_le q) rfl
theorem BS(xs:List AV)(m:Nat)(h:m<=xs.length):iV xs (some (m:Int)) none none=xs.drop m:=by unfold iV;rw [sliceBounds_plain];simp only [Option.elim,FD];rw [Nat.min_eq_left h,sliceRange_one,Ua];apply List.take_of_length_le;simp
noncomputable def kZ(n:Nat)(CS:List Nat)(f:Nat->Option (List Nat)):Nat->Option (List Nat):=λ x=>if x∈CS then some ((f x).getD []++[n])else f x
theorem II(n:Nat):∀(CS:List Nat)(f:Nat->Option (List Nat)),CS.Nodup->wC n CS f=kZ n CS f:=by
 intro bN;induction bN with
 |nil=>
  intro f zz;exact rfl
 |cons c r ih=>
  intro f h;rw [List.nodup_cons]at h;rw [OS,ih _ h.2];funext x;simp only [kZ,cM,List.mem_cons];by_cases q:x=c
  ·subst q;simp [h.1]
  ·simp [q]
theorem Lm{n c:Nat}{r:List Nat}{f:Nat->Option (List Nat)}{L:List Nat}(h:c∉r)(hf:f c=some L):cM (kZ n (c::r) f) c (some L)=kZ n r f:=by
 funext x;simp only [kZ,cM,List.mem_cons];by_cases q:x=c
 ·subst q;simp [h,hf]
 ·simp [q]
section
variable{H:Hp} {K:Ext} {R:List aR} {C:PV} {A B:U->Prop} {d n l c:Nat} {L:List Nat} (w:RS H K R)
theorem RS.R2(hm:(c,l)∈K.ud)(h:H.aV c=some (L++[n])){f:Nat->Option (List Nat)}(e:cM H.aV c (some L)=f)(k:∀w':RS (H.fw f) K R,C (.int n) w'.σ):fO w.σ C l:=
 ym (w.yq hm h) (k ⟨_,w.g,e▸w.uq hm L,w.k⟩)
theorem RS.ur(h:H.aV c=some L)(hz:K.ud.length<=1000){f:Nat->Option (List Nat)}(e:cM H.aV c none=f)(k:∀ud(w':RS (H.fw f) {K with ud:=ud} R),A w'.σ):sr w.σ A (.ref 19) (.int c):=by subst e;obtain ⟨A,B,l,e,hA,hB,_⟩:=w.rep.CL h;exact .i w.rep.zt (by simpa [eI,w.ud]using Nat.le_trans hz (by decide)) (by refine ae e<|ae (nA hA) ?_;rfl) (by refine ae e<|ae (Iy hA hB) ?_;exact k _ ⟨_,_,(w.rep.ur e hA hB).lM,congrArg (λ e:Ext=>(⟨_,e.K⟩:Ext)) w.k⟩)
theorem Ln(H0:Hp){l3:Nat}{CS:List Nat}(f:Nat->Option (List Nat)):∀(i3 pre:List Nat)(w:RS (H0.fw (kZ n i3 f)) K ((l3,.list (nl CS))::R)),pre++i3=CS->i3.Nodup->(∀c∈i3,∃L,f c=some L)->
  (∀w':RS (H0.fw f) K ((l3,.list (nl CS))::R),x8 (O d) C (.int n) (.ref 3) w'.σ)->m8 (O d) C (.int n) (.ref 3) (i3.length+1) (.list l3 pre.length) w.σ:=λ i3=>by
 induction i3 with
 |nil=>
  intro pre w e _ _ k;rw [List.append_nil]at e;subst e;have:kZ n [] f=f:=by funext x;exact rfl
  rw [<-this]at k;exact vx<|.le w.jo (Nat.le_of_eq (cN _)) (k w)
 |cons c i3 ih=>
  intro pre w e hn hc k;obtain ⟨L,hL⟩:=hc c (.head _);rw [List.nodup_cons]at hn;have hu:kZ n (c::i3) f c=some (L++[n]):=by simp [kZ,hL]
  refine vx<|.ls w.jo (x:=.int c) (iI (by refine cQ e ?_;simp))<|w.fU<|w.gC hu λ l hl cl=>.mk cl<|w.R2 hl hu (Lm hn.1 hL) λ w=>?_;refine ae (show pre.length+1=(pre++[c]).length by simp) ?_;exact ih (pre++[c]) w ((List.append_cons ..).symm.trans e) hn.2 (λ c' oh=>hc c' (.tail _ oh)) k
theorem OT{Co:Core}{k:aM}(w:RS {H with toCore:=dg Co k} K R)(hf:dz {H with toCore:=dg Co k})(iC:dz {H with toCore:=Co})(ho:Ok {H with toCore:=dg Co k})(ml:Ok {H with toCore:=Co})(hk:∀i∈k.2,i<Co.ah.length)(hz:k.2.length<=2)(fZ:k∉Co.ai)
  (c:∀ud(w':RS {H with toCore:=Co,made:=Co.ah.length} {K with ud:=ud} R),C .none w'.σ):(O (d+4)).call .wQ [.ref 3,.int Co.ah.length] w.σ C:=by
 have uN:Co.ai.length=Co.ah.length:=ml.ai;have uT:Co.bg.length=Co.ah.length:=ml.bg;have rX:=yt (Co.ah++[Co.ah.length]) k.2;have BO:=w.uw hf;have rD:(dg Co k).ai[Co.ah.length]?=some k:=by rw [<-uN];exact List.getElem?_concat_length ..
 refine Rx<|w.iH<|w.pK<|nz w rD<|.t<|w.IF ho.le hz (λ i hi=>by have:=hk i hi;show i<(Co.ah++[Co.ah.length]).length;simp;exact Nat.lt_succ_of_lt this) (m9 (O (d+3)) (.ref 3)) (λ aa aa aa aa q=>vy (.te q)) (λ aa aa aa aa aa aa q=>vy (.ts q)) λ l3 w=>.l w.jo ⟨(gE (Co.ah++[Co.ah.length]) k.2).length+1,?_⟩;have key:=Ln (d:=d+3) (K:=K) (R:=R) (C:=C) (n:=Co.ah.length) (l3:=l3) (CS:=gE (Co.ah++[Co.ah.length]) k.2) {H with toCore:=dg Co k} (cM Co.aV Co.ah.length (some [])) (gE (Co.ah++[Co.ah.length]) k.2) [];rw [<-II _ _ _ rX]at key;refine key w rfl rX (λ c hc=>?_) λ w=>w.fU<|w.ur (L:=[]) (if_pos rfl) BO (f:=Co.aV) ?_ λ ud w=>w.ig<|w.YX<|Vg w ⟨hf.ai,hf.gf,hf.wt,hf.ah,hf.bg,hf.dC,iC.merged,iC.ay,iC.aH,iC.known,iC.aV,iC.gC,hf.bT,hf.cz⟩ ho.le (n:=Co.ah.length) (List.length_append ..) (List.getElem?_concat_length ..) (ho.2) (by simp [Hp.fw,dg,<-uT]) (p:=Co.ah) (ls:=Co.bg) (by simp [Hp.fw,dg]) (by simp [Hp.fw,dg,<-uT]) λ w=>w.iH<|w.OC ?_
 ·obtain ⟨i,hi,rfl⟩:=wD.mp hc;have iy:=hk i hi;have oJ:=e7 ho.le (a:=i) (by simp [dg];exact Nat.lt_succ_of_lt iy);have FC:=pH ho.le i;simp only [dg]at oJ FC;rw [List.getElem?_append_left (Nat.lt_of_le_of_lt FC iy)]at oJ;obtain ⟨L,hL⟩:=ml.aV _ oJ;exact ⟨L,by rw [cM,if_neg (Nat.ne_of_lt (Nat.lt_of_le_of_lt FC iy))];exact hL⟩
 ·funext x;simp only [Hp.fw,cM];split
  ·rename_i q;subst q;cases q:Co.aV Co.ah.length with
   |none=>rfl
   |some L=>exact absurd (ml.eO _ L q) (by simp)
  ·rfl
 ·exact Ld w ⟨hf.ai,hf.gf,hf.wt,iC.ah,iC.bg,iC.dC,iC.merged,iC.ay,iC.aH,iC.known,iC.aV,iC.gC,hf.bT,hf.cz⟩ (ns:=Co.ai) (k:=k) rfl fZ uN λ w=>w.uo λ w=>c ud w.drop
end
end
section
open PySem
abbrev Hp.on(H:Hp)(C:Core):Hp:=⟨C,H.made,H.bT,H.d4,H.cz,H.bj⟩
noncomputable def ky(C:Core)(a b:Nat):dB:=.jy (min (ax C.ah a) (ax C.ah b)) (eG C (min (ax C.ah a) (ax C.ah b))).length (max (ax C.ah a) (ax C.ah b)) (eG C (max (ax C.ah a) (ax C.ah b)))
section
variable{H:Hp} {K:Ext} {R:List aR} {C:PV} {A B:U->Prop} {d n l c:Nat} {L:List Nat} (w:RS H K R)
theorem RS.Ub{e:Nat×Nat×Option String}{es:List (Nat×Nat×Option String)}(h:H.ay=es++[e])(k:∀w':RS (H.tD es) K R,C (iE e) w'.σ):fO w.σ C 16:=
 .mk (xs:=es.map iE) (by refine ae w.rep.tC<|ae h<|ae List.map_append ?_;rfl) (k ⟨_,w.g,w.rep.Fj _,w.k⟩)
theorem RS.aaV{x:Nat}{fs:List Nat}(h:H.aH=fs++[x])(k:∀w':RS (H.uj fs) K R,C (.int x) w'.σ):fO w.σ C 17:=
 ym (h▸w.rep.E_) (k ⟨_,w.g,w.rep.BK _,w.k⟩)
theorem RS.Zp{M:List Nat}(h:w.σ[l]?=some (.list (nl (L++M))))(hz:L.length<=10000)(k:∀l'(w':RS H K ((l',.list (nl L))::R)),C (.ref l') w'.σ):eR none (some (L.length:Nat)) none w.σ C (.ref l):=
 have e:iV (nl (L++M)) none (some (L.length:Nat)) none=nl L:=by rw [IH,<-zm,List.take_left' rfl]
 .l h (λ q=>nomatch q) (by rw [e,cN];exact hz) (by refine ae e ?_;exact k _ (w.new _))
theorem OU{Co:Core}{a b:Nat}{r:Option String}(hf:dz (H.on (dJ Co a b r)))(iC:dz (H.on Co))(ml:Ok (H.on Co))(ha:a<Co.ah.length)(hb:b<Co.ah.length)(w:RS (H.on (dJ Co a b r)) K (jk (ky Co a b,l)++R))
  (c:∀ud(w':RS (H.on Co) {K with ud:=ud} R),C .none w'.σ):(O (d+2)).call .wR [.ref 3,iY (ky Co a b,l)] w.σ C:=by
 have BO:=w.uw hf;obtain ⟨Lk,oH⟩:=tG ml ha hb;obtain ⟨Lg,oI⟩:=tH ml ha hb;have oH:Co.aV (min (ax Co.ah a) (ax Co.ah b))=some Lk:=oH;have oI:Co.aV (max (ax Co.ah a) (ax Co.ah b))=some Lg:=oI;have hr1:Co.ah[ax Co.ah a]?=some (ax Co.ah a):=e7 ml.le ha;have hr2:Co.ah[ax Co.ah b]?=some (ax Co.ah b):=e7 ml.le hb;have hr3:ax Co.ah a<Co.ah.length:=pL ml.le ha;have hr4:ax Co.ah b<Co.ah.length:=pL ml.le hb;have uT:Co.bg.length=Co.ah.length:=ml.bg;revert w;unfold ky;unfold dJ at hf⊢;rw [kX oH,kX oI]at hf⊢;by_cases he:ax Co.ah a=ax Co.ah b
 ·rw [if_pos he,show jk (.jy (min (ax Co.ah a) (ax Co.ah b)) Lk.length (max (ax Co.ah a) (ax Co.ah b)) Lg,l)=[] by simp [tB,he]];exact λ w=>E5<|.t<|w.gT<|.mk w.rep.tC<|w.Ub (es:=Co.ay) rfl λ w=>zp (by rw [he,Nat.min_self,Nat.max_self])<|c K.ud w
 ·have cD:min (ax Co.ah a) (ax Co.ah b)≠max (ax Co.ah a) (ax Co.ah b):=L8 he;rw [if_neg he]at hf⊢;rw [show jk (.jy (min (ax Co.ah a) (ax Co.ah b)) Lk.length (max (ax Co.ah a) (ax Co.ah b)) Lg,l)=[(l,.list (nl Lg))] by exact if_neg (by assumption)];have Uc:min (ax Co.ah a) (ax Co.ah b)<Co.ah.length:=mml hr3;have Zq:max (ax Co.ah a) (ax Co.ah b)<Co.ah.length:=mxl hr3 hr4;have hgg:Co.ah[max (ax Co.ah a) (ax Co.ah b)]?=some (max (ax Co.ah a) (ax Co.ah b)):=by
   rcases Nat.le_total (ax Co.ah a) (ax Co.ah b)with q|q
   ·rw [Nat.max_eq_right q];exact hr2
   ·rw [Nat.max_eq_left q];exact hr1
  unfold vC at hf⊢;generalize min (ax Co.ah a) (ax Co.ah b)=kept at*;generalize max (ax Co.ah a) (ax Co.ah b)=gone at*;have acq:Lk.length<=1000:=by have:=iC.gC kept;simpa [us,oH]using this
  have h1:=List.getElem?_eq_getElem (l:=Co.bg) (i:=kept) (Nat.lt_of_lt_of_le Uc (b7 uT));have h2:=List.getElem?_eq_getElem (l:=Co.bg) (i:=gone) (Nat.lt_of_lt_of_le Zq (b7 uT));generalize Co.bg[kept]'_=Mk at h1;generalize Co.bg[gone]'_=Mg at h2;rw [List.getD_eq_getElem?_getD,List.getD_eq_getElem?_getD,h1,h2]at hf⊢;refine λ w=>E5<|.t<|w.gT<|.mk w.rep.tC<|w.Ub (es:=Co.ay) rfl λ w=>K0 cD<|w.wq<|.mk w.rep.E_<|w.aaV (fs:=Co.aH) rfl λ w=>w.ig<|w.YW<|w.ig<|w.nX<|w.KX<|lM (List.length_append ..)<|
   Vf w ⟨iC.ai,iC.gf,iC.wt,hf.ah,hf.bg,hf.dC,hf.merged,iC.ay,iC.aH,iC.known,hf.aV,hf.gC,hf.bT,hf.cz⟩ (ms:=Co.merged) (kept:=kept) (gone:=gone) rfl (by show gone<(Co.ah.set _ _).length;simpa using Zq) (by show kept<(Co.ah.set _ _).length;simpa using Uc) (by show(Co.bg.set _ _).length=(Co.ah.set _ _).length;simpa using uT)
    (Lk:=Mk++Mg) (Lg:=Mg) (List.getElem?_set_self (Nat.lt_of_lt_of_le Uc (b7 uT))) ((List.getElem?_set_ne cD).trans h2) (by simp) (p:=Co.ah) (ls:=Co.bg) ?_ ?_ λ w=>w.fU<|w.gC (c:=kept) (L:=Lk++Lg) (if_pos rfl) λ lk aa cl=>w.Zp cl (nc acq rfl) λ l' w=>w.fU<|w.qJ (c:=kept) (L:=Lk++Lg) (if_pos rfl) BO λ ud e w=>w.fU<|RS.uu (c:=gone) (L:=Lg) w (by simp [Hp.uj,Hp.tD,Hp.pI,Hp.qF,Hp.lY,Hp.fw,cM,Ne.symm cD]) (by show ud.length<=1000;exact Nat.le_trans (bS e) BO) (f:=Co.aV) ?_ λ ud w=>c ud w
  ·show(Co.ah.set gone kept).set gone gone=Co.ah;rw [List.set_set];apply List.ext_getElem?;intro i;by_cases q:gone=i
   ·subst q;rw [List.getElem?_set_self Zq,hgg]
   ·exact List.getElem?_set_ne q
  ·show(Co.bg.set kept (Mk++Mg)).set kept ((Mk++Mg).take ((Mk++Mg).length -Mg.length))=Co.bg;rw [show(Mk++Mg).length -Mg.length=Mk.length by simp,List.take_left' rfl,List.set_set];apply List.ext_getElem?;intro i;by_cases q:kept=i
   ·subst q;rw [List.getElem?_set_self (Nat.lt_of_lt_of_le Uc (b7 uT)),h1]
   ·exact List.getElem?_set_ne q
  ·funext x;simp only [Hp.uj,Hp.tD,Hp.pI,Hp.qF,Hp.lY,Hp.fw,cM];split
   ·rename_i q;rw [q,oI]
   ·split
    ·rename_i q;exact ae q<|ae oH rfl
    ·rfl
end
end
section
open PySem
noncomputable def cC(C:Core)(w:List Nat)(b:Nat)(m:List (Nat×List Nat))(ch:List dB):Hp:=⟨C,C.ah.length,w,b,m,ch⟩
inductive CR:Core->dB->Core->Prop
 |made {C:Core} {k:aM}:(∀i∈k.2,i<C.ah.length)->k.2.length<=2->k∉C.ai->CR C (.made C.ah.length) (dg C k)
 |known {C:Core} {key:aM} {n:Nat}:(∀p∈C.known,p.1≠key)->CR C (.known key) {C with known:=C.known++[(key,n)]}
 |jy {C:Core} {a b:Nat} {r:Option String}:a<C.ah.length->b<C.ah.length->CR C (ky C a b) (dJ C a b r)
inductive ip(P:Core->Prop):Core->List dB->Core->Prop
 |nil {C:Core}:P C->ip P C [] C
 |snoc {C C1 C2:Core} {cs:List dB} {c:dB}:ip P C cs C1->CR C1 c C2->P C2->ip P C (cs++[c]) C2
theorem ip.qN{P:Core->Prop}{C C':Core}{cs:List dB}(h:ip P C cs C'):P C':=by cases h<;>assumption
theorem tK{C:Core}{a b:Nat}{r:Option String}:(dJ C a b r).ah.length=C.ah.length:=by unfold dJ vC;split<;>simp
theorem fS{C:Core}{a b:Nat}{r:Option String}:(dJ C a b r).ai=C.ai:=by unfold dJ vC;split<;>simp
section
variable{σ:U} {H:Hp} {g:Gh} {R:List aR}
theorem Rep.R3{ms:List (Nat×List Nat)}{m:Nat}{W:List Nat}{ks:List Nat}{l:Nat}(h:Rep σ H g R)(hm:H.cz=ms++[(m,W)])(hk:g.dj=ks++[l])(hl:ks.length=ms.length):Rep (σ.set 22 (.list ((ms.zip ks).map λ p=>.tup [.int p.1.1,.ref p.2]))) {H with cz:=ms} {g with dj:=ks} ((l,.list (nl W))::R):=by
 refine h.jz (l:=22) (old:=.list ((H.cz.zip g.dj).map λ p=>.tup [.int p.1.1,.ref p.2])) (List.mem_of_getElem? (i:=18) rfl) rfl ?_ ⟨h.ok.dC,hl,h.ok.eo,h.ok.eO⟩;have e3:ew H g=ew {H with cz:=ms} {g with dj:=ks}++[(l,.list (nl W))]:=by simp only [ew];refine ae hm<|ae hk<|ae (List.zip_append hl.symm) ?_;exact List.map_append ..
 simp only [dq,e3];refine (?_:List.Perm (eW H g++eX H g++fj H g++(ew {H with cz:=ms} {g with dj:=ks}++[(l,.list (nl W))])++R) (eW H g++eX H g++fj H g++ew {H with cz:=ms} {g with dj:=ks}++((l,.list (nl W))::R)));simp only [List.append_assoc,List.singleton_append];exact List.Perm.refl _
end
section
variable{H:Hp} {K:Ext} {R:List aR} {C:PV} {A B:U->Prop} {n l:Nat} {s:U} (w:RS H K R)
theorem jQ{a:String}(k:A s):dK s (cj A B) (.str a) (.str a):=yn (b:=true) (fx (beq_self_eq_true a)) k
theorem iq{a b:String}(h:(a==b)=false)(k:B s):dK s (cj A B) (.str a) (.str b):=yn (b:=false) (fx h) k
noncomputable def RS.BN(c:List dB):RS (H.wo c) K R:=⟨w.σ,w.g,w.rep.BN c,w.k⟩
theorem RS.Ud(e:K.K.length=n)(k:C (.int n) w.σ):bH w.σ C [.ref 21]:=dp w.rep.BH ((congrArg (λ e:Ext=>e.K.length) w.k).trans e) k
theorem RS.aaW{xs:List AV}{v:AV}(e:K.K=xs++[v])(k:∀w':RS H {K with K:=xs} R,C v w'.σ):fO w.σ C 21:=
 .mk (xs:=xs) (w.rep.BH.trans (ae (show w.g.K=K.K from congrArg Ext.K w.k)<|ae e rfl)) (k ⟨_,_,w.rep.Y5 xs,congrArg (λ e:Ext=>(⟨e.ud,xs⟩:Ext)) w.k⟩)
theorem RS.acr{key:aM}{xs:List (aM×Nat)}(h:H.known=xs++[(key,n)])(hk:∀p∈xs,p.1≠key)(hz:xs.length<=1000)(k:∀w':RS (H.Fb xs) K R,A w'.σ):sr w.σ A (.ref 18) (bq key):=
 .t w.rep.Fl (gD key) (by rw [h,tF];simp;exact nc hz rfl) (by refine ae h<|ae (OH (B:=[]) hk) ?_;rfl) (by refine ae h<|ae (OJ hk) ?_;exact k ⟨_,w.g,w.rep.Fm xs,w.k⟩)
theorem RS.aaX{ms:List (Nat×List Nat)}{m:Nat}{W:List Nat}(h:H.cz=ms++[(m,W)])(k:∀l(w':RS (H.Oy ms) K ((l,.list (nl W))::R)),C (.tup [.int m,.ref l]) w'.σ):fO w.σ C 22:=by
 have e:=w.rep.ok.iG;rw [h]at e;rcases qG w.g.dj with q|⟨ks,l,q⟩
 ·rw [q]at e;simp at e
 ·have hl:ks.length=ms.length:=by rw [q]at e;simpa using e
  have c:=w.rep.Ox;rw [h,q,List.zip_append hl.symm,List.map_append]at c;exact .mk c (k l ⟨_,_,w.rep.R3 h q hl,w.k⟩)
theorem RS.aaY(k:C (.int H.cz.length) w.σ):bH w.σ C [.ref 22]:=dp w.rep.Ox (by simp [w.rep.ok.iG]) k
theorem RS.wz(c:∀w':RS (H.YQ n) K R,A w'.σ):bG "backs" (.int n) w.σ A (.ref 3):=.mk w.rep.c3 w.rep.c4 (by kernel_rfl) (Nat.le_of_ble_eq_true rfl) (by rw [RW];exact c ⟨_,w.g,w.rep.wz n,w.k⟩)
theorem RS.K8{W:List Nat}(w:RS H K ((l,.list (nl W))::R))(c:∀w':RS (H.wm W) K R,A w'.σ):bG "waiting" (.ref l) w.σ A (.ref 3):=.mk w.rep.c3 w.rep.c4 (by kernel_rfl) (Nat.le_of_ble_eq_true rfl) (by rw [Ll];exact c ⟨_,_,w.rep.K8,w.k⟩)
theorem LS.snoc{cs:List dB}{c:dB}(w:LS H R)(h:H.bj=cs++[c])(k:∀ud ls l,ls.length=cs.length->∀w':RS H ⟨ud,(cs.zip ls).map iY++[iY (c,l)]⟩ (jk (c,l)++(lP cs ls++R)),A w'.σ):A w.w.σ:=by
 obtain ⟨⟨ud,gG⟩,w,e⟩:=w;rw [h]at e;rcases qG gG with q|⟨ls,l,rfl⟩
 ·rw [q]at e;simp at e
 ·have hl:ls.length=cs.length:=by simpa using e
  refine k ud ls l hl (w.to ?_ (by refine ae h ?_;exact congrArg (Ext.mk ud) (Li hl)));have r:=w.rep;revert r;generalize w.σ=s;generalize w.g=g;refine ae h ?_;dsimp only [LX.R];rw [wA hl,<-List.append_assoc];exact λ r=>r.bI (.append_right _ List.perm_append_comm)
end
section
variable{R:List aR} {Q:PV} {d l₀ b:Nat} {w:List Nat} {m:List (Nat×List Nat)} {P:Core->Prop}
theorem R4(hP:∀C ch,P C->Ok (cC C w b m ch)/\dz (cC C w b m ch)){C C':Core}{cs:List dB}(hp:ip P C cs C'):∀(bs:List dB)(v:LS (cC C' w b m (bs++cs)) R),
  (∀v:LS (cC C w b m bs) R,Io Q (.ref 3) (.ref l₀) v.w.σ)->nq (O (d+4)) Q (.int bs.length) (.ref 3) (.ref l₀) (cs.length+1) v.w.σ:=by
 induction hp with
 |nil hC=>
  intro bs v k;have e:bs++[]=bs:=List.append_nil bs;revert v;refine ae e ?_;exact λ v=>EU<|v.w.jd<|v.w.Ud v.Lj<|kU (Int.le_refl _) (k v)
 |@snoc C1 C2 cs c hp OV hC ih=>
  intro bs v k;have h1:=hP C1 (bs++cs) hp.qN;have h2:=hP C2 (bs++(cs++[c])) hC;have e:(bs++(cs++[c])).length=bs.length+cs.length+1:=by simp;exact rfl
  refine ae (show(cs++[c]).length+1=cs.length+1+1 by simp) ?_;refine v.snoc (List.append_assoc ..).symm λ ud ls l hl v=>EU<|v.jd<|v.Ud (n:=bs.length+cs.length+1) (by simp [hl])<|qH (by omega)<|v.jd<|.mk v.rep.BH<|v.aaW rfl λ v=>?_;cases OV with
  |@made k0 aaZ T8 fZ=>exact df<|jQ<|v.RH<|eZ<|OT (H:=cC (dg C1 k0) w b m _) (K:=⟨ud,((bs++cs).zip ls).map iY⟩) v h2.2 (h1.2.CP _ _) h2.1 (h1.1.same rfl rfl rfl rfl rfl) aaZ T8 fZ λ ud v=>ih bs ⟨⟨ud,ls⟩,v.BN (bs++cs),hl⟩ k
  |@known key nn fE=>exact df<|iq rfl<|df<|jQ<|v.uk<|eZ<|v.acr rfl fE (by have:=h2.2.known;simp [cC]at this;exact Nat.le_succ_of_le this) λ v=>ih bs ⟨⟨ud,ls⟩,v.BN (bs++cs),hl⟩ k
  |@jy a b' r ha hb=>
   have e (X:List dB):cC (dJ C1 a b' r) w b m X=(cC C1 w b m X).on (dJ C1 a b' r):=by simp [cC,tK]
   revert v;rw [e]at h2⊢;exact λ v=>df<|iq rfl<|df<|iq rfl<|v.RI<|OU (H:=cC C1 w b m _) (K:=⟨ud,((bs++cs).zip ls).map iY⟩) h2.2 (h1.2.CP _ _) (h1.1.same rfl rfl rfl rfl rfl) ha hb v λ ud v=>ih bs ⟨⟨ud,ls⟩,v.BN (bs++cs),hl⟩ k
theorem OW{w W:List Nat}{ms:List (Nat×List Nat)}{bs cs:List dB}{C C':Core}(hP:∀C ch,P C->Ok (cC C w (b+1) ms ch)/\dz (cC C w (b+1) ms ch))(hp:ip P C cs C')(v:LS (cC C' w b (ms++[(bs.length,W)]) (bs++cs)) R)
  (k:∀v:LS (cC C W (b+1) ms bs) R,Q .none v.w.σ):(O (d+5)).call .pop [.ref 3] v.w.σ Q:=by
 refine aaD<|v.w.zl<|v.w.aaY<|wx (b:=0) (by simp [cC])<|v.w.zl<|.mk v.w.rep.Ox<|v.w.aaX rfl λ l u=>.t<|u.Ir<|qL<|u.wz λ u=>⟨cs.length+1,R4 hP hp bs ⟨v.x,u.bI List.perm_middle.symm,v.len⟩ λ v=>?_⟩
 exact RS.K8 (v.w.bI (R':=(l,.list (nl W))::(lP bs v.gG++R)) List.perm_middle) λ u=>k ⟨v.x,u,v.len⟩
end
end
section
open PySem
noncomputable def qO:Hp:=⟨⟨[],[],[],[],[],[],[],λ aa=>none⟩,0,[],0,[],[]⟩
noncomputable def sa(l:Nat)(x:String)(v:AV)(s:U):U:=match s[l+1]?with
 |some (.dS kvs)=>s.set (l+1) (.dS (dY kvs x v))
 |_=>s
noncomputable def Zr(l:Nat)(x:String)(s:U):Bool:=match s[l]?,s[l+1]?with
 |some (.inst c),some (.dS kvs)=>(fT c).contains x&&decide (kvs.length<=100)
 |_,_=>false
noncomputable def al(t:U)(s:U):U:=s++t
noncomputable def ini:List (U->U):=[al [.inst .levels,.dS []],al [.inst .bank,.dS []],al [.list []],sa 5 "nodes" (.ref 7),al [.dT []],sa 5 "numbers" (.ref 8),al [.list []],sa 5 "weights" (.ref 9),al [.list []],sa 5 "depths" (.ref 10),sa 3 "bank" (.ref 5),
 al [.inst .gI,.dS []],al [.list []],sa 11 "above" (.ref 13),al [.list []],sa 11 "lots" (.ref 14),al [.list []],sa 11 "merged" (.ref 15),sa 3 "unions" (.ref 11),al [.list []],sa 3 "edges" (.ref 16),al [.list []],sa 3 "forest" (.ref 17),al [.dT []],sa 3 "known" (.ref 18),al [.dI []],sa 3 "above" (.ref 19),
 al [.list []],sa 3 "waiting" (.ref 20),sa 3 "backs" (.int 0),al [.list []],sa 3 "changes" (.ref 21),al [.list []],sa 3 "marks" (.ref 22),sa 3 "made" (.int 0)]
@[irreducible] noncomputable def st(s:U)(k:Nat):U:=(ini.take k).foldl (λ s f=>f s) s
section
variable{s:U} {k l:Nat} {x:String} {v:AV} {A:U->Prop} {C:PV} {ao:AO}
theorem Zs(h:Zr l x (st s k)=true)(e:sa l x v (st s k)=st s (k+1))(p:A (st s (k+1))):bG x v (st s k) A (.ref l):=by
 rw [<-e]at p;generalize st s k=s at*;unfold Zr at h;unfold sa at p;split at h
 ·rename_i h1 h2;rw [h2]at p;rw [Bool.and_eq_true]at h;exact .mk h1 h2 h.1 (of_decide_eq_true h.2) p
 ·cases h
theorem Zt{n:Nat}(e1:(st s k).length=n)(e:al [ao] (st s k)=st s (k+1))(p:C (.ref n) (st s (k+1))):dm ao (st s k) C:=by subst e1;rw [<-e]at p;exact p
theorem LS.H0(a b c:AO):∃w:LS qO [(0,a),(1,b),(2,c)],w.w.σ=st [a,b,c] 35:=by
 refine ⟨⟨⟨[],[]⟩,⟨_,⟨⟨[],[]⟩,[],20,[]⟩,⟨⟨rfl,rfl,List.nodup_nil,λ c=>by simp [qO]⟩,?_,?_⟩,rfl⟩,rfl⟩,rfl⟩
 ·have h:(dF qO ⟨⟨[],[]⟩,[],20,[]⟩++(dq qO ⟨⟨[],[]⟩,[],20,[]⟩++(lP qO.bj []++([(0,a),(1,b),(2,c)]:List aR)))).map (λ p:aR=>(st [a,b,c] 35)[p.1]?)=(dF qO ⟨⟨[],[]⟩,[],20,[]⟩++(dq qO ⟨⟨[],[]⟩,[],20,[]⟩++(lP qO.bj []++([(0,a),(1,b),(2,c)]:List aR)))).map λ p:aR=>some p.2:=by kernel_rfl
  exact λ l ao hm=>List.map_inj_left.mp h (l,ao) hm
 ·have e:(dF qO ⟨⟨[],[]⟩,[],20,[]⟩++(dq qO ⟨⟨[],[]⟩,[],20,[]⟩++(lP qO.bj []++([(0,a),(1,b),(2,c)]:List aR)))).map (λ p:aR=>p.1)=[3,4,5,6,7,8,9,10,11,12,13,14,15,16,17,18,19,21,22,20,0,1,2]:=by kernel_rfl
  exact e▸(by decide:([3,4,5,6,7,8,9,10,11,12,13,14,15,16,17,18,19,21,22,20,0,1,2]:List Nat).Nodup)
theorem Lo{n d:Nat}{c:d_}(e1:(st s k).length=n)(e:al [.inst c,.dS []] (st s k)=st s (k+1))(p:(O d).call (rK c) [.ref n] (st s (k+1)) λ v σ'=>v=.none/\C (.ref n) σ'):(O (d+1)).jS c [] (st s k) C:=by subst e1;rw [<-e]at p;exact p
theorem OX{d:Nat}(a b c:AO)(p:∀w':LS qO [(0,a),(1,b),(2,c)],C (.ref 3) w'.w.σ):(O (d+5)).jS .levels [] [a,b,c] C:=by have p:C (.ref 3) (st [a,b,c] 35):=d9 (LS.H0 a b c) λ w e=>e▸p w;have s1 {k} {l} {x} {v} {A}:=@Zs [a,b,c] k l x v A;have n1 {k} {C} {ao} {n}:=@Zt [a,b,c] k C ao n;refine ae (show[a,b,c]=st [a,b,c] 0 by kernel_rfl) ?_;refine Lo (n:=3) (by kernel_rfl) (by kernel_rfl)<|E4<|.mk (kvs:=[]) (f:=.vM) (by kernel_rfl) (by kernel_rfl) (by kernel_rfl)<|KH<|Lo (n:=5) (by kernel_rfl) (by kernel_rfl)<|KD<|n1 (n:=7) (by kernel_rfl) (by kernel_rfl)<|s1 (by kernel_rfl) (by kernel_rfl)<|n1 (n:=8) (by kernel_rfl) (by kernel_rfl)<|s1 (by kernel_rfl) (by kernel_rfl)<|n1 (n:=9) (by kernel_rfl) (by kernel_rfl)<|s1 (by kernel_rfl) (by kernel_rfl)<|n1 (n:=10) (by kernel_rfl) (by kernel_rfl)<|s1 (by kernel_rfl) (by kernel_rfl) ⟨rfl,s1 (by kernel_rfl) (by kernel_rfl)<|Lo (n:=11) (by kernel_rfl) (by kernel_rfl)<|E1<|n1 (n:=13) (by kernel_rfl) (by kernel_rfl)<|s1 (by kernel_rfl) (by kernel_rfl)<|n1 (n:=14) (by kernel_rfl) (by kernel_rfl)<|s1 (by kernel_rfl) (by kernel_rfl)<|n1 (n:=15) (by kernel_rfl) (by kernel_rfl)<|s1 (by kernel_rfl) (by kernel_rfl) ⟨rfl,s1 (by kernel_rfl) (by kernel_rfl)<|n1 (n:=16) (by kernel_rfl) (by kernel_rfl)<|s1 (by kernel_rfl) (by kernel_rfl)<|n1 (n:=17) (by kernel_rfl) (by kernel_rfl)<|s1 (by kernel_rfl) (by kernel_rfl)<|n1 (n:=18) (by kernel_rfl) (by kernel_rfl)<|s1 (by kernel_rfl) (by kernel_rfl)<|n1 (n:=19) (by kernel_rfl) (by kernel_rfl)<|s1 (by kernel_rfl) (by kernel_rfl)<|n1 (n:=20) (by kernel_rfl) (by kernel_rfl)<|s1 (by kernel_rfl) (by kernel_rfl)<|s1 (by kernel_rfl) (by kernel_rfl)<|n1 (n:=21) (by kernel_rfl) (by kernel_rfl)<|s1 (by kernel_rfl) (by kernel_rfl)<|n1 (n:=22) (by kernel_rfl) (by kernel_rfl)<|s1 (by kernel_rfl) (by kernel_rfl)<|s1 (by kernel_rfl) (by kernel_rfl) ⟨rfl,p⟩⟩⟩
end
end
section
set_option genInjectivity false
set_option genSizeOf false
open PySem
noncomputable def dE(n:Nat):AO:=.dS [("row",.ref 2),("at",.int n)]
noncomputable def ei(row:List Int):AO:=.list (row.map .int)
theorem Lp{α:Type}{C:PV}(I:List α->Nat->List AV->U->Prop)(bW:Nat->aP->Nat->U->(U->Prop)->Prop)(it:List α->aP)(ks:List α)(he:∀n l acc σ Q,I [] l acc σ->Q σ->bW (n+1) (it []) l σ Q)
  (hs:∀x us n l acc σ Q,I (x::us) l acc σ->(∀acc σ,I us l acc σ->bW n (it us) l σ Q)->bW (n+1) (it (x::us)) l σ Q){σ:U}(h0:I ks σ.length [] (σ++[.list []]))(k:∀l acc σ,I [] l acc σ->C (.ref l) σ):eJ σ C λ n l s Q=>bW n (it ks) l s Q:=by
 refine ⟨ks.length+1,?_⟩;have key:∀(us:List α)(acc:List AV)(l:Nat)(Q:U->Prop)(σ:U),I us l acc σ->(∀acc σ,I [] l acc σ->Q σ)->bW (us.length+1) (it us) l σ Q:=λ us=>by
  induction us with
  |nil=>exact λ acc l Q σ h k=>he _ _ _ _ _ h (k _ _ h)
  |cons x us ih=>exact λ acc l Q σ h k=>hs _ _ _ _ _ _ _ h λ acc σ h=>ih acc l Q σ h k
 exact key ks _ _ _ _ h0 (k _)
section
variable{H:Hp} {R:List aR} {C:PV} {A:U->Prop} {c:aR}
theorem LS.at(w:LS H R){l:Nat}{ao:AO}(h:(l,ao)∈R):w.w.σ[l]?=some ao:=w.w.rep.holds.iU _ _ (List.mem_append_right _ (List.mem_append_right _ (List.mem_append_right (lP H.bj w.gG) h)))
noncomputable def LS.bI(w:LS H R){R':List aR}(p:R.Perm R'):LS H R':=⟨w.x,w.w.bI (p.append_left _),w.len⟩
noncomputable def LS.put{l:Nat}{old:AO}(w:LS H ((l,old)::R))(x:AO):LS H ((l,x)::R):=⟨w.x,⟨w.w.σ.set l x,w.w.g,((w.w.rep.bI List.perm_middle).RG x).bI List.perm_middle.symm,w.w.k⟩,w.len⟩
noncomputable def LS.new(w:LS H R)(x:AO):LS H ((w.w.σ.length,x)::R):=⟨w.x,(w.w.new x).bI List.perm_middle.symm,w.len⟩
noncomputable def LS.drop(w:LS H (c::R)):LS H R:=⟨w.x,(w.w.bI (R':=c::(lP H.bj w.gG++R)) List.perm_middle).drop,w.len⟩
theorem LS.zr{l:Nat}{xs:List AV}{v:AV}(w:LS H ((l,.list xs)::R))(h:xs.length<10000)(k:∀w':LS H ((l,.list (xs++[v]))::R),A w'.w.σ):b6 v w.w.σ A l:=.mk (w.at (.head _)) h (k (w.put _))
theorem LS.Vt{l:Nat}{old:AO}(w:LS H ((l,old)::R))(x:AO)(k:∀w':LS H ((l,x)::R),A w'.w.σ):A (w.w.σ.set l x):=k (w.put x)
theorem LS.rB(w:LS H R)(ao:AO)(k:∀l(w':LS H ((l,ao)::R)),C (.ref l) w'.w.σ):dm ao w.w.σ C:=k _ (w.new ao)
end
theorem lQ{H:Hp}{R:List aR}{C:PV}{d n m:Nat}{row:List Int}(w:LS H ((0,dE n)::(2,ei row)::R))(hn:n<=1000)(hm:0<m)(k:∀r,r<m->∀w':LS H ((0,dE (n+1))::(2,ei row)::R),C (.int (r:Nat)) w'.w.σ):
  (O (d+1)).call .dH [.ref 0,.int m] w.w.σ C:=by
 have fin:∀z:Int,(w':LS H ((0,dE (n+1))::(2,ei row)::R))->pW w'.w.σ C (.int z) (.int m):=λ z w=>.mk ⟨by omega,by have h1:=Int.emod_nonneg z (b:=(m:Int)) (by omega);have h2:=Int.emod_lt_of_pos z (b:=(m:Int)) (by omega);generalize z %(m:Int)=y at*;obtain ⟨r,rfl⟩:=Int.eq_ofNat_of_zero_le h1;exact k r (by omega) w⟩
 have e1:bD [("row",AV.ref 2),("at",.int n)] "at"=some (.int n):=by kernel_rfl
 have e2:bD [("row",AV.ref 2),("at",.int (n+1:Nat))] "row"=some (.ref 2):=by kernel_rfl
 have e3:dY [("row",AV.ref 2),("at",.int n)] "at" (.int (n+1:Nat))=[("row",.ref 2),("at",.int (n+1:Nat))]:=by kernel_rfl
 refine YM<|.s (w.at (.head _)) e1<|qL<|.s (w.at (.head _)) (Nat.le_of_ble_eq_true rfl) ?_;refine ae e3 ?_;refine w.Vt (dE (n+1)) λ w=>.s (w.at (.head _)) e2<|dp (w.at (.tail _ (.head _))) (List.length_map ..) ?_;by_cases h:n<row.length
 ·exact K1 (Int.ofNat_lt.mpr h)<|.s (w.at (.head _)) e2<|eY (w.at (.tail _ (.head _))) (v:=.int row[n]) (by simp [h])<|fin _ w
 ·exact K2 (Int.ofNat_le.mpr (Nat.le_of_not_lt h))<|.mk ⟨by decide,.mk ⟨by omega,.mk ⟨by decide,.i<|.mk ⟨rfl,.i<|.i<|fin _ w⟩⟩⟩⟩
theorem FE(n:Nat)(ks:List Nat):∀ls:List Nat,mK (gX (n+1)) (nl ks) (nl ls) (decide (ks=ls)):=by
 induction ks with
 |nil=>intro ls;cases ls with
  |nil=>exact .nil
  |cons=>exact .r
 |cons k ks ih=>intro ls;cases ls with
  |nil=>exact .l
  |cons l ls=>
   by_cases q:k=l
   ·refine ae (show decide (k::ks=l::ls)=decide (ks=ls) from decide_eq_decide.2 ⟨λ e=>(List.cons.inj e).2,λ e=>q▸e▸rfl⟩) ?_;exact .tt (ij (zo q)) (ih ls)
   ·refine ae (decide_eq_false λ e=>q (List.cons.inj e).1) ?_;exact .ff (ij (KZ q))
theorem R5(n:Nat):∀k k':aM,gX (n+2) (bq k) (bq k') (decide (k=k'))
 |(a,ks),(b,ls)=>by
  refine um ?_;by_cases q:a=b
  ·refine ae (show decide ((a,ks)=(b,ls))=decide (ks=ls) from decide_eq_decide.2 ⟨λ e=>(Prod.mk.inj e).2,λ e=>q▸e▸rfl⟩) ?_;exact .tt (fx (beq_iff_eq.2 q)) (FE n ks ls)
  ·refine ae (decide_eq_false λ e=>q (Prod.mk.inj e).1) ?_;exact .ff (fx (beq_eq_false_iff_ne.2 q))
theorem Vu:∀l:List Nat,oP (nl l)=true:=by
 intro bN;induction bN with
 |nil=>
  skip;exact rfl
 |cons x r ih=>skip;have:=ih;simp only [nl,List.map_cons]at this⊢;rw [rZ,this];rfl
theorem BU(k:aM):∀ns:List aM,jV (bq k) (ns.map bq) (decide (k∈ns)):=by
 intro bN;induction bN with
 |nil=>
  skip;exact .nil
 |cons a r ih=>skip;refine ae (show decide (k∈a::r)=(decide (a=k)||decide (k∈r)) from(decide_eq_decide.2 (List.mem_cons.trans (or_congr_left eq_comm))).trans (Bool.decide_or ..)) ?_;exact .cons (by rw [bq,Jg,rZ,Vu];rfl) (R5 18 a k) (ih)
theorem G4(H:Hp)(n:Nat):(kY H n).ai=H.ai:=by
 have:(ik H n).ai=H.ai:=by unfold ik;split<;>rfl
 unfold kY;split
 ·exact this
 ·split
  ·exact this
  ·exact fS.trans this
theorem Lq(H:Hp)(k:aM):(wF H k).ai=H.ai++[k]:=by unfold wF;rw [G4];rfl
noncomputable def jR(H:Hp)(k:aM):Hp:=if k∈H.ai then H else wF H k
def yv(N:Nat)(k:aM):Prop:=(k.1="f"/\k.2.length=1\/k.1="g"/\k.2.length=2)/\∀i∈k.2,i<min N 4
structure Ue(H:Hp):Prop where
 jf:dz H
 ok:Ok H
 ay:H.ay.length<1000
 bj:H.bj.length<=900
 known:H.known.length<1000
 nodup:H.ai.Nodup
 pos:0<H.ai.length
 add:∀k,yv H.ai.length k->k∉H.ai->dz {H with toCore:=dg H.toCore k}/\Ok {H with toCore:=dg H.toCore k}
theorem zw{b:Nat}{D:aP->Prop}(hb:b<=100000)(k:D (.mM 0 1 b)):mA D [.int b]:=.a (rok (Nat.zero_le b) hb) (by unfold qa;have e:=rzN 0 b;rw [Nat.zero_add]at e;exact (rfl:Builtin.Range.rangeSize ((0:Nat):Int) (b:Int) 1=Builtin.Range.rangeSize 0 (b:Int) 1)▸e.symm▸k)
theorem aa0{N:Nat}:(if(4:Int)<N then 4 else(N:Int))=(min N 4:Nat):=by
 by_cases h:(4:Int)<N
 ·rw [if_pos h,Nat.min_eq_right (Nat.le_of_lt (Int.ofNat_lt.1 h))];rfl
 ·exact ae (if_neg h)<|ae (Nat.min_eq_left (Int.ofNat_le.1 (Int.not_lt.1 h))) rfl
theorem acs{N:Nat}{s:U}{C:PV}(k:C (.int (min N 4:Nat)) s):Dl s C [.int N,.int 4]:=.i (by refine ae aa0 ?_;exact k)
theorem FF{α:Type}{a b c:α}{R:List α}:(a::b::c::R).Perm (b::c::a::R):=(List.Perm.swap _ _ _).trans (.cons _ (.swap _ _ _))
theorem LS.R6{H:Hp}{R:List aR}{C:PV}(w:LS H R){a b:Nat}{xs ys:List AV}(h1:w.w.σ[a]?=some (.list xs))(h2:w.w.σ[b]?=some (.list ys))(hz:xs.length+ys.length<=10000)(k:∀l(w':LS H ((l,.list (xs++ys))::R)),C (.ref l) w'.w.σ):cq w.w.σ C (.ref a) (.ref b):=.l h1 h2 hz (k _ (w.new _))
theorem inL{s:U}{A B:U->Prop}{l:Nat}{ns:List aM}{k:aM}(h:s[l]?=some (.list (ns.map bq)))(hk:k∈ns)(p:A s):pe s (cj A B) (bq k) (.ref l):=.l h (BU k ns) (by refine ae (decide_eq_true hk) ?_;exact p)
theorem acu{s:U}{A B:U->Prop}{l:Nat}{ns:List aM}{k:aM}(h:s[l]?=some (.list (ns.map bq)))(hk:k∉ns)(p:B s):pe s (cj A B) (bq k) (.ref l):=.l h (BU k ns) (by refine ae (decide_eq_false hk) ?_;exact p)
section
variable{H:Hp} {R:List aR} {C:PV} {d n ln:Nat} {row:List Int}
theorem Vv(w:LS H ((0,dE n)::(2,ei row)::R))(hn:n<=900)(tL:Ue H)(hl:(ln,.list (H.ai.map bq))∈R)
  (k:∀kk n' jG X,yv H.ai.length kk->n'<=n+3->(jG,AO.list ((jR H kk).ai.map bq))∈X++R->∀w':LS (jR H kk) ((0,dE n')::(2,ei row)::(X++R)),C (.ref jG) w'.w.σ):(O (d+8)).call .more [.ref 0,.ref 3,.ref ln] w.w.σ C:=by
 have hfn:=tL.jf.ai;have lG:=tL.pos;have key:∀(op:String)(m:Nat),(op="f"/\m=1\/op="g"/\m=2)->∀w:LS H ((0,dE (n+1))::(2,ei row)::R),wj (O (d+7)) C (.ref 0) (.ref 3) (.ref ln) (.str op) (.int m) w.w.σ:=λ op m k9 w=>by
  have hm:m<=2:=by rcases k9 with⟨_,rfl⟩|⟨_,rfl⟩<;>omega
  have i9:eQ op=true:=by rcases k9 with⟨rfl,_⟩|⟨rfl,_⟩<;>rfl
  refine zw (nc hm rfl) ?_;have cg:=Lp (σ:=w.w.σ) (C:=λ t s=>eL s (λ t s=>cq s (λ t s=>EW (O (d+7)) C (.ref 3) t (.ref ln) (.str op) s) (.tup [.str op]) t) [t])
   (λ(us:List Unit)l acc σ=>∃ks n',∃w:LS H ((l,.list acc)::(0,dE n')::(2,ei row)::R),w.w.σ=σ/\acc=nl ks/\n'=n+1+ks.length/\(∀r∈ks,r<min H.ai.length 4)/\ks.length+us.length=m)
   (qy (O (d+7)) (.ref 0) (.ref ln)) (λ us=>.mM ((m:Int) -us.length) 1 us.length) (List.replicate m ()) (λ aa aa aa aa aa aa q=>Bt (.re q)) ?_ ⟨([]:List Nat),_,w.new (.list []),rfl,rfl,rfl,by simp,by simp⟩ ?_
  ·rw [List.length_replicate,Int.sub_self]at cg;exact cg
  ·rintro x us n2 l acc σ Q ⟨ks,n',w,rfl,e1,e2,pA,hlen⟩ nx;simp only [List.length_cons]at hlen;refine Bt<|.rs<|dp (w.at (.tail _ (.tail _ (.tail _ hl)))) (List.length_map ..)<|acs<|lQ (w.bI FF) (C4 hn hm (bS e2) (bS hlen) (by simp+arith only)) (by omega) λ r hr w=>(w.bI (FF.trans FF)).zr (by rw [e1,cN];exact dc hm (bS hlen) (by simp+arith only)) λ w=>?_;rw [List.length_cons,show(m:Int) -(us.length+1:Nat)+1=m -us.length by omega];refine nx (acc++[.int r]) w.w.σ ⟨ks++[r],n'+1,w,rfl,by rw [e1,kT],by simp;exact Nat.le_antisymm (Nat.add_le_add_right (bS e2) _) (Nat.lt_succ_of_le (b7 e2)),λ x hx=>?_,by simp;exact Nat.le_antisymm (bQ (bS hlen) (by simp+arith only)) (bQ (b7 hlen) (by simp+arith only))⟩;rcases List.mem_append.mp hx with q|q
   ·exact pA x q
   ·exact List.mem_singleton.mp q▸hr
  ·rintro l acc σ ⟨ks,n',w,rfl,rfl,e2,pA,hlen⟩;simp only [List.length_nil,Nat.add_zero]at hlen;have Ug:yv H.ai.length (op,ks):=⟨by rcases k9 with⟨a,b⟩|⟨a,b⟩;exact .inl ⟨a,hlen.trans b⟩;exact .inr ⟨a,hlen.trans b⟩,pA⟩
   rw [show w.w.σ=(w.bI FF).w.σ from rfl];generalize w.bI FF=w;have key:∀w:LS (jR H (op,ks)) ((0,dE n')::(2,ei row)::(l,.list (nl ks))::R),EV C (bq (op,ks)) (.ref ln) w.w.σ:=by
    have k:=λ jG X h=>k (op,ks) n' jG X Ug (fJ hm (bS e2) (bS hlen) (by simp+arith only)) h;by_cases fP:(op,ks)∈H.ai
    ·rw [show jR H (op,ks)=H from if_pos fP]at k⊢;exact λ w=>inL (w.at (.tail _ (.tail _ (.tail _ hl)))) fP (k ln [(l,.list (nl ks))] (List.mem_append_right _ hl) w)
    ·have e:(jR H (op,ks)).ai=H.ai++[(op,ks)]:=by rw [show jR H (op,ks)=wF H (op,ks) from if_neg fP,Lq]
     refine λ w=>acu (w.at (.tail _ (.tail _ (.tail _ hl)))) fP<|w.rB _ λ l2 w=>w.R6 (w.at (.tail _ (.tail _ (.tail _ (.tail _ hl))))) (w.at (.head _)) (by simp;exact nc hfn rfl) λ l3 w=>k l3 [(l3,.list (H.ai.map bq++[bq (op,ks)])),(l2,.list [bq (op,ks)]),(l,.list (nl ks))] (by refine ae e ?_;simp) (w.bI ?_);exact List.Perm.append_right ((l,AO.list (nl ks))::R) (l₁:=[_,_]++[(0,dE n'),(2,ei row)]) (l₂:=[(0,dE n'),(2,ei row)]++[_,_]) List.perm_append_comm
   refine .l (w.at (.tail _ (.tail _ (.head _))))<|.t (by rw [cN];simp;exact dc hm (bS hlen) (by simp+arith only))<|w.w.T3<|ng ?_;by_cases fP:(op,ks)∈H.ai
   ·obtain ⟨i,hi⟩:=List.getElem?_of_mem fP;rw [show jR H (op,ks)=H from if_pos fP]at key;exact Vs w tL.jf tL.ok hi (λ j hj=>(List.getElem?_inj (List.getElem?_eq_some_iff.mp hj).1 tL.nodup).mp (hj.trans hi.symm)) (key w)
   ·rw [show jR H (op,ks)=wF H (op,ks) from if_neg fP]at key;have hp:=tL.add _ Ug fP;exact IG w tL.jf tL.ok i9 fP (λ i hi=>by have:=pA i hi;exact Nat.lt_of_lt_of_le this (Nat.min_le_left (H.ai.length) (4))) (Nat.le_trans (bS hlen) hm) hp.1 hp.2 tL.ay tL.bj tL.known key
 refine YN<|lQ (m:=2) w (nc hn rfl) (by decide) λ r hr w=>?_;rcases (by omega:r=0\/r=1)with rfl|rfl
 ·exact .x (c:='f') (j:=0) ⟨by decide,.inl rfl⟩ (by decide) rfl<|jQ<|key "f" 1 (.inl ⟨rfl,rfl⟩) w
 ·exact .x (c:='g') (j:=1) ⟨by decide,.inl rfl⟩ (by decide) rfl<|iq rfl<|key "g" 2 (.inr ⟨rfl,rfl⟩) w
end
end
section
open PySem
theorem fz{σ:U}{l:Nat}{ao:AO}(h:σ[l]?=some ao)(t:U):(σ++t)[l]?=some ao:=(List.getElem?_append_left (List.getElem?_eq_some_iff.mp h).1).trans h
theorem Uh{α:Type}{C:PV}(σ:U)(bW:Nat->aP->Nat->U->(U->Prop)->Prop)(ks:List α)(g f:α->AV)(hz:ks.length<10000)(he:∀n l s Q,Q s->bW (n+1) (.tup []) l s Q)
  (hs:∀x vs n l t Q,x∈ks->(∀t',b6 (f x) (σ++t++t') (λ s=>bW n (.tup vs) l s Q) l)->bW (n+1) (.tup (g x::vs)) l (σ++t) Q)
  (k:∀l t,(σ++t)[l]?=some (.list (ks.map f))->C (.ref l) (σ++t)):eJ σ C λ n l s Q=>bW n (.tup (ks.map g)) l s Q:=
 K3 (λ l acc σ'=>(σ.length<=l/\σ'[l]?=some (.list acc))/\∃t,σ'=σ++t) (λ aa aa aa h=>h.1.2) (λ l acc h_ σ' ⟨⟨h1,h2⟩,t,e⟩=>⟨⟨h1,List.getElem?_set_self (List.getElem?_eq_some_iff.mp h2).1⟩,t.set (l -σ.length) (.list h_),by subst e;exact List.set_append_right _ _ h1⟩) bW (λ us=>.tup (us.map g)) ks f rfl hz (λ n l _ σ Q _ q=>he n l σ Q q)
  (λ x us n l acc σ' Q hx ⟨h1,t,e⟩ q=>e▸hs x _ n l t Q hx λ t'=>q _ ⟨⟨h1.1,fz (e▸h1.2) t'⟩,t++t',List.append_assoc ..⟩) ⟨⟨Nat.le_refl _,List.getElem?_concat_length ..⟩,_,rfl⟩ λ l σ' ⟨h1,t,e⟩=>e▸k l t (e▸h1.2)
theorem R7{ns:List aM}{ln:Nat}(hb:i0 ns)(hk:∀k∈ns,k.2.length<=900):∀(n d:Nat)(σ:U){C:PV},n<ns.length->σ[ln]?=some (.list (ns.map bq))->(∀t,C (dn ns n) (σ++t))->(O (n+d+1)).call .hJ [.ref ln,.int n] σ C:=λ n=>by
 induction n using Nat.strongRecOn with
 |ind n ih=>
  intro d σ C hn hl k;have hn:=List.getElem?_eq_getElem hn;generalize ns[n]'_=kk at hn;have hkz:=hk kk (List.mem_of_getElem? hn);have hg {C:PV} (p:C (bq kk) σ):aj σ C (.ref ln) (.int n):=eY hl (by simp [hn]) p;refine U_<|hg<|df<|hg<|ng<|.t<|Uh σ (mh (O (n+d)) (.ref ln)) kk.2 _ (dn ns) (fb hkz rfl) (λ aa aa aa aa q=>x9 (.te q)) (λ x vs n2 l t Q hx q=>x9<|.ts ?_) λ l t h=>.l h<|.t (by simp;exact nc (Nat.add_le_add_left hkz _) rfl) ?_
  ·have r7:=hb n kk hn x hx;have:=ih x r7 (n -x -1+d) (σ++t) (C:=λ v s=>b6 v s (λ s=>mh (O (n+d)) (.ref ln) n2 (.tup vs) l s Q) l) (Nat.lt_trans r7 (List.getElem?_eq_some_iff.mp hn).1) (fz hl t) q
   rwa [show x+(n -x -1+d)+1=n+d by exact nsx r7]at this
  ·refine ae (show AV.tup ([.str kk.1]++kk.2.map (dn ns))=dn ns n from(nB hb hn).symm) ?_;exact k t
section
variable{H:Hp} {R:List aR} {C:PV} {d n:Nat} (w:LS H R)
noncomputable def LS.f'(t:U):LS H R:=⟨w.x,w.w.f' t,w.len⟩
theorem G5(hf:dz H)(hN:H.ai.length<=60)(lh:i0 H.ai)(hn:n<H.ai.length)(k:∀w':LS H R,C (dn H.ai n) w'.w.σ):(O (d+3)).call .lB [.ref 3,.int n] w.w.σ C:=by have hw:=List.getElem?_eq_getElem (l:=d8 H.ai) (i:=n) (by rw [vE];exact hn);have hw2:=hf.wt _ (List.mem_of_getElem? hw);exact Kz<|w.w.iH<|w.w.RK<|OE w.w hw<|kU (by omega)<|w.w.iH<|w.w.YU<|Vk w.w hf hN lh hn λ w2=>k ⟨w.x,w2,w.len⟩
theorem zx{i a b:Nat}{l:String}(he:H.ay[i]?=some (a,b,some l))(k:C (.tup [.str "told",.str l]) w.w.σ):(O (d+1)).call .iJ [.ref 3,.int i] w.w.σ C:=
 Cs<|w.w.gT<|w.w.CK he<|yi<|df<|jQ<|eZ k
theorem OY(k:C (.tup [.int H.ai.length,.int H.ay.length,.int H.d4]) w.w.σ):(O (d+3)).call .o2 [.ref 3] w.w.σ C:=
 Rr<|w.w.yh<|vB w.w<|w.w.gT<|w.w.T5<|w.w.Ir k
end
end
section
set_option genInjectivity false
set_option genSizeOf false
open PySem
inductive f7(C:Core):Nat->Nat->Nat->AV->Nat->Nat->Prop
 |told {n d m i a b:Nat} {l:String}:C.ay[i]?=some (a,b,some l)->i<n->1<=m->f7 C n d m (.tup [.str "told",.str l]) a b
 |same {n d m a:Nat}:a<C.ai.length->f7 C n d m (.tup [.str "same",dn C.ai a]) a a
 |join {n d m k a b c:Nat} {p q:AV}:f7 C n d m p a b->f7 C n d k q b c->f7 C n (d+1) (m+k) (.tup [.str "join",p,q]) a c
 |turn {n d m a b:Nat} {p:AV}:f7 C n d m p a b->f7 C n (d+1) m (.tup [.str "turn",p]) b a
 |under {n d m k i a b:Nat} {ka kb:aM} {ps:List AV}:C.ay[i]?=some (a,b,none)->i<n->C.ai[a]?=some ka->C.ai[b]?=some kb->ka.1=kb.1->ka.2.length=kb.2.length->ps.length=ka.2.length->ps.length<=2->2*k<=m->
   (∀(j:Nat)(p:AV)(x y:Nat),ps[j]?=some p->ka.2[j]?=some x->kb.2[j]?=some y->f7 C i d k p x y)->f7 C n (d+1) m (.tup [.str "under",.str ka.1,.tup ps]) a b
theorem f7.bo{C:Core}{n d m:Nat}{p:AV}{a b:Nat}(h:f7 C n d m p a b):∀{n' d' m':Nat},n<=n'->d<=d'->m<=m'->f7 C n' d' m' p a b:=by
 induction h with
 |told h1 h2 h3=>intro n' d' m' hn hd hm;exact .told h1 (Nat.lt_of_lt_of_le h2 hn) (Nat.le_trans h3 hm)
 |same h1=>intro n' d' m' hn hd hm;exact .same h1
 |@join n d m k a b c p q _ _ xy rO=>
  intro n' d' m' hn hd hm;obtain ⟨d',rfl⟩:∃e,d'=e+1:=⟨d' -1,((Nat.sub_add_cancel (j5 hd:(1)<=(d')))).symm⟩
  obtain ⟨k',rfl⟩:∃e,m'=m+e:=⟨m' -m,Nat.le_antisymm (bQ (b7 (Nat.sub_add_cancel (C3 hm:(m)<=(m')))) (by simp+arith only)) (bQ (bS (Nat.sub_add_cancel (C3 hm:(m)<=(m')))) (by simp+arith only))⟩
  exact .join (xy hn (Nat.le_of_lt_succ hd) (Nat.le_refl _)) (rO hn (Nat.le_of_lt_succ hd) (Nat.le_of_add_le_add_left hm))
 |turn _ ih=>
  intro n' d' m' hn hd hm;obtain ⟨d',rfl⟩:∃e,d'=e+1:=⟨d' -1,((Nat.sub_add_cancel (j5 hd:(1)<=(d')))).symm⟩
  exact .turn (ih hn (Nat.le_of_lt_succ hd) hm)
 |under h1 h2 h3 h4 h5 h6 h7 h8 h9 _ ih=>
  intro n' d' m' hn hd hm;obtain ⟨d',rfl⟩:∃e,d'=e+1:=⟨d' -1,((Nat.sub_add_cancel (j5 hd:(1)<=(d')))).symm⟩
  exact .under h1 (Nat.lt_of_lt_of_le h2 hn) h3 h4 h5 h6 h7 h8 (Nat.le_trans h9 hm) λ j p x y e1 e2 e3=>ih j p x y e1 e2 e3 (Nat.le_refl _) (Nat.le_of_lt_succ hd) (Nat.le_refl _)
inductive fa(Pr:Nat->AV->Nat->Nat->Prop):Nat->List AV->Nat->Nat->Prop
 |nil {a:Nat}:fa Pr 0 [] a a
 |cons {m k:Nat} {p:AV} {ps:List AV} {a b c:Nat}:Pr m p a b->fa Pr k ps b c->fa Pr (m+k) (p::ps) a c
theorem fa.bo{Pr Pr':Nat->AV->Nat->Nat->Prop}(hm:∀m p a b,Pr m p a b->Pr' m p a b){s:Nat}{ps:List AV}{a b:Nat}(h:fa Pr s ps a b):fa Pr' s ps a b:=by
 induction h with
 |nil=>exact .nil
 |cons h1 _ ih=>exact .cons (hm _ _ _ _ h1) ih
theorem fa.zero{Pr:Nat->AV->Nat->Nat->Prop}{s a b:Nat}:fa Pr s [] a b->a=b|.nil=>rfl
theorem fa.uL{C:Core}{n d s a b:Nat}{p:AV}(h:fa (f7 C n d) s [p] a b):f7 C n d s p a b:=by cases h with|cons h1 h2=>cases h2;exact h1
noncomputable def pN:List AV->List AV
 |p::q::r=>.tup [.str "join",p,q]::pN r
 |[p]=>[p]
 |[]=>[]
theorem FG(p q:AV)(r:List AV):pN (p::q::r)=.tup [.str "join",p,q]::pN r:=rfl
theorem zy{α:Type}{P:List α->Prop}(h0:P [])(h1:∀p,P [p])(h2:∀p q r,P r->P (p::q::r))(l:List α):P l:=by
 have:P l/\∀p,P (p::l):=by
  induction l with
  |nil=>exact ⟨h0,h1⟩
  |cons a r ih=>exact ⟨ih.2 a,λ p=>h2 p a r ih.1⟩
 exact this.1
theorem fa.acv{C:Core}{n d:Nat}{ps:List AV}:∀{s a b:Nat},fa (f7 C n d) s ps a b->fa (f7 C n (d+1)) s (pN ps) a b:=by
 induction ps using zy with
 |h0=>intro s a b h;cases h;exact .nil
 |h1 p=>exact λ{s aa aa}h=>fa.cons (m:=s) (k:=0) (h.uL.bo (Nat.le_refl _) (Nat.le_succ _) (Nat.le_refl _)) .nil
 |h2 p q r ih=>
  intro s a b h;cases h with
  |cons h1 h2=>cases h2 with
   |cons h3 h4=>exact Nat.add_assoc ..▸.cons (.join h1 h3) (ih h4)
theorem Lr(ps:List AV):(pN ps).length=(ps.length+1)/2:=by
 induction ps using zy with
 |h0=>rfl
 |h1 p=>kernel_rfl
 |h2 p q r ih=>rw [FG,List.length_cons,ih];exact (Wg _).symm
noncomputable def pO(row:List AV)(i:Nat):AV:=.tup [.str "join",row.getD (2*i) .none,row.getD (2*i+1) .none]
theorem OZ(ps:List AV):pN ps=(List.range (ps.length/2)).map (pO ps)++ps.drop (ps.length -ps.length %2):=by
 induction ps using zy with
 |h0=>rfl
 |h1 p=>kernel_rfl
 |h2 p q r ih=>
  have e1:(p::q::r).length/2=r.length/2+1:=Wg _;have e2:(p::q::r).length -(p::q::r).length %2=(r.length -r.length %2)+2:=nev _;rw [FG,ih,e1,e2,List.range_succ_eq_map,List.map_cons,List.map_map];have e3:(pO (p::q::r)∘Nat.succ)=pO r:=by funext i;simp only [Function.comp,pO];have f1:2*i.succ=2*i+1+1:=rfl;have f2:2*i.succ+1=2*i+1+1+1:=rfl;exact rfl
  refine ae e3 ?_;exact rfl
theorem acw{n:Nat}{D:aP->Prop}(h1:2<=n)(h2:n<=1000)(k:D (.mM 0 2 (n/2))):mA D [.int 0,.int ((n:Int) -1),.int 2]:=.c (by unfold ot;lia) (by unfold qa;refine ae (rz2 h1) ?_;exact k)
section
variable{H:Hp} {R:List aR} {C:PV} {D n a b s l f:Nat} {c c1:aR}
noncomputable def LS.qI(w:LS H (c::c1::R)):LS H (c::R):=(w.bI (.swap _ _ _)).drop
theorem LS.Zu{xs:List AV}{m:Nat}(w:LS H R)(h:w.w.σ[l]?=some (.list xs))(hm:m<=xs.length)(hz:xs.length<=10000)(k:∀l'(w':LS H ((l',.list (xs.drop m))::R)),C (.ref l') w'.w.σ):eR (some (m:Nat)) none none w.w.σ C (.ref l):=
 .l h (λ q=>nomatch q) (by refine ae (BS _ _ hm) ?_;simp;exact Nat.le_trans hz (Nat.le_add_right ..)) (by refine ae (BS _ _ hm) ?_;exact k _ (w.new _))
theorem G6{row:List AV}(w:LS H ((l,.list row)::R))(hz:row.length<=1000)(k:∀l'(w':LS H ((l',.list ((List.range (row.length/2)).map (pO row)))::(l,.list row)::R)),C (.ref l') w'.w.σ):
  eJ w.w.σ C λ n l' s Q=>iD (O D) (.ref l) n (.mM 0 2 (row.length/2)) l' s Q:=by
 have cg:=Lp (σ:=w.w.σ) (C:=C) (λ(us:List Unit)l' acc σ=>∃w:LS H ((l',.list acc)::(l,.list row)::R),w.w.σ=σ/\acc=(List.range (row.length/2 -us.length)).map (pO row)/\us.length<=row.length/2)
  (iD (O D) (.ref l)) (λ us=>.mM (2*(row.length/2 -us.length):Nat) 2 us.length) (List.replicate (row.length/2) ()) (λ aa aa aa aa aa aa q=>pG (.re q)) ?_ ⟨w.new (.list []),rfl,by simp,by simp⟩ ?_
 ·rw [List.length_replicate,Nat.sub_self,Nat.mul_zero]at cg;exact cg
 ·rintro x us m l' acc σ Q ⟨w,rfl,e1,hle⟩ nx;rw [List.length_cons]at hle e1⊢;have nL:row.length/2 -(us.length+1)<row.length/2:=Nat.sub_lt (Nat.lt_of_lt_of_le (Nat.succ_pos _) hle) (Nat.succ_pos _);have Zv:row.length/2 -us.length=row.length/2 -(us.length+1)+1:=(Nat.succ_pred_eq_of_pos (Nat.sub_pos_of_lt hle)).symm;rw [Zv]at nx;generalize row.length/2 -(us.length+1)=i at*;have b1:row[2*i]?=some (row.getD (2*i) .none):=by refine ae List.getD_eq_getElem?_getD<|ae (List.getElem?_eq_getElem (Nat.lt_of_succ_lt (nhl nL))) ?_;rfl
  have b2:row[2*i+1]?=some (row.getD (2*i+1) .none):=by refine ae List.getD_eq_getElem?_getD<|ae (List.getElem?_eq_getElem (nhl nL)) ?_;rfl
  have c:=w.at (.tail _ (.head _))
  refine pG<|.rs<|eY c b1<|qL<|eY c b2<|w.zr (by refine ae e1 ?_;simp;exact Nat.lt_of_lt_of_le nL (nc (Nat.le_trans (Nat.div_le_self row.length 2) hz) rfl)) λ w=>?_;exact nx _ _ ⟨w,rfl,by refine ae e1<|ae List.range_succ<|ae List.map_append ?_;rfl,Nat.le_of_lt hle⟩
 ·rintro l' acc σ ⟨w,rfl,e1,_⟩;subst e1;exact k l' w
theorem G7{x:AV}:∀(r d l:Nat)(row:List AV)(w:LS H ((l,.list row)::R)),row.length<=2^r->row.length<=1000->fa (f7 H.toCore n d) s row a b->
  (∀l row(w:LS H ((l,.list row)::R)),row.length<=1->fa (f7 H.toCore n (d+r)) s row a b->rp (O D) C x (.ref 3) (.ref l) w.w.σ)->jP (O D) C x (.ref 3) (.ref l) (r+1) w.w.σ:=λ r=>by
 induction r with
 |zero=>exact λ d l row w hl hz hc k=>lK<|dp (w.at (.head _)) rfl<|kU (by lia)<|k l row w hl hc
 |succ r ih=>
  intro d l row w hl hz hc k;have c:=w.at (.head _)
  by_cases h1:row.length<=1
  ·exact lK<|dp c rfl<|kU (by lia)<|k l row w h1 (hc.bo λ aa aa aa aa p=>p.bo (Nat.le_refl _) (Nat.le_add_right ..) (Nat.le_refl _))
  ·have gq:=Lr row;have hp2:2^(r+1)=2*2^r:=by rw [Nat.pow_succ,Nat.mul_comm]
   refine lK<|dp c rfl<|qH (by lia)<|dp c rfl<|.mk<|acw ((Nat.lt_of_not_le h1)) hz<|G6 w hz λ l1 w=>?_;have c:=w.at (.tail _ (.head _))
   refine dp c rfl<|dp c rfl<|.mk ⟨by decide,.mk ?_⟩;refine ae (show(row.length:Int) -(row.length:Int) %2=((row.length -row.length %2:Nat):Int) from(Int.ofNat_sub (Nat.mod_le row.length 2)).symm) ?_;refine w.Zu c (Nat.sub_le ..) (nc hz rfl) λ l2 w=>w.R6 (w.at (.tail _ (.head _))) (w.at (.head _)) (by simp;exact SQ (Nat.le_trans (Nat.div_le_self row.length 2) hz) (Nat.le_trans (Nat.sub_le row.length _) hz) rfl) λ l3 w=>?_;revert w;rw [<-OZ];exact λ w=>ih (d+1) l3 _ w.qI.qI.qI (by lia) (by lia) hc.acv λ l row w h1 hc=>k l row w h1 (by rwa [show d+1+r=d+(r+1) by exact Nat.add_right_comm ..]at hc)
theorem FH{ps:List AV}(w:LS H R)(hf:dz H)(hN:H.ai.length<=60)(lh:i0 H.ai)(ha:a<H.ai.length)(hfl:(f,.list ps)∈R)(hz:ps.length<=8)(hc:fa (f7 H.toCore n d) s ps a b)
  (k:∀v,f7 H.toCore n (d+3) s v a b->∀w':LS H R,C v w'.w.σ):(O (D+4)).call .j6 [.ref 3,.int a,.ref f] w.w.σ C:=
 GY<|.l<|.l (w.at hfl)<|⟨4,G7 3 d _ ps (w.new _) (by simpa using hz) (nc hz rfl) hc λ l row w hl hc=>
  match row,w,hl,hc with
  |[p],w,_,hc=>dp (w.at (.head _)) rfl<|zq rfl<|eY (w.at (.head _)) (i:=0) rfl<|k _ hc.uL w.drop
  |[],w,_,hc=>dp (w.at (.head _)) rfl<|wx (by decide)<|G5 w hf hN lh ha λ w=>k _ (hc.zero▸.same ha) w.drop⟩
end
end
section
set_option genInjectivity false
set_option genSizeOf false
open PySem
noncomputable def n0(p l:Nat)(m:AV)(b:Nat):List (String×AV):=[("heap",.ref 3),("parts",.int p),("level",.int l),("mark",m),("beside",.ref b)]
noncomputable def mQ(f:Nat->List (Nat×Nat))(bs:List (Nat×Nat)):List aR:=bs.map λ p=>(p.2,.list ((f p.1).map d5))
noncomputable def WC(y p l:Nat)(m:AV)(b:Nat)(f:Nat->List (Nat×Nat))(bs:List (Nat×Nat)):List aR:=(y,.inst .eb)::(y+1,.dS (n0 p l m b))::(b,.dI (eI bs))::mQ f bs
structure wG(f:Nat->List (Nat×Nat))(bs:List (Nat×Nat)):Prop where
 eo:(bs.map (·.1)).Nodup
 out:∀c,c∉bs.map (·.1)->f c=[]
noncomputable def wH(C:Core)(i c:Nat):List (Nat×Nat):=
 match C.ay[i]?with
 |some (a,b,_)=>(if a=c then[(i,b)]else[])++(if b=c then[(i,a)]else[])
 |none=>[]
noncomputable def fA(C:Core)(fs:List Nat)(c:Nat):List (Nat×Nat):=fs.flatMap λ i=>wH C i c
noncomputable def mq(H:Hp):AV:=.tup [.int H.ai.length,.int H.ay.length,.int H.d4]
def FI(H:Hp)(m:AV)(f:Nat->List (Nat×Nat)):Prop:=
 m=.none\/∃n e k:Nat,m=.tup [.int n,.int e,.int k]/\k<=H.d4/\(n=H.ai.length->e=H.ay.length->k=H.d4->f=fA H.toCore H.aH)
structure WG where
 m:AV
 b:Nat
 f:Nat->List (Nat×Nat)
 bs:List (Nat×Nat)
noncomputable def WG.C(g:WG)(y p l:Nat)(R:List aR):List aR:=WC y p l g.m g.b g.f g.bs++R
structure WS(H:Hp)(y p l:Nat)(R:List aR)where
 g:WG
 w:LS H (g.C y p l R)
 ok:wG g.f g.bs
 tM:FI H g.m g.f
structure WN(H:Hp)(y p l:Nat)(R:List aR)where
 b:Nat
 bs:List (Nat×Nat)
 w:LS H (WC y p l (mq H) b (fA H.toCore H.aH) bs++R)
 ok:wG (fA H.toCore H.aH) bs
noncomputable def WN.st{H:Hp}{y p l:Nat}{R:List aR}(w:WN H y p l R):WS H y p l R:=⟨⟨_,w.b,_,w.bs⟩,w.w,w.ok,.inr ⟨_,_,_,rfl,Nat.le_refl _,λ aa aa aa=>rfl⟩⟩
theorem R8(C:Core)(fs:List Nat)(i c:Nat):fA C (fs++[i]) c=fA C fs c++wH C i c:=by simp [fA]
theorem R9(C:Core)(i c:Nat):(wH C i c).length<=2:=by
 unfold wH;split
 ·refine ae List.length_append ?_;split<;>split<;>simp
 ·simp
theorem Vw(C:Core)(c:Nat):∀fs:List Nat,(fA C fs c).length<=2*fs.length:=by
 intro bN;induction bN with
 |nil=>
  skip;exact Nat.le_refl _
 |cons i fs ih=>skip;have h1:=ih;have h2:=R9 C i c;simp only [fA,List.flatMap_cons,List.length_append,List.length_cons]at h1⊢;exact dc h2 h1 (by simp+arith only)
theorem kA{C:Core}{fs:List Nat}{c i o:Nat}:(i,o)∈fA C fs c↔i∈fs/\∃a b r,C.ay[i]?=some (a,b,r)/\(a=c/\o=b\/b=c/\o=a):=by
 unfold fA;rw [List.mem_flatMap];constructor
 ·rintro ⟨j,hj,hm⟩;unfold wH at hm;split at hm
  ·rename_i a b r he;rcases List.mem_append.mp hm with h|h
   ·split at h
    ·rename_i Zw;simp only [List.mem_singleton,Prod.mk.injEq]at h;obtain ⟨rfl,rfl⟩:=h;exact ⟨hj,a,_,r,he,.inl ⟨Zw,rfl⟩⟩
    ·simp at h
   ·split at h
    ·rename_i Zw;simp only [List.mem_singleton,Prod.mk.injEq]at h;obtain ⟨rfl,rfl⟩:=h;exact ⟨hj,_,b,r,he,.inr ⟨Zw,rfl⟩⟩
    ·simp at h
  ·simp at hm
 ·rintro ⟨hi,a,b,r,he,h⟩;refine ⟨i,hi,?_⟩;unfold wH;refine ae he ?_;simp only;rcases h with⟨rfl,rfl⟩|⟨rfl,rfl⟩<;>simp
noncomputable def gV(f:Nat->List (Nat×Nat))(c:Nat)(x:Nat×Nat):Nat->List (Nat×Nat):=λ y=>if y=c then f c++[x]else f y
theorem R_{C:Core}{fs:List Nat}{i a b:Nat}{r:Option String}(he:C.ay[i]?=some (a,b,r)):gV (gV (fA C fs) a (i,b)) b (i,a)=fA C (fs++[i]):=by
 funext y;rw [R8];simp only [gV,wH,he];by_cases h1:y=b
 ·subst h1;by_cases h2:y=a
  ·subst h2;simp
  ·simp [h2,Ne.symm h2]
 ·by_cases h2:y=a
  ·subst h2;simp [h1,Ne.symm h1]
  ·simp [h1,h2,Ne.symm h1,Ne.symm h2]
section
variable{C:PV} {A B:U->Prop} {s:U} {H:Hp} {R:List aR} {y p l b d:Nat} {m:AV} {f:Nat->List (Nat×Nat)} {bs:List (Nat×Nat)}
theorem zA{A:List (Nat×Nat)}{c:Nat}{x:Nat×Nat}(hA:∀q∈A,q.1≠c):mQ (gV f c x) A=mQ f A:=
 List.map_congr_left λ q hq=>by simp only [gV,if_neg (hA q hq)]
noncomputable def LS.fB{A B:List aR}{k:Nat}{old:AO}(w:LS H (A++(k,old)::B))(x:AO):LS H (A++(k,x)::B):=
 ((w.bI List.perm_middle).put x).bI List.perm_middle.symm
noncomputable def LS.sub{R':List aR}(w:LS H R)(p:R'.Sublist R):LS H R':=⟨w.x,⟨w.w.σ,w.w.g,⟨w.w.rep.ok,w.w.rep.holds.sub (.append (.refl _) (.append (.refl _) (.append (.refl _) p)))⟩,w.w.k⟩,w.len⟩
section
variable(w:LS H (WC y p l m b f bs++R))
theorem LS.yw{x:String}{v:AV}(h1:(fT .eb).contains x=true)(h2:bD (n0 p l m b) x=some v)(k:C v w.w.σ):ak x w.w.σ C (.ref y):=.mk (w.at (.head _)) (w.at (.tail _ (.head _))) h1 h2 k
theorem LS.jH(k:C (.ref 3) w.w.σ):ak "heap" w.w.σ C (.ref y):=w.yw (by kernel_rfl) (by kernel_rfl) k
theorem LS.IJ(k:C (.int p) w.w.σ):ak "parts" w.w.σ C (.ref y):=w.yw (by kernel_rfl) (by kernel_rfl) k
theorem LS.zB(k:C (.int l) w.w.σ):ak "level" w.w.σ C (.ref y):=w.yw (by kernel_rfl) (by kernel_rfl) k
theorem LS.Zx(k:C m w.w.σ):ak "mark" w.w.σ C (.ref y):=w.yw (by kernel_rfl) (by kernel_rfl) k
theorem LS.wI(k:C (.ref b) w.w.σ):ak "beside" w.w.σ C (.ref y):=w.yw (by kernel_rfl) (by kernel_rfl) k
theorem LS.Ui{x:String}{v:AV}{p' l':Nat}{m':AV}{b':Nat}(h1:(fT .eb).contains x=true)(h2:dY (n0 p l m b) x v=n0 p' l' m' b')(k:A (w.w.σ.set (y+1) (.dS (n0 p' l' m' b')))):bG x v w.w.σ A (.ref y):=
 .mk (w.at (.head _)) (w.at (.tail _ (.head _))) h1 (Nat.le_of_ble_eq_true rfl) (by refine ae h2 ?_;exact k)
theorem O0{c i o:Nat}(ok:wG f bs)(hz:bs.length<=9000)(hl:(f c).length<=9000)(k:∀Zy,wG (gV f c (i,o)) Zy->Zy.length<=bs.length+1->∀w':LS H (WC y p l m b (gV f c (i,o)) Zy++R),A w'.w.σ):
  Bm mB w.w.σ (λ t2=>dm (.list []) w.w.σ (λ t3 s2=>hZ t2 s2 (λ t4 s3=>cX s3 (λ t5=>b6 (.tup [.int i,.int o]) s3 A t5) t4) [.int c,t3])) (.ref b):=by
 have hu:(eI bs).length<=10000:=by simp [eI];exact nc hz rfl
 refine .mk (w.at (.tail _ (.tail _ (.head _)))) ⟨_,rfl⟩ ?_;let w1:=w.new (.list []);by_cases hk:c∈bs.map (·.1)
 ·obtain ⟨⟨c',lo⟩,hm,e⟩:=List.mem_map.mp hk;simp only at e;subst e;obtain ⟨X,Y,rfl,hX,hY⟩:=jZ ok.eo hm;let Z:List aR:=(y,.inst .eb)::(y+1,.dS (n0 p l m b))::(b,.dI (eI (X++(c',lo)::Y)))::mQ f X;have e2:WC y p l m b f (X++(c',lo)::Y)++R=Z++(lo,.list ((f c').map d5))::(mQ f Y++R):=by simp [Z,WC,mQ]
  have e3:WC y p l m b (gV f c' (i,o)) (X++(c',lo)::Y)++R=Z++(lo,.list ((f c').map d5++[d5 (i,o)]))::(mQ f Y++R):=by have:mQ (gV f c' (i,o)) (X++(c',lo)::Y)=mQ (gV f c' (i,o)) X++(lo,.list ((gV f c' (i,o) c').map d5))::mQ (gV f c' (i,o)) Y:=List.map_append ..;rw [zA hX,zA hY]at this;simp [Z,WC,this,gV]
  let w2:=w1.drop.bI (.of_eq e2);have c2:w1.w.σ[lo]?=some (.list ((f c').map d5)):=w2.at (List.mem_append_right _ (.head _))
  refine .old (w1.at (.tail _ (.tail _ (.tail _ (.head _))))) hu (nA hX)<|.mk c2<|.mk c2 (by rw [List.length_map];exact fb hl rfl) ?_;refine k _ ⟨ok.eo,λ z hz=>?_⟩ (Nat.le_succ _) ((w2.fB (.list ((f c').map d5++[d5 (i,o)]))).bI (.of_eq e3.symm));simp only [gV,if_neg λ q:z=c'=>hz (q▸hk)];exact ok.out z hz
 ·have hA:∀q∈bs,q.1≠c:=λ q hq e=>hk (List.mem_map.mpr ⟨q,hq,e⟩);have hfc:=ok.out c hk;let w2:=LS.fB (A:=[(y,.inst .eb),(y+1,.dS (n0 p l m b))]) (B:=mQ f bs++(w.w.σ.length,.list [])::R) (w1.bI List.perm_middle.symm) (.dI (eI (bs++[(c,w.w.σ.length)])));let w3:=LS.fB (A:=(y,.inst .eb)::(y+1,.dS (n0 p l m b))::(b,.dI (eI (bs++[(c,w.w.σ.length)])))::mQ f bs) w2 (.list [d5 (i,o)]);have c2:w2.w.σ[w.w.σ.length]?=some (.list []):=w2.at (by simp)
  have e4:mQ (gV f c (i,o)) (bs++[(c,w.w.σ.length)])=mQ (gV f c (i,o)) bs++[(w.w.σ.length,.list ((gV f c (i,o) c).map d5))]:=List.map_append ..;rw [zA hA]at e4;refine .new (w1.at (.tail _ (.tail _ (.tail _ (.head _))))) hu (Fo hA) (Fp hA▸.mk c2 (.mk c2 (Nat.zero_lt_succ _) ?_));refine k (bs++[(c,w.w.σ.length)]) ⟨?_,λ z hz=>?_⟩ (by simp) (w3.bI (.of_eq (by simp [WC,e4,gV,hfc])))
  ·rw [List.map_append,List.nodup_append];exact ⟨ok.eo,by simp,λ x hx z hz q=>hk (by refine cQ (show z=c from List.mem_singleton.mp hz)<|cQ q ?_;exact hx)⟩
  ·simp only [List.map_append,List.mem_append,not_or,List.map_cons,List.map_nil,List.mem_singleton]at hz;simp only [gV,if_neg hz.2];exact ok.out z hz.1
end
theorem Vx(mk:FI H m f)(k1:A s)(k2:m=mq H->f=fA H.toCore H.aH->B s):fW s (cj A B) (mq H) m:=by
 rcases mk with rfl|⟨n,e,k,rfl,_,hm⟩
 ·exact lZ (b:=false) iP.tn k1
 ·refine lZ (b:=decide ([H.ai.length,H.ay.length,H.d4]=[n,e,k])) (um<|FE 38 [H.ai.length,H.ay.length,H.d4] [n,e,k]) ?_;by_cases q:[H.ai.length,H.ay.length,H.d4]=[n,e,k]
  ·refine ae (decide_eq_true q) ?_;simp only [List.cons.injEq,and_true]at q;obtain ⟨rfl,rfl,rfl⟩:=q;exact k2 rfl (hm rfl rfl rfl)
  ·refine ae (decide_eq_false q) ?_;exact k1
theorem O3(hf:dz H)(hi:∀i∈H.aH,i<H.ay.length)(k:∀w:WN H y p l R,C .none w.w.w.σ):∀(r j:Nat)(bs:List (Nat×Nat))(w:LS H (WC y p l (mq H) b (fA H.toCore (H.aH.take j)) bs++R)),j+r=H.aH.length->wG (fA H.toCore (H.aH.take j)) bs->bs.length<=2*j->
  lW (O d) C (.ref y) (r+1) (.list 17 j) w.w.σ:=by
 intro bN;induction bN with
 |zero=>
  intro j bs w e ok hz;have e:j=H.aH.length:=e;refine sY<|.le w.w.rep.E_ (by rw [cN];exact (b7 e)) ?_;revert w ok;refine ae e<|ae List.take_length ?_;exact λ w ok=>k ⟨b,bs,w,ok⟩
 |succ r ih=>
  intro j bs w e ok hz;have BV:=hf.aH;have FJ:=List.getElem?_eq_getElem (l:=H.aH) (i:=j) (nC (bS e));have fP:=List.mem_of_getElem? FJ;generalize H.aH[j]'_=i at FJ fP;have he:=List.getElem?_eq_getElem (hi i fP);generalize H.ay[i]'_=e' at he;obtain ⟨a,c,rs⟩:=e';have hlen:∀c,(fA H.toCore (H.aH.take j) c).length<=1800:=λ c=>by have:=Vw H.toCore c (H.aH.take j);rw [List.length_take]at this;lia
  refine sY<|.ls w.w.rep.E_ (iI FJ)<|w.jH<|w.w.gT<|w.w.CK he<|.t<|w.wI<|O0 w ok (by lia) (by have:=hlen a;lia) λ bs1 ok h1 w=>w.wI<|O0 w ok (by lia) ?_ λ bs2 ok h2=>?_
  ·have:=hlen a;have:=hlen c;unfold gV;split
   ·refine ae List.length_append ?_;simp;lia
   ·lia
  ·rw [R_ he,show H.aH.take j++[i]=H.aH.take (j+1) by refine ae List.take_add_one<|ae FJ ?_;rfl]at ok⊢;exact λ w=>ih (j+1) bs2 w (Nat.le_antisymm (bQ (bS e) (by simp+arith only)) (bQ (b7 e) (by simp+arith only))) ok (fJ hz h1 h2 (by simp+arith only))
theorem Ls(w:WS H y p l R)(hf:dz H)(hi:∀i∈H.aH,i<H.ay.length)(k:∀w:WN H y p l R,C .none w.w.w.σ):(O (d+4)).call .yM [.ref y] w.w.w.σ C:=by
 obtain ⟨⟨m,b,f,bs⟩,w,ok,mk⟩:=w;refine N_<|w.jH<|OY w<|w.Zx<|Vx mk ?_ ?_
 ·let w1:LS H ((y,.inst .eb)::(y+1,.dS (n0 p l m b))::(w.w.σ.length,.dI [])::R):=
   ((w.new (.dI [])).bI (R':=WC y p l m b f bs++(w.w.σ.length,.dI [])::R) List.perm_middle.symm).sub (.cons₂ _ (.cons₂ _ (.cons _ (List.sublist_append_right _ _))))
  let w2:LS H ((y,.inst .eb)::(y+1,.dS (n0 p l (mq H) b))::(w.w.σ.length,.dI [])::R):=LS.fB (A:=[(y,.inst .eb)]) w1 _;let w3:LS H (WC y p l (mq H) w.w.σ.length (fA H.toCore (H.aH.take 0)) []++R):=LS.fB (A:=[(y,.inst .eb)]) w2 (.dS (n0 p l (mq H) w.w.σ.length));refine .t<|.mk (w1.at (.head _)) (w1.at (.tail _ (.head _))) (by kernel_rfl) (Nat.le_of_ble_eq_true rfl)<|.mk (w2.at (.head _)) (w2.at (.tail _ (.head _))) (by kernel_rfl) (Nat.le_of_ble_eq_true rfl) ?_;exact w3.jH<|w3.w.wq<|.l w3.w.rep.E_ ⟨_,O3 hf hi k H.aH.length 0 [] w3 (Nat.zero_add _) ⟨.nil,λ aa aa=>rfl⟩ (Nat.le_refl _)⟩
 ·rintro rfl rfl;exact k ⟨b,bs,w,ok⟩
end
end
section
open PySem
theorem kB{l m:List Nat}(hn:l.Nodup)(h:∀b∈l,b∈m):l.length<=m.length:=by
 induction l generalizing m with
 |nil=>exact Nat.zero_le _
 |cons a l ih=>rw [List.nodup_cons]at hn;have hm:=h a (.head _);have:=ih (m:=m.erase a) hn.2 λ b hb=>(List.mem_erase_of_ne (λ e:b=a=>hn.1 (by refine cQ e ?_;exact hb))).mpr (h b (.tail _ hb));rw [List.length_erase_of_mem hm]at this;exact Nat.le_trans (Nat.succ_le_succ this) (Nat.le_of_eq (Nat.succ_pred_eq_of_pos (List.length_pos_of_mem hm)))
theorem Zz{α β:Type}{f:α->Option β}{g:α->β}:∀{l:List α},(∀x∈l,f x=some (g x))->l.filterMap f=l.map g:=by
 intro bN;induction bN with
 |nil=>
  intro zz;exact rfl
 |cons x l ih=>intro h;exact ae List.filterMap_cons<|ae (h x (.head _))<|ae List.map_cons<|ae (ih λ y hy=>h y (.tail _ hy)) rfl
theorem FK(xs:List AV):iV xs none none (some (-1))=xs.reverse:=by
 unfold iV;have hb:sliceBounds none none (some (-1)) xs.length=((xs.length:Int) -1,-1,-1):=rfl;rw [hb];simp only [sliceRange];have hc:(if(-1:Int)>0 then(if(xs.length:Int) -1< -1 then(-1 -((xs.length:Int) -1)+-1 -1)/ -1 else 0)else if(xs.length:Int) -1>-1 then((xs.length:Int) -1 - -1 - -1 -1)/ - -1 else 0).toNat=xs.length:=by
  rw [if_neg (by decide)];split
  ·have:((xs.length:Int) -1 - -1 - -1 -1)/ - -1=xs.length:=by rw [show(- -1:Int)=1 by decide,Int.ediv_one];lia
   rw [this];simp
  ·lia
 rw [hc,List.filterMap_map];rw [Zz (g:=λ k=>xs.reverse.getD k .none)]
 ·apply List.ext_getElem
  ·simp
  ·intro i h1 h2;simp only [List.getElem_map,List.getElem_range];refine ae List.getD_eq_getElem?_getD<|ae (List.getElem?_eq_getElem h2) ?_;rfl
 ·intro k hk;have hk:=List.mem_range.mp hk;simp only [Function.comp];have e:((xs.length:Int) -1+-1*(k:Int)).toNat=xs.length -1 -k:=nrv hk;refine ae e<|ae List.getD_eq_getElem?_getD<|ae (List.getElem?_reverse hk)<|ae (List.getElem?_eq_getElem (show xs.length -1 -k<xs.length from Nat.lt_of_le_of_lt (Nat.sub_le _ k) (Nat.pred_lt_of_lt hk))) ?_;rfl
inductive e_(C:Core)(F:List Nat)(n:Nat)(a:Nat):Nat->Prop
 |refl:e_ C F n a a
 |step {x i y:Nat}:e_ C F n a x->(i,y)∈fA C F x->i<n->e_ C F n a y
inductive n4(C:Core)(F:List Nat)(n:Nat):List (Nat×Bool)->Nat->Nat->Prop
 |nil {a:Nat}:n4 C F n [] a a
 |cons {i a x c u v:Nat} {r:Option String} {fN:Bool} {es:List (Nat×Bool)}:i∈F->i<n->C.ay[i]?=some (u,v,r)->(fN=false/\u=a/\v=x\/fN=true/\v=a/\u=x)->n4 C F n es x c->n4 C F n ((i,fN)::es) a c
theorem n4.snoc{C:Core}{F:List Nat}{n:Nat}{es:List (Nat×Bool)}{a x:Nat}(h:n4 C F n es a x):∀{i c u v:Nat}{r:Option String}{fN:Bool},i∈F->i<n->C.ay[i]?=some (u,v,r)->(fN=false/\u=x/\v=c\/fN=true/\v=x/\u=c)->n4 C F n (es++[(i,fN)]) a c:=by
 induction h with
 |nil=>intro i c u v r fN h1 h2 h3 h4;exact .cons h1 h2 h3 h4 .nil
 |cons k1 k2 k3 k4 _ ih=>intro i c u v r fN h1 h2 h3 h4;exact .cons k1 k2 k3 k4 (ih h1 h2 h3 h4)
abbrev cU(a:Nat)(T:List (Nat×Nat×Nat)):List Nat:=a::T.map (·.1)
inductive jg(C:Core)(F:List Nat)(n a:Nat):List (Nat×Nat×Nat)->Prop
 |nil:jg C F n a []
 |snoc {T:List (Nat×Nat×Nat)} {v h i:Nat}:jg C F n a T->h∈cU a T->v∉cU a T->(i,v)∈fA C F h->i<n->jg C F n a (T++[(v,h,i)])
theorem mr(a:Nat)(T:List (Nat×Nat×Nat))(t:Nat×Nat×Nat):cU a (T++[t])=cU a T++[t.1]:=by simp [cU]
theorem jg.nodup{C:Core}{F:List Nat}{n a:Nat}{T:List (Nat×Nat×Nat)}(h:jg C F n a T):(cU a T).Nodup:=by
 induction h with
 |nil=>simp [cU]
 |snoc _ _ h2 _ _ ih=>rw [mr,List.nodup_append];exact ⟨ih,by simp,λ x hx y hy e=>by simp at hy;subst hy;exact h2 (e▸hx)⟩
theorem jg.fH{C:Core}{F:List Nat}{n a:Nat}{T:List (Nat×Nat×Nat)}(h:jg C F n a T):∀t∈T,t.2.2∈F/\t.2.2<n/\∃u v r,C.ay[t.2.2]?=some (u,v,r)/\u∈cU a T/\v∈cU a T:=by
 induction h with
 |nil=>simp
 |@snoc T v h i hT h1 h2 h3 h4 ih=>
  intro t ht;rw [mr];rcases List.mem_append.mp ht with ht|ht
  ·obtain ⟨p1,p2,u,v,r,p3,p4,p5⟩:=ih t ht;exact ⟨p1,p2,u,v,r,p3,List.mem_append_left _ p4,List.mem_append_left _ p5⟩
  ·simp only [List.mem_singleton]at ht;subst ht;obtain ⟨p1,u,w,r,p3,p4⟩:=kA.mp h3;refine ⟨p1,h4,u,w,r,p3,?_⟩;rcases p4 with⟨rfl,rfl⟩|⟨rfl,rfl⟩
   ·exact ⟨List.mem_append_left _ h1,List.mem_append_right _ (.head _)⟩
   ·exact ⟨List.mem_append_right _ (.head _),List.mem_append_left _ h1⟩
theorem jg.Iu{C:Core}{F:List Nat}{n a:Nat}{T:List (Nat×Nat×Nat)}(h:jg C F n a T):(T.map (·.2.2)).Nodup:=by
 induction h with
 |nil=>exact List.nodup_nil
 |@snoc T v h i hT h1 h2 h3 h4 ih=>
  rw [List.map_append,List.nodup_append];refine ⟨ih,by simp,λ x hx y hy e=>?_⟩;simp at hy;obtain ⟨t,ht,rfl⟩:=List.mem_map.mp hx;obtain ⟨_,_,u,w,r,p3,p4,p5⟩:=hT.fH t ht;obtain ⟨_,u',w',r',q3,q4⟩:=kA.mp h3;rw [e,hy]at p3;rw [p3]at q3;cases q3;rcases q4 with⟨_,rfl⟩|⟨_,rfl⟩
  ·exact h2 p5
  ·exact h2 p4
theorem jg.len{C:Core}{F:List Nat}{n a:Nat}{T:List (Nat×Nat×Nat)}(h:jg C F n a T):T.length<=F.length:=by
 have:=kB h.Iu (m:=F) λ b hb=>by obtain ⟨t,ht,rfl⟩:=List.mem_map.mp hb;exact (h.fH t ht).1
 simpa using this
noncomputable def qP(t:Nat×Nat×Nat):Int×AV:=((t.1:Int),.tup [.int t.2.1,.int t.2.2])
noncomputable def mR(a:Nat)(T:List (Nat×Nat×Nat)):List (Int×AV):=((a:Int),.tup [])::T.map qP
theorem Lu(a:Nat)(T:List (Nat×Nat×Nat))(k:Nat):(bD (mR a T) (k:Int)).isSome=decide (k∈cU a T):=by
 unfold bD;rw [Option.isSome_map,Bool.eq_iff_iff,List.find?_isSome,decide_eq_true_eq];constructor
 ·rintro ⟨x,hx,e⟩;simp only [decide_eq_true_eq]at e;simp only [mR,List.mem_cons,List.mem_map]at hx;rcases hx with rfl|⟨t,ht,rfl⟩
  ·simp only at e;have:a=k:=by lia
   subst this;exact .head _
  ·simp only [qP]at e;have:t.1=k:=by lia
   subst this;exact List.mem_cons_of_mem _ (List.mem_map.mpr ⟨t,ht,rfl⟩)
 ·intro hk;rcases List.mem_cons.mp hk with rfl|hk
  ·exact ⟨_,.head _,if_pos rfl⟩
  ·obtain ⟨t,ht,rfl⟩:=List.mem_map.mp hk;exact ⟨qP t,List.mem_cons_of_mem _ (List.mem_map.mpr ⟨t,ht,rfl⟩),if_pos rfl⟩
theorem ZC{a k h i:Nat}{T:List (Nat×Nat×Nat)}(hk:k∉cU a T):dY (mR a T) (k:Int) (.tup [.int h,.int i])=mR a (T++[(k,h,i)]):=by
 have h1:=Lu a T k;simp only [hk,decide_false]at h1;unfold dY;rw [if_neg]
 ·simp [mR,qP]
 ·intro q;rw [List.any_eq_true]at q;unfold bD at h1;rw [Option.isSome_map,<-Bool.not_eq_true,List.find?_isSome]at h1;exact h1 q
theorem ZD{a k h i:Nat}:∀{T:List (Nat×Nat×Nat)},(cU a T).Nodup->(k,h,i)∈T->bD (mR a T) (k:Int)=some (.tup [.int h,.int i]):=by
 intro T hn hm;obtain ⟨A,B,rfl⟩:=List.append_of_mem hm;unfold bD;have h1:k∉cU a A:=by
  have e:cU a (A++(k,h,i)::B)=cU a A++k::B.map (·.1):=by simp [cU]
  rw [e,List.nodup_append]at hn;exact λ q=>hn.2.2 k q k (.head _) rfl
 have e:mR a (A++(k,h,i)::B)=mR a A++qP (k,h,i)::B.map qP:=by simp [mR]
 have h2:=Lu a A k;simp only [h1,decide_false]at h2;unfold bD at h2;rw [Option.isSome_map]at h2;refine ae e<|ae List.find?_append<|ae (Option.isSome_eq_false_iff.mp h2|>Option.isNone_iff_eq_none.mp) ?_;simp [qP]
section
variable{A B:U->Prop} {C:PV} {s:U} {H:Hp} {R:List aR} {n a lc lr d n2 here lo:Nat} {vb vs sp:AV}
theorem FL{l k:Nat}{T:List (Nat×Nat×Nat)}(h:s[l]?=some (.dI (mR a T)))(p:k∉cU a T->A s)(q:k∈cU a T->B s):fM s (cj A B) (.int k) (.ref l):=.i h (by
 rw [Lu];by_cases e:k∈cU a T
 ·refine ae (decide_eq_true e) ?_;exact q e
 ·refine ae (decide_eq_false e) ?_;exact p e)
noncomputable def l6(lc lr a:Nat)(T:List (Nat×Nat×Nat)):List aR:=[(lc,.dI (mR a T)),(lr,.list (nl (cU a T)))]
theorem Sa{xs:List (Nat×Nat)}(hf:dz H)(hxs:∀x∈xs,x∈fA H.toCore H.aH here)(Uj:(lo,.list (xs.map d5))∈R):∀(r j:Nat)(T:List (Nat×Nat×Nat))(w:LS H (l6 lc lr a T++R)),j+r=xs.length->jg H.toCore H.aH n a T->here∈cU a T->
  (∀T'(w':LS H (l6 lc lr a T'++R)),jg H.toCore H.aH n a T'->(∃t,cU a T'=cU a T++t)->(∀p∈xs.drop j,p.1<n->p.2∈cU a T')->nU (O d) C (.int a) vb (.int n) (.ref lc) (.ref lr) vs sp n2 w'.w.σ)->
  lL (O d) C n2 (.int a) vb (.int n) (.ref lc) (.int here) (.ref lr) vs sp (r+1) (.list lo j) w.w.σ:=by
 intro bN;induction bN with
 |zero=>
  intro j T w e ht hh k;exact Bf<|.le (w.at (.tail _ (.tail _ Uj))) (by rw [List.length_map];exact (b7 e))<|k T w ht ⟨[],(List.append_nil _).symm⟩ (by rw [List.drop_of_length_le (by exact (b7 e))];intro p hp;cases hp)
 |succ r ih=>
  intro j T w e ht hh k;have ed:j<xs.length:=nC (bS e);have FJ:=List.getElem?_eq_getElem ed;have acx:=hxs _ (List.mem_of_getElem? FJ);have BV:=hf.aH;have su:=ht.len;have nx:∀T'(w':LS H (l6 lc lr a T'++R)),jg H.toCore H.aH n a T'->(∃t,cU a T'=cU a T++t)->(xs[j].1<n->xs[j].2∈cU a T')->lL (O d) C n2 (.int a) vb (.int n) (.ref lc) (.int here) (.ref lr) vs sp (r+1) (.list lo (j+1)) w'.w.σ:=λ T' w' oj ⟨t,et⟩ hx=>
   ih (j+1) T' w' (Nat.le_antisymm (bQ (bS e) (by simp+arith only)) (bQ (b7 e) (by simp+arith only))) oj (by rw [et];exact List.mem_append_left _ hh) λ T2 w2 xr ⟨t2,e2⟩ hx2=>k T2 w2 xr ⟨t++t2,by rw [e2,et,List.append_assoc]⟩ λ p hp hpn=>by
    rw [List.drop_eq_getElem_cons ed]at hp;rcases List.mem_cons.mp hp with rfl|hp
    ·refine ae e2 ?_;exact List.mem_append_left _ (hx hpn)
    ·exact hx2 p hp hpn
  generalize xs[j]=x at*;obtain ⟨i,o⟩:=x;refine Bf<|.ls (w.at (.tail _ (.tail _ Uj))) (x:=d5 (i,o)) (by refine ae List.getElem?_map<|ae FJ ?_;rfl)<|.t ?_;by_cases fP:i<n
  ·refine K1 (Int.ofNat_lt.mpr fP)<|FL (w.at (.head _)) (λ Uk=>?_) λ Uk=>nx T w ht ⟨[],(List.append_nil _).symm⟩ λ aa=>Uk;let w1:LS H ((lc,.dI (mR a (T++[(o,here,i)])))::(lr,.list (nl (cU a T)))::R):=w.put _;let w2:LS H ((lc,.dI (mR a (T++[(o,here,i)])))::(lr,.list (nl (cU a T)++[.int o]))::R):=LS.fB (A:=[(lc,.dI (mR a (T++[(o,here,i)])))]) w1 _;have er:nl (cU a T)++[AV.int o]=nl (cU a (T++[(o,here,i)])):=by simp [cU,nl]
   refine .i (w.at (.head _)) (by simp [mR];exact nc (Nat.le_trans su BV) rfl) ?_;refine ae (ZC Uk) ?_;have c1:=w1.at (.tail _ (.head _))
   exact .mk c1<|.mk c1 (by rw [cN];simp [cU];exact npl (Nat.le_trans su BV) rfl)<|nx _ (w2.bI (R':=l6 lc lr a (T++[(o,here,i)])++R) (.of_eq (by refine ae er ?_;rfl))) (ht.snoc hh Uk acx fP) ⟨[o],mr _ _ _⟩ λ aa=>by rw [mr];exact List.mem_append_right _ (.head _)
  ·exact K2 (Int.ofNat_le.mpr (Nat.le_of_not_lt fP))<|nx T w ht ⟨[],(List.append_nil _).symm⟩ λ q=>absurd q fP
end
end
section
open PySem
section
variable{C:PV} {s:U} {H:Hp} {R:List aR} {n a nY lc lr d y p l b:Nat} {m:AV} {bs:List (Nat×Nat)}
theorem ZE(k:Nat)(ok:wG (fA H.toCore H.aH) bs)(here:Nat):∃lo,(bD (eI bs) (here:Int)).getD (.ref k)=.ref lo/\(lo,AO.list ((fA H.toCore H.aH here).map d5))∈(k,AO.list [])::(WC y p l m b (fA H.toCore H.aH) bs++R):=by
 by_cases hk:here∈bs.map (·.1)
 ·obtain ⟨⟨c',lo⟩,hm,e⟩:=List.mem_map.mp hk;simp only at e;subst e;obtain ⟨A,B,e,hA,hB⟩:=jZ ok.eo hm;refine ⟨lo,by refine ae e<|ae (nA hA) ?_;rfl,List.mem_cons_of_mem _ (List.mem_append_left _ ?_)⟩;simp [WC,mQ,e]
 ·have hA:∀q∈bs,q.1≠here:=λ q hq e=>hk (List.mem_map.mpr ⟨q,hq,e⟩);refine ⟨k,by refine ae (Fo hA) ?_;rfl,?_⟩;refine ae (ok.out here hk) ?_;exact .head _
theorem Lv(hf:dz H)(ok:wG (fA H.toCore H.aH) bs)
  (k:∀T(w:LS H (l6 lc lr a T++(WC y p l m b (fA H.toCore H.aH) bs++R))),jg H.toCore H.aH n a T->(nY∈cU a T\/∀v∈cU a T,∀x∈fA H.toCore H.aH v,x.1<n->x.2∈cU a T)->s_ (O d) C (.int a) (.int nY) (.ref lc) (.ref y) w.w.σ):
  ∀(r n5:Nat)(T:List (Nat×Nat×Nat))(w:LS H (l6 lc lr a T++(WC y p l m b (fA H.toCore H.aH) bs++R))),902<r+n5->n5<=(cU a T).length->jg H.toCore H.aH n a T->(∀v∈(cU a T).take n5,∀x∈fA H.toCore H.aH v,x.1<n->x.2∈cU a T)->
  nU (O d) C (.int a) (.int nY) (.int n) (.ref lc) (.ref lr) (.ref y) (.int n5) r w.w.σ:=by
 intro bN;induction bN with
 |zero=>
  intro n5 T w hn hs ht pj;have:=ht.len;have:=hf.aH;simp [cU]at hs;lia
 |succ r ih=>
  intro n5 T w hn hs ht pj;have cc:=w.at (.head _)
  have cr:=w.at (.tail _ (.head _))
  refine Nm<|dp cr (cN _) ?_;by_cases ed:n5<(cU a T).length
  ·refine K1 (Int.ofNat_lt.mpr ed)<|FL cc (λ S5=>?_) λ hm=>k T w ht (.inl hm);have hh:=List.getElem?_eq_getElem ed;have hhm:=List.mem_of_getElem? hh;generalize (cU a T)[n5]=here at hh hhm;let w1:LS H (WC y p l m b (fA H.toCore H.aH) bs++(l6 lc lr a T++R)):=w.bI (by rw [<-List.append_assoc,<-List.append_assoc];exact List.Perm.append_right _ List.perm_append_comm)
   let w2:LS H (l6 lc lr a T++((w.w.σ.length,.list [])::(WC y p l m b (fA H.toCore H.aH) bs++R))):=(w.new (.list [])).bI List.perm_middle.symm;obtain ⟨lo,e1,e2⟩:=ZE (y:=y) (p:=p) (l:=l) (m:=m) (b:=b) (R:=R) w.w.σ.length ok here;have c1:w1.w.σ[b]?=some (.dI (eI bs)):=w1.at (.tail _ (.tail _ (.head _)))
   refine eY cr (iI hh)<|qL<|.t<|w1.wI<|.mk c1 ⟨_,rfl⟩<|.mk (fz c1 _) ?_;refine ae (show(bD (eI bs) (here:Int)).getD (.ref w1.w.σ.length)=.ref lo from e1) ?_;refine .l (w2.at (.tail _ (.tail _ e2))) ⟨_,Sa hf (λ aa h=>h) e2 _ 0 T w2 (Nat.zero_add _) ht hhm λ T' w' oj ⟨t,et⟩ hx=>?_⟩;refine ih (n5+1) T' (w'.sub (.append (.refl _) (.cons _ (.refl _)))) (bQ hn (by simp+arith only)) (by refine ae et<|ae List.length_append ?_;exact Nat.le_trans ed (Nat.le_add_right ..)) oj λ v hv z hz Fx=>?_;have e3:(cU a T').take (n5+1)=(cU a T).take n5++[here]:=by refine ae et<|ae (List.take_append_of_le_length (ed))<|ae List.take_add_one<|ae hh ?_;rfl
   rw [e3]at hv;rcases List.mem_append.mp hv with hv|hv
   ·refine ae et ?_;exact List.mem_append_left _ (pj v hv z hz Fx)
   ·cases List.mem_singleton.mp hv;exact hx z hz Fx
  ·rw [List.take_of_length_le ((Nat.le_of_not_lt ed))]at pj;exact K2 (Int.ofNat_le.mpr (Nat.le_of_not_lt ed))<|k T w ht (.inr pj)
end
end
section
open PySem
noncomputable def n6(e:Nat×Bool):AV:=.tup [.int e.1,.bool e.2]
section
variable{C:PV} {D:Nat->Fn->Prop} {s:U} {H:Hp} {R:List aR} {n a nY lc lr lf d y p l b:Nat} {m:AV} {f:Nat->List (Nat×Nat)} {bs:List (Nat×Nat)}
theorem LS.uy{x:String}{g:Fn}(w:LS H (WC y p l m b f bs++R))(h1:bD (n0 p l m b) x=none)(h2:wU .eb x=some g)(k:D y g):bF x w.w.σ D (.ref y):=.mk (w.at (.head _)) (w.at (.tail _ (.head _))) h1 h2 k
theorem ZF{xs ys:List AV}(h:s[lf]?=some (.list xs))(e:xs.reverse=ys)(hz:ys.length<=10000)(k:C (.ref s.length) (s++[.list ys])):sZ C (.ref lf) s:=by subst e;exact .l h (λ q=>nomatch q) (by rwa [FK]) (by rwa [FK])
theorem Vy{T:List (Nat×Nat×Nat)}(hn:(cU a T).Nodup)(hz:T.length<=1000){Vz:List (Nat×Nat×Nat)}(ht:jg H.toCore H.aH n a Vz):∀(pb:List (Nat×Nat×Nat))(k v:Nat)(acc:List AV)(w:LS H ((lf,.list acc)::(l6 lc lr a T++(WC y p l m b f bs++R)))),T=Vz++pb->Vz.length<k->v∈cU a Vz->acc.length+Vz.length<=1000->
  (∀es(w':LS H ((lf,.list (acc++(es.map n6).reverse))::(l6 lc lr a T++(WC y p l m b f bs++R)))),n4 H.toCore H.aH n es a v->(es.map (·.1)).Nodup->(∀i∈es.map (·.1),i∈Vz.map (·.2.2))->sZ C (.ref lf) w'.w.σ)->ql (O d) C (.int a) (.int v) (.ref lc) (.ref lf) (.ref y) k w.w.σ:=by
 induction ht with
 |nil=>
  intro pb k v acc w e hk hv O4 c;obtain ⟨k,rfl⟩:∃k',k=k'+1:=⟨k -1,((Nat.sub_add_cancel (hk:(1)<=(k)))).symm⟩
  have:v=a:=by simpa [cU]using hv
  subst this;exact Bg<|zp rfl<|c [] (w.bI (.of_eq (by simp))) .nil .nil λ aa h=>h
 |@snoc adQ v' h' i hT h1 h2 h3 h4 ih=>
  intro pb k v acc w e hk hv O4 c;obtain ⟨k,rfl⟩:∃k',k=k'+1:=⟨k -1,C5 hk⟩
  simp only [List.length_append,List.length_cons,List.length_nil]at hk O4;by_cases HP:v=v'
  ·subst HP;have hva:v≠a:=λ q=>h2 (by refine ae q ?_;exact .head _);have hg:bD (mR a T) (v:Int)=some (.tup [.int h',.int i]):=ZD hn (by refine ae e ?_;simp);obtain ⟨p1,u,x,r,p3,p4⟩:=kA.mp h3;have cD:v≠h':=λ q=>h2 (q▸h1);obtain ⟨fN,uR,hb2⟩:∃fN:Bool,(fN=false/\u=h'/\x=v\/fN=true/\x=h'/\u=v)/\gX 40 (.int u) (.int h') !fN:=by
    rcases p4 with⟨rfl,rfl⟩|⟨rfl,rfl⟩
    ·exact ⟨false,.inl ⟨rfl,rfl,rfl⟩,ij (zo rfl)⟩
    ·exact ⟨true,.inr ⟨rfl,rfl,rfl⟩,ij (KZ cD)⟩
   let w0:LS H (WC y p l m b f bs++R):=w.drop.sub (List.sublist_append_right _ _);have c1:=w.at (.head _)
   refine Bg<|K0 hva<|.i (w.at (.tail _ (.head _))) hg<|.t<|.mk c1<|w0.jH<|w0.w.gT<|w0.w.CK p3<|df<|lZ hb2 ?_;rw [Bool.not_not];refine w.zr (v:=n6 (i,fN)) (bQ O4 (by simp+arith only)) λ w=>ih ((v,h',i)::pb) k h' _ w (by refine ae e ?_;exact List.append_assoc ..) (Nat.lt_of_succ_lt_succ hk) h1 (by simp;exact bQ O4 (by simp+arith only)) λ es w a3 a4 a5=>c (es++[(i,fN)]) (w.bI (.of_eq (by simp))) (a3.snoc p1 h4 p3 uR) ?_ ?_
   ·rw [List.map_append,List.nodup_append];refine ⟨a4,by simp,λ z hz y hy q=>?_⟩;simp at hy;have hx:=(hT.snoc h1 h2 h3 h4).Iu;rw [List.map_append,List.nodup_append]at hx;exact hx.2.2 z (a5 z hz) i (.head _) (q.trans hy)
   ·intro j hj;rw [List.map_append]at hj⊢;rcases List.mem_append.mp hj with q|q
    ·exact List.mem_append_left _ (a5 j q)
    ·exact List.mem_append_right _ (q)
  ·have mL:v∈cU a adQ:=by
    rw [mr]at hv;rcases List.mem_append.mp hv with q|q
    ·exact q
    ·simp at q;exact absurd q HP
   exact ih ((v',h',i)::pb) (k+1) v acc w (by refine ae e ?_;exact List.append_assoc ..) (Nat.le_of_lt hk) mL (Nat.le_of_lt O4) λ es w a3 a4 a5=>c es w a3 a4 λ j hj=>by refine ae List.map_append ?_;exact List.mem_append_left _ (a5 j hj)
theorem VA{C:Core}{F:List Nat}{T:List (Nat×Nat×Nat)}(hc:∀v∈cU a T,∀x∈fA C F v,x.1<n->x.2∈cU a T){c:Nat}(h:e_ C F n a c):c∈cU a T:=by
 induction h with
 |refl=>exact .head _
 |step _ h1 h2 ih=>exact hc _ ih _ h1 h2
theorem VB(w:WS H y p l R)(hf:dz H)(hi:∀i∈H.aH,i<H.ay.length)(hc:e_ H.toCore H.aH n a nY)(k:∀lf es(w:WN H y p l ((lf,.list (es.map n6))::R)),n4 H.toCore H.aH n es a nY->(es.map (·.1)).Nodup->C (.ref lf) w.w.w.σ):
  (O (d+5)).call .PB [.ref y,.int a,.int nY,.int n] w.w.w.σ C:=by
 refine YB<|w.w.uy rfl rfl<|Ls w hf hi λ w=>?_;obtain ⟨b,bs,w,ok⟩:=w;have BV:=hf.aH;let w1:=w.new (.dI []);let w2:=w1.put (.dI [((a:Nat),.tup [])]);refine ⟨w1.at (.head _),w2.rB _ λ lr w3=>.t ⟨903,Lv (lr:=lr) hf ok (λ T w ht IK=>?_) 903 0 [] (w3.bI (.swap _ _ _)) (Nat.lt_succ_self _) (Nat.zero_le _) .nil λ aa h=>nomatch h⟩⟩;have hm:nY∈cU a T:=IK.elim id λ q=>VA q hc;have su:=ht.len;refine FL (w.at (.head _)) (λ q=>absurd hm q) λ aa=>w.rB _ λ lf w=>⟨1000,Vy ht.nodup (nc (Nat.le_trans su BV) rfl) ht [] 1000 nY [] w (List.append_nil _).symm (fb (Nat.le_trans su BV) rfl) hm (by simp;exact nc (Nat.le_trans su BV) rfl) λ es w hw hn hT=>?_⟩
 have lj:es.length<=T.length:=by have:=kB hn hT;simpa using this
 refine ZF (w.at (.head _)) (ys:=es.map n6) (by simp) (by simp;exact fJ BV su lj (by simp+arith only)) ?_;exact k _ es ⟨b,bs,((w.new (.list (es.map n6))).sub (R':=_::(WC y p l (mq H) b (fA H.toCore H.aH) bs++R)) (.cons₂ _ (.cons _ (List.sublist_append_right _ _)))).bI List.perm_middle.symm,ok⟩ hw hn
end
end
section
set_option genInjectivity false
set_option genSizeOf false
open PySem
noncomputable def eB:Nat->Nat
 |0=>0
 |n+1=>eB n+3^n
theorem FN(n:Nat):eB (n+1)=eB n+3^n:=rfl
theorem FO(n:Nat):2*eB n+1=3^n:=by
 induction n with
 |zero=>rfl
 |succ n ih=>rw [FN,Nat.pow_succ];exact Nat.le_antisymm (bQ (bS ih) (by simp+arith only)) (bQ (b7 ih) (by simp+arith only))
noncomputable def wJ(es:List (Nat×Bool)):Nat:=(es.map λ e=>3^e.1).sum
theorem kC(l:List Nat)(f:Nat->Nat)(n:Nat)(h:n∈l):(l.map f).sum=f n+((l.erase n).map f).sum:=by
 induction l with
 |nil=>simp at h
 |cons a l ih=>
  by_cases e:a=n
  ·subst e;simp
  ·refine ae (List.erase_cons_tail (by simpa using e)) ?_;rcases List.mem_cons.mp h with q|q
   ·exact absurd q.symm e
   ·simp only [List.map_cons,List.sum_cons,ih q];exact Nat.add_left_comm ..
theorem VC:∀(n:Nat)(l:List Nat),l.Nodup->(∀i∈l,i<n)->(l.map (3^·)).sum<=eB n:=by
 intro bN;induction bN with
 |zero=>
  intro l zz h;cases l with
  |nil=>exact Nat.le_refl _
  |cons a r=>have:=h a (.head _);lia
 |succ n ih=>
  intro l hn h;by_cases hm:n∈l
  ·refine ae (kC l _ n hm) ?_;have:=ih (l.erase n) (hn.erase n) λ i hi=>by
    have h1:=h i (List.mem_of_mem_erase hi);have:i≠n:=λ e=>by rw [e]at hi;exact (List.Nodup.not_mem_erase hn) hi
    lia
   rw [FN];exact bQ this (by simp+arith only)
  ·have:=ih l hn λ i hi=>by have h1:=h i hi;have:i≠n:=λ e=>hm (e▸hi);lia
   rw [FN];exact Nat.le_trans this (Nat.le_add_right _ _)
theorem fa.snoc{Pr:Nat->AV->Nat->Nat->Prop}{s:Nat}{ps:List AV}{a x:Nat}(h:fa Pr s ps a x):∀{m:Nat}{p:AV}{c:Nat},Pr m p x c->fa Pr (s+m) (ps++[p]) a c:=by
 induction h with
 |nil=>intro m p c h;rw [Nat.zero_add];exact .cons h .nil
 |cons h1 _ ih=>intro m p c h;rw [Nat.add_assoc];exact .cons h1 (ih h)
theorem n4.lt{C:Core}{F:List Nat}{n:Nat}{es:List (Nat×Bool)}{a c:Nat}(h:n4 C F n es a c):∀i∈es.map (·.1),i<n:=by
 induction h with
 |nil=>simp
 |cons _ h2 _ _ _ ih=>intro i hi;simp only [List.map_cons,List.mem_cons]at hi;rcases hi with rfl|hi;exact h2;exact ih i hi
structure zD(H:Hp):Prop where
 jf:dz H
 below:i0 H.ai
 yx:H.ai.length<=60
 aH:∀i∈H.aH,i<H.ay.length
 yy:H.ay.length<=8
 fH:∀(i a b:Nat)(r:Option String),H.ay[i]?=some (a,b,r)->a<H.ai.length/\b<H.ai.length
 mI:∀(i a b:Nat),H.ay[i]?=some (a,b,none)->∃ka kb,H.ai[a]?=some ka/\H.ai[b]?=some kb/\ka.1=kb.1/\ka.2.length=kb.2.length/\ka.2.length<=2/\∀(j x y:Nat),ka.2[j]?=some x->kb.2[j]?=some y->e_ H.toCore H.aH i x y
section
variable{A:U->Prop} {H:Hp} {R:List aR} {y p l k:Nat}
theorem WS.at(w:WS H y p l R){ao:AO}(h:(k,ao)∈R):w.w.w.σ[k]?=some ao:=w.w.at (List.mem_append_right _ h)
noncomputable def WS.sub{R':List aR}(w:WS H y p l R)(q:R'.Sublist R):WS H y p l R':=⟨w.g,w.w.sub (.append (.refl _) q),w.ok,w.tM⟩
noncomputable def WS.bI{R':List aR}(w:WS H y p l R)(q:R.Perm R'):WS H y p l R':=⟨w.g,w.w.bI (.append_left _ q),w.ok,w.tM⟩
noncomputable def WS.put{old:AO}(w:WS H y p l ((k,old)::R))(x:AO):WS H y p l ((k,x)::R):=⟨w.g,w.w.fB x,w.ok,w.tM⟩
noncomputable def WS.new(w:WS H y p l R)(x:AO):WS H y p l ((w.w.w.σ.length,x)::R):=⟨w.g,(w.w.new x).bI List.perm_middle.symm,w.ok,w.tM⟩
theorem WS.zr{xs:List AV}{v:AV}(w:WS H y p l ((k,.list xs)::R))(h:xs.length<10000)(c:∀w':WS H y p l ((k,.list (xs++[v]))::R),A w'.w.w.σ):b6 v w.w.w.σ A k:=.mk (w.at (.head _)) h (c (w.put _))
theorem WS.Sb(w:WS H y p l R)(x:Nat)(c:∀w':WS H y x l R,A w'.w.w.σ):bG "parts" (.int x) w.w.w.σ A (.ref y):=
 w.w.Ui (by kernel_rfl) (by kernel_rfl) (c ⟨w.g,LS.fB (A:=[(y,.inst .eb)]) w.w (.dS (n0 x l w.g.m w.g.b)),w.ok,w.tM⟩)
theorem WS.FP(w:WS H y p l R)(x:Nat)(c:∀w':WS H y p x R,A w'.w.w.σ):bG "level" (.int x) w.w.w.σ A (.ref y):=
 w.w.Ui (by kernel_rfl) (by kernel_rfl) (c ⟨w.g,LS.fB (A:=[(y,.inst .eb)]) w.w (.dS (n0 p x w.g.m w.g.b)),w.ok,w.tM⟩)
end
def aa1(H:Hp)(a:Nat)(v:AV):Option String->Prop
 |some lb=>v=.tup [.str "told",.str lb]
 |none=>∃ka ps,v=.tup [.str "under",.str ka.1,.tup ps]/\H.ai[a]?=some ka/\ps.length=ka.2.length
def CT(H:Hp)(D i:Nat):Prop:=∀(y p l:Nat)(R:List aR)(a b:Nat)(r:Option String)(w:WS H y p l R){C:PV},H.ay[i]?=some (a,b,r)->p+3^i<=20000->l+i<100->
 (∀v p'(w':WS H y p' l R),p'<=p+3^i->f7 H.toCore (i+1) (5*i+5) (3^i) v a b->aa1 H a v r->C v w'.w.w.σ)->(O D).call .C6 [.ref y,.int i] w.w.w.σ C
def Lw(H:Hp)(D n:Nat):Prop:=∀(y p l:Nat)(R:List aR)(a b:Nat)(w:WS H y p l R){C:PV},e_ H.toCore H.aH n a b->a<H.ai.length->p+eB n<=20000->l+n<=100->
 (∀v p'(w':WS H y p' l R),p'<=p+eB n->f7 H.toCore n (5*n+4) (eB n) v a b->C v w'.w.w.σ)->(O D).call .yN [.ref y,.int a,.int b,.int n] w.w.w.σ C
section
variable{C:PV} {H:Hp} {R:List aR} {y l n D lf fo a c:Nat}
theorem Sd(hE:∀i,i<n->CT H D i)(all:List (Nat×Bool))(mf:(lf,.list (all.map n6))∈R)(hl:l+n<=100):∀(es:List (Nat×Bool))(j x p s:Nat)(acc:List AV)(w:WS H y p l ((fo,.list acc)::R)),all.drop j=es->acc.length+es.length<=1000->n4 H.toCore H.aH n es x c->fa (f7 H.toCore n (5*n+1)) s acc a x->p+wJ es<=20000->
  (∀p' h_(w':WS H y p' l ((fo,.list h_)::R)),p'<=p+wJ es->h_.length=acc.length+es.length->fa (f7 H.toCore n (5*n+1)) (s+wJ es) h_ a c->vm (O D) C (.int a) (.ref fo) (.ref y) w'.w.w.σ)->
  iL (O D) C (.int a) (.ref fo) (.ref y) (es.length+1) (.list lf j) w.w.w.σ:=by
 intro bN;induction bN with
 |nil=>
  intro j x p s acc w hd hz hw hc hp k;cases hw;exact td<|.le (w.at (.tail _ mf)) (by rw [List.length_map];exact List.drop_eq_nil_iff.mp hd)<|k p acc w (Nat.le_add_right _ _) rfl hc
 |cons e es ih=>
  intro j x p s acc w hd hz hw hc hp k;simp only [List.length_cons]at hz;have xf:j<all.length:=by apply Nat.lt_of_not_le;intro q;rw [List.drop_eq_nil_iff.mpr q]at hd;cases hd
  rw [List.drop_eq_getElem_cons xf]at hd;simp only [List.cons.injEq]at hd;obtain ⟨hd1,hd2⟩:=hd;have hg:all[j]?=some e:=ae (List.getElem?_eq_getElem xf)<|ae hd1 rfl;cases hw with
  |@cons i _ x' _ u v r fN _ m1 m2 m3 m4 m5=>
  have ec:wJ ((i,fN)::es)=3^i+wJ es:=rfl;rw [ec]at hp k;refine td<|.ls (w.at (.tail _ mf)) (x:=n6 (i,fN)) (by refine ae List.getElem?_map<|ae hg ?_;rfl)<|.t<|w.w.uy rfl rfl<|hE i m2 y p l _ u v r w m3 (bQ hp (by simp+arith only)) (dc hl m2 (by simp+arith only)) λ pv p1 w yz rE aa=>.mk (w.at (.head _)) ?_;have hm:=rE.bo (n':=n) (d':=5*n) (m2) (by lia) (Nat.le_refl _);have nx:∀nv,f7 H.toCore n (5*n+1) (3^i) nv x x'->b6 nv w.w.w.σ (iL (O D) C (.int a) (.ref fo) (.ref y) (es.length+1) (.list lf (j+1))) fo:=λ nv hnv=>w.zr (bQ hz (by simp+arith only)) λ w=>ih (j+1) x' p1 (s+3^i) _ w hd2 (by simp;exact bQ hz (by simp+arith only)) m5 (hc.snoc hnv) (dc hp yz (by simp+arith only)) λ p2 Se w h1 h2 h3=>k p2 Se w (dc yz h1 (by simp+arith only)) (by refine ae h2 ?_;simp;exact Nat.add_right_comm ..) (by rw [<-Nat.add_assoc];exact h3)
  rcases m4 with⟨rfl,rfl,rfl⟩|⟨rfl,rfl,rfl⟩
  ·exact nx _ (hm.bo (Nat.le_refl _) (Nat.le_succ _) (Nat.le_refl _))
  ·exact nx _ (.turn hm)
theorem Lx(hj:zD H)(hn:n<=H.ay.length)(hE:∀i,i<n->CT H (D+5) i):Lw H (D+6) n:=by
 intro y p l R a b w C hc ha hp hl k;let w1:=w.new (.list []);refine N'<|w1.w.uy rfl rfl<|VB w1 hj.jf hj.aH hc λ lf es w2 hw hn2=>?_;have ed:=hw.lt;have hlen:es.length<=n:=by have:=lO hn2 ed;simpa using this
 have hs:=hj.yy;have Ly:wJ es<=eB n:=by have:=VC n _ hn2 ed;simpa [wJ,Function.comp_def]using this
 refine .l (w2.st.at (.head _)) ⟨_,Sd hE es (.head _) hl es 0 a p 0 [] (w2.st.bI (.swap _ _ _)) rfl (by simp;exact dc hlen hl (by simp+arith only)) hw .nil (dc hp Ly (by simp+arith only)) λ p' acc w jF xb yA=>?_⟩;simp only [List.length_nil,Nat.zero_add]at xb;exact w.w.jH<|FH w.w hj.jf hj.yx hj.below ha (List.mem_append_right _ (.head _)) (C4 hn hlen hs (bS xb) (by simp+arith only)) yA λ v rE w3=>k v p' (WS.sub ⟨w.g,w3,w.ok,w.tM⟩ (.cons _ (.cons _ (.refl _)))) (dc jF Ly (by simp+arith only)) (rE.bo (Nat.le_refl _) (Nat.le_refl _) (bQ Ly (by simp+arith only)))
end
end
section
open PySem
noncomputable def zC(z:Nat)(xs ys:List AV)(j:Nat):List aR:=[(z,.zip),(z+1,.cv xs j),(z+2,.cv ys j),(z+3,.gb)]
section
variable{C:PV} {Q:U->Prop} {H:Hp} {R:List aR} {y p l i D z la:Nat}
noncomputable def WS.fB{A B:List aR}{k:Nat}{old:AO}(w:WS H y p l (A++(k,old)::B))(x:AO):WS H y p l (A++(k,x)::B):=
 ⟨w.g,((w.w.bI (.of_eq (List.append_assoc ..).symm)).fB x).bI (.of_eq (List.append_assoc ..)),w.ok,w.tM⟩
theorem WS.zip(w:WS H y p l R){xs ys:List AV}(hlen:xs.length=ys.length)(k:∀z(w':WS H y p l (zC z xs ys 0++R)),C (.ref z) w'.w.w.σ):DJ w.w.w.σ C [.tup xs,.tup ys]:=by
 let w5:WS H y p l (zC w.w.w.σ.length xs ys 0++R):=((((w.new .zip).new (.cv xs 0)).new (.cv ys 0)).new .gb).bI (by refine (?_:List.Perm (((w.w.w.σ++[AO.zip]++[AO.cv xs 0]++[AO.cv ys 0]).length,AO.gb)::((w.w.w.σ++[AO.zip]++[AO.cv xs 0]).length,AO.cv ys 0)::((w.w.w.σ++[AO.zip]).length,AO.cv xs 0)::(w.w.w.σ.length,AO.zip)::R) _);simp only [List.append_assoc,List.length_append,List.length_cons,List.length_nil,List.cons_append,List.nil_append];exact (List.reverse_perm [((w.w.w.σ.length,AO.zip):aR),(w.w.w.σ.length+1,AO.cv xs 0),(w.w.w.σ.length+2,AO.cv ys 0),(w.w.w.σ.length+3,AO.gb)]).append_right R)
 have e:w5.w.w.σ=w.w.w.σ++[.zip,.cv xs 0,.cv ys 0,.gb]:=show w.w.w.σ++[AO.zip]++[AO.cv xs 0]++[AO.cv ys 0]++[AO.gb]=_ by simp
 exact .mk hlen (e▸k _ w5)
theorem Sf{ka kb:aM}(hB:Lw H D i)(hl:l+i<=100)(hlen:ka.2.length=kb.2.length)
  (hc:∀(j x y:Nat),ka.2[j]?=some x->kb.2[j]?=some y->e_ H.toCore H.aH i x y/\x<H.ai.length):
  ∀(k j p:Nat)(acc:List AV)(w:WS H y p l (zC z (nl ka.2) (nl kb.2) j++(la,.list acc)::R)),j+k=ka.2.length->acc.length=j->p+k*eB i<=20000->j+k<=100->
   (∀(t:Nat)(v:AV)(x y:Nat),acc[t]?=some v->ka.2[t]?=some x->kb.2[t]?=some y->f7 H.toCore i (5*i+4) (eB i) v x y)->
   (∀p' h_(w':WS H y p' l ((la,.list h_)::R)),p'<=p+k*eB i->h_.length=ka.2.length->(∀(t:Nat)(v:AV)(x y:Nat),h_[t]?=some v->ka.2[t]?=some x->kb.2[t]?=some y->f7 H.toCore i (5*i+4) (eB i) v x y)->Q w'.w.w.σ)->
   m7 (O D) (.int i) (.ref y) (k+1) (.zip z) la w.w.w.σ Q:=by
 intro bN;induction bN with
 |zero=>
  intro j p acc w hj iN hp zz rE c;exact vo<|.e (w.at (.head _)) (w.at (.tail _ (.head _))) (w.at (.tail _ (.tail _ (.head _)))) (w.at (.tail _ (.tail _ (.tail _ (.head _))))) (List.getElem?_eq_none (by rw [cN];exact (b7 hj)))<|
   c p acc ((WS.fB (A:=[(z,.zip)]) w .dead).sub (.cons _ (.cons _ (.cons _ (.cons _ (.refl _)))))) (Nat.le_add_right _ _) (Nat.le_antisymm (Nat.le_trans (bS iN) (bS hj)) (Nat.le_trans (b7 hj) (b7 iN))) rE
 |succ k ih=>
  intro j p acc w hj iN hp hz rE c;have hx:=List.getElem?_eq_getElem (l:=ka.2) (i:=j) (nC (bS hj));have hy:=List.getElem?_eq_getElem (l:=kb.2) (i:=j) (dc (bS hlen) (bS hj) (by simp+arith only));generalize ka.2[j]'_=x at hx;generalize kb.2[j]'_=x' at hy;obtain ⟨r8,DP⟩:=hc j x x' hx hy;have es:(k+1)*eB i=k*eB i+eB i:=Nat.succ_mul _ _;rw [es]at hp c;let w1:=WS.fB (A:=[(z,.zip)]) w (.cv (nl ka.2) (j+1));let w2:=WS.fB (A:=[(z,.zip),(z+1,.cv (nl ka.2) (j+1))]) w1 (.cv (nl kb.2) (j+1));refine vo<|.s (w.at (.head _)) (w.at (.tail _ (.head _))) (w.at (.tail _ (.tail _ (.head _)))) (w.at (.tail _ (.tail _ (.tail _ (.head _))))) (iI hx) (iI hy)<|.t<|w2.w.uy rfl rfl<|hB y p l _ x x' w2 r8 DP (bQ hp (by simp+arith only)) hl λ v p1 w3 yz mu=>?_;refine .mk (w3.at (List.mem_append_right (zC z (nl ka.2) (nl kb.2) (j+1)) (.head _))) (dc (bS iN) hz (by simp+arith only)) ?_;refine ih (j+1) p1 (acc++[v]) (WS.fB (A:=zC z (nl ka.2) (nl kb.2) (j+1)) w3 _) (Nat.le_antisymm (bQ (bS hj) (by simp+arith only)) (bQ (b7 hj) (by simp+arith only))) (by simp [iN]) (dc hp yz (by simp+arith only)) (bQ hz (by simp+arith only)) (λ t u a b ht ha hb=>?_) λ p2 Se w h1 h2 h3=>c p2 Se w (dc yz h1 (by simp+arith only)) h2 h3;by_cases q:t<acc.length
  ·rw [List.getElem?_append_left q]at ht;exact rE t u a b ht ha hb
  ·have:t=j:=by have:=(List.getElem?_eq_some_iff.mp ht).1;simp at this;exact Nat.le_antisymm (dc (bS iN) this (by simp+arith only)) (Nat.le_trans (b7 iN) (Nat.le_of_not_lt q))
   subst this;rw [List.getElem?_append_right ((Nat.le_of_not_lt q)),iN]at ht;simp at ht;subst ht;rw [hx]at ha;rw [hy]at hb;cases ha;cases hb;exact mu
theorem O5(hj:zD H)(hB:Lw H (D+1) i):CT H (D+2) i:=by
 intro y p l R a b r w C he hp hl k;have hs:=hj.yy;have iy:i<H.ay.length:=(List.getElem?_eq_some_iff.mp he).1;have FQ:=FO i;refine Rt<|w.w.IJ<|qL<|w.Sb (p+1) λ w=>w.w.IJ<|kU (by lia)<|w.w.jH<|w.w.w.gT<|w.w.w.CK he<|.t ?_;cases r with
 |some lb=>exact df<|lZ (b:=false) (by first|exact fx (by decide)|exact fx (beq_self_eq_true _)|exact iP.nn|exact ij (decide_eq_true rfl)|exact FT _ _ _)<|w.w.jH<|zx w.w he<|k _ (p+1) w (bQ (bS FQ) (by simp+arith only)) (.told he (Nat.lt_succ_self _) (j5 (bS FQ))) rfl
 |none=>
  obtain ⟨ka,kb,mO,Ul,k9,hlen,zX,r8⟩:=hj.mI i a b he;refine df<|lZ (b:=true) (by first|exact fx (by decide)|exact fx (beq_self_eq_true _)|exact iP.nn|exact ij (decide_eq_true rfl)|exact FT _ _ _)<|w.w.zB<|qL<|w.FP (l+1) λ w=>w.w.zB<|kU (by lia)<|w.w.jH<|w.w.w.iH<|w.w.w.pK<|nz w.w.w mO<|
   w.w.jH<|w.w.w.iH<|w.w.w.pK<|nz w.w.w Ul<|w.zip (by rw [cN,cN];exact hlen) λ z w=>w.w.jH<|w.w.w.iH<|w.w.w.RJ<|K5 w.w.w mO<|.mk (w.at (.head _)) ?_
  have hm:ka.2.length*eB i<=2*eB i:=Nat.mul_le_mul_right _ zX;refine ⟨_,Sf hB (bQ hl (by simp+arith only)) hlen (λ j x x' hx hy=>⟨r8 j x x' hx hy,?_⟩) ka.2.length 0 (p+1) [] ((w.new (.list [])).bI (R':=zC z (nl ka.2) (nl kb.2) 0++(w.w.w.σ.length,.list [])::R) List.perm_middle.symm) (Nat.add_comm ..) rfl (fJ hp (bS FQ) hm (by simp+arith only)) (nc (Nat.add_le_add_left zX _) rfl) (λ t v x y h=>nomatch h) λ p' acc w jF iN rE=>?_⟩
  ·have:=hj.below a ka mO x (List.mem_of_getElem? hx);have:=(hj.fH i a b none he).1;lia
  refine .l (w.at (.head _))<|w.w.zB<|lM rfl<|w.FP l λ w=>k _ p' (w.sub (.cons _ (.refl _))) (fJ (bS FQ) hm jF (by simp+arith only)) ?_ ⟨ka,acc,rfl,mO,iN⟩;exact .under he (Nat.lt_succ_self _) mO Ul k9 hlen iN (Nat.le_trans (bS iN) zX) (k:=eB i) (Nat.le_of_lt (bS FQ)) rE
theorem FU(hj:zD H):∀i,i<H.ay.length->∀D,CT H (2*i+8+D) i:=by
 intro i;induction i using Nat.strongRecOn with
 |ind i ih=>intro hi D;refine ae (show 2*i+8+D=(2*i+6+D)+2 by simp+arith only) ?_;refine O5 hj ?_;refine ae (show 2*i+6+D+1=(2*i+1+D)+6 by simp+arith only) ?_;refine Lx hj (Nat.le_of_lt hi) λ j xf=>?_;refine ae (show 2*i+1+D+5=2*j+8+(2*(i -1 -j)+D) by lia) ?_;exact ih j xf (Nat.lt_trans xf hi) _
end
end
section
set_option genInjectivity false
set_option genSizeOf false
open PySem
def FV(C:Core)(n:Nat)(ls:List String):Prop:=∀lb∈ls,∃i a b,i<n/\C.ay[i]?=some (a,b,some lb)
def n7(C:Core)(n D m:Nat)(v:AV):Prop:=∀(σ:U){P:PV},(∀l t ls,(σ++t)[l]?=some (.list (ls.map .str))->ls.length<=m->FV C n ls->P (.ref l) (σ++t))->(O D).call .l7 [v] σ P
inductive zE(P:Nat->AV->Prop):Nat->List AV->Prop
 |nil:zE P 0 []
 |cons {m k:Nat} {v:AV} {vs:List AV}:P m v->zE P k vs->zE P (m+k) (v::vs)
section
variable{C:Core} {n D:Nat} {P:PV}
theorem IL{O6:U}:∀(vs:List AV)(s:Nat),zE (n7 C n D) s vs->∀(acc:List String)(t:U),acc.length+s<=9000->FV C n acc->
  (∀(h_:List String)(t':U),h_.length<=acc.length+s->FV C n h_->P (.ref O6.length) (O6++AO.list (h_.map .str)::t'))->m_ (O D) P (.ref O6.length) (vs.length+1) (.tup vs) (O6++AO.list (acc.map .str)::t)
 |_,_,.nil,acc,t,hz,ha,k=>vz<|.te<|k acc t (Nat.le_refl _) ha
 |v::vs,_,.cons (m:=m) (k:=s) h1 h2,acc,t,hz,ha,k=>by
  refine vz<|.ts<|.mk (l:=O6.length) (xs:=acc.map .str) (by simp)<|h1 _ λ l t' ls hl IM FW=>.mk (xs:=acc.map .str) (by simp) hl (by simp;exact dc IM hz (by simp+arith only)) ?_;have es:(O6++AO.list (acc.map .str)::t++t').set O6.length (.list (acc.map .str++ls.map .str))=O6++AO.list ((acc++ls).map .str)::(t++t'):=by rw [List.append_assoc,List.set_append_right _ _ (Nat.le_refl _)];simp
  refine ae es ?_;exact IL vs s h2 (acc++ls) (t++t') (by simp;exact dc hz IM (by simp+arith only)) (λ lb hm=>(List.mem_append.mp hm).elim (ha lb) (FW lb)) λ h_ t2 h3 h4=>k h_ t2 (by simp at h3;exact dc IM h3 (by simp+arith only)) h4
theorem n7.bo{n' m m':Nat}{v:AV}(h:n7 C n D m v)(hn:n<=n')(hm:m<=m'):n7 C n' D m' v:=λ σ P k=>h σ λ l t ls hl IM FW=>k l t ls hl (Nat.le_trans IM hm) λ lb q=>by obtain ⟨i,a,b,h1,h2⟩:=FW lb q;exact ⟨i,a,b,Nat.lt_of_lt_of_le h1 hn,h2⟩
theorem FX{x y z:String}(c d:Bool)(h1:(y==x)=c)(h2:(z==x)=d):jV (.str x) [.str y,.str z] (c||(d||false)):=.cons rfl (fx h1) (.cons rfl (fx h2) .nil)
theorem n8{vs:List AV}{s:Nat}{kind:String}{r:List AV}(hk:jV (.str kind) [.str "same",.str "told"] false)(hp:(kind="under"/\∃x,r=[x,.tup vs])\/(kind=="under")=false/\r=vs)(hz:s<=9000)(h:zE (n7 C n D) s vs):n7 C n (D+1) s (.tup (.str kind::r)):=by
 intro σ P k;refine wk<|df<|.tu hk ?_;have nx:qB (O D) P (.ref σ.length) (.tup vs) (σ++[AO.list []]):=.t ⟨_,IL vs s h [] [] (by simpa using hz) (λ aa h=>nomatch h) λ acc t h1 h2=>k σ.length (AO.list (acc.map .str)::t) acc (by simp) (by simpa using h1) h2⟩;refine (?_:ye (O D) P (.ref σ.length) _ (σ++[AO.list []]));rcases hp with⟨rfl,x,rfl⟩|⟨cD,rfl⟩
 ·exact df<|jQ<|yi nx
 ·exact df<|iq cD<|ng nx
theorem G8{x:AV}:n7 C n (D+1) 0 (.tup [.str "same",x]):=λ σ P k=>wk<|df<|.tu (b:=true) (FX true false (by decide) (by decide))<|df<|iq (by decide)<|k σ.length [.list []] [] (by simp) (Nat.le_refl _) λ aa h=>nomatch h
theorem G9{l:String}{i a b:Nat}(h:C.ay[i]?=some (a,b,some l))(hi:i<n):n7 C n (D+1) 1 (.tup [.str "told",.str l]):=λ σ P k=>wk<|df<|.tu (b:=true) (FX false true (by decide) (by decide))<|df<|jQ<|eZ<|k σ.length [.list [.str l]] [l] (List.getElem?_concat_length ..) (Nat.le_refl _) (by intro lb hm;cases List.mem_singleton.mp hm;exact ⟨i,a,b,hi,h⟩)
theorem O7{d m:Nat}{p:AV}{a b:Nat}(h:f7 C n d m p a b):∀{D:Nat},m<=9000->d<D->n7 C n D m p:=by
 induction h with
 |told h1 h2 h3=>
  intro D hm hd;obtain ⟨D,rfl⟩:∃e,D=e+1:=⟨D -1,((Nat.sub_add_cancel (j5 hd:(1)<=(D)))).symm⟩
  exact (G9 h1 h2).bo (Nat.le_refl _) h3
 |same h1=>
  intro D hm hd;obtain ⟨D,rfl⟩:∃e,D=e+1:=⟨D -1,((Nat.sub_add_cancel (j5 hd:(1)<=(D)))).symm⟩
  exact G8.bo (Nat.le_refl _) (Nat.zero_le _)
 |@join n d m k a b c p q _ _ xy rO=>
  intro D hm hd;obtain ⟨D,rfl⟩:∃e,D=e+1:=⟨D -1,C5 hd⟩
  exact n8 (FX false false (by decide) (by decide)) (.inr ⟨by decide,rfl⟩) hm (.cons (xy (C3 hm) (Nat.lt_of_succ_lt_succ hd)) (.cons (k:=0) (rO (j5 hm) (Nat.lt_of_succ_lt_succ hd)) .nil))
 |@turn n d m a b p _ ih=>
  intro D hm hd;obtain ⟨D,rfl⟩:∃e,D=e+1:=⟨D -1,C5 hd⟩
  exact n8 (FX false false (by decide) (by decide)) (.inr ⟨by decide,rfl⟩) hm (.cons (k:=0) (ih hm (Nat.lt_of_succ_lt_succ hd)) .nil)
 |@under n d m k i a b ka kb ps h1 h2 h3 h4 h5 h6 h7 h8 h9 _ ih=>
  intro D hm hd;obtain ⟨D,rfl⟩:∃e,D=e+1:=⟨D -1,C5 hd⟩
  have lj:∀j p,ps[j]?=some p->n7 C n D k p:=λ j p hj=>by have xf:=(List.getElem?_eq_some_iff.mp hj).1;exact (ih j p _ _ hj (List.getElem?_eq_getElem (Nat.lt_of_lt_of_le xf (bS h7))) (List.getElem?_eq_getElem (fJ (bS h6) (bS h7) xf (by simp+arith only))) (dc hm h9 (by simp+arith only)) (Nat.lt_of_succ_lt_succ hd)).bo (Nat.le_of_lt h2) (Nat.le_refl _)
  have hl:∃s,s<=m/\zE (n7 C n D) s ps:=by
   match ps,h8,lj with
   |[],_,_=>exact ⟨0,Nat.zero_le _,.nil⟩
   |[p],_,lj=>exact ⟨k+0,bQ h9 (by simp+arith only),.cons (lj 0 p rfl) .nil⟩
   |[p,q],_,lj=>exact ⟨k+(k+0),bQ h9 (by simp+arith only),.cons (lj 0 p rfl) (.cons (lj 1 q rfl) .nil)⟩
   |_::_::_::_,h8,_=>simp at h8
  obtain ⟨s,hs,hl⟩:=hl;exact (n8 (FX false false (by decide) (by decide)) (.inl ⟨rfl,_,rfl⟩) (Nat.le_trans hs hm) hl).bo (Nat.le_refl _) hs
end
end
section
set_option genInjectivity false
set_option genSizeOf false
open PySem
theorem Lz{α:Type}{C:PV}{σ:U}(bW:Nat->aP->Nat->U->(U->Prop)->Prop){lr:Nat}(ks:List α)(g f:α->AV)(hl:σ[lr]?=some (.list (ks.map g)))(hz:ks.length<10000)(he:∀n l s Q,s[lr]?=some (.list (ks.map g))->Q s->bW (n+1) (.list lr ks.length) l s Q)
  (hs:∀x i n l t Q,(ks.map g)[i]?=some (g x)->x∈ks->(σ++t)[lr]?=some (.list (ks.map g))->(∀t',b6 (f x) (σ++t++t') (λ s=>bW n (.list lr (i+1)) l s Q) l)->bW (n+1) (.list lr i) l (σ++t) Q)
  (k:∀l t,(σ++t)[l]?=some (.list (ks.map f))->C (.ref l) (σ++t)):eJ σ C λ n l s Q=>bW n (.list lr 0) l s Q:=by
 have cg:=Lp (σ:=σ) (C:=C) (λ us l acc s=>(σ.length<=l/\s[l]?=some (.list acc))/\(∃t,s=σ++t)/\∃pre,ks=pre++us/\acc=pre.map f) bW (λ us=>.list lr (ks.length -us.length)) ks
  (λ n l acc s Q ⟨_,⟨t,e⟩,_⟩ q=>he _ _ _ _ (e▸fz hl t) q) ?_ ⟨⟨Nat.le_refl _,List.getElem?_concat_length ..⟩,⟨_,rfl⟩,[],rfl,rfl⟩ ?_
 ·rw [Nat.sub_self]at cg;exact cg
 ·rintro x us n l acc s Q ⟨⟨h1,h2⟩,⟨t,rfl⟩,pre,e,rfl⟩ q;have hi:ks.length -(x::us).length=pre.length:=by refine ae e<|ae List.length_append ?_;exact Nat.le_antisymm (Nat.le_of_add_le_add_right (bS (Nat.sub_add_cancel (Nat.le_add_left ..:((x::us).length)<=(pre.length+(x::us).length))))) (Nat.le_of_add_le_add_right (b7 (Nat.sub_add_cancel (Nat.le_add_left ..:((x::us).length)<=(pre.length+(x::us).length)))))
  have Zv:ks.length -us.length=pre.length+1:=by refine ae e<|ae List.length_append<|ae List.length_cons ?_;exact Nat.le_antisymm (bQ (bS (Nat.sub_add_cancel (by simp+arith only:(us.length)<=(pre.length+(us.length+1))))) (by simp+arith only)) (bQ (b7 (Nat.sub_add_cancel (by simp+arith only:(us.length)<=(pre.length+(us.length+1))))) (by simp+arith only))
  have hp:pre.length<ks.length:=by refine ae e<|ae List.length_append<|ae List.length_cons ?_;exact Nat.lt_add_of_pos_right (Nat.succ_pos _)
  refine ae hi ?_;rw [Zv]at q;refine hs x _ _ _ _ _ (by refine ae e ?_;simp) (by refine ae e ?_;exact List.mem_append_right _ (.head _)) (fz hl t) λ t'=>.mk (fz h2 t') (by simp;exact Nat.lt_trans hp hz) (q _ _ ⟨⟨h1,List.getElem?_set_self (List.getElem?_eq_some_iff.mp (fz h2 t')).1⟩,⟨(t++t').set (l -σ.length) (.list (pre.map f++[f x])),?_⟩,pre++[x],by refine ae e ?_;simp,by simp⟩);rw [List.append_assoc,List.set_append_right _ _ h1]
 ·rintro l acc s ⟨⟨h1,h2⟩,⟨t,rfl⟩,pre,e,rfl⟩;rw [List.append_nil]at e;exact k l t (by refine ae e ?_;exact h2)
theorem FY{R:AV->AV->Bool->Prop}:∀{vs:List AV},(∀v∈vs,R v v true)->mK R vs vs true:=by
 intro bN;induction bN with
 |nil=>
  intro zz;exact .nil
 |cons v _ ih=>intro h;exact .tt (h v (.head _)) (ih λ w hw=>h w (.tail _ hw))
theorem wK{ns:List aM}(hb:i0 ns):∀(i:Nat)(k:aM)(n:Nat),ns[i]?=some k->i+1<n->gX n (dn ns i) (dn ns i) true:=by
 intro i;induction i using Nat.strongRecOn with
 |ind i ih=>
  intro k n hk hn;obtain ⟨m,rfl⟩:=Nat.exists_eq_add_of_le' (Nat.le_trans (Nat.succ_le_succ (Nat.succ_pos i)) hn:2<=n);refine ae (nB hb hk) ?_;refine um (n:=m+1) (FY λ v hv=>?_);rcases List.mem_cons.mp hv with rfl|hv
  ·exact fx (beq_self_eq_true _)
  ·obtain ⟨j,hj,rfl⟩:=List.mem_map.mp hv;have FZ:=hb i k hk j hj;have iy:=(List.getElem?_eq_some_iff.mp hk).1;exact ih j FZ _ _ (List.getElem?_eq_getElem (Nat.lt_trans FZ iy)) (Nat.lt_of_le_of_lt FZ (Nat.lt_of_succ_lt_succ hn))
theorem Sg:∀{vs:List AV},(∀v∈vs,ma v=true)->oP vs=true:=by
 intro bN;induction bN with
 |nil=>
  intro zz;exact rfl
 |cons v vs ih=>intro h;rw [rZ,h v (.head _),ih λ w hw=>h w (.tail _ hw)];rfl
theorem F0{ns:List aM}(hb:i0 ns):∀(i:Nat)(k:aM),ns[i]?=some k->ma (dn ns i)=true:=by
 intro i;induction i using Nat.strongRecOn with
 |ind i ih=>
  intro k hk;rw [nB hb hk,Jg];refine Sg λ v hv=>?_;rcases List.mem_cons.mp hv with rfl|hv
  ·rfl
  ·obtain ⟨j,hj,rfl⟩:=List.mem_map.mp hv;have FZ:=hb i k hk j hj;have iy:=(List.getElem?_eq_some_iff.mp hk).1;exact ih j FZ _ (List.getElem?_eq_getElem (Nat.lt_trans FZ iy))
noncomputable def pP(ns:List aM)(a b:Nat):AV:=.tup [dn ns a,dn ns b]
theorem VD{vs:List AV}(h:∀v∈vs,∃a b,v=.tup [a,b]/\ma a=true/\ma b=true):jV .none vs false:=by
 induction vs with
 |nil=>exact .nil
 |cons v vs ih=>obtain ⟨a,b,rfl,h1,h2⟩:=h v (.head _);exact jV.cons (a:=false) (b:=false) (by rw [Jg,rZ,rZ,h1,h2];rfl) iP.tn (ih λ w hw=>h w (.tail _ hw))
section
variable{C:Core} {ln lt N:Nat} {kvs:List (String×AV)}
def k6(C:Core)(ln lt:Nat)(kvs:List (String×AV))(D:Nat)(p:AV)(a b:Nat):Prop:=∀(σ:U){P:PV},σ[ln]?=some (.list (C.ai.map bq))->σ[lt]?=some (.dS kvs)->(∀t,P (pP C.ai a b) (σ++t))->(O D).call .mT [p,.ref ln,.ref lt] σ P
structure tN(C:Core)(N:Nat)(kvs:List (String×AV)):Prop where
 below:i0 C.ai
 yx:C.ai.length<=35
 gf:∀k∈C.ai,k.2.length<=900
 fH:∀(i a b:Nat)(r:Option String),C.ay[i]?=some (a,b,r)->a<C.ai.length/\b<C.ai.length
 told:∀(i a b:Nat)(lb:String),C.ay[i]?=some (a,b,some lb)->i<N->bD kvs lb=some (.tup [.int a,.int b])
theorem f7.fH{n d m:Nat}{p:AV}{a b:Nat}(h:f7 C n d m p a b)(he:∀(i a b:Nat)(r:Option String),C.ay[i]?=some (a,b,r)->a<C.ai.length/\b<C.ai.length):a<C.ai.length/\b<C.ai.length:=by
 induction h with
 |told h1=>exact he _ _ _ _ h1
 |same h=>exact ⟨h,h⟩
 |join _ _ xy rO=>exact ⟨xy.1,rO.2⟩
 |turn _ ih=>exact ⟨ih.2,ih.1⟩
 |under h1=>exact he _ _ _ _ h1
theorem qQ(hL:tN C N kvs){D a:Nat}{σ:U}{P:PV}(ha:a<C.ai.length)(hD:a<D)(h:σ[ln]?=some (.list (C.ai.map bq)))(k:∀t,P (dn C.ai a) (σ++t)):(O D).call .hJ [.ref ln,.int a] σ P:=by
 obtain ⟨d,rfl⟩:∃d,D=a+d+1:=⟨D -a -1,nsy hD⟩
 exact R7 hL.below hL.gf a d σ ha h k
theorem LA(D a:Nat):k6 C ln lt kvs (D+1) (.tup [.str "same",dn C.ai a]) a a:=λ σ P h1 h2 k=>zk<|df<|jQ<|eZ<|eZ<|List.append_nil σ▸k []
theorem LB(hL:tN C N kvs){D i a b:Nat}{l:String}(hD:35<=D)(he:C.ay[i]?=some (a,b,some l))(hi:i<N):k6 C ln lt kvs (D+1) (.tup [.str "told",.str l]) a b:=λ σ P h1 h2 k=>by have hf:=hL.yx;obtain ⟨ha,hb⟩:=hL.fH i a b _ he;refine zk<|df<|iq (by decide) ?_;refine (?_:qA (O D) P _ _ _ _ _);refine jQ<|.mk h2 ⟨_,rfl⟩<|eZ<|.mk h2 ?_;refine ae (hL.told i a b l he hi) ?_;exact .tn<|df<|qQ hL ha (fJ hD hf ha (by simp+arith only)) h1 λ t1=>eZ<|qQ hL hb (fJ hD hf hb (by simp+arith only)) (fz h1 t1) λ t2=>List.append_assoc ..▸k (t1++t2)
theorem oS(hL:tN C N kvs){D:Nat}{kind:String}{r:List AV}{ks:List (AV×Nat×Nat)}(ZG:(kind=="same")=false)(zX:(kind=="told")=false)(hk3:(kind=="rule")=false)(hp:(kind="under"/\∃x,r=[x,.tup (ks.map (·.1))])\/(kind=="under")=false/\r=ks.map (·.1))(ef:ks.length<=900)(f_:∀x∈ks,x.2.1<C.ai.length/\x.2.2<C.ai.length)(h:∀x∈ks,k6 C ln lt kvs D x.1 x.2.1 x.2.2)
  {σ:U}{P:PV}(h1:σ[ln]?=some (.list (C.ai.map bq)))(h2:σ[lt]?=some (.dS kvs))(k:∀l t,(σ++t)[l]?=some (.list (ks.map λ x=>pP C.ai x.2.1 x.2.2))->yc (O D) P (.str kind) (.tup (.str kind::r)) (.ref l) (σ++t)):
  (O (D+1)).call .mT [.tup (.str kind::r),.ref ln,.ref lt] σ P:=by
 have hni:jV .none (ks.map λ x=>pP C.ai x.2.1 x.2.2) false:=VD λ v hv=>by obtain ⟨x,hx,rfl⟩:=List.mem_map.mp hv;obtain ⟨b1,b2⟩:=f_ x hx;exact ⟨_,_,rfl,F0 hL.below _ _ (List.getElem?_eq_getElem b1),F0 hL.below _ _ (List.getElem?_eq_getElem b2)⟩
 have nx:qz (O D) P (.str kind) (.ref ln) (.tup (.str kind::r)) (.ref lt) (.tup (ks.map (·.1))) σ:=.t<|Uh σ (oA (O D) (.ref ln) (.ref lt)) ks (·.1) (λ x=>pP C.ai x.2.1 x.2.2) (fb ef rfl) (λ aa aa aa aa q=>x_<|.te q)
  (λ x vs n l t Q hx q=>x_<|.ts<|h x hx _ (fz h1 t) (fz h2 t) q) λ l t cl=>.l cl hni<|iq hk3<|k l t cl
 refine zk<|df<|iq ZG ?_;refine (?_:qA (O D) P _ _ _ _ _);refine iq zX ?_;refine (?_:yd (O D) P _ _ _ _ _);rcases hp with⟨rfl,x,rfl⟩|⟨cD,rfl⟩
 ·exact jQ<|yi nx
 ·exact iq cD<|ng nx
theorem LC(hL:tN C N kvs){D a b:Nat}{p:AV}(f_:a<C.ai.length/\b<C.ai.length)(h:k6 C ln lt kvs D p a b):k6 C ln lt kvs (D+1) (.tup [.str "turn",p]) b a:=λ σ P h1 h2 k=>
 oS (ks:=[(p,a,b)]) hL (by decide) (by decide) (by decide) (.inr ⟨by decide,rfl⟩) (Nat.succ_pos _) (by simpa using f_) (by simpa using h) h1 h2 λ l t cl=>jQ<|eY cl (i:=0) rfl<|eZ<|eY cl (i:=0) rfl<|df<|k t
theorem LD(hL:tN C N kvs){D a b c:Nat}{p q:AV}(ha:a<C.ai.length)(hb:b<C.ai.length)(hc:c<C.ai.length)(h:k6 C ln lt kvs D p a b)(h':k6 C ln lt kvs D q b c):k6 C ln lt kvs (D+1) (.tup [.str "join",p,q]) a c:=λ σ P h1 h2 k=>by
 have hf:=hL.yx;exact oS (ks:=[(p,a,b),(q,b,c)]) hL (by decide) (by decide) (by decide) (.inr ⟨by decide,rfl⟩) (by simp) (by simp [ha,hb,hc]) (by simpa using⟨h,h'⟩) h1 h2 λ l t cl=>iq (by decide)<|jQ<|eY cl (i:=0) rfl<|eZ<|eY cl (i:=1) rfl<|df<|yn (b:=true) (wK hL.below b _ 40 (List.getElem?_eq_getElem hb) (fb (Nat.le_trans hb hf) rfl))<|eY cl (i:=0) rfl<|df<|eY cl (i:=1) rfl<|eZ<|k t
theorem G_(hL:tN C N kvs){D a b:Nat}{ka kb:aM}{ks:List (AV×Nat×Nat)}(mO:C.ai[a]?=some ka)(Ul:C.ai[b]?=some kb)(k9:ka.1=kb.1)(hz:ks.length<=2)(e1:ks.map (·.2.1)=ka.2)(e2:ks.map (·.2.2)=kb.2)(f_:∀x∈ks,x.2.1<C.ai.length/\x.2.2<C.ai.length)(h:∀x∈ks,k6 C ln lt kvs D x.1 x.2.1 x.2.2):k6 C ln lt kvs (D+1) (.tup [.str "under",.str ka.1,.tup (ks.map (·.1))]) a b:=λ σ P h1 h2 k=>by
 refine oS (ks:=ks) hL (by decide) (by decide) (by decide) (.inl ⟨rfl,_,rfl⟩) (nc hz rfl) f_ h h1 h2 λ l t cl=>iq (by decide)<|iq (by decide)<|eZ<|.l cl ?_;refine Lz (oB (O D)) ks (λ x=>pP C.ai x.2.1 x.2.2) (λ x=>dn C.ai x.2.1) cl (fb hz rfl) (λ aa aa aa aa c q=>ya<|.le c (by simp) q) (λ x i n l t Q hi aa c q=>ya<|.ls c hi<|df<|by simpa using q []) λ l2 t2 c2=>.l c2<|.t (by simp;exact nc (Nat.add_le_add_left hz _) rfl)<|eZ<|.l (fz cl t2) ?_;refine Lz (oC (O D)) ks (λ x=>pP C.ai x.2.1 x.2.2) (λ x=>dn C.ai x.2.2) (fz cl t2) (fb hz rfl) (λ aa aa aa aa c q=>yb<|.le c (by simp) q) (λ x i n l t Q hi aa c q=>yb<|.ls c hi<|eZ<|by simpa using q []) λ l3 t3 c3=>.l c3<|.t (by simp;exact nc (Nat.add_le_add_left hz _) rfl) ?_;have t1:AV.tup ([.str ka.1]++ks.map λ x=>dn C.ai x.2.1)=dn C.ai a:=by refine ae (nB hL.below mO)<|cQ e1<|ae List.map_map ?_;rfl
 have t2':AV.tup ([.str ka.1]++ks.map λ x=>dn C.ai x.2.2)=dn C.ai b:=by refine ae (nB hL.below Ul)<|cQ e2<|ae k9<|ae List.map_map ?_;rfl
 rw [t1,t2',List.append_assoc,List.append_assoc];exact k _
theorem Sh(hL:tN C N kvs){n d m:Nat}{p:AV}{a b:Nat}(h:f7 C n d m p a b):∀{D:Nat},n<=N->d+36<=D->k6 C ln lt kvs D p a b:=by
 induction h with
 |told h1 h2 h3=>
  intro D hn hd;obtain ⟨D,rfl⟩:∃e,D=e+1:=⟨D -1,((Nat.sub_add_cancel (j5 hd:(1)<=(D)))).symm⟩
  exact LB hL (bQ hd (by simp+arith only)) h1 (Nat.lt_of_lt_of_le h2 hn)
 |same h1=>
  intro D hn hd;obtain ⟨D,rfl⟩:∃e,D=e+1:=⟨D -1,((Nat.sub_add_cancel (j5 hd:(1)<=(D)))).symm⟩
  exact LA D _
 |@join n d m k a b c p q hp hq xy rO=>
  intro D hn hd;obtain ⟨D,rfl⟩:∃e,D=e+1:=⟨D -1,C5 hd⟩
  exact LD hL (hp.fH hL.fH).1 (hp.fH hL.fH).2 (hq.fH hL.fH).2 (xy hn (Nat.le_of_lt_succ hd)) (rO hn (Nat.le_of_lt_succ hd))
 |@turn n d m a b p hp ih=>
  intro D hn hd;obtain ⟨D,rfl⟩:∃e,D=e+1:=⟨D -1,C5 hd⟩
  exact LC hL (hp.fH hL.fH) (ih hn (Nat.le_of_lt_succ hd))
 |@under n d m k i a b ka kb ps h1 h2 h3 h4 h5 h6 h7 h8 h9 nS ih=>
  intro D hn hd;obtain ⟨D,rfl⟩:∃e,D=e+1:=⟨D -1,C5 hd⟩
  have z0:(ps.zip (ka.2.zip kb.2)).map (·.1)=ps:=List.map_fst_zip (by refine ae List.length_zip ?_;lia);have z3:(ps.zip (ka.2.zip kb.2)).map (·.2)=ka.2.zip kb.2:=List.map_snd_zip (by refine ae List.length_zip ?_;exact Nat.le_trans (Nat.min_le_left (ka.snd.length) (kb.snd.length)) (b7 h7));have z1:(ps.zip (ka.2.zip kb.2)).map (·.2.1)=ka.2:=by
   have:=congrArg (List.map Prod.fst) z3
   rwa [List.map_map,List.map_fst_zip ((bS h6))]at this
  have z2:(ps.zip (ka.2.zip kb.2)).map (·.2.2)=kb.2:=by
   have:=congrArg (List.map Prod.snd) z3
   rwa [List.map_map,List.map_snd_zip ((b7 h6))]at this
  have ea:=hL.fH i a b none h1;have key:∀x∈ps.zip (ka.2.zip kb.2),∃j:Nat,ps[j]?=some x.1/\ka.2[j]?=some x.2.1/\kb.2[j]?=some x.2.2:=λ x hx=>by obtain ⟨j,hj⟩:=List.mem_iff_getElem?.mp hx;obtain ⟨g1,g2⟩:=List.getElem?_zip_eq_some.mp hj;obtain ⟨g3,g4⟩:=List.getElem?_zip_eq_some.mp g2;exact ⟨j,g1,g3,g4⟩
  have:=G_ (ln:=ln) (lt:=lt) (D:=D) hL h3 h4 h5 (ks:=ps.zip (ka.2.zip kb.2)) (by refine ae List.length_zip ?_;exact Nat.le_trans (Nat.min_le_left (ps.length) ((ka.snd.zip kb.snd).length)) h8) z1 z2 (λ x hx=>?_) λ x hx=>?_
  ·rwa [z0]at this
  ·obtain ⟨j,_,g1,g2⟩:=key x hx;have b1:=hL.below a ka h3 _ (List.mem_of_getElem? g1);have b2:=hL.below b kb h4 _ (List.mem_of_getElem? g2);lia
  ·obtain ⟨j,g0,g1,g2⟩:=key x hx;exact ih j _ _ _ g0 g1 g2 (Nat.le_of_lt (Nat.lt_of_lt_of_le h2 hn)) (Nat.le_of_lt_succ hd)
end
end
section
set_option genInjectivity false
set_option genSizeOf false
open PySem
section
variable{K:Type} [DecidableEq K]
theorem yB{kvs:List (K×AV)}{k:K}{v:AV}(h:k∉kvs.map (·.1)):dY kvs k v=kvs++[(k,v)]:=by unfold dY;rw [if_neg];rw [List.any_eq_true];rintro ⟨x,hx,e⟩;simp only [decide_eq_true_eq]at e;exact h (List.mem_map.mpr ⟨x,hx,e⟩)
theorem Si{k:K}{v:AV}:∀{kvs:List (K×AV)},(kvs.map (·.1)).Nodup->(k,v)∈kvs->bD kvs k=some v:=by
 intro kvs hn hm;obtain ⟨A,B,rfl⟩:=List.append_of_mem hm;unfold bD;rw [List.find?_append,List.find?_eq_none.mpr]
 ·simp
 ·intro x hx e;simp only [decide_eq_true_eq]at e;rw [List.map_append,List.nodup_append]at hn;exact hn.2.2 x.1 (List.mem_map.mpr ⟨x,hx,rfl⟩) k (.head _) e
theorem G'{kvs:List (K×AV)}{k:K}:(bD kvs k).isSome=decide (k∈kvs.map (·.1)):=by
 unfold bD;rw [Option.isSome_map,Bool.eq_iff_iff,List.find?_isSome,decide_eq_true_eq];constructor
 ·rintro ⟨x,hx,e⟩;simp only [decide_eq_true_eq]at e;exact List.mem_map.mpr ⟨x,hx,e⟩
 ·intro h;obtain ⟨x,hx,e⟩:=List.mem_map.mp h;exact ⟨x,hx,decide_eq_true e⟩
end
noncomputable def iu(e:String×Nat×Nat):AV:=.tup [.str e.1,.int e.2.1,.int e.2.2]
noncomputable def a6(E:List (Nat×Nat×Option String)):List (String×Nat×Nat):=E.filterMap λ e=>e.2.2.map λ lb=>(lb,e.1,e.2.1)
noncomputable def n9(dM:List (String×Nat×Nat)):List (String×AV):=dM.map λ e=>(e.1,.tup [.int e.2.1,.int e.2.2])
theorem O8{dM:List (String×Nat×Nat)}(hn:(dM.map (·.1)).Nodup){lb:String}{a b:Nat}(h:(lb,a,b)∈dM):bD (n9 dM) lb=some (.tup [.int a,.int b]):=by refine Si ?_ (List.mem_map.mpr ⟨_,h,rfl⟩);simpa [n9,Function.comp_def]using hn
theorem VE(dM:List (String×Nat×Nat)):(n9 dM).map (·.1)=dM.map (·.1):=List.map_map ..
theorem tO{E:List (Nat×Nat×Option String)}{i a b:Nat}{lb:String}(h:E[i]?=some (a,b,some lb)):(lb,a,b)∈a6 E:=
 List.mem_filterMap.mpr ⟨_,List.mem_of_getElem? h,rfl⟩
theorem yC{E:List (Nat×Nat×Option String)}{i:Nat}{e:Nat×Nat×Option String}(h:E[i]?=some e):a6 (E.take (i+1))=a6 (E.take i)++(e.2.2.map λ lb=>(lb,e.1,e.2.1)).toList:=by refine ae List.take_add_one<|ae h ?_;simp only [a6,List.filterMap_append,Option.toList_some];cases hc:e.2.2<;>simp [hc]
theorem FT(n:Nat)(a b:Nat):gX (n+2) (.tup [.int a,.int b]) (.tup [.int a,.int b]) true:=um (.tt (ij (zo rfl)) (.tt (ij (zo rfl)) .nil))
theorem O9(n:Nat)(a b:String):gX (n+2) (.tup [.str a,.str b]) (.tup [.str a,.str b]) true:=um (.tt (fx (beq_self_eq_true _)) (.tt (fx (beq_self_eq_true _)) .nil))
structure pQ(H:Hp)(dM:List (String×Nat×Nat))(R:List aR)(ln lt:Nat):Prop where
 mJ:zD H
 yx:H.ai.length<=35
 CU:a6 H.ay=dM
 nodup:(dM.map (·.1)).Nodup
 ai:(ln,.list (H.ai.map bq))∈R
 told:(lt,.dS (n9 dM))∈R
theorem pQ.Sj{dM:List (String×Nat×Nat)}{ln lt:Nat}(h:pQ H dM R ln lt):tN H.toCore H.ay.length (n9 dM):=
 ⟨h.mJ.below,h.yx,λ k hk=>h.mJ.jf.gf k hk,h.mJ.fH,λ i a b lb he aa=>O8 h.nodup (h.CU▸tO he)⟩
theorem acy(i:Nat):1<=3^i:=by have:=FO i;exact j5 (bS this)
theorem VF{i:Nat}(h:i<=7):3^i<=2187:=by
 have:∀i:Nat,i<8->3^i<=2187:=by decide
 exact this i (Nat.lt_succ_of_le h)
section
variable{P:PV} {Q:U->Prop} {s:U} {H:Hp} {R:List aR} {y p l k lt le ln lp D n2:Nat} {x2:aP} {ve vh vn vp vw:AV} {dM:List (String×Nat×Nat)}
noncomputable def WS.f'(w:WS H y p l R)(t:U):WS H y p l R:=⟨w.g,w.w.f' t,w.ok,w.tM⟩
theorem Sk(hn:(dM.map (·.1)).Nodup)(hz:dM.length<=900)(hle:(le,.list (dM.map iu))∈R)(c:∀w':WS H y p l ((lt,.dS (n9 dM))::R),rz (O D) P ve vh vn vp (.ref lt) vw w'.w.w.σ):∀(k j:Nat)(w:WS H y p l ((lt,.dS (n9 (dM.take j)))::R)),j+k=dM.length->kO (O D) P ve vh vn vp (.ref lt) vw (k+1) (.list le j) w.w.w.σ:=by
 intro bN;induction bN with
 |zero=>
  intro j w hj;refine rA<|.le (w.at (.tail _ hle)) (by rw [List.length_map];exact (b7 hj)) ?_;revert w;refine ae (List.take_of_length_le ((b7 hj))) ?_;exact c
 |succ k ih=>
  intro j w hj;have he:=List.getElem?_eq_getElem (l:=dM) (i:=j) (nC (bS hj));generalize dM[j]'_=e at he;obtain ⟨lb,a,b⟩:=e;have et:dM.take (j+1)=dM.take j++[(lb,a,b)]:=by refine ae List.take_add_one<|ae he ?_;rfl
  have F1:lb∉(n9 (dM.take j)).map (·.1):=by rw [VE];have h1:((dM.take (j+1)).map (·.1)).Nodup:=((List.take_sublist _ _).map _).nodup hn;rw [et,List.map_append,List.nodup_append]at h1;exact λ q=>h1.2.2 lb q lb (.head _) rfl
  have ea:dY (n9 (dM.take j)) lb (.tup [.int a,.int b])=n9 (dM.take (j+1)):=by refine ae (yB F1)<|ae et ?_;simp [n9]
  exact rA<|.ls (w.at (.tail _ hle)) (x:=iu (lb,a,b)) (by refine ae List.getElem?_map<|ae he ?_;rfl)<|.t<|.s (w.at (.head _)) (by simp [n9];exact nc (Nat.le_trans (Nat.min_le_right (j) (dM.length)) hz) rfl)<|ea▸ih (j+1) (w.put _) (Nat.le_antisymm (bQ (bS hj) (by simp+arith only)) (bQ (b7 hj) (by simp+arith only)))
theorem LF{i a b:Nat}{lb:String}{pv:List (String×AV)}(hr:pQ H dM R ln lt)(he:H.ay[i]?=some (a,b,some lb))(hp:p+3^i<=20000)(mu:pv.map (·.1)=(a6 (H.ay.take i)).map (·.1))(w:WS H y p 0 ((lp,.dS pv)::R))
  (k:∀p'(w':WS H y p' 0 ((lp,.dS (pv++[(lb,.int i)]))::R)),p'<=p+3^i->gR (O (D+120)) P ve vh (.ref ln) (.ref lp) (.ref lt) (.ref y) n2 x2 w'.w.w.σ):mF (O (D+120)) P n2 x2 (.int a) (.int b) ve vh (.int i) (.ref ln) (.ref lp) (jY (some lb)) (.ref lt) (.ref y) w.w.w.σ:=by
 have hs:=hr.mJ.yy;have iy:=(List.getElem?_eq_some_iff.mp he).1;have hE:=FU hr.mJ i iy (D+112 -2*i);rw [show 2*i+8+(D+112 -2*i)=D+120 by exact n96 iy hs]at hE;have F1:lb∉pv.map (·.1):=by refine ae mu ?_;have hn:=hr.nodup;rw [<-hr.CU]at hn;have h2:((a6 (H.ay.take (i+1))).map (·.1)).Nodup:=(((List.take_sublist _ _).filterMap _).map _).nodup hn;rw [yC he,List.map_append,List.nodup_append]at h2;exact λ q=>h2.2.2 lb q lb (.head _) rfl
 have gq:pv.length<=8:=by
  have h2:pv.length=(a6 (H.ay.take i)).length:=by have:=congrArg List.length mu;simpa using this
  have h3:(a6 (H.ay.take i)).length<=(H.ay.take i).length:=List.length_filterMap_le _ _;rw [List.length_take]at h3;exact C4 hs (bS h2) h3 (Nat.min_le_right (i) (H.ay.length)) (by simp+arith only)
 refine w.w.uy rfl rfl<|hE y p 0 _ a b _ w he hp (dc hs iy (by simp+arith only)) λ v p1 w yz aa hv=>?_;cases hv;have ct:=(w.put (.dS (pv++[(lb,.int i)]))).at (.tail _ hr.told)
 refine df<|jQ<|eZ<|.s (w.at (.head _)) (nc gq rfl) ?_;refine ae (yB F1) ?_;refine eZ<|lZ (b:=true) (by first|exact fx (by decide)|exact fx (beq_self_eq_true _)|exact iP.nn|exact ij (decide_eq_true rfl)|exact O9 _ _ _)<|.mk ct ⟨_,rfl⟩<|eZ<|.mk ct ?_;refine ae (O8 hr.nodup (hr.CU▸tO he)) ?_;exact lZ (b:=true) (FT _ _ _)<|k p1 (w.put _) yz
theorem O_{ls:List String}{pv:List (String×AV)}{la lr:Nat}(fP:∀lb∈ls,lb∈pv.map (·.1))(c1:s[lr]?=some (.list (ls.map .str)))(c2:s[lp]?=some (.dS pv))(q:Q s):∀(k i:Nat),i+k=ls.length->jc (O D) (.ref lp) (k+1) (.list lr i) la s Q:=by
 intro bN;induction bN with
 |zero=>
  intro i e;exact rr<|.le c1 (by rw [List.length_map];exact (b7 e)) q
 |succ k ih=>intro i e;have he:=List.getElem?_eq_getElem (l:=ls) (i:=i) (nC (bS e));refine rr<|.ls c1 (by refine ae List.getElem?_map<|ae he ?_;rfl)<|.s c2 ?_;refine ae G'<|ae (decide_eq_true (fP _ (List.mem_of_getElem? he))) ?_;exact ih (i+1) (Nat.le_antisymm (bQ (bS e) (by simp+arith only)) (bQ (b7 e) (by simp+arith only)))
theorem LG{i a b:Nat}{pv:List (String×AV)}(hr:pQ H dM R ln lt)(he:H.ay[i]?=some (a,b,none))(hp:p+3^i<=20000)(mu:pv.map (·.1)=(a6 (H.ay.take i)).map (·.1))(w:WS H y p 0 ((lp,.dS pv)::R))
  (k:∀p'(w':WS H y p' 0 ((lp,.dS pv)::R)),p'<=p+3^i->gR (O (D+120)) P ve vh (.ref ln) (.ref lp) (.ref lt) (.ref y) n2 x2 w'.w.w.σ):mF (O (D+120)) P n2 x2 (.int a) (.int b) ve vh (.int i) (.ref ln) (.ref lp) (jY none) (.ref lt) (.ref y) w.w.w.σ:=by
 have hs:=hr.mJ.yy;have iy:=(List.getElem?_eq_some_iff.mp he).1;have LH:=hr.yx;have hE:=FU hr.mJ i iy (D+112 -2*i);rw [show 2*i+8+(D+112 -2*i)=D+120 by exact n96 iy hs]at hE;have f_:=hr.mJ.fH i a b none he;have h3:=VF (i:=i) (dc hs iy (by simp+arith only));refine w.w.uy rfl rfl<|hE y p 0 _ a b _ w he hp (dc hs iy (by simp+arith only)) λ v p1 w yz rE hv=>?_;obtain ⟨ka,ps,rfl,mO,nS⟩:=hv;refine df<|iq (by decide) ?_;refine (?_:rx (O _) P _ _ _ _ _ _ _ _ _ _ _ _);refine df<|lZ (b:=true) (by first|exact fx (by decide)|exact fx (beq_self_eq_true _)|exact iP.nn|exact ij (decide_eq_true rfl)|exact O9 _ _ _)<|yi<|.t<|eY (w.at (.tail _ hr.ai)) (v:=bq ka) (by simp [mO])<|.t<|lM (b:=ka.2.length) (by simp [cN])<|zp nS<|O7 rE (D:=D+120) (nc h3 rfl) (by lia) _ λ l t ls hl IM FW=>?_;have fP:∀lb∈ls,lb∈pv.map (·.1):=by
  intro lb hm;obtain ⟨j,x,y,hj,ZH⟩:=FW lb hm;have FZ:j≠i:=λ q=>by rw [q,he]at ZH;cases ZH
  have:(H.ay.take i)[j]?=some (x,y,some lb):=by refine ae (List.getElem?_take_of_lt (by lia)) ?_;exact ZH
  refine ae mu ?_;exact List.mem_map.mpr ⟨_,tO this,rfl⟩
 let w1:=w.f' t;let w2:=w1.new (.list []);let w3:=w2.new (.list []);refine .l hl ⟨_,O_ fP (fz hl _) (w2.at (.tail _ (.head _))) ?_ ls.length 0 (Nat.zero_add _)⟩;refine .mk (w3.at (.tail _ (.head _))) (w3.at (.head _)) rfl rfl ?_;refine (?_:tq (O _) P _ _ _ _ _ _ _ _ _ _ _ w3.w.w.σ);have mn:(ln,AO.list (H.ai.map bq))∈(w2.w.w.σ.length,.list [])::(w1.w.w.σ.length,.list [])::(lp,.dS pv)::R:=.tail _ (.tail _ (.tail _ hr.ai));have mt:(lt,AO.dS (n9 dM))∈(w2.w.w.σ.length,.list [])::(w1.w.w.σ.length,.list [])::(lp,.dS pv)::R:=.tail _ (.tail _ (.tail _ hr.told));refine Sh hr.Sj rE (D:=D+120) (iy) (by lia) _ (w3.at mn) (w3.at mt) λ t4=>qQ hr.Sj f_.1 (nc (Nat.le_trans f_.1 LH) rfl) ((w3.f' t4).at mn) λ t5=>qQ hr.Sj f_.2 (nc (Nat.le_trans f_.2 LH) rfl) (((w3.f' t4).f' t5).at mn) λ t6=>?_;refine lZ (b:=true) ?_<|k p1 ((((w3.f' t4).f' t5).f' t6).sub (.cons _ (.cons _ (.refl _)))) yz;refine um (n:=39) (FY λ u hu=>?_);simp only [List.mem_cons,List.not_mem_nil,or_false]at hu;rcases hu with rfl|rfl
 ·exact wK hr.mJ.below a _ 39 mO (fb (Nat.le_trans f_.1 LH) rfl)
 ·exact wK hr.mJ.below b _ 39 (List.getElem?_eq_getElem f_.2) (fb (Nat.le_trans f_.2 LH) rfl)
end
end
section
open PySem
section
variable{C:PV} {H:Hp} {R:List aR} {y p k lt le ln lp D:Nat} {ve vh:AV} {dM:List (String×Nat×Nat)}
theorem O'{m n:Nat}(h:m<=n):eB m<=eB n:=by
 induction h with
 |refl=>exact Nat.le_refl _
 |step _ ih=>exact Nat.le_trans ih (Nat.le_add_right _ _)
theorem Pa(hr:pQ H dM R ln lt){T:Nat}(c:∀p' pv(w':WS H y p' 0 ((lp,.dS pv)::R)),p'<=T->pv.map (·.1)=dM.map (·.1)->ti (O (D+120)) C ve vh (.ref ln) (.ref lp) w'.w.w.σ)(hT:T<=20000):
  ∀(k i p:Nat)(pv:List (String×AV))(w:WS H y p 0 ((lp,.dS pv)::R)),i+k=H.ay.length->p+eB H.ay.length<=T+eB i->pv.map (·.1)=(a6 (H.ay.take i)).map (·.1)->gR (O (D+120)) C ve vh (.ref ln) (.ref lp) (.ref lt) (.ref y) (k+1) (.enum 16 i) w.w.w.σ:=by
 intro bN;induction bN with
 |zero=>
  intro i p pv w hi hp mu;have nL:i=H.ay.length:=hi;subst nL;rw [List.take_length,hr.CU]at mu;exact ry<|.ee w.w.w.rep.tC (by simp)<|c p pv w (Nat.le_of_add_le_add_right hp) mu
 |succ k ih=>
  intro i p pv w hi hp mu;have iy:i<H.ay.length:=nC (bS hi);have he:=List.getElem?_eq_getElem iy;generalize H.ay[i]=e at he;obtain ⟨a,b,r⟩:=e;have hs3:eB i+3^i<=eB H.ay.length:=O' (m:=i+1) iy;have e3:eB (i+1)=eB i+3^i:=rfl;have et:=yC he;refine ry<|.es w.w.w.rep.tC (x:=iE (a,b,r)) (by refine ae List.getElem?_map<|ae he ?_;rfl)<|.t<|.t ?_;cases r with
  |some lb=>exact LF hr he (fJ hT hp hs3 (by simp+arith only)) mu w λ p' w jF=>ih (i+1) p' _ w (Nat.le_antisymm (bQ (bS hi) (by simp+arith only)) (bQ (b7 hi) (by simp+arith only))) (fJ hp (b7 e3) jF (by simp+arith only)) (by refine ae et<|ae List.map_append<|ae List.map_append<|ae mu ?_;rfl)
  |none=>exact LG hr he (fJ hT hp hs3 (by simp+arith only)) mu w λ p' w jF=>ih (i+1) p' _ w (Nat.le_antisymm (bQ (bS hi) (by simp+arith only)) (bQ (b7 hi) (by simp+arith only))) (fJ hp (b7 e3) jF (by simp+arith only)) (by refine ae et<|ae mu ?_;simp)
theorem Sl:∀ls:List String,HL (ls.map .str) (ls.map .str) true:=by
 intro bN;induction bN with
 |nil=>
  skip;exact .nil
 |cons l ls ih=>skip;exact .cons (a:=true) (fx (beq_self_eq_true l)) (ih)
theorem Ha(hj:zD H)(yx:H.ai.length<=35)(ht:a6 H.ay=dM)(hn:(dM.map (·.1)).Nodup)(mn:(ln,.list (H.ai.map bq))∈R)(me:(le,.list (dM.map iu))∈R)(w:WS H y p 0 R)(hp:p+eB H.ay.length<=20000)(k:∀p'(w':WS H y p' 0 R),p'<=p+eB H.ay.length->C (.bool true) w'.w.w.σ):
  (O (D+121)).call .hO [.ref 3,.ref y,.ref ln,.ref le] w.w.w.σ C:=by
 have hs:=hj.yy;have lj:dM.length<=8:=by
  have:dM.length<=H.ay.length:=by refine cQ ht ?_;exact List.length_filterMap_le _ _
  exact Nat.le_trans this hs
 let w1:=w.new (.dS []);let w2:WS H y p 0 ((w.w.w.σ.length,.dS (n9 (dM.take 0)))::(w1.w.w.σ.length,.dS [])::R):=(w1.new (.dS [])).bI (.swap _ _ _);refine KN<|.t<|.l (w2.at (.tail _ (.tail _ me))) ⟨_,Sk hn (nc lj rfl) (.tail _ me) (λ v=>?_) dM.length 0 w2 (Nat.zero_add _)⟩;have hr:pQ H dM ((w.w.w.σ.length,.dS (n9 dM))::R) ln w.w.w.σ.length:=⟨hj,yx,ht,hn,.tail _ mn,.head _⟩
 refine v.w.w.gT<|.mk v.w.w.rep.tC ⟨_,Pa hr (T:=p+eB H.ay.length) (λ p' pv w jF mu=>?_) hp H.ay.length 0 p [] (v.bI (.swap _ _ _)) (Nat.zero_add _) (Nat.le_refl _) rfl⟩;have gq:pv.length<=8:=by have:=congrArg List.length mu;simp at this;exact Nat.le_trans (bS this) lj
 have aa2:pv.map (λ p=>AV.str p.1)=(dM.map (·.1)).map .str:=by refine cQ mu<|ae List.map_map ?_;rfl
 refine .d (w.at (.head _)) (nc gq rfl) ?_;refine ae aa2 ?_;let w3:=w.new (.list ((dM.map (·.1)).map .str));refine .l (w3.at (.tail _ (.tail _ (.tail _ me))))<|Lz (kP (O (D+120))) dM iu (λ e=>.str e.1) (w3.at (.tail _ (.tail _ (.tail _ me)))) (fb lj rfl) (λ aa aa aa aa c q=>rq<|.le c (by simp) q) (λ x i n l t Q hi aa c q=>rq<|.ls c hi<|.t<|by have q:=q [];rw [List.append_nil]at q;exact q) λ l t cl=>?_;refine .eq (b:=true) (fz (w3.at (.head _)) t) cl (by simp) ?_ ?_
 ·refine ae (show(dM.map λ e=>AV.str e.1)=(dM.map (·.1)).map .str by rw [List.map_map];rfl) ?_;exact Sl _
 exact (w3.f' t).w.w.yh<|vB (w3.f' t).w.w<|dp ((w3.f' t).at (.tail _ (.tail _ (.tail _ mn)))) (List.length_map ..)<|yn (b:=true) (ij (decide_eq_true rfl))<|k p' ((w3.f' t).sub (.cons _ (.cons _ (.cons _ (.refl _))))) jF
end
end
section
open PySem
theorem F2{ah:List Nat}{a:Nat}(h:a<ah.length):∃p,ah[a]?=some p:=⟨_,List.getElem?_eq_getElem h⟩
theorem d6.set{ah:List Nat}(hp:d6 ah){g k:Nat}(vF:k<=g):d6 (ah.set g k):=by
 intro i p h;rw [List.getElem?_set]at h;split at h
 ·rename_i e;split at h
  ·cases h;exact Nat.le_trans vF (bS e)
  ·cases h
 ·exact hp i p h
theorem Sm{ah:List Nat}(hp:d6 ah){g k:Nat}(hg:ah[g]?=some g)(hk:ah[k]?=some k)(vF:k<g):∀a,a<ah.length->ax (ah.set g k) a=if ax ah a=g then k else ax ah a:=by
 have jF:=hp.set (g:=g) (k:=k) (Nat.le_of_lt vF);have HE:=(List.getElem?_eq_some_iff.mp hg).1;intro a;induction a using Nat.strongRecOn with
 |ind a ih=>
  intro ha;refine d9 (F2 ha) λ p rF=>?_;by_cases e:p=a
  ·subst e;rw [gw rF];by_cases e2:p=g
   ·subst e2;rw [if_pos rfl];have h1:(ah.set p k)[p]?=some k:=List.getElem?_set_self (by assumption);have h2:(ah.set p k)[k]?=some k:=by rw [List.getElem?_set_ne (Nat.ne_of_gt vF)];exact hk
    exact ae (kq jF h1 (Nat.ne_of_lt vF))<|ae (gw h2) rfl
   ·refine ae (if_neg e2) ?_;exact gw (by refine ae (List.getElem?_set_ne (Ne.symm e2)) ?_;exact rF)
  ·have hle:=hp a p rF;have cD:a≠g:=λ q=>by subst q;rw [hg]at rF;cases rF;exact e rfl
   have h1:(ah.set g k)[a]?=some p:=by refine ae (List.getElem?_set_ne (Ne.symm cD)) ?_;exact rF
   refine ae (kq jF h1 e)<|ae (kq hp rF e) ?_;exact ih p ((Nat.lt_of_le_of_ne hle e)) (Nat.lt_of_le_of_lt hle ha)
theorem d6.snoc{ah:List Nat}(hp:d6 ah):d6 (ah++[ah.length]):=by
 intro i p h;rw [List.getElem?_append]at h;split at h
 ·exact hp i p h
 ·rename_i hi;have:=(List.getElem?_eq_some_iff.mp h).1;simp at this;have:i=ah.length:=Nat.le_antisymm (dc (bS this) (b7 (Nat.sub_add_cancel ((Nat.le_of_not_lt hi):(ah.length)<=(i)))) (by simp+arith only)) ((Nat.le_of_not_lt hi));subst this;simp at h;exact (b7 h)
theorem oK{ah:List Nat}(hp:d6 ah):∀a,a<ah.length->ax (ah++[ah.length]) a=ax ah a:=by
 have jF:=hp.snoc;intro a;induction a using Nat.strongRecOn with
 |ind a ih=>
  intro ha;refine d9 (F2 ha) λ p rF=>?_;have h1:(ah++[ah.length])[a]?=some p:=by rw [List.getElem?_append_left ha];exact rF
  by_cases e:p=a
  ·subst e;exact ae (gw rF)<|ae (gw h1) rfl
  ·have hle:=hp a p rF;refine ae (kq jF h1 e)<|ae (kq hp rF e) ?_;exact ih p ((Nat.lt_of_le_of_ne hle e)) (Nat.lt_of_le_of_lt hle ha)
theorem F3{ah:List Nat}:ax (ah++[ah.length]) ah.length=ah.length:=gw (List.getElem?_concat_length ..)
theorem BW{ah:List Nat}(hp:d6 ah){a:Nat}(h:a<ah.length):ax ah (ax ah a)=ax ah a:=gw (e7 hp h)
section
variable{C C':Core} {F F':List Nat} {n n' a b c:Nat}
theorem e_.trans(h1:e_ C F n a b)(h2:e_ C F n b c):e_ C F n a c:=by
 induction h2 with
 |refl=>exact h1
 |step _ k1 k2 ih=>exact .step ih k1 k2
theorem Sn{x i y:Nat}(h:(i,y)∈fA C F x):(i,x)∈fA C F y:=by
 obtain ⟨h1,u,v,r,h2,h3⟩:=kA.mp h;refine kA.mpr ⟨h1,u,v,r,h2,?_⟩;rcases h3 with⟨rfl,rfl⟩|⟨rfl,rfl⟩
 ·exact .inr ⟨rfl,rfl⟩
 ·exact .inl ⟨rfl,rfl⟩
theorem e_.symm(h:e_ C F n a b):e_ C F n b a:=by
 induction h with
 |refl=>exact .refl
 |@step x i y _ k1 k2 ih=>exact e_.trans (.step .refl (Sn k1) k2) ih
theorem e_.bo(he:∀(i:Nat)(e:Nat×Nat×Option String),C.ay[i]?=some e->C'.ay[i]?=some e)(hF:∀i∈F,i∈F')(hn:n<=n')(h:e_ C F n a b):e_ C' F' n' a b:=by
 induction h with
 |refl=>exact .refl
 |@step x i y _ k1 k2 ih=>obtain ⟨h1,u,v,r,h2,h3⟩:=kA.mp k1;exact .step ih (kA.mpr ⟨hF i h1,u,v,r,he i _ h2,h3⟩) (Nat.lt_of_lt_of_le k2 hn)
theorem e_.jy{i:Nat}{r:Option String}(hi:i∈F)(hn:i<n)(he:C.ay[i]?=some (a,b,r)):e_ C F n a b:=
 .step .refl (kA.mpr ⟨hi,a,b,r,he,.inl ⟨rfl,rfl⟩⟩) hn
end
theorem BX{l:List Nat}{f g:Nat->Nat}(h:∀x∈l,f x=g x):(l.map f).sum=(l.map g).sum:=by exact ae (List.map_congr_left h) rfl
theorem ade{l:List Nat}{f g:Nat->Nat}(h:∀x∈l,f x<=g x):(l.map f).sum<=(l.map g).sum:=by
 induction l with
 |nil=>exact Nat.le_refl _
 |cons a l ih=>have h1:=h a (.head _);have h2:=ih λ x hx=>h x (.tail _ hx);simp only [List.map_cons,List.sum_cons];exact Nat.add_le_add h1 h2
theorem VG(l:List Nat)(f g:Nat->Nat):(l.map λ x=>f x+g x).sum=(l.map f).sum+(l.map g).sum:=by
 induction l with
 |nil=>exact rfl
 |cons a l ih=>simp only [List.map_cons,List.sum_cons,ih];simp+arith only
theorem VH(l CS:List Nat):(l.map λ x=>if x∈CS then 1 else 0).sum=(l.filter λ x=>decide (x∈CS)).length:=by
 induction l with
 |nil=>exact rfl
 |cons a l ih=>
  simp only [List.map_cons,List.sum_cons,ih,List.filter_cons];by_cases h:a∈CS
  ·simp [h];exact Nat.add_comm ..
  ·simp [h]
theorem VI{l:List Nat}{f:Nat->Nat}{x:Nat}(h:x∈l):f x<=(l.map f).sum:=by refine ae (kC l f x h) ?_;exact Nat.le_add_right ..
theorem So{l:List Nat}(hn:l.Nodup){f g:Nat->Nat}{x y:Nat}(hx:x∈l)(hy:y∈l)(jn:x≠y)(h1:g x=f x+f y)(h2:g y=0)(h:∀z,z≠x->z≠y->g z=f z):(l.map g).sum=(l.map f).sum:=by
 have hy':y∈l.erase x:=(List.mem_erase_of_ne (Ne.symm jn)).mpr hy;refine ae (kC l g x hx)<|ae (kC l f x hx)<|ae (kC _ g y hy')<|ae (kC _ f y hy')<|ae h1<|ae h2 ?_;have:(((l.erase x).erase y).map g).sum=(((l.erase x).erase y).map f).sum:=BX λ z hz=>by
  have n1:=hn.erase x;have z1:z≠y:=λ e=>by subst e;exact List.Nodup.not_mem_erase n1 hz
  have z2:z≠x:=λ e=>by subst e;exact List.Nodup.not_mem_erase hn (List.mem_of_mem_erase hz)
  exact h z z2 z1
 lia
noncomputable def dl(l:List Nat):Nat:=(dP l).length
theorem VJ(l:List Nat)(x:Nat):dl (l++[x])<=dl l+1:=by
 have:=kB (l:=dP (l++[x])) (m:=dP l++[x]) (gU _) λ b hb=>by
  rw [fk]at hb;rcases List.mem_append.mp hb with q|q
  ·exact List.mem_append_left _ (fk.mpr q)
  ·exact List.mem_append_right _ q
 simpa [dl]using this
theorem ZJ(l:List Nat)(φ:Nat->Nat):dl (l.map φ)<=dl l:=by
 have:=kB (l:=dP (l.map φ)) (m:=(dP l).map φ) (gU _) λ b hb=>by rw [fk]at hb;obtain ⟨x,hx,rfl⟩:=List.mem_map.mp hb;exact List.mem_map.mpr ⟨x,fk.mpr hx,rfl⟩
 simpa [dl]using this
theorem VK(l:List Nat)(φ:Nat->Nat){g k:Nat}(hg:g∈l)(hk:k∈l)(cD:k≠g)(h1:φ g=k)(h2:φ k=k):dl (l.map φ)+1<=dl l:=by
 have tP:g∈dP l:=fk.mpr hg;have:=kB (l:=dP (l.map φ)) (m:=((dP l).erase g).map φ) (gU _) λ b hb=>by
  rw [fk]at hb;obtain ⟨x,hx,rfl⟩:=List.mem_map.mp hb;by_cases e:x=g
  ·subst e;exact List.mem_map.mpr ⟨k,(List.mem_erase_of_ne cD).mpr (fk.mpr hk),ae h1<|ae h2 rfl⟩
  ·exact List.mem_map.mpr ⟨x,(List.mem_erase_of_ne e).mpr (fk.mpr hx),rfl⟩
 have hl:=List.length_erase_of_mem tP;have lG:0<(dP l).length:=List.length_pos_of_mem tP;simp only [List.length_map]at this;unfold dl;exact fJ (bS hl) this (bS (Nat.sub_add_cancel (lG:(1)<=((dP l).length)))) (by simp+arith only)
theorem ZK{l:List Nat}{x:Nat}(h:x∈l):1<=dl l:=List.length_pos_of_mem (fk.mpr h)
theorem Pb(f:List Nat->Nat)(hf:∀l:List Nat,l.length<=2->∀m,(∀x∈l,x<=m)->f l<=2*m+1):∀(ns:List aM)(acc:List Nat),(∀k∈ns,k.2.length<=2)->(∀w∈acc,w+1<=2^acc.length)->∀w∈vA f ns acc,w+1<=2^(acc.length+ns.length):=by
 intro bN;induction bN with
 |nil=>
  intro acc zz h w hw;exact h w hw
 |cons k r ih=>
  intro acc h2 h w hw;rw [CI]at hw;have:=ih (acc++[f (k.2.map λ i=>acc.getD i 0)]) (λ k' e6=>h2 k' (.tail _ e6)) (λ w' hw'=>by
   have lG:1<=2^acc.length:=Nat.one_le_two_pow;have e:(acc++[f (k.2.map λ i=>acc.getD i 0)]).length=acc.length+1:=List.length_append ..;rw [e,Nat.pow_succ];rcases List.mem_append.mp hw' with q|q
   ·have:=h w' q;exact Nat.le_trans this (Nat.le_add_left ..)
   ·simp only [List.mem_singleton]at q;subst q;have:=hf (k.2.map λ i=>acc.getD i 0) (by simpa using h2 k (.head _)) (2^acc.length -1) (λ x hx=>by
     obtain ⟨i,_,rfl⟩:=List.mem_map.mp hx;refine ae List.getD_eq_getElem?_getD ?_;cases e:acc[i]?with
     |none=>simp
     |some v=>have:=h v (List.mem_of_getElem? e);simp;exact dc this (b7 (Nat.sub_add_cancel (lG:(1)<=(2^acc.length)))) (by simp+arith only))
    exact fJ this (bS (Nat.sub_add_cancel (lG:(1)<=(2^acc.length)))) (bS (Nat.sub_add_cancel (lG:(1)<=(2^acc.length)))) (by simp+arith only)) w hw
  simp only [List.length_append,List.length_cons,List.length_nil]at this⊢;have e:acc.length+(0+1)+r.length=acc.length+(r.length+1):=Nat.add_right_comm ..;rw [e]at this;exact this
theorem Cu{ns:List aM}(h2:∀k∈ns,k.2.length<=2)(hz:ns.length<=12):∀w∈d8 ns,w<=100000:=by
 intro w hw;have:=Pb (λ l=>1+l.sum) (λ l hl m hm=>by
  match l,hl,hm with
  |[],_,_=>simp
  |[a],_,hm=>have:=hm a (.head _);simp;exact bQ this (by simp+arith only)
  |[a,b],_,hm=>have:=hm a (.head _);have:=hm b (.tail _ (.head _));simp;lia
  |_::_::_::_,hl,_=>simp at hl) ns [] h2 (by decide) w hw
 rw [List.length_nil,Nat.zero_add]at this;have e:2^ns.length<=2^12:=Nat.pow_le_pow_right (by decide) hz;lia
end
section
open PySem
noncomputable def tQ(C:Core):Nat:=((List.range C.ah.length).map λ c=>(eG C c).length).sum
noncomputable def qR(ns:List aM)(i:Nat):Bool:=(ns.getD i ("",[])).2.length !=0
noncomputable def eD(ns:List aM):List Nat:=(List.range ns.length).filter (qR ns)
noncomputable def AN(C:Core):Nat:=dl ((eD C.ai).map (ax C.ah))
noncomputable def jI(C:Core):Nat:=C.ay.countP λ e=>e.2.2.isNone
structure du(C:Core):Prop where
 nodup:C.ai.Nodup
 ai:C.ai.length=C.ah.length
 below:i0 C.ai
 IP:∀k∈C.ai,k.2.length<=2
 ah:d6 C.ah
 bg:C.bg.length=C.ah.length
 dC:∀l∈C.bg,l.length<=2^C.aH.length
 merged:C.merged.length=C.aH.length
 aH:C.aH.length<=C.ay.length
 zF:∀i∈C.aH,i<C.ay.length
 fH:∀(i a b:Nat)(r:Option String),C.ay[i]?=some (a,b,r)->a<C.ah.length/\b<C.ah.length
 oT:∀x y,x<C.ah.length->y<C.ah.length->ax C.ah x=ax C.ah y->e_ C C.aH C.ay.length x y
 mI:∀(i a b:Nat),C.ay[i]?=some (a,b,none)->∃ka kb,C.ai[a]?=some ka/\C.ai[b]?=some kb/\ka.1=kb.1/\ka.2.length=kb.2.length/\∀(j x y:Nat),ka.2[j]?=some x->kb.2[j]?=some y->e_ C C.aH i x y
 known:∀p∈C.known,∃kv,C.ai[p.2]?=some kv/\p.1.1=kv.1/\p.1.2.map (ax C.ah)=kv.2.map (ax C.ah)/\∀x∈p.1.2,x<C.ah.length
 aV:∀c,C.ah[c]?=some c->∃L,C.aV c=some L
 eO:∀c L,C.aV c=some L->C.ah[c]?=some c
 qS:∀c L,C.aV c=some L->∀n∈L,n<C.ah.length
 LI:tQ C<=2*C.ai.length
 BY:jI C+AN C<=(eD C.ai).length
section
variable{C:Core}
theorem du.lt(h:du C){n:Nat}{k:aM}(hn:C.ai[n]?=some k):n<C.ah.length:=by refine cQ h.ai ?_;exact (List.getElem?_eq_some_iff.mp hn).1
theorem du.F4(h:du C){n:Nat}{k:aM}(hn:C.ai[n]?=some k){x:Nat}(hx:x∈k.2):x<C.ah.length:=Nat.lt_trans (h.below n k hn x hx) (h.lt hn)
theorem du.usc(h:du C)(c:Nat):(eG C c).length<=2*C.ai.length:=by
 by_cases hc:c<C.ah.length
 ·exact Nat.le_trans (VI (f:=λ c=>(eG C c).length) (List.mem_range.mpr hc)) h.LI
 ·unfold eG;cases e:C.aV c with
  |none=>simp
  |some L=>exact absurd (List.getElem?_eq_some_iff.mp (h.eO c L e)).1 hc
theorem du.knw(h:du C){key:aM}{n:Nat}{k:aM}(hn:C.ai[n]?=some k)(hk:key=iZ C.ah k):du {C with known:=C.known++[(key,n)]}:=by
 refine {h with oT:=λ x y h1 h2 h3=>(h.oT x y h1 h2 h3).bo (C:=C) (λ aa aa e=>e) (λ aa e=>e) (Nat.le_refl _),mI:=?_,known:=?_}
 ·intro i a b he;refine vJ (h.mI i a b he) λ ka kb h1 h2 h3 h4 h5=>?_;exact ⟨ka,kb,h1,h2,h3,h4,λ j x y e1 e2=>(h5 j x y e1 e2).bo (C:=C) (λ aa aa e=>e) (λ aa e=>e) (Nat.le_refl _)⟩
 ·intro p hp;rcases List.mem_append.mp hp with q|q
  ·exact h.known p q
  ·simp only [List.mem_singleton]at q;subst q;refine ⟨k,hn,by refine ae hk ?_;rfl,?_,?_⟩
   ·refine ae hk ?_;simp only [iZ,List.map_map];apply List.map_congr_left;intro x hx;exact BW h.ah (h.F4 hn hx)
   ·intro x hx;rw [hk]at hx;obtain ⟨y,hy,rfl⟩:=List.mem_map.mp hx;exact pL h.ah (h.F4 hn hy)
theorem Pc{ns:List aM}{k:aM}{i:Nat}(h:i<ns.length):qR (ns++[k]) i=qR ns i:=by unfold qR;exact ae List.getD_eq_getElem?_getD<|ae List.getD_eq_getElem?_getD<|ae (List.getElem?_append_left h) rfl
theorem BZ(ns:List aM)(k:aM):eD (ns++[k])=eD ns++if k.2.length !=0 then[ns.length]else[]:=by
 unfold eD;rw [List.length_append,List.length_cons,List.length_nil,Nat.zero_add,List.range_succ,List.filter_append];congr 1
 ·apply List.filter_congr;intro i hi;exact Pc (List.mem_range.mp hi)
 ·simp only [List.filter_cons,List.filter_nil,qR,List.getD_eq_getElem?_getD,List.getElem?_append_right (Nat.le_refl _),Nat.sub_self];rfl
theorem zG{ns:List aM}{i:Nat}(h:i∈eD ns):i<ns.length:=List.mem_range.mp (List.mem_filter.mp h).1
theorem ZL(hp:d6 C.ah){ks:List Nat}(hk:∀x∈ks,x<C.ah.length){c:Nat}:c∈gE (C.ah++[C.ah.length]) ks↔∃x∈ks,ax C.ah x=c:=by
 rw [wD];constructor
 ·rintro ⟨x,hx,e⟩;exact ⟨x,hx,by rw [oK hp x (hk x hx)]at e;exact e⟩
 ·rintro ⟨x,hx,e⟩;exact ⟨x,hx,by refine ae (oK hp x (hk x hx)) ?_;exact e⟩
theorem qT(k:aM)(x:Nat):(dg C k).aV x=if x∈gE (C.ah++[C.ah.length]) k.2 then some ((cM C.aV C.ah.length (some []) x).getD []++[C.ah.length])else cM C.aV C.ah.length (some []) x:=by refine (?_:wC _ _ _ x=_);refine ae (II _ _ _ (yt _ _)) ?_;rfl
theorem du.made(h:du C){k:aM}(hk:∀x∈k.2,x<C.ah.length)(h2:k.2.length<=2)(fZ:k∉C.ai):du (dg C k):=by
 have ZM:∀{c},c∈gE (C.ah++[C.ah.length]) k.2->C.ah[c]?=some c:=λ hc=>by obtain ⟨x,hx,rfl⟩:=(ZL h.ah hk).mp hc;exact e7 h.ah (hk x hx)
 have pj:∀{c},c∈gE (C.ah++[C.ah.length]) k.2->c<C.ah.length:=λ hc=>(List.getElem?_eq_some_iff.mp (ZM hc)).1;have gq:(dg C k).ah.length=C.ah.length+1:=List.length_append ..;have oJ:∀x,x<C.ah.length->ax (dg C k).ah x=ax C.ah x:=oK h.ah;have LJ:∀(i:Nat)(kv:aM),C.ai[i]?=some kv->(dg C k).ai[i]?=some kv:=λ i kv e=>by show(C.ai++[k])[i]?=_;rw [List.getElem?_append_left (List.getElem?_eq_some_iff.mp e).1];exact e
 have hu0:∀x,C.ah.length<=x->C.aV x=none:=λ x hx=>by
  cases e:C.aV x with
  |none=>rfl
  |some L=>have:=(List.getElem?_eq_some_iff.mp (h.eO x L e)).1;lia
 refine ⟨?_,?_,?_,?_,h.ah.snoc,?_,?_,h.merged,h.aH,h.zF,?_,?_,?_,?_,?_,?_,?_,?_,?_⟩
 ·show(C.ai++[k]).Nodup;rw [List.nodup_append];exact ⟨h.nodup,by simp,λ x hx y hy e=>by simp at hy;subst hy;exact fZ (e▸hx)⟩
 ·refine (?_:(C.ai++[k]).length=_);refine ae gq ?_;simp [h.ai]
 ·intro n kn hn i hi;have fK:(C.ai++[k])[n]?=some kn:=hn;rw [List.getElem?_append]at fK;split at fK
  ·exact h.below n kn fK i hi
  ·rename_i uN;have:=(List.getElem?_eq_some_iff.mp fK).1;simp at this;have e:n -C.ai.length=0:=this;rw [e]at fK;simp at fK;subst fK;have:=hk i hi;have:=h.ai;lia
 ·intro kn rD;have:kn∈C.ai++[k]:=rD;rcases List.mem_append.mp this with q|q
  ·exact h.IP kn q
  ·simp at q;subst q;exact h2
 ·simp [dg,h.bg]
 ·intro l hl;have:l∈C.bg++[[C.ah.length]]:=hl;rcases List.mem_append.mp this with q|q
  ·exact h.dC l q
  ·simp only [List.mem_singleton]at q;subst q;exact Nat.one_le_two_pow
 ·intro i a b r he;have:=h.fH i a b r he;refine ae gq ?_;lia
 ·intro x y hx hy e;rw [gq]at hx hy;by_cases h1:x<C.ah.length
  ·by_cases h2:y<C.ah.length
   ·rw [oJ x h1,oJ y h2]at e;exact (h.oT x y h1 h2 e).bo (C:=C) (λ aa aa e=>e) (λ aa e=>e) (Nat.le_refl _)
   ·have:y=C.ah.length:=Nat.le_antisymm (Nat.le_of_lt_succ hy) ((Nat.le_of_not_lt h2));subst this;rw [oJ x h1]at e;have h3:ax (dg C k).ah C.ah.length=C.ah.length:=F3;have:=pL h.ah h1;lia
  ·have zQ:x=C.ah.length:=Nat.le_antisymm (Nat.le_of_lt_succ hx) ((Nat.le_of_not_lt h1));subst zQ;have h3:ax (dg C k).ah C.ah.length=C.ah.length:=F3;by_cases h2:y<C.ah.length
   ·rw [oJ y h2,h3]at e;have:=pL h.ah h2;lia
   ·have:y=C.ah.length:=Nat.le_antisymm (Nat.le_of_lt_succ hy) ((Nat.le_of_not_lt h2));subst this;exact .refl
 ·intro i a b he;refine vJ (h.mI i a b he) λ ka kb h1 h2 h3 h4 h5=>?_;exact ⟨ka,kb,LJ _ _ h1,LJ _ _ h2,h3,h4,λ j x y e1 e2=>(h5 j x y e1 e2).bo (C:=C) (λ aa aa e=>e) (λ aa e=>e) (Nat.le_refl _)⟩
 ·intro p hp;refine Pz (h.known p hp) λ kv h1 h2 h3 h4=>?_;refine ⟨kv,LJ _ _ h1,h2,?_,λ x hx=>by have:=h4 x hx;refine ae gq ?_;exact Nat.lt_succ_of_lt this⟩;have e1:p.1.2.map (ax (dg C k).ah)=p.1.2.map (ax C.ah):=List.map_congr_left λ x hx=>oJ x (h4 x hx);have e2:kv.2.map (ax (dg C k).ah)=kv.2.map (ax C.ah):=List.map_congr_left λ x hx=>oJ x (h.F4 h1 hx);refine ae e1<|ae e2 ?_;exact h3
 ·intro c hc;rw [qT];split
  ·exact ⟨_,rfl⟩
  ·unfold cM;split
   ·exact ⟨_,rfl⟩
   ·rename_i cD;have oh:(C.ah++[C.ah.length])[c]?=some c:=hc;rw [List.getElem?_append]at oh;split at oh
    ·exact h.aV c oh
    ·have:=(List.getElem?_eq_some_iff.mp oh).1;simp at this;lia
 ·intro c L hL;refine (?_:(C.ah++[C.ah.length])[c]?=some c);rw [qT]at hL;by_cases q:c∈gE (C.ah++[C.ah.length]) k.2
  ·have h3:=ZM q;refine ae (List.getElem?_append_left (List.getElem?_eq_some_iff.mp h3).1) ?_;exact h3
  ·rw [if_neg q]at hL;unfold cM at hL;split at hL
   ·rename_i e;subst e;exact List.getElem?_concat_length ..
   ·have h3:=h.eO c L hL;refine ae (List.getElem?_append_left (List.getElem?_eq_some_iff.mp h3).1) ?_;exact h3
 ·intro c L hL n hn;refine ae gq ?_;have hb:∀M,cM C.aV C.ah.length (some []) c=some M->∀n∈M,n<C.ah.length:=λ M hM n hn=>by
   unfold cM at hM;split at hM
   ·cases hM;simp at hn
   ·exact h.qS c M hM n hn
  rw [qT]at hL;split at hL
  ·cases hL;rcases List.mem_append.mp hn with q|q
   ·cases e:cM C.aV C.ah.length (some []) c with
    |none=>rw [e]at q;simp at q
    |some M=>rw [e]at q;have:=hb M e n q;exact Nat.lt_succ_of_lt this
   ·simp at q;exact Nat.lt_succ_of_le (bS q)
  ·have:=hb L hL n hn;exact Nat.lt_succ_of_lt this
 ·have hlen:∀x,x<C.ah.length+1->(eG (dg C k) x).length=(eG C x).length+(if x∈gE (C.ah++[C.ah.length]) k.2 then 1 else 0):=λ x hx=>by
   unfold eG;rw [qT];have hux:((cM C.aV C.ah.length (some []) x).getD []).length=((C.aV x).getD []).length:=by
    unfold cM;split
    ·rename_i e;subst e;refine ae (hu0 _ (Nat.le_refl _)) ?_;rfl
    ·rfl
   split
   ·simp only [Option.getD_some,List.length_append,List.length_cons,List.length_nil,hux]
   ·exact hux
  have e1:tQ (dg C k)=((List.range (C.ah.length+1)).map λ x=>(eG C x).length+(if x∈gE (C.ah++[C.ah.length]) k.2 then 1 else 0)).sum:=by unfold tQ;refine ae gq ?_;exact BX λ x hx=>hlen x (List.mem_range.mp hx)
  have e2:((List.range (C.ah.length+1)).map λ x=>(eG C x).length).sum=tQ C:=by
   refine ae List.range_succ<|ae List.map_append<|ae List.sum_append ?_;have:(eG C C.ah.length).length=0:=by unfold eG;refine ae (hu0 _ (Nat.le_refl _)) ?_;rfl
   exact congrArg _ this
  have e3:((List.range (C.ah.length+1)).map λ x=>if x∈gE (C.ah++[C.ah.length]) k.2 then 1 else 0).sum<=2:=by
   rw [VH];have h4:=kB (l:=(List.range (C.ah.length+1)).filter λ x=>decide (x∈gE (C.ah++[C.ah.length]) k.2)) (m:=gE (C.ah++[C.ah.length]) k.2) (List.nodup_range.filter _) λ b hb=>by simpa using(List.mem_filter.mp hb).2
   have h5:=FA (C.ah++[C.ah.length]) k.2;exact fJ h2 h4 h5 (by simp+arith only)
  rw [e1,VG,e2];have:=h.LI;have Um:(dg C k).ai.length=C.ai.length+1:=List.length_append ..;refine ae Um ?_;exact Nat.add_le_add this e3
 ·have h1:=h.BY;have e1:jI (dg C k)=jI C:=rfl;have e2:(dg C k).ai=C.ai++[k]:=rfl;have e3:(dg C k).ah=C.ah++[C.ah.length]:=rfl;refine ae e1 ?_;unfold AN at h1⊢;rw [e2,e3,BZ,List.map_append];have e4:(eD C.ai).map (ax (C.ah++[C.ah.length]))=(eD C.ai).map (ax C.ah):=List.map_congr_left λ x hx=>oK h.ah x (by refine cQ h.ai ?_;exact zG hx);refine ae e4 ?_;split
  ·have:=VJ ((eD C.ai).map (ax C.ah)) (ax (C.ah++[C.ah.length]) C.ai.length);simp only [List.map_cons,List.map_nil,List.length_append,List.length_cons,List.length_nil];exact dc h1 this (by simp+arith only)
  ·simpa using h1
end
end
section
open PySem
def yD(C:Core)(a b:Nat):Prop:=ax C.ah a≠ax C.ah b/\∃ka kb,C.ai[a]?=some ka/\C.ai[b]?=some kb/\ka.1=kb.1/\ka.2.map (ax C.ah)=kb.2.map (ax C.ah)/\ka.2≠[]
section
variable{C:Core}
theorem B0(E:List (Nat×Nat×Option String))(e:Nat×Nat×Option String):(E++[e]).countP (λ e=>e.2.2.isNone)=E.countP (λ e=>e.2.2.isNone)+if e.2.2.isNone then 1 else 0:=by refine ae List.countP_append ?_;simp [List.countP_cons]
theorem n_{E:List (Nat×Nat×Option String)}{e:Nat×Nat×Option String}(i:Nat)(x:Nat×Nat×Option String)(h:E[i]?=some x):(E++[e])[i]?=some x:=by refine ae (List.getElem?_append_left (List.getElem?_eq_some_iff.mp h).1) ?_;exact h
theorem nh{E:List (Nat×Nat×Option String)}{e x:Nat×Nat×Option String}{i:Nat}(h:(E++[e])[i]?=some x):E[i]?=some x\/i=E.length/\x=e:=by
 rw [List.getElem?_append]at h;split at h
 ·exact .inl h
 ·rename_i hi;have:=(List.getElem?_eq_some_iff.mp h).1;simp at this;have e0:i -E.length=0:=this;rw [e0]at h;simp at h;exact .inr ⟨Nat.le_antisymm (dc (bS this) (b7 (Nat.sub_add_cancel ((Nat.le_of_not_lt hi):(E.length)<=(i)))) (by simp+arith only)) ((Nat.le_of_not_lt hi)),h.symm⟩
noncomputable def jC(C:Core)(k g a b:Nat)(r:Option String):Core:={C with ah:=C.ah.set g k,bg:=C.bg.set k (C.bg.getD k []++C.bg.getD g []),merged:=C.merged++[(k,g)],ay:=C.ay++[(a,b,r)],aH:=C.aH++[C.ay.length],aV:=cM (cM C.aV g none) k (some (eG C k++eG C g))}
structure JV(C:Core)(a b k g:Nat):Prop where
 kg:k<g
 k_:C.ah[k]?=some k
 g_:C.ah[g]?=some g
 or_:k=ax C.ah a/\g=ax C.ah b\/k=ax C.ah b/\g=ax C.ah a
section
variable{a b k g:Nat} {r:Option String} (h:du C) (v:JV C a b k g)
include h v
theorem JV.rt(x:Nat)(hx:x<C.ah.length):ax (C.ah.set g k) x=(λ z=>if z=g then k else z) (ax C.ah x):=Sm h.ah v.g_ v.k_ v.kg x hx
theorem JV.old{x y:Nat}(hx:x<C.ah.length)(hy:y<C.ah.length)(e:ax C.ah x=ax C.ah y):e_ (jC C k g a b r) (C.aH++[C.ay.length]) (C.ay++[(a,b,r)]).length x y:=
 (h.oT x y hx hy e).bo n_ (λ aa q=>List.mem_append_left _ q) (by refine ae List.length_append ?_;exact Nat.le_add_right ..)
theorem JV.to{x:Nat}(ha:a<C.ah.length)(hb:b<C.ah.length)(hx:x<C.ah.length)(q:ax C.ah x=k\/ax C.ah x=g):e_ (jC C k g a b r) (C.aH++[C.ay.length]) (C.ay++[(a,b,r)]).length x a:=by
 have f_:e_ (jC C k g a b r) (C.aH++[C.ay.length]) (C.ay++[(a,b,r)]).length a b:=.jy (i:=C.ay.length) (r:=r) (List.mem_append_right _ (.head _)) (by refine ae List.length_append ?_;exact Nat.lt_succ_self _) (List.getElem?_concat_length ..);have q':ax C.ah x=ax C.ah a\/ax C.ah x=ax C.ah b:=by
  rcases v.or_ with⟨e1,e2⟩|⟨e1,e2⟩
  ·refine cQ e1<|cQ e2 ?_;exact q
  ·refine cQ e1<|cQ e2 ?_;exact q.symm
 exact q'.elim (λ q=>v.old h hx ha q) λ q=>(v.old h hx hb q).trans f_.symm
theorem JV.oT(ha:a<C.ah.length)(hb:b<C.ah.length)(x y:Nat)(hx:x<C.ah.length)(hy:y<C.ah.length)(e:(if ax C.ah x=g then k else ax C.ah x)=if ax C.ah y=g then k else ax C.ah y):e_ (jC C k g a b r) (C.aH++[C.ay.length]) (C.ay++[(a,b,r)]).length x y:=by
 by_cases q:ax C.ah x=ax C.ah y
 ·exact v.old h hx hy q
 ·by_cases q1:ax C.ah x=g
  ·refine (v.to h ha hb hx (.inr q1)).trans (v.to h ha hb hy ?_).symm;by_cases q2:ax C.ah y=g
   ·exact .inr q2
   ·rw [if_pos q1,if_neg q2]at e;exact .inl e.symm
  ·rw [if_neg q1]at e;by_cases q2:ax C.ah y=g
   ·rw [if_pos q2]at e;exact (v.to h ha hb hx (.inl e)).trans (v.to h ha hb hy (.inr q2)).symm
   ·rw [if_neg q2]at e;exact absurd e q
omit v in
theorem JV.get(c:Nat):(C.bg.getD c []).length<=2^C.aH.length:=by
 refine ae List.getD_eq_getElem?_getD ?_;cases e:C.bg[c]?with
 |none=>exact Nat.zero_le _
 |some L=>exact h.dC L (List.mem_of_getElem? e)
theorem JV.dC(l:List Nat)(hl:l∈C.bg.set k (C.bg.getD k []++C.bg.getD g [])):l.length<=2^(C.aH++[C.ay.length]).length:=by
 rw [show(C.aH++[C.ay.length]).length=C.aH.length+1 from List.length_append ..,Nat.pow_succ,Nat.mul_two];rcases List.mem_or_eq_of_mem_set hl with q|rfl
 ·exact Nat.le_trans (h.dC l q) (Nat.le_add_right ..)
 ·refine ae List.length_append ?_;exact Nat.add_le_add (JV.get h k) (JV.get h g)
theorem JV.mI(hr:r=none->yD C a b)(i x y:Nat)(he:(C.ay++[(a,b,r)])[i]?=some (x,y,none)):∃ka kb,C.ai[x]?=some ka/\C.ai[y]?=some kb/\ka.1=kb.1/\ka.2.length=kb.2.length/\∀(j x y:Nat),ka.2[j]?=some x->kb.2[j]?=some y->e_ (jC C k g a b r) (C.aH++[C.ay.length]) i x y:=by
 rcases nh he with q|⟨hi,q⟩
 ·refine vJ (h.mI i x y q) λ ka kb h1 h2 h3 h4 h5=>?_;exact ⟨ka,kb,h1,h2,h3,h4,λ j x y e1 e2=>(h5 j x y e1 e2).bo n_ (λ aa q=>List.mem_append_left _ q) (Nat.le_refl _)⟩
 ·cases q;refine vJ (hr rfl).2 λ ka kb h1 h2 h3 h4 aa=>?_;refine ⟨ka,kb,h1,h2,h3,by have:=congrArg List.length h4;simpa using this,λ j x y e1 e2=>?_⟩;have jn:ax C.ah x=ax C.ah y:=by have:=congrArg (·[j]?) h4;simp only [List.getElem?_map,e1,e2,Option.map_some,Option.some.injEq]at this;exact this
  exact (h.oT x y (h.F4 h1 (List.mem_of_getElem? e1)) (h.F4 h2 (List.mem_of_getElem? e2)) jn).bo n_ (λ aa q=>List.mem_append_left _ q) (b7 hi)
theorem JV.map(l:List Nat)(hl:∀x∈l,x<C.ah.length):l.map (ax (C.ah.set g k))=(l.map (ax C.ah)).map (λ z=>if z=g then k else z):=by refine ae List.map_map ?_;exact List.map_congr_left λ x hx=>v.rt h x (hl x hx)
theorem JV.known(p:aM×Nat)(hp:p∈C.known):∃kv,C.ai[p.2]?=some kv/\p.1.1=kv.1/\p.1.2.map (ax (C.ah.set g k))=kv.2.map (ax (C.ah.set g k))/\∀x∈p.1.2,x<(C.ah.set g k).length:=
 Pz (h.known p hp) λ kv h1 h2 h3 h4=>⟨kv,h1,h2,ae (v.map h _ h4)<|ae (v.map h _ λ x hx=>h.F4 h1 hx)<|ae h3 rfl,λ x hx=>by refine ae List.length_set ?_;exact h4 x hx⟩
theorem JV.aV(c:Nat)(hc:(C.ah.set g k)[c]?=some c):∃L,cM (cM C.aV g none) k (some (eG C k++eG C g)) c=some L:=by
 unfold cM;by_cases q1:c=k
 ·refine ae (if_pos q1) ?_;exact ⟨_,rfl⟩
 ·refine ae (if_neg q1) ?_;by_cases q2:c=g
  ·subst q2;rw [List.getElem?_set_self (List.getElem?_eq_some_iff.mp v.g_).1]at hc;exact absurd (Option.some.inj hc).symm q1
  ·refine ae (if_neg q2) ?_;rw [List.getElem?_set_ne (Ne.symm q2)]at hc;exact h.aV c hc
theorem JV.eO(c:Nat)(L:List Nat)(hL:cM (cM C.aV g none) k (some (eG C k++eG C g)) c=some L):(C.ah.set g k)[c]?=some c:=by
 unfold cM at hL;by_cases q1:c=k
 ·subst q1;refine ae (List.getElem?_set_ne (Nat.ne_of_gt v.kg)) ?_;exact v.k_
 ·rw [if_neg q1]at hL;by_cases q2:c=g
  ·rw [if_pos q2]at hL;cases hL
  ·rw [if_neg q2]at hL;refine ae (List.getElem?_set_ne (Ne.symm q2)) ?_;exact h.eO c L hL
omit v in
theorem JV.us(c n:Nat)(hn:n∈eG C c):n<C.ah.length:=by
 unfold eG at hn;cases e:C.aV c with
 |none=>rw [e]at hn;cases hn
 |some M=>rw [e]at hn;exact h.qS c M e n hn
theorem JV.qS(c:Nat)(L:List Nat)(hL:cM (cM C.aV g none) k (some (eG C k++eG C g)) c=some L)(n:Nat)(hn:n∈L):n<C.ah.length:=by
 unfold cM at hL;by_cases q1:c=k
 ·rw [if_pos q1]at hL;cases Option.some.inj hL;exact (List.mem_append.mp hn).elim (JV.us h _ n) (JV.us h _ n)
 ·rw [if_neg q1]at hL;by_cases q2:c=g
  ·rw [if_pos q2]at hL;cases hL
  ·rw [if_neg q2]at hL;exact h.qS c L hL n hn
theorem JV.sum:tQ (jC C k g a b r)=tQ C:=by
 have ZN:∀c,eG (jC C k g a b r) c=if c=k then eG C k++eG C g else if c=g then[]else eG C c:=λ c=>by
  refine (?_:(cM (cM C.aV g none) k (some (eG C k++eG C g)) c).getD []=_);unfold cM;by_cases q1:c=k
  ·refine ae (if_pos q1)<|ae (if_pos q1) ?_;rfl
  ·refine ae (if_neg q1)<|ae (if_neg q1) ?_;by_cases q2:c=g
   ·refine ae (if_pos q2)<|ae (if_pos q2) ?_;rfl
   ·refine ae (if_neg q2)<|ae (if_neg q2) ?_;rfl
 unfold tQ;refine ae (show(jC C k g a b r).ah.length=C.ah.length from List.length_set ..) ?_;refine So (x:=k) (y:=g) List.nodup_range (List.mem_range.mpr (List.getElem?_eq_some_iff.mp v.k_).1) (List.mem_range.mpr (List.getElem?_eq_some_iff.mp v.g_).1) (Nat.ne_of_lt v.kg) ?_ ?_ λ z h1 h2=>?_
 ·rw [ZN,if_pos rfl,List.length_append]
 ·rw [ZN,if_neg (Nat.ne_of_gt v.kg),if_pos rfl];rfl
 ·rw [ZN,if_neg h1,if_neg h2]
theorem JV.BY(hr:r=none->yD C a b):jI (jC C k g a b r)+AN (jC C k g a b r)<=(eD C.ai).length:=by
 have h1:=h.BY;have e1:jI (jC C k g a b r)=jI C+if r.isNone then 1 else 0:=B0 ..
 have e2:(eD C.ai).map (ax (C.ah.set g k))=((eD C.ai).map (ax C.ah)).map (λ z=>if z=g then k else z):=v.map h _ λ x hx=>by refine cQ h.ai ?_;exact zG hx
 refine ae e1 ?_;unfold AN at h1⊢;refine (?_:_+dl ((eD C.ai).map (ax (C.ah.set g k)))<=_);refine ae e2 ?_;cases r with
 |some lb=>exact dc h1 (ZJ ((eD C.ai).map (ax C.ah)) (λ z=>if z=g then k else z)) (by simp+arith only [Option.isNone_some,Bool.false_eq_true,if_false,Nat.add_zero])
 |none=>
  refine vJ (hr rfl).2 λ ka kb k1 k2 k3 k4 k5=>?_;have mO:ka.2.length≠0:=λ q=>k5 (List.length_eq_zero_iff.mp q);have hA:∀{i ki},C.ai[i]?=some ki->ki.2.length≠0->ax C.ah i∈(eD C.ai).map (ax C.ah):=λ{i ki}e1 e2=>by refine List.mem_map.mpr ⟨i,List.mem_filter.mpr ⟨List.mem_range.mpr (List.getElem?_eq_some_iff.mp e1).1,?_⟩,rfl⟩;unfold qR;refine ae List.getD_eq_getElem?_getD<|ae e1 ?_;simpa using e2
  have hAa:=hA k1 mO;have hAb:=hA k2 (by have:=congrArg List.length k4;rw [List.length_map,List.length_map]at this;exact this▸mO);have hgk:g∈(eD C.ai).map (ax C.ah)/\k∈(eD C.ai).map (ax C.ah):=by
   rcases v.or_ with⟨q1,q2⟩|⟨q1,q2⟩
   ·refine ae q1<|ae q2 ?_;exact ⟨hAb,hAa⟩
   ·refine ae q1<|ae q2 ?_;exact ⟨hAa,hAb⟩
  exact dc h1 (VK ((eD C.ai).map (ax C.ah)) (λ z=>if z=g then k else z) hgk.1 hgk.2 (Nat.ne_of_lt v.kg) (if_pos rfl) (if_neg (Nat.ne_of_lt v.kg))) (by simp+arith only [Option.isNone_none,if_true])
theorem du.jC(ha:a<C.ah.length)(hb:b<C.ah.length)(hr:r=none->yD C a b):du (jC C k g a b r) where
 nodup:=h.nodup
 ai:=h.ai.trans (List.length_set ..).symm
 below:=h.below
 IP:=h.IP
 ah:=h.ah.set (Nat.le_of_lt v.kg)
 bg:=(List.length_set ..).trans (h.bg.trans (List.length_set ..).symm)
 dC:=v.dC h
 merged:=by refine (?_:(C.merged++[_]).length=(C.aH++[_]).length);refine ae List.length_append<|ae List.length_append<|ae h.merged ?_;rfl
 aH:=Nat.le_trans (bS (List.length_append ..)) (Nat.le_trans (Nat.succ_le_succ h.aH) (b7 (List.length_append ..)))
 zF:=λ i hi=>Nat.lt_of_lt_of_le ((List.mem_append.mp hi).elim (λ q=>Nat.lt_succ_of_lt (h.zF i q)) λ q=>Nat.lt_succ_of_le (bS (List.mem_singleton.mp q))) (b7 (List.length_append ..))
 fH:=λ i x y r' he=>by
  refine ae (show(Mine.jC C k g a b r).ah.length=C.ah.length from List.length_set ..) ?_;rcases nh he with q|⟨_,q⟩
  ·exact h.fH i x y r' q
  ·cases q;exact ⟨ha,hb⟩
 oT:=λ x y hx hy e=>by have hx:x<C.ah.length:=(List.length_set ..)▸hx;have hy:y<C.ah.length:=(List.length_set ..)▸hy;exact v.oT h ha hb x y hx hy ((v.rt h x hx).symm.trans (e.trans (v.rt h y hy)))
 mI:=v.mI h hr
 known:=v.known h
 aV:=v.aV h
 eO:=v.eO h
 qS:=λ c L hL n hn=>Nat.lt_of_lt_of_le (v.qS h c L hL n hn) (b7 (List.length_set ..))
 LI:=Nat.le_trans (bS (v.sum h)) h.LI
 BY:=v.BY h hr
end
theorem du.Pd(h:du C){a b:Nat}(ha:a<C.ah.length)(hb:b<C.ah.length)(r:Option String)(hr:r=none->yD C a b):du (dJ C a b r):=by
 by_cases hs:ax C.ah a=ax C.ah b
 ·obtain ⟨lb,rfl⟩:∃lb,r=some lb:=by
   cases r with
   |none=>exact absurd hs (hr rfl).1
   |some lb=>exact ⟨lb,rfl⟩
  have e0:dJ C a b (some lb)={C with ay:=C.ay++[(a,b,some lb)]}:=by unfold dJ;exact if_pos (by assumption)
  refine ae e0 ?_;refine {h with aH:=?_,zF:=?_,fH:=?_,oT:=?_,mI:=?_,BY:=?_}
  ·have:=h.aH;simp;exact Nat.le_succ_of_le this
  ·intro i hi;have:=h.zF i hi;simp;exact Nat.lt_succ_of_lt this
  ·intro i x y r he;rcases nh he with q|⟨_,q⟩
   ·exact h.fH i x y r q
   ·cases q;exact ⟨ha,hb⟩
  ·intro x y hx hy e;exact (h.oT x y hx hy e).bo (C:=C) n_ (λ aa e=>e) (by simp)
  ·intro i x y he;rcases nh he with q|⟨_,q⟩
   ·refine vJ (h.mI i x y q) λ ka kb h1 h2 h3 h4 h5=>?_;exact ⟨ka,kb,h1,h2,h3,h4,λ j x y e1 e2=>(h5 j x y e1 e2).bo (C:=C) n_ (λ aa e=>e) (Nat.le_refl _)⟩
   ·cases q
  ·have:=h.BY;have e1:jI {C with ay:=C.ay++[(a,b,some lb)]}=jI C:=by refine (?_:(C.ay++[(a,b,some lb)]).countP _=_);rw [B0];rfl
   refine ae e1 ?_;exact this
 ·have hra:=e7 h.ah ha;have hrb:=e7 h.ah hb;have e0:dJ C a b r={vC C (ax C.ah a) (ax C.ah b)with
   ay:=C.ay++[(a,b,r)],aH:=C.aH++[C.ay.length]
   aV:=cM (cM C.aV (max (ax C.ah a) (ax C.ah b)) none) (min (ax C.ah a) (ax C.ah b)) (some (eG C (min (ax C.ah a) (ax C.ah b))++eG C (max (ax C.ah a) (ax C.ah b))))}:=by unfold dJ;exact if_neg (by assumption)
  have IK:(min (ax C.ah a) (ax C.ah b)=ax C.ah a/\max (ax C.ah a) (ax C.ah b)=ax C.ah b)\/(min (ax C.ah a) (ax C.ah b)=ax C.ah b/\max (ax C.ah a) (ax C.ah b)=ax C.ah a):=by lia
  have vF:min (ax C.ah a) (ax C.ah b)<max (ax C.ah a) (ax C.ah b):=by lia
  have hk:C.ah[min (ax C.ah a) (ax C.ah b)]?=some (min (ax C.ah a) (ax C.ah b)):=by rcases IK with⟨q,_⟩|⟨q,_⟩<;>refine ae q ?_<;>assumption
  have hg:C.ah[max (ax C.ah a) (ax C.ah b)]?=some (max (ax C.ah a) (ax C.ah b)):=by rcases IK with⟨_,q⟩|⟨_,q⟩<;>refine ae q ?_<;>assumption
  refine ae e0 ?_;unfold vC;refine du.jC (k:=min (ax C.ah a) (ax C.ah b)) (g:=max (ax C.ah a) (ax C.ah b)) h ⟨vF,hk,hg,IK.imp id id⟩ ha hb hr
end
end
section
open PySem
def i5(C:Core):Prop:=C.ai.length<=12/\(a6 C.ay).length+((eD C.ai).length -1)<=8
structure j4(C:Core):Prop where
 ez:du C
 jq:i5 C
 known:C.known.length<=300
theorem Hb(E:List (Nat×Nat×Option String)):(a6 E).length+E.countP (λ e=>e.2.2.isNone)=E.length:=by
 induction E with
 |nil=>rfl
 |cons e E ih=>
  obtain ⟨a,b,r⟩:=e;refine ae List.countP_cons ?_;unfold a6 at ih⊢;cases r with
  |none=>exact congrArg _ ih
  |some lb=>simp only [List.filterMap_cons,Option.map_some,Option.isNone_some,Bool.false_eq_true,if_false,List.length_cons];exact Nat.le_antisymm (bQ (bS ih) (by simp+arith only)) (bQ (b7 ih) (by simp+arith only))
section
variable{C C':Core} {w W:List Nat} {b:Nat} {m:List (Nat×List Nat)} {ch:List dB}
theorem du.jJ(h:du C)(hl:i5 C):C.ay.length<=8:=by
 have h1:=Hb C.ay;have h2:=h.BY;have h3:=hl.2;have e:jI C=C.ay.countP (λ e=>e.2.2.isNone):=rfl;by_cases q:eD C.ai=[]
 ·rw [q]at h2 h3;simp at h2 h3;exact C4 (b7 h1) (b7 e) (bS h2.1) h3 (by simp+arith only)
 ·refine d9 (List.exists_mem_of_ne_nil _ q) λ x hx=>?_;have:1<=AN C:=ZK (List.mem_map.mpr ⟨x,hx,rfl⟩);lia
theorem du.ok(h:du C):Ok (cC C w b m ch):=
 ⟨h.ah,h.bg,h.ai,h.below,h.aV,λ p hp=>by refine bA (h.known p hp) λ kv h1 aa=>?_;exact h.lt h1,λ c L hL=>(List.getElem?_eq_some_iff.mp (h.eO c L hL)).1⟩
theorem j4.jf(h:j4 C)(hw:w.length<=1000)(hm:m.length<=1000):dz (cC C w b m ch):=by
 have h8:=h.ez.jJ h.jq;have hf:=h.ez.aH;have hN:=h.jq.1;have hp:=h.ez.ai;refine ⟨?_,?_,?_,?_,?_,?_,?_,?_,?_,?_,?_,?_,hw,hm⟩
 ·refine (?_:C.ai.length<=1000);exact nc hN rfl
 ·intro k hk;have:=h.ez.IP k hk;exact nc this rfl
 ·exact Cu h.ez.IP hN
 ·refine (?_:C.ah.length<=1000);exact nc (Nat.le_trans (b7 hp) hN) rfl
 ·refine (?_:C.bg.length<=1000);have:=h.ez.bg;exact fJ hN (b7 hp) (bS this) (by simp+arith only)
 ·intro l hl;have h1:=h.ez.dC l hl;have h2:2^C.aH.length<=2^8:=Nat.pow_le_pow_right (by decide) (Nat.le_trans hf h8);lia
 ·refine (?_:C.merged.length<=1000);have:=h.ez.merged;exact fJ h8 hf (bS this) (by simp+arith only)
 ·refine (?_:C.ay.length<=1000);exact nc h8 rfl
 ·refine (?_:C.aH.length<=400);exact nc (Nat.le_trans hf h8) rfl
 ·refine (?_:C.known.length<=1000);have:=h.known;exact nc this rfl
 ·intro c L hL;have:=(List.getElem?_eq_some_iff.mp (h.ez.eO c L hL)).1;exact fJ hN (b7 hp) this (by simp+arith only)
 ·intro c;have:=h.ez.usc c;refine (?_:(eG C c).length<=1000);exact fJ hN hN this (by simp+arith only)
structure dU(C:Core)(w:List Nat)(s:Nat)(ch:List dB):Prop where
 kw:C.known.length+w.length+s<=C.ai.length+24*C.aH.length
 ch:ch.length<=C.ai.length+C.known.length+C.ay.length
 mH:∀n∈w,n<C.ah.length
theorem dU.known(h:dU C w s ch)(hg:du C)(hl:i5 C):C.known.length+w.length+s<=204:=by have h1:=h.kw;have h2:=hg.aH;have h3:=hg.jJ hl;have h4:=hl.1;lia
theorem dU.iw{s:Nat}(h:dU C w s ch)(hg:du C)(hl:i5 C):j4 C:=⟨hg,hl,by have:=h.known hg hl;exact bQ this (by simp+arith only)⟩
theorem dU.bj{s:Nat}(h:dU C w s ch)(hg:du C)(hl:i5 C):ch.length<=300:=by have h1:=h.ch;have h2:=h.known hg hl;have h3:=hg.jJ hl;have h4:=hl.1;exact C4 h1 h2 h3 h4 (by simp+arith only)
theorem dU.LK{s:Nat}(h:dU C w s ch)(hg:du C)(hl:i5 C)(hm:m.length<=900):RZ (cC C w b m ch):=by
 have h1:=h.known hg hl;have h2:=h.bj hg hl;have h3:=hg.jJ hl;refine ⟨(h.iw hg hl).jf (bQ h1 (by simp+arith only)) (nc hm rfl),hg.ok,?_,?_,?_,h.mH⟩
 ·refine (?_:C.ay.length<1000);exact fb h3 rfl
 ·refine (?_:ch.length<=900);exact nc h2 rfl
 ·refine (?_:C.known.length<1000);exact bQ h1 (by simp+arith only)
theorem ip.trans{P:Core->Prop}{C C1 C2:Core}{cs ds:List dB}(h1:ip P C cs C1)(h2:ip P C1 ds C2):ip P C (cs++ds) C2:=by
 induction h2 with
 |nil _=>rw [List.append_nil];exact h1
 |snoc _ k1 k2 ih=>rw [<-List.append_assoc];exact .snoc ih k1 k2
theorem LL(E:List (Nat×Nat×Option String))(a b:Nat):a6 (E++[(a,b,none)])=a6 E:=by simp [a6]
theorem yE(E:List (Nat×Nat×Option String))(a b:Nat)(lb:String):a6 (E++[(a,b,some lb)])=a6 E++[(lb,a,b)]:=by simp [a6]
theorem jK{a b:Nat}{r:Option String}:(dJ C a b r).ay=C.ay++[(a,b,r)]:=by unfold dJ;split<;>rfl
theorem vH{a b:Nat}{r:Option String}:(dJ C a b r).known=C.known:=by unfold dJ vC;split<;>rfl
theorem F5{a b:Nat}{r:Option String}:(dJ C a b r).aH=if ax C.ah a=ax C.ah b then C.aH else C.aH++[C.ay.length]:=by unfold dJ;split<;>rfl
theorem F6{x y:Nat}{r:Option String}:fy (cC C w b m ch) x y r=cC (dJ C x y r) (kW (cC C w b m ch) x y) b m (ch++[ky C x y]):=by unfold fy cC;refine ae tK ?_;rfl
theorem ZO(h:du C){c:Nat}:∀n∈eG C c,n<C.ah.length:=λ n hn=>by
 unfold eG at hn;cases e:C.aV c with
 |none=>rw [e]at hn;simp at hn
 |some M=>rw [e]at hn;exact h.qS c M e n hn
theorem yF{x y:Nat}{r:Option String}{s:Nat}(h:dU C w s ch)(hg:du C)(hl:i5 C)(hx:x<C.ah.length)(hy:y<C.ah.length):dU (dJ C x y r) (kW (cC C w b m ch) x y) 0 (ch++[ky C x y])/\(kW (cC C w b m ch) x y).length<=w.length+24:=by
 have h4:=hl.1;have hu:=hg.usc (max (ax C.ah x) (ax C.ah y));have yG:(kW (cC C w b m ch) x y).length<=w.length+24/\(ax C.ah x=ax C.ah y->kW (cC C w b m ch) x y=w):=by
  unfold kW;refine (?_:(if ax C.ah x=ax C.ah y then w else w++eG C (max (ax C.ah x) (ax C.ah y))).length<=_/\_);split
  ·rename_i e;exact ⟨Nat.le_add_right ..,λ aa=>if_pos e⟩
  ·rename_i e;exact ⟨by refine ae List.length_append ?_;exact fJ h4 h4 hu (by simp+arith only),λ q=>absurd q e⟩
 refine ⟨⟨?_,?_,?_⟩,yG.1⟩
 ·refine ae vH<|ae fS<|ae F5 ?_;have h1:=h.kw;by_cases e:ax C.ah x=ax C.ah y
  ·refine ae (if_pos e)<|ae (yG.2 e) ?_;exact C3 h1
  ·refine ae (if_neg e)<|ae List.length_append<|ae List.length_cons<|ae List.length_nil ?_;have:=yG.1;exact dc h1 this (by simp+arith only)
 ·refine ae vH<|ae fS<|ae jK ?_;have:=h.ch;simp only [List.length_append,List.length_cons,List.length_nil];exact Nat.add_le_add_right this _
 ·intro n hn;refine ae tK ?_;unfold kW at hn;have fK:n∈(if ax C.ah x=ax C.ah y then w else w++eG C (max (ax C.ah x) (ax C.ah y))):=hn;split at fK
  ·exact h.mH n fK
  ·rcases List.mem_append.mp fK with q|q
   ·exact h.mH n q
   ·exact ZO hg n q
inductive LM(C:Core)(b:Nat)(m:List (Nat×List Nat))(ch:List dB)(H':Hp)(T:List (String×Nat×Nat))(N:List aM):Prop
 |mk (C':Core) (w':List Nat) (cs:List dB):H'=cC C' w' b m (ch++cs)->ip j4 C cs C'->du C'->i5 C'->a6 C'.ay=T->C'.ai=N->dU C' w' 0 (ch++cs)->LM C b m ch H' T N
inductive LN(C:Core)(w:List Nat)(b:Nat)(m:List (Nat×List Nat))(ch:List dB)(H':Hp):Prop
 |mk (C':Core) (w':List Nat) (cs:List dB):H'=cC C' w' b m (ch++cs)->ip j4 C cs C'->du C'->i5 C'->a6 C'.ay=a6 C.ay->C'.ai=C.ai->dU C' w' 0 (ch++cs)->((C'.ay.length=C.ay.length/\w'.length=w.length)\/(C'.ay.length=C.ay.length+1/\w'.length<=w.length+24))->LN C w b m ch H'
inductive IQ(μ:Nat)(C:Core)(w:List Nat)(b:Nat)(m:List (Nat×List Nat))(ch:List dB):Prop
 |mk (k:Nat) (C':Core) (cs:List dB):k<=μ->pM (cC C w b m ch) (cC C' [] b m (ch++cs)) k->ip j4 C cs C'->du C'->i5 C'->a6 C'.ay=a6 C.ay->C'.ai=C.ai->dU C' [] 0 (ch++cs)->IQ μ C w b m ch
theorem B1{n:Nat}(h:dU C w 1 ch)(hg:du C)(hl:i5 C)(hn:n<C.ah.length):LN C w b m ch (kY (cC C w b m ch) n):=by
 have LO:=h.iw hg hl;obtain ⟨kn,rD⟩:∃k,C.ai[n]?=some k:=⟨_,List.getElem?_eq_getElem (by rw [hg.ai];exact hn)⟩
 have i8:tI (cC C w b m ch) n=kn:=by unfold tI;show C.ai.getD n _=_;rw [List.getD_eq_getElem?_getD,rD];rfl
 have fE:i4 (cC C w b m ch) n=iZ C.ah kn:=by unfold i4;rw [i8];rfl
 have Pf:ik (cC C w b m ch) n=cC C w b m ch:=by unfold ik;rw [if_neg];show¬n=C.ah.length;exact Nat.ne_of_lt hn
 unfold kY;rw [fE,Pf];show LN C w b m ch (match gx C.known (iZ C.ah kn)with
  |none=>{cC C w b m ch with known:=C.known++[(iZ C.ah kn,n)],bj:=ch++[dB.known (iZ C.ah kn)]}
  |some v=>if ax C.ah v=ax C.ah n then cC C w b m ch else fy (cC C w b m ch) v n none)
 cases e:gx C.known (iZ C.ah kn)with
 |none=>
  have tP:=hg.knw rD rfl;have B2:dU {C with known:=C.known++[(iZ C.ah kn,n)]} w 0 (ch++[dB.known (iZ C.ah kn)]):=⟨by have:=h.kw;simp;exact bQ this (by simp+arith only),by have:=h.ch;simp;exact bQ this (by simp+arith only),h.mH⟩
  refine ⟨{C with known:=C.known++[(iZ C.ah kn,n)]},w,[.known (iZ C.ah kn)],rfl,?_,tP,hl,rfl,rfl,B2,.inl ⟨rfl,rfl⟩⟩;exact .snoc (cs:=[]) (.nil LO) (.known (yr e)) (B2.iw tP hl)
 |some v=>
  simp only;by_cases q:ax C.ah v=ax C.ah n
  ·rw [if_pos q];exact ⟨C,w,[],by rw [List.append_nil],.nil LO,hg,hl,rfl,rfl,by rw [List.append_nil];exact ⟨by have:=h.kw;exact Nat.le_of_lt this,h.ch,h.mH⟩,.inl ⟨rfl,rfl⟩⟩
  ·rw [if_neg q];refine Pz (hg.known _ (BP e)) λ kv h1 h2 h3 h4=>?_;simp only at h1 h2 h3 h4;have hv:=hg.lt h1;have Th:kv.2.map (ax C.ah)=kn.2.map (ax C.ah):=by rw [<-h3];simp only [iZ,List.map_map];apply List.map_congr_left;intro x hx;exact BW hg.ah (hg.F4 rD hx)
   have k9:kv.1=kn.1:=h2.symm;have hlr:yD C v n:=by
    refine ⟨q,kv,kn,h1,rD,k9,Th,λ JG=>?_⟩;have hlen:kv.2.length=kn.2.length:=by have:=congrArg List.length Th;simpa using this
    rw [JG]at hlen;have acz:kn.2=[]:=List.length_eq_zero_iff.mp hlen.symm;have:kv=kn:=Prod.ext k9 (by rw [JG,acz]);subst this;have:=(List.getElem?_inj (by rw [hg.ai];exact hv) hg.nodup).mp (h1.trans rD.symm);subst this;exact q rfl
   have tP:=hg.Pd hv hn none λ aa=>hlr;refine CX (yF (b:=b) (m:=m) (r:=none) h hg hl hv hn) λ B2 yG=>?_;have ht:a6 (dJ C v n none).ay=a6 C.ay:=by rw [jK,LL]
   have fc:i5 (dJ C v n none):=⟨by rw [fS];exact hl.1,by rw [ht,fS];exact hl.2⟩
   refine ⟨_,_,[ky C v n],F6,?_,tP,fc,ht,fS,B2,.inr ⟨by rw [jK];exact List.length_append ..,yG⟩⟩;exact .snoc (cs:=[]) (.nil LO) (.jy hv hn) (B2.iw tP fc)
theorem Hc(hm:m.length<=900):∀(μ:Nat)(C:Core)(w:List Nat)(ch:List dB),30*(8 -C.ay.length)+w.length<=μ->dU C w 0 ch->du C->i5 C->
  IQ μ C w b m ch:=by
 intro μ;induction μ with
 |zero=>
  intro C w ch hμ h hg hl;have hw:w=[]:=List.length_eq_zero_iff.mp (Nat.le_antisymm (j5 hμ) (Nat.zero_le _));subst hw;exact ⟨0,C,[],Nat.le_refl _,by rw [List.append_nil];exact .done (h.LK hg hl hm) rfl,.nil (h.iw hg hl),hg,hl,rfl,rfl,by rw [List.append_nil];exact h⟩
 |succ μ ih=>
  intro C w ch hμ h hg hl;rcases List.eq_nil_or_concat w with hw|⟨W,n,hw⟩
  ·subst hw;exact ⟨0,C,[],Nat.zero_le _,by rw [List.append_nil];exact .done (h.LK hg hl hm) rfl,.nil (h.iw hg hl),hg,hl,rfl,rfl,by rw [List.append_nil];exact h⟩
  ·rw [List.concat_eq_append]at hw;subst hw;have h1:dU C W 1 ch:=⟨by have:=h.kw;simp at this;exact this,h.ch,λ x hx=>h.mH x (List.mem_append_left _ hx)⟩
   have hn:n<C.ah.length:=h.mH n (List.mem_append_right _ (.head _));obtain ⟨C1,w1,cs1,e1,p1,g1,l1,t1,n1,s1,IK⟩:=B1 (b:=b) (m:=m) h1 hg hl hn;have h8:=g1.jJ l1;simp only [List.length_append,List.length_cons,List.length_nil]at hμ;obtain ⟨k,C2,ZP,hk,hs,p2,g2,l2,t2,n2,s2⟩:=ih C1 w1 (ch++cs1) (by lia) s1 g1 l1;refine ⟨k+1,C2,cs1++ZP,Nat.lt_succ_of_le hk,?_,p1.trans p2,g2,l2,t2.trans t1,n2.trans n1,by rw [<-List.append_assoc];exact s2⟩;rw [<-List.append_assoc];refine .step (W:=W) (n:=n) (h.LK hg hl hm) rfl ?_;have:({cC C (W++[n]) b m ch with bT:=W}:Hp)=cC C W b m ch:=rfl;refine ae this<|ae e1 ?_;exact hs
theorem F7{k:aM}(h:dU C w 0 ch)(hg:du C)(hl:i5 C)(fc:i5 (dg C k))(hk:∀x∈k.2,x<C.ah.length)(h2:k.2.length<=2)(fZ:k∉C.ai):LM C b m ch (wF (cC C w b m ch) k) (a6 C.ay) (C.ai++[k]):=by
 have B3:=hg.made hk h2 fZ;have s1:dU (dg C k) w 1 (ch++[.made C.ah.length]):=⟨by have:=h.kw;simp [dg];exact bQ this (by simp+arith only),by have:=h.ch;simp [dg];exact bQ this (by simp+arith only),λ x hx=>by have:=h.mH x hx;simp [dg];exact Nat.lt_succ_of_lt this⟩
 have hn:C.ah.length<(dg C k).ah.length:=by simp [dg]
 obtain ⟨C',w',cs,e,p,g,l,t,n,s,_⟩:=B1 (b:=b) (m:=m) s1 B3 fc hn;refine ⟨C',w',[.made C.ah.length]++cs,?_,?_,g,l,t,n,by rw [<-List.append_assoc];exact s⟩
 ·rw [<-List.append_assoc,<-e];have e1:ik {cC C w b m ch with toCore:=dg C k} C.ah.length=cC (dg C k) w b m (ch++[.made C.ah.length]):=by unfold ik;refine (if_pos (rfl:C.ah.length=C.ah.length)).trans ?_;unfold cC;simp [dg]
  have e2:ik (cC (dg C k) w b m (ch++[.made C.ah.length])) C.ah.length=cC (dg C k) w b m (ch++[.made C.ah.length]):=by unfold ik;rw [if_neg];refine (?_:¬C.ah.length=(dg C k).ah.length);exact Nat.ne_of_lt hn
  refine (?_:kY {cC C w b m ch with toCore:=dg C k} C.ah.length=_);unfold kY;refine ae e1<|ae e2 ?_;rfl
 ·exact ip.trans (.snoc (cs:=[]) (.nil (h.iw hg hl)) (.made hk h2 fZ) (s1.iw B3 fc)) p
theorem LP{x y:Nat}{lb:String}(h:dU C w 0 ch)(hg:du C)(hl:i5 C)(fc:i5 (dJ C x y (some lb)))(hx:x<C.ah.length)(hy:y<C.ah.length):LM C b m ch (fy (cC C w b m ch) x y (some lb)) (a6 C.ay++[(lb,x,y)]) C.ai:=by have tP:=hg.Pd hx hy (some lb) (λ q=>by cases q);refine CX (yF (b:=b) (m:=m) (r:=some lb) h hg hl hx hy) λ B2 aa=>?_;refine ⟨_,_,[ky C x y],F6,.snoc (cs:=[]) (.nil (h.iw hg hl)) (.jy hx hy) (B2.iw tP fc),tP,fc,by rw [jK,yE],fS,B2⟩
end
end
section
set_option genInjectivity false
set_option genSizeOf false
open PySem
section
variable{C C':Core} {w W:List Nat} {b:Nat} {m:List (Nat×List Nat)} {ch:List dB} {R:List aR} {P:PV} {A:U->Prop} {H:Hp}
theorem j4.mJ(h:j4 C)(hw:w.length<=1000)(hm:m.length<=1000):zD (cC C w b m ch):=by
 have hN:=h.jq.1;refine ⟨h.jf hw hm,h.ez.below,?_,h.ez.zF,h.ez.jJ h.jq,?_,?_⟩
 ·refine (?_:C.ai.length<=60);exact nc hN rfl
 ·intro i x y r he;have:=h.ez.fH i x y r he;have e:=h.ez.ai;refine (?_:x<C.ai.length/\y<C.ai.length);lia
 ·intro i x y he;refine vJ (h.ez.mI i x y he) λ ka kb h1 h2 h3 h4 h5=>?_;exact ⟨ka,kb,h1,h2,h3,h4,h.ez.IP ka (List.mem_of_getElem? h1),h5⟩
theorem LS.si{n:Nat}{kvs kvs':List (String×AV)}{x:String}{u:AV}(v:LS H ((n,.inst .eb)::(n+1,.dS kvs)::R))(h1:(fT .eb).contains x=true)(h2:dY kvs x u=kvs')(hz:kvs.length<=100)(k:∀v':LS H ((n,.inst .eb)::(n+1,.dS kvs')::R),A v'.w.σ):bG x u v.w.σ A (.ref n):=by subst h2;exact .mk (v.at (.head _)) (v.at (.tail _ (.head _))) h1 hz (k (LS.fB (A:=[(n,.inst .eb)]) v _))
theorem VL(v:LS H R)(d:Nat)(k:∀y b(v':LS H (WC y 0 0 .none b (λ aa=>[]) []++R)),P (.ref y) v'.w.σ):(O (d+2)).jS .eb [.ref 3] v.w.σ P:=by
 obtain ⟨v1,e⟩:∃v1:LS H ((v.w.σ.length,.inst .eb)::(v.w.σ.length+1,.dS [])::R),v1.w.σ=v.w.σ++[.inst .eb,.dS []]:=⟨((v.new (.inst .eb)).new (.dS [])).bI (by
  refine (?_:List.Perm (((v.w.σ++[AO.inst .eb]).length,AO.dS [])::(v.w.σ.length,AO.inst .eb)::R) _);refine ae List.length_append ?_;exact .swap _ _ _),by
  refine (?_:v.w.σ++[AO.inst .eb]++[AO.dS []]=_);exact List.append_assoc ..⟩
 refine (?_:(O (d+1)).call .vL [.ref v.w.σ.length,.ref 3] (v.w.σ++[.inst .eb,.dS []]) λ u σ'=>u=.none/\P (.ref v.w.σ.length) σ');refine cQ e ?_;generalize v.w.σ.length=n at v1;refine KC<|v1.si (by kernel_rfl) (by simp [dY];rfl) (by decide) λ v=>v.si (by kernel_rfl) (by simp [dY];rfl) (Nat.le_of_ble_eq_true rfl) λ v=>v.si (by kernel_rfl) (by simp [dY];rfl) (Nat.le_of_ble_eq_true rfl) λ v=>v.si (by kernel_rfl) (by simp [dY];rfl) (Nat.le_of_ble_eq_true rfl) λ v=>?_;let v2:LS H ((n,.inst .eb)::(n+1,_)::(v.w.σ.length,.dI [])::R):=(v.new (.dI [])).bI (List.perm_middle (l₁:=[_,_])).symm;exact LS.si v2 (kvs':=n0 0 0 .none v.w.σ.length) (by kernel_rfl) (by kernel_rfl) (Nat.le_of_ble_eq_true rfl) λ v=>⟨rfl,k n _ v⟩
theorem Sp{op:String}{ks:List Nat}(v:LS (cC C w b m ch) R)(hs:dU C w 0 ch)(hg:du C)(hl:i5 C)(fc:i5 (dg C (op,ks)))(hm:m.length<=900)(hw:w.length<=900)(k9:eQ op=true)(fZ:(op,ks)∉C.ai)(hk:∀i∈ks,i<C.ai.length)(hz:ks.length<=2)(d:Nat)
  (k:∀C' w' cs(v':LS (cC C' w' b m (ch++cs)) R),ip j4 C cs C'->du C'->i5 C'->a6 C'.ay=a6 C.ay->C'.ai=C.ai++[(op,ks)]->dU C' w' 0 (ch++cs)->P (.int C.ah.length) v'.w.σ):(O (d+7)).call .add [.ref 3,.str op,.tup (nl ks)] v.w.σ P:=by
 have e6:∀x∈ks,x<C.ah.length:=λ x hx=>by refine cQ hg.ai ?_;exact hk x hx
 obtain ⟨C',w',cs,e,p,g,l,t,n,s⟩:=F7 (b:=b) (m:=m) hs hg hl fc e6 hz fZ;have B3:=hg.made e6 hz fZ;have s1:dU (dg C (op,ks)) w 1 (ch++[.made C.ah.length]):=⟨by have:=hs.kw;simp [dg];exact bQ this (by simp+arith only),by have:=hs.ch;simp [dg];exact bQ this (by simp+arith only),λ x hx=>by have:=hs.mH x hx;simp [dg];exact Nat.lt_succ_of_lt this⟩
 have Zo:=s1.iw B3 fc;have I_:dz {cC C w b m ch with toCore:=dg C (op,ks)}:=by have:=Zo.jf (w:=w) (b:=b) (m:=m) (ch:=ch) (nc hw rfl) (nc hm rfl);exact ⟨this.ai,this.gf,this.wt,this.ah,this.bg,this.dC,this.merged,this.ay,this.aH,this.known,this.aV,this.gC,this.bT,this.cz⟩
 have i9:Ok {cC C w b m ch with toCore:=dg C (op,ks)}:=by have:=B3.ok (w:=w) (b:=b) (m:=m) (ch:=ch);exact ⟨this.le,this.bg,this.ai,this.below,this.aV,this.known,this.eO⟩
 have h1:=hs.known hg hl;have h2:=hs.bj hg hl;have h3:=hg.jJ hl;have key:∀v':LS (cC C' w' b m (ch++cs)) R,P (.int C.ah.length) v'.w.σ:=λ v'=>k C' w' cs v' p g l t n s;rw [<-e]at key;exact IG v ((hs.iw hg hl).jf (nc hw rfl) (nc hm rfl)) hg.ok k9 fZ hk hz I_ i9 (show C.ay.length<1000 by exact fb h3 rfl) (show ch.length<=900 by exact nc h2 rfl) (show C.known.length<1000 by exact bQ h1 (by simp+arith only)) key
end
noncomputable def oU(l:Nat):String:="t"++toString ((l:Nat):Int)
abbrev Ev:=String×Nat×Nat
structure k7(C:Core)(L:Nat):Prop where
 ai:C.ai.length<=6+L
 told:(a6 C.ay).length+(eD C.ai).length<=3+L
 f':1<=(eD C.ai).length
 nodup:((a6 C.ay).map (·.1)).Nodup
 F8:∀lb∈(a6 C.ay).map (·.1),∃l,l<L/\lb=oU l
theorem k7.bo{C:Core}{L L':Nat}(h:k7 C L)(hL:L<=L'):k7 C L':=⟨by have:=h.ai;exact dc this hL (by simp+arith only),by have:=h.told;exact dc this hL (by simp+arith only),h.f',h.nodup,λ lb hl=>by refine bA (h.F8 lb hl) λ l h1 h2=>?_;exact ⟨l,Nat.lt_of_lt_of_le h1 hL,h2⟩⟩
theorem k7.jq{C:Core}{L:Nat}(h:k7 C L)(hL:L<=6):i5 C:=⟨by have:=h.ai;exact dc hL this (by simp+arith only),by have:=h.told;have:=h.f';lia⟩
theorem k7.same{C C':Core}{L:Nat}(h:k7 C L)(h1:a6 C'.ay=a6 C.ay)(h2:C'.ai=C.ai):k7 C' L:=⟨by refine ae h2 ?_;exact h.ai,by refine ae h1<|ae h2 ?_;exact h.told,by refine ae h2 ?_;exact h.f',by refine ae h1 ?_;exact h.nodup,by refine ae h1 ?_;exact h.F8⟩
inductive pR(L:Nat):Core->List dB->List (Nat×List Nat)->List (List aM×List Ev)->Prop
 |nil {C:Core} {ch:List dB}:pR L C ch [] []
 |push {C0 C:Core} {w0:List Nat} {lx cs:List dB} {m0:List (Nat×List Nat)} {zH:List (List aM×List Ev)}:pR L C0 lx m0 zH->du C0->dU C0 w0 0 lx->k7 C0 L->ip j4 C0 cs C->pR L C (lx++cs) (m0++[(lx.length,w0)]) (zH++[(C0.ai,a6 C0.ay)])
theorem pR.ext{L:Nat}{C C':Core}{ch cs:List dB}{m:List (Nat×List Nat)}{sts:List (List aM×List Ev)}(h:pR L C ch m sts)(p:ip j4 C cs C'):pR L C' (ch++cs) m sts:=by
 cases h with
 |nil=>exact .nil
 |push h1 h2 h3 h4 h5=>rw [List.append_assoc];exact .push h1 h2 h3 h4 (h5.trans p)
theorem pR.bo{L L':Nat}(hL:L<=L'){C:Core}{ch:List dB}{m:List (Nat×List Nat)}{sts:List (List aM×List Ev)}(h:pR L C ch m sts):pR L' C ch m sts:=by
 induction h with
 |nil=>exact .nil
 |push _ h2 h3 h4 h5 ih=>exact .push ih h2 h3 (h4.bo hL) h5
theorem pR.len{L:Nat}{C:Core}{ch:List dB}{m:List (Nat×List Nat)}{sts:List (List aM×List Ev)}(h:pR L C ch m sts):sts.length=m.length:=by
 induction h with
 |nil=>rfl
 |push _ _ _ _ _ ih=>simp [ih]
def iO(R:List aR):List (Nat×Nat)->List (List aM×List Ev)->Prop
 |[],[]=>True
 |s::ss,c::cs=>(s.1,AO.list (c.1.map bq))∈R/\(s.2,AO.list (c.2.map iu))∈R/\iO R ss cs
 |_,_=>False
theorem iO.len{R:List aR}{ss:List (Nat×Nat)}{cs:List (List aM×List Ev)}(h:iO R ss cs):ss.length=cs.length:=by
 induction ss generalizing cs with
 |nil=>cases cs with
  |nil=>rfl
  |cons=>exact h.elim
 |cons t ss ih=>cases cs with
  |nil=>exact h.elim
  |cons d cs=>exact congrArg Nat.succ (ih h.2.2)
theorem iO.bo{R R':List aR}(hR:∀c∈R,c∈R'){ss:List (Nat×Nat)}{cs:List (List aM×List Ev)}(h:iO R ss cs):iO R' ss cs:=by
 induction ss generalizing cs with
 |nil=>cases cs with
  |nil=>trivial
  |cons=>exact h.elim
 |cons t ss ih=>cases cs with
  |nil=>exact h.elim
  |cons d cs=>exact ⟨hR _ h.1,hR _ h.2.1,ih h.2.2⟩
theorem iO.qN{R:List aR}{c:List aM×List Ev}{ss:List (Nat×Nat)}{cs:List (List aM×List Ev)}(h:iO R ss (cs++[c])):∃jr s,ss=jr++[s]/\iO R jr cs/\(s.1,AO.list (c.1.map bq))∈R/\(s.2,AO.list (c.2.map iu))∈R:=by
 induction cs generalizing ss with
 |nil=>cases ss with
  |nil=>exact h.elim
  |cons s r=>cases r with
   |nil=>exact ⟨[],s,rfl,trivial,h.1,h.2.1⟩
   |cons=>exact h.2.2.elim
 |cons d cs ih=>cases ss with
  |nil=>exact h.elim
  |cons s ss=>exact yL (ih h.2.2) λ jr t e h1 h2=>⟨s::jr,t,congrArg _ e,⟨h.1,h.2.1,h1⟩,h2⟩
theorem iO.snoc{R:List aR}{c:List aM×List Ev}{s:Nat×Nat}(h1:(s.1,AO.list (c.1.map bq))∈R)(h2:(s.2,AO.list (c.2.map iu))∈R){ss:List (Nat×Nat)}{cs:List (List aM×List Ev)}(h:iO R ss cs):iO R (ss++[s]) (cs++[c]):=by
 induction ss generalizing cs with
 |nil=>cases cs with
  |nil=>exact ⟨h1,h2,trivial⟩
  |cons=>exact h.elim
 |cons t ss ih=>cases cs with
  |nil=>exact h.elim
  |cons d cs=>exact ⟨h.1,h.2.1,ih h.2.2⟩
noncomputable def eE(s:Nat×Nat):AV:=.tup [.ref s.1,.ref s.2]
structure fI(L:Nat)(C:Core)(w:List Nat)(m:List (Nat×List Nat))(ch:List dB)(sts:List (List aM×List Ev)):Prop where
 ez:du C
 small:dU C w 0 ch
 mv:k7 C L
 F9:pR L C ch m sts
 cz:m.length<=L
theorem fI.step{L L':Nat}{C C':Core}{w w':List Nat}{m:List (Nat×List Nat)}{ch cs:List dB}{sts:List (List aM×List Ev)}(h:fI L C w m ch sts)(hL:L<=L')(p:ip j4 C cs C')(g:du C')(s:dU C' w' 0 (ch++cs))(c:k7 C' L'):fI L' C' w' m (ch++cs) sts:=⟨g,s,c,(h.F9.bo hL).ext p,by have:=h.cz;exact Nat.le_trans this hL⟩
theorem fI.bo{L L':Nat}{C:Core}{w:List Nat}{m:List (Nat×List Nat)}{ch:List dB}{sts:List (List aM×List Ev)}(h:fI L C w m ch sts)(hL:L<=L'):fI L' C w m ch sts:=⟨h.ez,h.small,h.mv.bo hL,h.F9.bo hL,by have:=h.cz;exact Nat.le_trans this hL⟩
theorem fI.push{L:Nat}{C:Core}{w:List Nat}{m:List (Nat×List Nat)}{ch:List dB}{sts:List (List aM×List Ev)}(h:fI L C w m ch sts)(hL:L<=6):fI (L+1) C w (m++[(ch.length,w)]) ch (sts++[(C.ai,a6 C.ay)]):=by refine ⟨h.ez,h.small,h.mv.bo (Nat.le_succ _),?_,by have:=h.cz;simp;exact this⟩;have:=pR.push (cs:=[]) (h.F9.bo (L':=L+1) (Nat.le_succ _)) h.ez h.small (h.mv.bo (Nat.le_succ _)) (.nil (h.small.iw h.ez (h.mv.jq hL)));rw [List.append_nil]at this;exact this
end
section
open PySem
theorem Sq:∀i,i<7->∀j,j<7->oU i=oU j->i=j:=by decide+kernel
section
variable{P:PV} {A:U->Prop} {s:U} {R:List aR} {C:Core} {w:List Nat} {b:Nat} {m:List (Nat×List Nat)} {ch:List dB} {L:Nat} {sts:List (List aM×List Ev)}
theorem F_(n:Nat):w9 (-1) (n+1) n:=⟨Nat.lt_succ_self _,.inr (by lia)⟩
theorem zI{xs:List AV}{l:Nat}{u:AV}(h:s[l]?=some (.list (xs++[u])))(k:P u s):aj s P (.ref l) (.int (-1)):=.l h (by refine ae List.length_append ?_;exact F_ _) (List.getElem?_concat_length ..) k
theorem IS{xs:List AV}{l:Nat}{u v:AV}(h:s[l]?=some (.list (xs++[u])))(k:A (s.set l (.list (xs++[v])))):cP v s A (.ref l) (.int (-1)):=.l h (by refine ae List.length_append ?_;exact F_ _) (by simpa using k)
theorem fI.iw(h:fI L C w m ch sts)(hL:L<=6):j4 C:=h.small.iw h.ez (h.mv.jq hL)
theorem fI.Ga(h:fI L C w m ch sts)(hL:L<=6):w.length<=204:=by have:=h.small.known h.ez (h.mv.jq hL);exact j5 this
theorem fI.jf(h:fI L C w m ch sts)(hL:L<=6):dz (cC C w b m ch):=(h.iw hL).jf (by have:=h.Ga hL;exact nc this rfl) (by have:=h.cz;exact nc (Nat.le_trans this hL) rfl)
theorem oV(v:LS (cC C w b m ch) R)(ht:fI L C w m ch sts)(hL:L<=6)(d:Nat)(k:∀C' cs(v':LS (cC C' [] b m (ch++cs)) R),fI L C' [] m (ch++cs) sts->a6 C'.ay=a6 C.ay->C'.ai=C.ai->P .none v'.w.σ):(O (d+7)).call .rJ [.ref 3] v.w.σ P:=by have hm:=ht.cz;have hw:=ht.Ga hL;obtain ⟨q,C',cs,hk,hs,p,g,l,t,n,s⟩:=Hc (b:=b) (m:=m) (nc (Nat.le_trans hm hL) rfl) _ C w ch (Nat.le_refl _) ht.small ht.ez (ht.mv.jq hL);exact BR hs v λ v'=>k C' cs v' (ht.step (Nat.le_refl _) p g s (ht.mv.same t n)) t n
theorem Gb{L':Nat}{k:aM}(hc:k7 C L')(h1:C.ai.length+1<=6+L')(h2:(a6 C.ay).length+(eD C.ai).length+1<=3+L'):∀C':Core,C'.ai=C.ai++[k]->a6 C'.ay=a6 C.ay->k7 C' L':=by
 intro C' e1 e2;have hl:(eD (C.ai++[k])).length<=(eD C.ai).length+1/\(eD C.ai).length<=(eD (C.ai++[k])).length:=by rw [BZ,List.length_append];split<;>simp
 have:=hc.f';exact ⟨by refine ae e1 ?_;simp;exact h1,by refine ae e1<|ae e2 ?_;exact dc h2 hl.1 (by simp+arith only),by refine ae e1 ?_;exact Nat.le_trans this hl.2,by refine ae e2 ?_;exact hc.nodup,by refine ae e2 ?_;exact hc.F8⟩
theorem B4{n ln L':Nat}{row:List Int}(v:LS (cC C w b m ch) ((0,dE n)::(2,ei row)::R))(hn:n<=900)(ht:fI L C w m ch sts)(Pg:L<=L')(hL:L'<=6)(h1:C.ai.length+1<=6+L')(h2:(a6 C.ay).length+(eD C.ai).length+1<=3+L')(lG:0<C.ai.length)(hl:(ln,.list (C.ai.map bq))∈R)(d:Nat)
  (k:∀C' w' cs n' jG X(v':LS (cC C' w' b m (ch++cs)) ((0,dE n')::(2,ei row)::(X++R))),n'<=n+3->fI L' C' w' m (ch++cs) sts->(jG,AO.list (C'.ai.map bq))∈X++R->a6 C'.ay=a6 C.ay->P (.ref jG) v'.w.σ):
  (O (d+8)).call .more [.ref 0,.ref 3,.ref ln] v.w.σ P:=by
 have hg:=ht.ez;have hs:=ht.small;have hc:=ht.mv.bo Pg;have tS:=hc.jq hL;have hw:=hs.known hg tS;have hm:=ht.cz;have ZG:=hs.bj hg tS;have h8:=hg.jJ tS;have ZQ:∀k,yv C.ai.length k->(∀x∈k.2,x<C.ah.length)/\k.2.length<=2/\i5 (dg C k):=λ k hd=>by obtain ⟨ho,hk⟩:=hd;refine ⟨λ x hx=>by refine cQ hg.ai ?_;have:=hk x hx;exact Nat.lt_of_lt_of_le this (Nat.min_le_left (C.ai.length) (4)),by rcases ho with⟨_,q⟩|⟨_,q⟩<;>lia,?_⟩;exact (Gb (k:=k) hc h1 h2 (dg C k) rfl rfl).jq hL
 have aa3:Ue (cC C w b m ch):=by
  refine ⟨(hs.iw hg tS).jf (nc (j5 hw) rfl) (fJ Pg hL hm (by simp+arith only)),hg.ok,show C.ay.length<1000 by exact fb h8 rfl,show ch.length<=900 by exact nc ZG rfl,show C.known.length<1000 by exact bQ hw (by simp+arith only),hg.nodup,lG,λ k hd fZ=>?_⟩;obtain ⟨a1,a2,a3⟩:=ZQ k hd;have B3:=hg.made a1 a2 fZ;have s1:dU (dg C k) w 1 (ch++[.made C.ah.length]):=⟨by have:=hs.kw;simp [dg];exact bQ this (by simp+arith only),by have:=hs.ch;simp [dg];exact bQ this (by simp+arith only),λ x hx=>by have:=hs.mH x hx;simp [dg];exact Nat.lt_succ_of_lt this⟩
  have f1:=(s1.iw B3 a3).jf (w:=w) (b:=b) (m:=m) (ch:=ch) (nc (j5 hw) rfl) (fJ Pg hL hm (by simp+arith only));have o1:=B3.ok (w:=w) (b:=b) (m:=m) (ch:=ch);exact ⟨⟨f1.ai,f1.gf,f1.wt,f1.ah,f1.bg,f1.dC,f1.merged,f1.ay,f1.aH,f1.known,f1.aV,f1.gC,f1.bT,f1.cz⟩,⟨o1.le,o1.bg,o1.ai,o1.below,o1.aV,o1.known,o1.eO⟩⟩
 refine Vv v hn aa3 hl λ kk n' jG X hd fK B5=>?_;obtain ⟨a1,a2,a3⟩:=ZQ kk hd;by_cases fP:kk∈C.ai
 ·rw [show jR (cC C w b m ch) kk=cC C w b m (ch++[]) by unfold jR;rw [List.append_nil];exact if_pos fP]at B5⊢;exact λ v'=>k C w [] n' jG X v' fK (by rw [List.append_nil];exact ht.bo Pg) B5 rfl
 ·obtain ⟨C',w',cs,e1,p,g,l,t,nn,s⟩:=F7 (b:=b) (m:=m) hs hg tS a3 a1 a2 fP;rw [show jR (cC C w b m ch) kk=cC C' w' b m (ch++cs) by unfold jR;refine cQ e1 ?_;exact if_neg fP]at B5⊢;exact λ v'=>k C' w' cs n' jG X v' fK (ht.step Pg p g s (Gb (k:=kk) hc h1 h2 C' nn t)) B5 t
end
end
section
set_option genInjectivity false
set_option genSizeOf false
open PySem
noncomputable def oL(n:Nat)(row:List Int)(ls:Nat)(ss:List (Nat×Nat))(wl bb:Nat)(R:List aR):List aR:=(0,dE n)::(2,ei row)::(ls,.list (ss.map eE))::(WC wl 0 0 .none bb (λ aa=>[]) []++R)
structure lA(row:List Int)(wl bb ls L n:Nat)where
 C:Core
 w:List Nat
 b:Nat
 m:List (Nat×List Nat)
 ch:List dB
 sts:List (List aM×List Ev)
 ss:List (Nat×Nat)
 R:List aR
 v:LS (cC C w b m ch) (oL n row ls ss wl bb R)
 oW:fI L C w m ch sts
 tT:iO R ss (sts++[(C.ai,a6 C.ay)])
section
variable{P:PV} {row:List Int} {wl bb ls L n n2 ln le D:Nat} {x2:aP} {jr:List (Nat×Nat)} (E:lA row wl bb ls L n)
theorem lA.ZR:E.ss.length=E.m.length+1:=by have:=E.tT.len;refine ae this<|ae List.length_append<|ae E.oW.F9.len ?_;rfl
theorem lA.top(mw:E.ss=jr++[(ln,le)]):iO E.R jr E.sts/\(ln,AO.list (E.C.ai.map bq))∈E.R/\(le,AO.list ((a6 E.C.ay).map iu))∈E.R:=by obtain ⟨s2,s,e,h3,h4,h5⟩:=E.tT.qN;rw [mw]at e;obtain ⟨e1,e2⟩:=List.append_inj' e rfl;cases e2;subst e1;exact ⟨h3,h4,h5⟩
theorem Hd(hL:L<=5)(mw:E.ss=jr++[(ln,le)])(k:∀E':lA row wl bb ls (L+1) n,ib (O (D+121)) P n2 x2 (.ref 0) (.ref 3) (.ref ln) (.ref ls) (.ref wl) E'.v.w.σ):
  Bw (O (D+121)) P n2 x2 (.ref le) (.ref 0) (.ref 3) (.ref ln) (.ref ls) (.ref wl) E.v.w.σ:=by
 have ht:=E.oW;have yA:=ht.small.bj ht.ez (ht.mv.jq (Nat.le_succ_of_le hL));have w7:=E.ZR;have hm:=ht.cz;obtain ⟨h3,h4,h5⟩:=E.top mw;refine E.v.w.YT<|Vp E.v (ht.jf (Nat.le_succ_of_le hL)) (by show E.ch.length<=900;exact nc yA rfl) λ v=>?_;have cl:=v.at (l:=ls) (.tail _ (.tail _ (.head _)))
 exact .mk cl<|.mk cl (by simp;exact fJ hL (bS w7) hm (by simp+arith only))<|k ⟨E.C,E.w,E.b,_,E.ch,_,E.ss++[(ln,le)],E.R,(LS.fB (A:=[(0,dE n),(2,ei row)]) v (.list (E.ss.map eE++[eE (ln,le)]))).bI (.of_eq (by unfold oL;refine ae List.map_append ?_;rfl)),ht.push (Nat.le_succ_of_le hL),E.tT.snoc h4 h5⟩
theorem LQ(hL:L<=5)(h2s:1<E.ss.length)(k:∀E':lA row wl bb ls (L+1) n,ib (O (D+121)) P n2 x2 (.ref 0) (.ref 3) (.ref ln) (.ref ls) (.ref wl) E'.v.w.σ):
  tv (O (D+121)) P n2 x2 (.ref 0) (.ref 3) (.ref ln) (.ref ls) (.ref wl) E.v.w.σ:=by
 have w7:=E.ZR;obtain ⟨C,w,b,m,ch,sts,ss,R,v,ht,aa4⟩:=E;simp only at h2s w7;refine (?_:tv (O (D+121)) P n2 x2 (.ref 0) (.ref 3) (.ref ln) (.ref ls) (.ref wl) v.w.σ);have hm:=ht.cz;have hw:=ht.Ga (Nat.le_succ_of_le hL);have yA:=ht.small.bj ht.ez (ht.mv.jq (Nat.le_succ_of_le hL));have OV:=ht.F9;cases OV with
 |nil=>simp at w7;lia
 |@push C0 _ w0 lx cs m0 zH h1 g0 s0 c0 p0=>simp only [List.length_append,List.length_cons,List.length_nil]at hm yA;refine v.w.T4<|OW (P:=j4) (λ C ch hC=>⟨hC.ez.ok,hC.jf (nc hw rfl) (dc hL hm (by simp+arith only))⟩) p0 v λ v=>?_;obtain ⟨ZS,s,rfl,k1,k2,k3⟩:=aa4.qN;have cl:v.w.σ[ls]?=some (.list (ZS.map eE++[eE s])):=(v.at (l:=ls) (.tail _ (.tail _ (.head _)))).trans (by refine ae List.map_append ?_;rfl);exact .mk cl<|.mk cl<|k ⟨C0,w0,b+1,m0,lx,zH,ZS,R,LS.fB (A:=[(0,dE n),(2,ei row)]) v (.list (ZS.map eE)),⟨g0,s0,c0.bo (Nat.le_succ _),h1.bo (Nat.le_succ _),bQ hm (by simp+arith only)⟩,k1⟩
theorem k7.pos{C:Core}{L:Nat}(h:k7 C L):0<C.ai.length:=by have:=h.f';obtain ⟨x,hx⟩:=List.exists_mem_of_length_pos (show 0<(eD C.ai).length by exact this);have:=zG hx;exact j5 this
theorem He(hL:L<=5)(hn:n<=800)(mw:E.ss=jr++[(ln,le)])(k:∀n'(E':lA row wl bb ls (L+1) n'),n'<=n+3->ib (O (D+121)) P n2 x2 (.ref 0) (.ref 3) (.ref ln) (.ref ls) (.ref wl) E'.v.w.σ):
  Bx (O (D+121)) P n2 x2 (.ref le) (.ref 0) (.ref 3) (.ref ln) (.ref ls) (.ref wl) E.v.w.σ:=by
 have ht:=E.oW;have hc:=ht.mv;obtain ⟨h3,h4,h5⟩:=E.top mw;refine B4 (L':=L+1) E.v (nc hn rfl) ht (Nat.le_succ _) (Nat.lt_succ_of_le hL) (by have:=hc.ai;exact Nat.add_le_add_right this _) (by have:=hc.told;exact Nat.add_le_add_right this _) hc.pos (.tail _ (List.mem_append_right _ h4)) (D+113) λ C' w' cs n' jG X v fK nP B5 Ph=>?_;have hm:(jG,AO.list (C'.ai.map bq))∈X++E.R:=by
  rcases List.mem_append.mp B5 with q|q
  ·exact List.mem_append_left _ q
  ·rcases List.mem_cons.mp q with q|q
   ·have e:=(Prod.mk.inj q).2;have hp:=nP.mv.pos;rw [mw]at e;cases r8:C'.ai with
    |nil=>rw [r8]at hp;exact absurd hp (Nat.lt_irrefl _)
    |cons x xs=>
     rw [r8]at e;have e:=AO.list.inj e;cases jr with
     |nil=>simp [eE,bq]at e
     |cons z zs=>simp [eE,bq]at e
   ·simp [WC,mQ]at q;exact List.mem_append_right _ q
 let v1:LS (cC C' w' E.b E.m (E.ch++cs)) ([(0,dE n'),(2,ei row)]++(ls,.list (E.ss.map eE))::(X++(WC wl 0 0 .none bb (λ aa=>[]) []++E.R))):=v.bI (.cons _ (.cons _ List.perm_middle));have cl:v1.w.σ[ls]?=some (.list (jr.map eE++[eE (ln,le)])):=(v1.at (l:=ls) (.tail _ (.tail _ (.head _)))).trans (by rw [mw,List.map_append];rfl);refine IS cl<|k n' ⟨C',w',E.b,E.m,E.ch++cs,E.sts,jr++[(jG,le)],X++E.R,(LS.fB v1 (.list (jr.map eE++[eE (jG,le)]))).bI ?_,nP,iO.snoc hm ?_ (h3.bo λ c hc=>List.mem_append_right _ hc)⟩ fK
 ·unfold oL;rw [List.map_append];refine .cons _ (.cons _ (.cons _ ?_));rw [<-List.append_assoc,<-List.append_assoc];exact .append_right _ List.perm_append_comm
 ·refine ae Ph ?_;exact List.mem_append_right _ h5
end
end
section
open PySem
theorem VM:∀i,i<7->("t":String).length+(toString ((i:Nat):Int)).length<=10000:=by decide+kernel
section
variable{P:PV} {row:List Int} {wl bb ls L n n2 ln le D:Nat} {x2:aP} {jr:List (Nat×Nat)} {C:Core}
theorem Gd(hc:k7 C L)(hL:L<=5){x y:Nat}:∀C':Core,C'.ai=C.ai->a6 C'.ay=a6 C.ay++[(oU L,x,y)]->k7 C' (L+1):=by
 intro C' e1 e2;refine ⟨by refine ae e1 ?_;have:=hc.ai;exact Nat.le_succ_of_le this,by refine ae e1<|ae e2 ?_;have:=hc.told;simp;exact bQ this (by simp+arith only),by refine ae e1 ?_;exact hc.f',?_,?_⟩
 ·rw [e2,List.map_append,List.nodup_append];refine ⟨hc.nodup,by simp,λ p hp q hq e=>?_⟩;simp at hq;subst hq;refine bA (hc.F8 p hp) λ l hl e3=>?_;have:=Sq l (nc (Nat.le_trans hl hL) rfl) L (fb hL rfl) (e3.symm.trans e);lia
 ·refine ae e2<|ae List.map_append ?_;intro lb FW;rcases List.mem_append.mp FW with q|q
  ·refine bA (hc.F8 lb q) λ l hl e3=>?_;exact ⟨l,Nat.lt_succ_of_lt hl,e3⟩
  ·simp at q;exact ⟨L,Nat.lt_succ_self _,q⟩
theorem Ge(E:lA row wl bb ls L n)(hL:L<=5)(hn:n<=800)(mw:E.ss=jr++[(ln,le)])(k:∀E':lA row wl bb ls (L+1) (n+2),ib (O (D+121)) P n2 x2 (.ref 0) (.ref 3) (.ref ln) (.ref ls) (.ref wl) E'.v.w.σ):
  By (O (D+121)) P n2 x2 (.ref le) (.ref 0) (.ref 3) (.int L) (.ref ln) (.ref ls) (.ref wl) E.v.w.σ:=by
 have ht:=E.oW;have hc:=ht.mv;have hg:=ht.ez;have lG:=hc.pos;have hN:=(hc.jq (Nat.le_succ_of_le hL)).1;obtain ⟨h3,h4,h5⟩:=E.top mw;have mn:∀n,(ln,AO.list (E.C.ai.map bq))∈oL n row ls E.ss wl bb E.R:=λ n=>.tail _ (.tail _ (.tail _ (List.mem_append_right _ h4)));have h8:=hg.jJ (hc.jq (Nat.le_succ_of_le hL));have yA:=ht.small.bj hg (hc.jq (Nat.le_succ_of_le hL));have Ph:(a6 E.C.ay).length<=8:=by have:=hc.told;exact dc hL this (by simp+arith only)
 refine dp (E.v.at (mn _)) (List.length_map ..)<|lQ E.v (nc hn rfl) lG λ x hx v=>dp (v.at (mn (n+1))) (List.length_map ..)<|lQ v (fb hn rfl) lG λ y hy v=>?_;have DP:x<E.C.ah.length:=by rw [<-hg.ai];exact hx
 have hyl:y<E.C.ah.length:=by rw [<-hg.ai];exact hy
 have r8:k7 (dJ E.C x y (some (oU L))) (L+1):=Gd hc hL _ fS (by rw [jK,yE]);obtain ⟨C',w',cs,ej,pp,gg,ll,tt,nn,sm⟩:=LP (b:=E.b) (m:=E.m) (lb:=oU L) ht.small hg (hc.jq (Nat.le_succ_of_le hL)) (r8.jq (Nat.lt_succ_of_le hL)) DP hyl;refine .mk (by lia) (by lia)<|.s (VM L (fb hL rfl))<|.t<|v.w.U'<|R0 v (ht.jf (Nat.le_succ_of_le hL)) hg.ok DP hyl (some (oU L)) (show E.C.ay.length<1000 by exact fb h8 rfl) (show E.ch.length<=1000 by exact nc yA rfl) ?_;refine ae ej ?_;intro q v;let v1:=v.new (.list [iu (oU L,x,y)]);refine v1.R6 (xs:=(a6 E.C.ay).map iu) (ys:=[iu (oU L,x,y)]) (v1.at (.tail _ (.tail _ (.tail _ (.tail _ (List.mem_append_right _ h5)))))) (v1.at (.head _)) (by simp;exact nc Ph rfl) ?_;refine ae (show(a6 E.C.ay).map iu++[iu (oU L,x,y)]=(a6 C'.ay).map iu by rw [tt,List.map_append];rfl) ?_;intro lq v;let v3:LS (cC C' w' E.b E.m (E.ch++cs)) (oL (n+2) row ls E.ss wl bb ((lq,.list ((a6 C'.ay).map iu))::E.R)):=v.qI.bI (List.perm_middle (l₁:=[(0,dE (n+2)),(2,ei row),(ls,.list (E.ss.map eE))]++WC wl 0 0 .none bb (λ aa=>[]) [])).symm;have cl:v3.w.σ[ls]?=some (.list (jr.map eE++[eE (ln,le)])):=(v3.at (l:=ls) (.tail _ (.tail _ (.head _)))).trans (by refine ae mw<|ae List.map_append ?_;rfl);refine IS cl<|k ⟨C',w',E.b,E.m,E.ch++cs,E.sts,jr++[(ln,lq)],(lq,.list ((a6 C'.ay).map iu))::E.R,(LS.fB (A:=[(0,dE (n+2)),(2,ei row)]) v3 (.list (jr.map eE++[eE (ln,lq)]))).bI (.of_eq (by unfold oL;refine ae List.map_append ?_;rfl)),ht.step (Nat.le_succ _) pp gg sm (Gd hc hL C' nn tt),iO.snoc (c:=(C'.ai,a6 C'.ay)) (s:=(ln,lq)) ?_ (.head _) (h3.bo λ c hc=>List.mem_cons_of_mem _ hc)⟩;show(ln,AO.list (C'.ai.map bq))∈_;refine ae nn ?_;exact List.mem_cons_of_mem _ h4
end
end
section
open PySem
section
variable{P:PV} {row:List Int} {wl bb ls L n n2 D:Nat} {x2:aP} {vn:AV}
theorem uz(E:lA row wl bb ls L n)(hL:L<=6)(hn:n<=900)(k:∀E':lA row wl bb ls L (n+1),jX (O (D+121)) P (.ref 0) (.ref 3) vn (.ref ls) (.ref wl) n2 x2 E'.v.w.σ):
  ib (O (D+121)) P n2 x2 (.ref 0) (.ref 3) vn (.ref ls) (.ref wl) E.v.w.σ:=by
 refine lQ (m:=3) E.v (nc hn rfl) (by decide) λ x hx v=>?_;by_cases q:(0:Int)<(x:Int)
 ·refine qH q<|v.w.wu<|oV (L:=L) (sts:=E.sts) v E.oW hL (D+114) λ C' cs v h4 h5 h6=>k ⟨C',[],E.b,E.m,E.ch++cs,E.sts,E.ss,E.R,v,h4,?_⟩;refine ae h5<|ae h6 ?_;exact E.tT
 ·exact kU (by lia)<|k ⟨E.C,E.w,E.b,E.m,E.ch,E.sts,E.ss,E.R,v,E.oW,E.tT⟩
theorem ZT(E:lA row wl bb ls L n)(hL:L<=5)(hn:n<=700)(k:∀n' vn(E':lA row wl bb ls (L+1) n'),n'<=n+5->jX (O (D+121)) P (.ref 0) (.ref 3) vn (.ref ls) (.ref wl) n2 x2 E'.v.w.σ):
  BA (O (D+121)) P n2 x2 (.ref 0) (.ref 3) (.int L) (.ref ls) (.ref wl) E.v.w.σ:=by
 have main:∀(r n1:Nat)(E:lA row wl bb ls L n1),n1<=n+1->tx (O (D+121)) P n2 x2 (.ref 0) (.ref 3) (.int L) (.ref ls) (.ref wl) (.int r) E.v.w.σ:=λ r n1 E vI=>by
  obtain ⟨jr,s,mw,_⟩:=E.tT.qN;obtain ⟨ln,le⟩:=s;have cl:E.v.w.σ[ls]?=some (.list (jr.map eE++[eE (ln,le)])):=(E.v.at (l:=ls) (.tail _ (.tail _ (.head _)))).trans (by refine ae mw<|ae List.map_append ?_;rfl);refine zI cl<|.t<|.t ?_;by_cases w5:r=5
  ·exact zq (b:=5) w5<|Hd E hL mw λ E=>uz E (Nat.lt_succ_of_le hL) (dc hn vI (by simp+arith only)) λ E=>k _ _ E (bQ vI (by simp+arith only))
  refine wx (b:=5) w5 ?_;have qN:tw (O (D+121)) P n2 x2 (.ref le) (.ref 0) (.ref 3) (.int L) (.ref ln) (.ref ls) (.int r) (.ref wl) E.v.w.σ:=by
   by_cases w3:r=3
   ·exact zq (b:=3) w3<|He E hL (dc hn vI (by simp+arith only)) mw λ n' E fK=>uz E (Nat.lt_succ_of_le hL) (fJ hn vI fK (by simp+arith only)) λ E=>k _ _ E (dc vI fK (by simp+arith only))
   ·exact wx (b:=3) w3<|Ge E hL (dc hn vI (by simp+arith only)) mw λ E=>uz E (Nat.lt_succ_of_le hL) (dc hn vI (by simp+arith only)) λ E=>k _ _ E (bQ vI (by simp+arith only))
  refine (?_:Bz (O (D+121)) P _ _ _ _ _ _ _ _ _ _ _);by_cases w4:r=4
  ·refine zq (b:=4) w4<|dp (E.v.at (l:=ls) (.tail _ (.tail _ (.head _)))) (List.length_map ..) ?_;by_cases q:1<E.ss.length
   ·exact qH (by lia)<|LQ E hL q λ E=>uz E (Nat.lt_succ_of_le hL) (dc hn vI (by simp+arith only)) λ E=>k _ _ E (bQ vI (by simp+arith only))
   ·exact kU (by lia) qN
  ·exact wx (b:=4) w4 qN
 by_cases q:(0:Int)<(L:Int)
 ·exact qH q<|lQ (m:=6) E.v (nc hn rfl) (by decide) λ r hr v=>main r (n+1) ⟨E.C,E.w,E.b,E.m,E.ch,E.sts,E.ss,E.R,v,E.oW,E.tT⟩ (Nat.le_refl _)
 ·exact kU (by lia)<|main 0 n E (Nat.le_succ _)
theorem VN(N:Nat)(k:∀n'(E':lA row wl bb ls N n'),n'<=700->qE (O (D+121)) P (.ref 3) (.ref ls) (.ref wl) E'.v.w.σ):∀(r L n:Nat)(vn:AV)(E:lA row wl bb ls L n),L+r=N->N<=6->n+5*r<=700->jX (O (D+121)) P (.ref 0) (.ref 3) vn (.ref ls) (.ref wl) (r+1) (.mM L 1 r) E.v.w.σ:=by
 intro bN;induction bN with
 |zero=>
  intro L n vn E e hN hn;obtain rfl:L=N:=e;exact BB<|.re<|k n E (hn)
 |succ r ih=>
  intro L n vn E e hN hn;exact BB<|.rs<|ZT E (dc (bS e) hN (by simp+arith only)) (C3 hn) λ n' vn E fK=>by have:=ih (L+1) n' vn E (Nat.le_antisymm (bQ (bS e) (by simp+arith only)) (bQ (b7 e) (by simp+arith only))) hN (dc hn fK (by simp+arith only));exact this
end
end
section
open PySem
noncomputable def jm:List aM:=[("a",[]),("b",[]),("c",[]),("f",[0]),("f",[1])]
theorem VO:∀i,i<5->∀k,jm[i]?=some k->k∉jm.take i/\(∀x∈k.2,x<i)/\k.2.length<=2/\eQ k.1=true/\jm.take (i+1)=jm.take i++[k]:=by decide
theorem VP(ns:List aM):(eD ns).length<=ns.length:=by unfold eD;have:=List.length_filter_le (qR ns) (List.range ns.length);simpa using this
theorem VQ:du qO.toCore:=by refine ⟨?_,?_,?_,?_,?_,?_,?_,?_,?_,?_,?_,?_,?_,?_,?_,?_,?_,?_,?_⟩<;>simp [qO,i0,d6,tQ,jI,AN,eD,dl,R1]
theorem Sr:dU qO.toCore [] 0 []:=⟨by simp [qO],by simp [qO],by decide⟩
section
variable{P:PV} {R:List aR} {row:List Int} {l D:Nat}
theorem Ss(hl:(l,.list (jm.map bq))∈R)(k:∀C w ch(v:LS (cC C w 0 [] ch) R),du C->dU C w 0 ch->C.ai=jm->a6 C.ay=[]->BD (O (D+121)) P (.ref 0) (.ref 3) (.ref l) v.w.σ):
  ∀(r i:Nat)(C:Core)(w:List Nat)(ch:List dB)(v:LS (cC C w 0 [] ch) R),i+r=5->du C->dU C w 0 ch->C.ai=jm.take i->a6 C.ay=[]->qC (O (D+121)) P (.ref 0) (.ref 3) (.ref l) (r+1) (.list l i) v.w.σ:=by
 intro bN;induction bN with
 |zero=>
  intro i C w ch v hi hg hs hn ht;obtain rfl:i=5:=hi;exact BE<|.le (v.at hl) (Nat.le_refl _)<|k C w ch v hg hs hn ht
 |succ r ih=>
  intro i C w ch v hi hg hs hn ht;obtain ⟨kn,rD⟩:∃k,jm[i]?=some k:=⟨_,List.getElem?_eq_getElem (show i<5 by exact nC (bS hi))⟩
  obtain ⟨b1,b2,b3,b4,b5⟩:=VO i (nC (bS hi)) kn rD;have hlen:C.ai.length=i:=by rw [hn,List.length_take];show min i 5=i;lia
  have tS:∀C':Core,a6 C'.ay=[]->C'.ai.length<=9->i5 C':=λ C' e1 e2=>⟨Nat.le_trans e2 (Nat.le_add_left ..),by rw [e1];have:=VP C'.ai;simp;exact Nat.le_trans this e2⟩
  have kh:=tS C ht (dc (bS hlen) (bS hi) (by simp+arith only));have gN:i5 (dg C kn):=tS _ (by show a6 C.ay=[];exact ht) (by show(C.ai++[kn]).length<=9;simp;exact dc (bS hlen) (bS hi) (by simp+arith only));have BM:=hs.known hg kh;obtain ⟨op,ks⟩:=kn;exact BE<|.ls (v.at hl) (x:=bq (op,ks)) (by rw [List.getElem?_map,rD];rfl)<|v.w.T3<|df<|ng<|Sp v hs hg kh gN (by simp) (nc (j5 BM) rfl) b4 (by rw [hn];exact b1) (λ x hx=>by rw [hlen];exact b2 x hx) b3 (D+114) λ C' w' cs v p g l' t n s=>ih (i+1) C' w' (ch++cs) v (Nat.le_antisymm (bQ (bS hi) (by simp+arith only)) (bQ (b7 hi) (by simp+arith only))) g s (ae n<|ae hn<|ae b5 rfl) (t.trans ht)
theorem Pj(x:AO)(k:∀wl bb ls n vn(E:lA row wl bb ls 0 n),n<=3->BC (O (D+121)) P (.ref 0) (.ref 3) vn (.ref ls) (.ref wl) E.v.w.σ):yf (O (D+121)) P (.ref 0) [dE 0,x,ei row]:=by
 refine OX (d:=D+116) (dE 0) x (ei row) λ v=>?_;let v1:LS (cC qO.toCore [] 0 [] []) ((0,dE 0)::(2,ei row)::[(v.w.σ.length,.list (jm.map bq)),(1,x)]):=(v.new (.list (jm.map bq))).bI ((List.Perm.swap _ _ _).trans (.cons _ ((List.Perm.cons _ (.swap _ _ _)).trans (.swap _ _ _))));have hl:(v.w.σ.length,AO.list (jm.map bq))∈(0,dE 0)::(2,ei row)::[(v.w.σ.length,AO.list (jm.map bq)),(1,x)]:=.tail _ (.tail _ (.head _));refine .t<|.l (v1.at hl) ⟨6,Ss hl (λ C w ch v hg hs hn ht=>?_) 5 0 qO.toCore [] [] v1 rfl VQ Sr rfl rfl⟩;have Su:(eD C.ai).length=2:=by refine ae hn ?_;decide
 have acA:k7 C 0:=⟨by refine ae hn ?_;decide,by refine ae ht<|ae Su ?_;decide,Nat.le_of_lt (b7 Su),by refine ae ht ?_;exact List.nodup_nil,by refine ae ht ?_;decide⟩
 have oW:fI 0 C w [] ch []:=⟨hg,hs,acA,.nil,by simp⟩
 have Um:C.ai.length=5:=by refine ae hn ?_;rfl
 refine B4 (L':=0) v (Nat.zero_le _) oW (Nat.le_refl _) (Nat.zero_le _) (Nat.lt_succ_of_le (bS Um)) (by refine ae ht<|ae Su ?_;decide) (j5 (b7 Um)) (by refine ae hn ?_;exact .head _) (D+113) λ C' w' cs n' jG X v fK nP B5 Ph=>?_;refine VL v (D+119) λ y b v=>?_;let v1:=v.new (.list []);let v2:=v1.new (.list [eE (jG,v.w.σ.length)]);refine .t<|k y b v1.w.σ.length n' (.ref jG) ⟨C',w',0,[],ch++cs,[],[(jG,v.w.σ.length)],(v.w.σ.length,.list [])::(X++[(_,.list (jm.map bq)),(1,x)]),v2.bI ?_,nP,⟨.tail _ B5,?_,trivial⟩⟩ (fK)
 ·unfold oL;refine (?_:List.Perm ((v1.w.σ.length,AO.list [eE (jG,v.w.σ.length)])::(v.w.σ.length,AO.list [])::(WC y 0 0 .none b (λ aa=>[]) []++((0,dE n')::(2,ei row)::(X++_)))) ((0,dE n')::(2,ei row)::(v1.w.σ.length,AO.list [eE (jG,v.w.σ.length)])::(WC y 0 0 .none b (λ aa=>[]) []++((v.w.σ.length,AO.list [])::(X++_)))));generalize (v1.w.σ.length,AO.list [eE (jG,v.w.σ.length)])=c1;generalize (v.w.σ.length,AO.list [])=c2;generalize WC y 0 0 .none b (λ aa=>[]) []=W;generalize X++_=Y;have p1:List.Perm (W++((0,dE n')::(2,ei row)::Y)) ((0,dE n')::(2,ei row)::(W++Y)):=List.perm_middle.trans (.cons _ List.perm_middle);refine (List.Perm.cons _ (.cons _ p1)).trans ((List.perm_middle (l₁:=[c1,c2]) (a:=((0,dE n'):aR))).trans (.cons _ ((List.perm_middle (l₁:=[c1,c2]) (a:=((2,ei row):aR))).trans (.cons _ (.cons _ (List.perm_middle (a:=c2) (l₁:=W) (l₂:=Y)).symm)))))
 ·show(v.w.σ.length,AO.list ((a6 C'.ay).map iu))∈_;refine ae (Ph.trans ht) ?_;exact .head _
end
end
section
open PySem
theorem ZU:∀i,i<9->eB i<=3280:=by decide
section
variable{P:PV} {R:List aR} {D:Nat} {C:Core} {w:List Nat} {b:Nat} {m:List (Nat×List Nat)} {ch:List dB} {L:Nat} {sts:List (List aM×List Ev)}
theorem Sv(hL:L<=6){va vb:AV}:∀(k:Nat)(i:Int)(C:Core)(w:List Nat)(b:Nat)(m:List (Nat×List Nat))(ch:List dB)(sts:List (List aM×List Ev))(v:LS (cC C w b m ch) R),m.length=k->fI L C w m ch sts->
  (∀C0 w0 lx(v':LS (cC C0 w0 (b+k) [] lx) R),fI L C0 w0 [] lx []->(sts++[(C.ai,a6 C.ay)])[0]?=some (C0.ai,a6 C0.ay)->(k=0->C0=C/\w0=w/\lx=ch)->E7 (O (D+121)) P (.ref 3) va vb v'.w.σ)->qD (O (D+121)) P (.ref 3) va vb (k+1) (.mM i 1 k) v.w.σ:=by
 intro bN;induction bN with
 |zero=>
  intro i C w b m ch sts v hm ht c;have em:m=[]:=List.length_eq_zero_iff.mp hm;subst em;have es:sts=[]:=List.length_eq_zero_iff.mp (by refine ae ht.F9.len ?_;rfl);subst es;exact Bv<|.re<|c C w ch v ht rfl λ aa=>⟨rfl,rfl,rfl⟩
 |succ k ih=>
  intro i C w b m ch sts v hm ht c;have Pf:=ht.cz;have hw:=ht.Ga hL;have yA:=ht.small.bj ht.ez (ht.mv.jq hL);have OV:=ht.F9;cases OV with
  |nil=>simp at hm
  |@push C0 _ w0 lx cs m0 zH h1 g0 s0 c0 p0=>simp only [List.length_append,List.length_cons,List.length_nil]at hm Pf yA;refine Bv<|.rs<|v.w.T4<|OW (P:=j4) (λ C ch hC=>⟨hC.ez.ok,hC.jf (nc hw rfl) (dc hL Pf (by simp+arith only))⟩) p0 v λ v=>ih _ C0 w0 (b+1) m0 lx zH v (Nat.le_antisymm (Nat.le_of_lt_succ (bS hm)) (Nat.le_of_lt_succ (b7 hm))) ⟨g0,s0,c0,h1,Nat.le_of_lt Pf⟩ ?_;refine ae (show b+1+k=b+(k+1) by exact Nat.add_right_comm ..) ?_;exact λ C1 w1 ZV v a4 a5 aa=>c C1 w1 ZV v a4 (by refine ae (List.getElem?_append_left (by simp)) ?_;exact a5) λ q=>by lia
theorem yH{p wl ln le:Nat}(v:WS (cC C w b m ch) wl p 0 R)(ht:fI L C w m ch sts)(hL:L<=6)(mn:(ln,AO.list (C.ai.map bq))∈R)(me:(le,AO.list ((a6 C.ay).map iu))∈R)(hp:p<=3280)(k:∀p'(v':WS (cC C w b m ch) wl p' 0 R),p'<=p+3280->P (.bool true) v'.w.w.σ):
  (O (D+121)).call .hO [.ref 3,.ref wl,.ref ln,.ref le] v.w.w.σ P:=by
 have hf:=ht.iw hL;have yG:=ht.Ga hL;have hm:=ht.cz;have hN:=hf.jq.1;have h8:=hf.ez.jJ hf.jq;have hs:=ZU C.ay.length (Nat.lt_succ_of_le h8);exact Ha (H:=cC C w b m ch) (dM:=a6 C.ay) (hf.mJ (nc yG rfl) (nc (Nat.le_trans hm hL) rfl)) (by show C.ai.length<=35;exact nc hN rfl) rfl ht.mv.nodup mn me v (by show p+eB C.ay.length<=20000;exact SQ hp hs rfl) λ p' v' jF=>k p' v' (by have:p'<=p+eB C.ay.length:=jF;exact dc this hs (by simp+arith only))
theorem iO.first{c:List aM×List Ev}:∀{ss:List (Nat×Nat)}{cs:List (List aM×List Ev)},iO R ss cs->cs[0]?=some c->∃s,ss[0]?=some s/\(s.1,AO.list (c.1.map bq))∈R/\(s.2,AO.list (c.2.map iu))∈R
 |s::ss,d::cs,h,e=>by
  simp only [List.getElem?_cons_zero,Option.some.injEq]at e;subst e;exact ⟨s,rfl,h.1,h.2.1⟩
 |[],[],_,e=>by simp at e
 |[],_::_,h,_=>h.elim
 |_::_,[],h,_=>h.elim
theorem VS{row:List Int}{wl bb ls n:Nat}(E:lA row wl bb ls L n)(hL:L<=6)(k:∀s,P (.bool true) s):qE (O (D+121)) P (.ref 3) (.ref ls) (.ref wl) E.v.w.σ:=by
 obtain ⟨C0,w0,b,m,lx,sts,ss,R,v0,ht0,ml⟩:=E;refine (?_:qE (O (D+121)) P (.ref 3) (.ref ls) (.ref wl) v0.w.σ);refine v0.w.wu<|oV v0 ht0 hL (D+114) λ C cs v ht h3 h4=>?_;rw [<-h3,<-h4]at ml;let E:lA row wl bb ls L n:=⟨C,[],b,m,lx++cs,sts,ss,R,v,ht,ml⟩
 have w7:ss.length=m.length+1:=E.ZR;have hm:=ht.cz;obtain ⟨jr,s,mw,k1,k2,k3⟩:=ml.qN;obtain ⟨ln,le⟩:=s;let v1:WS (cC C [] b m (lx++cs)) wl 0 0 ([(0,dE n),(2,ei row),(ls,.list (ss.map eE))]++R):=⟨⟨.none,bb,_,[]⟩,v.bI (by unfold oL;refine (?_:List.Perm ([(0,dE n),(2,ei row),(ls,AO.list (ss.map eE))]++(WC wl 0 0 .none bb (λ aa=>[]) []++R)) _);dsimp only [WG.C];rw [<-List.append_assoc,<-List.append_assoc];exact List.Perm.append_right _ List.perm_append_comm),⟨.nil,λ aa aa=>rfl⟩,.inl rfl⟩
 have cl:v1.w.w.σ[ls]?=some (.list (jr.map eE++[eE (ln,le)])):=(v1.at (k:=ls) (.tail _ (.tail _ (.head _)))).trans (by refine ae mw<|ae List.map_append ?_;rfl);refine zI cl<|df<|zI cl<|eZ<|yH v1 ht hL (List.mem_append_right _ k2) (List.mem_append_right _ k3) (Nat.zero_le _) λ p' v2 jF=>?_;refine (?_:E8 (O (D+121)) P (.ref 3) (.ref ls) (.ref wl) v2.w.w.σ);have ZW:∀A:List aR,(ls,AO.list (ss.map eE))∈A++([(0,dE n),(2,ei row),(ls,.list (ss.map eE))]++R):=λ A=>List.mem_append_right _ (.tail _ (.tail _ (.head _)));refine dp (v2.w.at (ZW (WC wl p' 0 v2.g.m v2.g.b v2.g.f v2.g.bs))) (List.length_map ..)<|lM w7<|zw (nc (Nat.le_trans hm hL) rfl) ⟨_,Sv hL m.length 0 C [] b m (lx++cs) sts v2.w rfl ht λ C1 w1 ZV v3 nP acB hz=>?_⟩;obtain ⟨⟨ln1,le1⟩,j1,j2,j3⟩:=ml.first acB;have fin:∀C2 Un(v4:LS (cC C2 [] (b+m.length) [] Un) (v2.g.C wl p' 0 ([(0,dE n),(2,ei row),(ls,.list (ss.map eE))]++R))),fI L C2 [] [] Un []->C2.ai=C1.ai->a6 C2.ay=a6 C1.ay->FI (cC C2 [] (b+m.length) [] Un) v2.g.m v2.g.f->E6 (O (D+121)) P (.ref 3) (.ref ls) (.ref wl) v4.w.σ:=λ C2 Un v4 xr n2 t2 acC=>by
  have e0:(ss.map eE)[0]?=some (eE (ln1,le1)):=by refine ae List.getElem?_map<|ae j1 ?_;rfl
  exact eY (v4.at (ZW (WC wl p' 0 v2.g.m v2.g.b v2.g.f v2.g.bs))) (i:=0) e0<|df<|eY (v4.at (ZW (WC wl p' 0 v2.g.m v2.g.b v2.g.f v2.g.bs))) (i:=0) e0<|eZ<|yH (C:=C2) (m:=[]) ⟨v2.g,v4,v2.ok,acC⟩ xr hL (List.mem_append_right _ (by refine ae n2 ?_;exact j2)) (List.mem_append_right _ (by refine ae t2 ?_;exact j3)) (jF) λ aa aa aa=>k _
 refine v3.w.wu ?_;by_cases q:m.length=0
 ·obtain ⟨rfl,rfl,rfl⟩:=hz q;refine BR (.done (nP.small.LK (b:=b+m.length) (m:=[]) nP.ez (nP.mv.jq hL) (by simp)) rfl) v3 λ v4=>fin _ _ v4 nP rfl rfl ?_;rcases v2.tM with Gf|⟨n',e',k',Gf,e6,himp⟩
  ·exact .inl Gf
  ·exact .inr ⟨n',e',k',Gf,Nat.le_trans e6 (Nat.le_add_right _ _),λ q1 q2(q3:k'=b+m.length)=>himp q1 q2 (by show k'=b;exact Nat.le_antisymm (dc (bS q) (bS q3) (by simp+arith only)) (C3 (b7 q3)))⟩
 ·refine oV v3 nP hL (D+114) λ C2 ZP v4 xr t2 n2=>fin C2 (ZV++ZP) v4 xr n2 t2 ?_;rcases v2.tM with Gf|⟨n',e',k',Gf,e6,himp⟩
  ·exact .inl Gf
  ·refine .inr ⟨n',e',k',Gf,Nat.le_trans e6 (Nat.le_add_right _ _),λ q1 q2(q3:k'=b+m.length)=>?_⟩;have:k'<=b:=e6;lia
theorem Sw{row:List Int}(x:AO)(k:∀s,P (.bool true) s):yf (O (D+121)) P (.ref 0) [dE 0,x,ei row]:=
 Pj x λ wl bb ls n vn E hn=>lQ (m:=3) E.v (nc hn rfl) (by decide) λ r hr v=>.i<|by
  have e:(4:Int)+(r:Int)=((4+r:Nat):Int):=by lia
  refine ae e ?_;exact zw (bQ hr (by simp+arith only)) ⟨_,VN (4+r) (λ n' E aa=>VS E (bQ hr (by simp+arith only)) k) (4+r) 0 (n+1) vn ⟨E.C,E.w,E.b,E.m,E.ch,E.sts,E.ss,E.R,v,E.oW,E.tT⟩ (Nat.zero_add _) (bQ hr (by simp+arith only)) (by lia)⟩
end
end
end Mine
end
section
open PySem PySem.W PyProof.Rows PySem.Calls
namespace Mine
section
inductive uA(a₀:Addr)(xs:List AV)(lo hi st:Option Int)(σ:U)(P:PV):AV->Prop
 |mk:st≠some 0->xs.length<=10000->(iV xs lo hi st).length<=10000->P (.ref σ.length) (σ++[.list (iV xs lo hi st)])->uA a₀ xs lo hi st σ P (.base a₀)
def IT(a₀:Addr)(xs:List AV)(o:AE)(lo hi st:Option AE):AE:=λ F ρ σ P=>o F ρ σ λ ov σ=>Dv lo F ρ σ λ l σ=>Dv hi F ρ σ λ h σ=>Dv st F ρ σ λ k σ=>uA a₀ xs l h k σ P ov
def CV(G:bC)(a₀:Addr)(xs:List AV):Prop:=∃o items n,G.h₀.get? a₀=some o/\o.cls=.type "list"/\o.data=.seq items n/\∀h lam,bB h lam xs items.toList
section
variable{Γ:dv} {a₀:Addr} {xs:List AV}
theorem Hf(hB:CV Γ.G a₀ xs)(K:Cx Γ){value slice:Expr}{ov:AV}{v vl vh vk:Value}{l h k:Option Int}{sl:Addr}{P:PV}{Q:Value->Shared->Prop}(Tf:K.w.s.heap.IsSliceOf sl vl vh vk)(pl:IsPart vl l)(ph:IsPart vh h)(pk:IsPart vk k)(p:uA a₀ xs l h k K.w.σ P ov)(hv:K.w.R ov v)(kk:K.KV P Q):
  K.wp (subscriptTail value slice v (.ref sl)) Q:=by
 obtain ⟨o,items,n,g1,gc,gd,g2⟩:=hB;have g1:=K.w.H.base _ _ g1;have g2:=g2 K.w.s.heap K.w.lam;have hlen:=g2.length;simp only [Array.length_toList]at hlen;have nK:=dh;induction p with
 |mk h0 hx hz p=>cases hv;refine hW (T:="list") ⟨_,g1,gc⟩ slot_list_getitem (by simp) (wpAny_getItem_list_slice ⟨_,g1,gc,_,gd⟩ Tf pl ph pk h0 (K.I5 kk p ?_ hz _) (by omega));unfold slicePick iV;refine ae hlen ?_;exact bB.filterMap g2 _
theorem Pk(hB:CV Γ.G a₀ xs){e:Expr}{lower upper step:Option Expr}{p pos:Pos}{c:AE}{lo hi st:Option AE}(ho:bf Γ e c)(hl:lV Γ lower lo)(hh:lV Γ upper hi)(hs:lV Γ step st):
  bf Γ (.Subscript e (.Slice lower upper step p) pos) (IT a₀ xs c lo hi st):=λ K P Q hc k=>
 Subscript_ (ho K.r hc λ v ov yU l9 p hv=>wpAny_Slice (hl.bW (K.up yU l9).r p λ vl l dW d1 p pl=>hh.bW (K.up dW (l9.tr d1)).r p λ vh h nI pY p ph=>hs.bW (K.up nI ((l9.tr d1).tr pY)).r p λ vk kk oO Jo p pk=>
  have h5:=oO.H.i6 (s':={oO.s with heap:=oO.s.heap.push {cls:=.type "slice",data:=.fields #[vl,vh,vk]}}) (λ b o e=>Heap.get?_push_of_some _ e) rfl rfl
  Hf hB (K.up ⟨_,_,_,h5.1⟩ ((((l9.tr d1).tr pY).tr Jo).tr h5.2)) (Heap.IsSliceOf.new ..) pl ph pk p (VR.bo h5.2.kx (St.R.up hv (St.Le.tr d1 (St.Le.tr pY Jo)))) k))
end
end
section
def IU:Nat->AR:=dG [] (a_ "cell") (kL (aB (bM [af "cell"] Jf) (aY 1000003) pW))
def ZX(a₀:Addr)(xs:List AV):AS:=aI (HQ "row" "at" (d3 (fq (IT a₀ xs (af "script") none (some (aY 50)) none)) [] IU) (aY 0)) (a_ "feed")
def LR(a₀:Addr)(xs:List AV):AS:=aw (ZX a₀ xs) Em
noncomputable def Gg:List String:=["script"]
section
variable{G:bC} {d:Nat} {F:b_} {a₀:Addr} {xs:List AV}
theorem aa5(hB:CV G a₀ xs)(W:Wd G)(V:Gl G)(O:∀sc,nH ⟨G,d,F,sc⟩)(OM:∀sc,y7 ⟨G,d,F,sc⟩):SB G d F [31] (LR a₀ xs):=
 ag (aC (MG (eq_false (by decide)) (jN (ns:=[]) (fs:=[]) rfl (dw (Pk hB (ab rfl rfl) .none (.some aD) .none)) (λ env x=>rfl) (aG rfl) (b8 (ba W V.int rfl rfl (cZ _) (.cons (ab rfl rfl) rfl .nil) PS) aD I4)) aD) (aG rfl) rfl rfl rfl) (X4 W V O OM)
end
end
end Mine
end
section
namespace Mine
section
open PySem
section
variable{F:b_} {P:PV} {a₀:Addr} {xs:List AV} {s:U}
def uB(F:b_)(n:Nat)(x:aP)(l:Nat)(s:U)(Q:U->Prop):Prop:=IU n x l F (dj []) s Q
def Sx(F:b_)(n:Nat)(x:aP)(l:Nat)(s:U)(Q:U->Prop):Prop:=cL s (Q s) (λ t x=>Jf s (λ u s=>pW s (λ v s=>b6 v s (λ s=>uB F n x l s Q) l) u (.int 1000003)) [t]) x
theorem Gi{n:Nat}{x:aP}{l:Nat}{Q:U->Prop}(h:Sx F n x l s Q):uB F (n+1) x l s Q:=Eq.mp (by kernel_rfl) h
def aa6(F:b_)(P:PV)(a₀:Addr)(xs:List AV)(s:U):Prop:=uA a₀ xs none (some 50) none (s++[.dS []]) (λ t1 s1=>d2 s1 (λ x=>eJ s1 (λ t2 s2=>s2[s.length]?=some (.dS [])/\yf F P (.ref s.length) (s2.set s.length (.dS [("row",t2),("at",.int 0)]))) λ n l s3 Q=>uB F n x l s3 Q) t1) (.base a₀)
theorem aa7(h:aa6 F P a₀ xs s):HC Gg (LR a₀ xs) F [.base a₀] s P:=⟨rfl,Eq.mp (by kernel_rfl) h⟩
theorem LU{a:AO}{zs:List Int}(hz:zs.length<=50){Q:U->Prop}(q:Q [a,.list (zs.map AV.int),ei (zs.map (· %1000003))]):∀r i,i+r=zs.length->uB F (r+1) (.list 1 i) 2 [a,.list (zs.map AV.int),ei ((zs.take i).map (· %1000003))] Q:=by
 intro bN;induction bN with
 |zero=>
  intro i e;refine Gi<|.le rfl (by rw [List.length_map];exact (b7 e)) ?_;refine ae (List.take_of_length_le ((b7 e))) ?_;exact q
 |succ r ih=>intro i e;have he:=List.getElem?_eq_getElem (l:=zs) (i:=i) (nC (bS e));generalize zs[i]'_=z at he;refine Gi<|.ls (x:=.int z) rfl (by refine ae List.getElem?_map<|ae he ?_;rfl)<|.i<|.mk ⟨by decide,.mk rfl (by simp;exact fb (Nat.le_trans (Nat.min_le_right (i) (zs.length)) hz) rfl) ?_⟩;have:=ih (i+1) (Nat.le_antisymm (bQ (bS e) (by simp+arith only)) (bQ (b7 e) (by simp+arith only)));rw [List.take_add_one,he,List.map_append]at this;simp only [ei,List.map_append]at this⊢;exact this
theorem Sy{zs:List Int}(hz:zs.length<=63):HC Gg (LR a₀ (zs.map AV.int)) (O 121) [.base a₀] [] λ v aa=>v=.bool true:=by
 have e:iV (zs.map AV.int) none (some 50) none=(zs.take 50).map AV.int:=by refine ae List.map_take ?_;exact IH _ 50
 refine aa7<|.mk (by decide) (by simp;exact nc hz rfl) (by refine ae e ?_;simp;exact nc (Nat.min_le_left (50) (zs.length)) rfl) ?_;refine ae e ?_;exact .l rfl ⟨(zs.take 50).length+1,LU (zs:=zs.take 50) (List.length_take_le ..) ⟨rfl,Sw (D:=0) _ λ aa=>rfl⟩ _ 0 (Nat.zero_add _)⟩
end
end
end Mine
end
section
open PySem PySem.W PyProof.Rows PySem.Calls
namespace Mine
section
section
variable{α:Type} {Q:List α->Prop}
theorem lS{n:Nat}(h:∀a(vs:List α),vs.length=n->Q (a::vs)):∀vs:List α,vs.length=n+1->Q vs:=λ vs e=>by
 cases vs with
 |nil=>cases e
 |cons a vs=>exact h a vs (Nat.succ.inj e)
theorem l0(h:Q []):∀vs:List α,vs.length=0->Q vs:=λ aa e=>List.eq_nil_of_length_eq_zero e▸h
theorem l1(h:∀a,Q [a]):∀vs:List α,vs.length=1->Q vs:=lS λ a=>l0 (Q:=λ vs=>Q (a::vs)) (h a)
theorem l2(h:∀a b,Q [a,b]):∀vs:List α,vs.length=2->Q vs:=lS λ a=>l1 (Q:=λ vs=>Q (a::vs)) (h a)
theorem l3(h:∀a b c,Q [a,b,c]):∀vs:List α,vs.length=3->Q vs:=lS λ a=>l2 (Q:=λ vs=>Q (a::vs)) (h a)
theorem l4(h:∀a b c d,Q [a,b,c,d]):∀vs:List α,vs.length=4->Q vs:=lS λ a=>l3 (Q:=λ vs=>Q (a::vs)) (h a)
end
theorem b2{a b:Bool}(h:(a&&b)=true):a=true/\b=true:=Bool.and_eq_true_iff.mp h
theorem bn{a:Bool}(h:(!a)=true):a=false:=(Bool.not_eq_true' a).mp h
noncomputable def aa8(sc:Scope)(ns:List String):Bool:=
 (ns.all λ n=>sc.names.lookup (Str.ofString n)==some .local||sc.names.lookup (Str.ofString n)==some .cell)&&sc.names.all (λ x=>x.2!=.free)&&decide (sc.names.map (·.1)).Nodup&&(sc.kind==.function)&&!sc.isCoroutine&&!sc.isGenerator
noncomputable def Uo(XM:List (Str×Addr))(ct:Value)(A:Addr)(jb:List Nat)(n q m:String)(t:Tok):FuncData:=
 {name:=Str.ofString n,qualname:=Str.ofString q,params:=nT (aT pw jb),body:=.stmts (bt (aT pw jb)),scope:=bc (aT pw jb),globals:=mainGlobals,closure:=XM,defaults:=.none,kwdefaults:=.none,doc:=.none,pyModule:=vS m t,annotations:=none,code:=.ref (A -1),closureTuple:=ct,builtins:=builtinsNs}
noncomputable def ZY:Addr->List Nat->String->String->String->Tok->FuncData:=Uo [] .none
noncomputable def Sz:List (Str×Addr):=[(Str.ofString "__class__",513)]
section
variable{G:bC} {P:Params} (hK:G.K=KA pw P)
include hK
theorem fo{ns:List String}(A:Addr)(jb:List Nat)(n q m:String)(t:Tok)(hl:(KA pw P).lookup A=some ⟨.type "function",none,.func (ZY A jb n q m t),#[]⟩)(LV:codeIn (KA pw P) (.ref (A -1)) (Str.ofString q)=true)
  (ck:aa8 (bc (aT pw jb)) ns=true)(hb:∀vs:List Value,vs.length=ns.length->bindArgs (ZY A jb n q m t) ⟨vs,[]⟩=pure ((ns.map Str.ofString).zip vs)):cY G A ns (bc (aT pw jb)) (bt (aT pw jb)):=
 have c5:=b2 ck;have c4:=b2 c5.1;have c3:=b2 c4.1;have c2:=b2 c3.1;have c1:=b2 c2.1
 ⟨⟨_,ZY A jb n q m t,hK▸hl,rfl,hK▸LV,rfl,rfl,rfl,rfl,rfl,hb⟩,λ x hx=>(Bool.or_eq_true_iff.mp (List.all_eq_true.mp c1.1 x hx)).imp eq_of_beq eq_of_beq,λ x hx=>bne_iff_ne.mp (List.all_eq_true.mp c1.2 _ (gA hx)) rfl,of_decide_eq_true c2.2,eq_of_beq c3.2,bn c4.2,bn c5.2⟩
noncomputable def ZZ(sc:Scope)(ns:List String):Bool:=
 (ns.all λ n=>sc.names.lookup (Str.ofString n)==some .local)&&sc.names.all (λ x=>x.2!=.cell)&&sc.names.all (λ x=>x.2!=.free||x.1==Str.ofString "__class__")&&
 (sc.names.lookup ("super":Str)==some .globalImplicit)&&(sc.names.lookup ("__class__":Str)==some .free)&&(sc.names.lookup (Str.ofString "self")==some .local)&&(sc.kind==.function)&&!sc.isCoroutine&&!sc.isGenerator
theorem fs{ns:List String}(hp:G.prog=pw)(A:Addr)(jb:List Nat)(n q m:String)(t:Tok)(c:Value)(t2 u:Nat)(ln ac:Int){ar:Arg}(hl:(KA pw P).lookup A=some ⟨.type "function",none,.func (Uo Sz c A jb n q m t),#[]⟩)(LV:codeIn (KA pw P) (.ref (A -1)) (Str.ofString q)=true)
  (ck:ZZ (bc (aT pw jb)) ns=true)(hb:∀vs:List Value,vs.length=ns.length->bindArgs (Uo Sz c A jb n q m t) ⟨vs,[]⟩=pure ((ns.map Str.ofString).zip vs))
  (har:((nT (aT pw jb)).posonlyargs++(nT (aT pw jb)).args).head?=some ar)(ear:ar.arg=Str.ofString "self")
  (hc:(KA pw P).lookup (A -1)=some (cS (A -1) n q t2 ln ac u).2)(aa9:((pw.main.file:Str)==Str.ofString "/claim/cut.py")=true):ji G A ns (bc (aT pw jb)) (bt (aT pw jb)):=
 have c8:=b2 ck;have c7:=b2 c8.1;have c6:=b2 c7.1;have c5:=b2 c6.1;have c4:=b2 c5.1;have c3:=b2 c4.1;have c2:=b2 c3.1;have c1:=b2 c2.1
 ⟨⟨_,_,Uo Sz c A jb n q m t,_,A -1,_,_,_,_,_,_,ar,hK▸hl,rfl,hK▸LV,rfl,rfl,rfl,rfl,rfl,hb,har,ear,hK▸hc,rfl,hp▸aa9⟩,λ x hx=>eq_of_beq (List.all_eq_true.mp c1.1 x hx),λ x hx=>bne_iff_ne.mp (List.all_eq_true.mp c1.2 x hx),
  λ x hx=>(Bool.or_eq_true_iff.mp (List.all_eq_true.mp c2.2 _ (gA hx))).elim (λ h=>absurd rfl (bne_iff_ne.mp h)) λ h=>cH (eq_of_beq h),eq_of_beq c3.2,eq_of_beq c4.2,eq_of_beq c5.2,eq_of_beq c6.2,bn c7.2,bn c8.2⟩
end
section
variable{G:bC} {P:Params} (hK:G.K=KA pw P) (hp:G.prog=pw)
include hK hp
theorem Pl:cY G 109 Ad (bc (aT pw [10])) (bt (aT pw [10])):=fo hK 109 [10] "mark_of" "mark_of" "alikeheap.whys" 301 (by kernel_rfl) (by kernel_rfl) (by kernel_rfl) (l1 (λ aa=>by kernel_rfl))
theorem Hg:cY G 116 uW (bc (aT pw [11])) (bt (aT pw [11])):=fo hK 116 [11] "told_term" "told_term" "alikeheap.whys" 301 (by kernel_rfl) (by kernel_rfl) (by kernel_rfl) (l2 (λ aa aa=>by kernel_rfl))
theorem zJ:cY G 121 pC (bc (aT pw [12])) (bt (aT pw [12])):=fo hK 121 [12] "paper_of_edge" "paper_of_edge" "alikeheap.whys" 301 (by kernel_rfl) (by kernel_rfl) (by kernel_rfl) (l2 (λ aa aa=>by kernel_rfl))
theorem Gj:cY G 126 sD (bc (aT pw [13])) (bt (aT pw [13])):=fo hK 126 [13] "joined_row" "joined_row" "alikeheap.whys" 301 (by kernel_rfl) (by kernel_rfl) (by kernel_rfl) (l3 (λ aa aa aa=>by kernel_rfl))
theorem Hh:cY G 140 uY (bc (aT pw [14,0])) (bt (aT pw [14,0])):=fo hK 140 [14,0] "__init__" "Whys.__init__" "alikeheap.whys" 301 (by kernel_rfl) (by kernel_rfl) (by kernel_rfl) (l2 (λ aa aa=>by kernel_rfl))
theorem LW:cY G 147 xF (bc (aT pw [14,1])) (bt (aT pw [14,1])):=fo hK 147 [14,1] "renewed" "Whys.renewed" "alikeheap.whys" 301 (by kernel_rfl) (by kernel_rfl) (by kernel_rfl) (l1 (λ aa=>by kernel_rfl))
theorem VT:cY G 154 HZ (bc (aT pw [14,2])) (bt (aT pw [14,2])):=fo hK 154 [14,2] "path" "Whys.path" "alikeheap.whys" 301 (by kernel_rfl) (by kernel_rfl) (by kernel_rfl) (l4 (λ aa aa aa aa=>by kernel_rfl))
theorem LY:cY G 168 xG (bc (aT pw [14,4])) (bt (aT pw [14,4])):=fo hK 168 [14,4] "between" "Whys.between" "alikeheap.whys" 301 (by kernel_rfl) (by kernel_rfl) (by kernel_rfl) (l4 (λ aa aa aa aa=>by kernel_rfl))
theorem Pm:cY G 173 Al (bc (aT pw [14,5])) (bt (aT pw [14,5])):=fo hK 173 [14,5] "of_edge" "Whys.of_edge" "alikeheap.whys" 301 (by kernel_rfl) (by kernel_rfl) (by kernel_rfl) (l2 (λ aa aa=>by kernel_rfl))
theorem VU:cY G 185 H2 (bc (aT pw [16])) (bt (aT pw [16])):=fo hK 185 [16] "is_op" "is_op" "alikeheap.terms" 427 (by kernel_rfl) (by kernel_rfl) (by kernel_rfl) (l1 (λ aa=>by kernel_rfl))
theorem Hi:cY G 199 uZ (bc (aT pw [17,0])) (bt (aT pw [17,0])):=fo hK 199 [17,0] "__init__" "Bank.__init__" "alikeheap.terms" 427 (by kernel_rfl) (by kernel_rfl) (by kernel_rfl) (l1 (λ aa=>by kernel_rfl))
theorem Hj:cY G 206 u4 (bc (aT pw [17,1])) (bt (aT pw [17,1])):=fo hK 206 [17,1] "size" "Bank.size" "alikeheap.terms" 427 (by kernel_rfl) (by kernel_rfl) (by kernel_rfl) (l1 (λ aa=>by kernel_rfl))
theorem VV:cY G 211 H3 (bc (aT pw [17,2])) (bt (aT pw [17,2])):=fo hK 211 [17,2] "take" "Bank.take" "alikeheap.terms" 427 (by kernel_rfl) (by kernel_rfl) (by kernel_rfl) (l3 (λ aa aa aa=>by kernel_rfl))
theorem LZ:cY G 218 xK (bc (aT pw [17,3])) (bt (aT pw [17,3])):=fo hK 218 [17,3] "require" "Bank.require" "alikeheap.terms" 427 (by kernel_rfl) (by kernel_rfl) (by kernel_rfl) (l2 (λ aa aa=>by kernel_rfl))
theorem L0:cY G 239 xM (bc (aT pw [17,6])) (bt (aT pw [17,6])):=fo hK 239 [17,6] "cut" "Bank.cut" "alikeheap.terms" 427 (by kernel_rfl) (by kernel_rfl) (by kernel_rfl) (l2 (λ aa aa=>by kernel_rfl))
theorem aa_:cY G 246 TS (bc (aT pw [17,7])) (bt (aT pw [17,7])):=fo hK 246 [17,7] "op" "Bank.op" "alikeheap.terms" 427 (by kernel_rfl) (by kernel_rfl) (by kernel_rfl) (l2 (λ aa aa=>by kernel_rfl))
theorem VX:cY G 253 H4 (bc (aT pw [17,8])) (bt (aT pw [17,8])):=fo hK 253 [17,8] "kids" "Bank.kids" "alikeheap.terms" 427 (by kernel_rfl) (by kernel_rfl) (by kernel_rfl) (l2 (λ aa aa=>by kernel_rfl))
theorem VY:cY G 265 H5 (bc (aT pw [17,10])) (bt (aT pw [17,10])):=fo hK 265 [17,10] "term" "Bank.term" "alikeheap.terms" 427 (by kernel_rfl) (by kernel_rfl) (by kernel_rfl) (l2 (λ aa aa=>by kernel_rfl))
theorem Pn:cY G 272 Ax (bc (aT pw [17,11])) (bt (aT pw [17,11])):=fo hK 272 [17,11] "weight" "Bank.weight" "alikeheap.terms" 427 (by kernel_rfl) (by kernel_rfl) (by kernel_rfl) (l2 (λ aa aa=>by kernel_rfl))
theorem Cv:cY G 307 rh (bc (aT pw [19,0])) (bt (aT pw [19,0])):=fo hK 307 [19,0] "__init__" "Unions.__init__" "alikeheap.unions" 566 (by kernel_rfl) (by kernel_rfl) (by kernel_rfl) (l1 (λ aa=>by kernel_rfl))
theorem VZ:cY G 314 H6 (bc (aT pw [19,1])) (bt (aT pw [19,1])):=fo hK 314 [19,1] "make" "Unions.make" "alikeheap.unions" 566 (by kernel_rfl) (by kernel_rfl) (by kernel_rfl) (l1 (λ aa=>by kernel_rfl))
theorem Cw:cY G 321 ri (bc (aT pw [19,2])) (bt (aT pw [19,2])):=fo hK 321 [19,2] "size" "Unions.size" "alikeheap.unions" 566 (by kernel_rfl) (by kernel_rfl) (by kernel_rfl) (l1 (λ aa=>by kernel_rfl))
theorem SA:cY G 328 D4 (bc (aT pw [19,3])) (bt (aT pw [19,3])):=fo hK 328 [19,3] "find" "Unions.find" "alikeheap.unions" 566 (by kernel_rfl) (by kernel_rfl) (by kernel_rfl) (l2 (λ aa aa=>by kernel_rfl))
theorem Po:cY G 335 Ay (bc (aT pw [19,4])) (bt (aT pw [19,4])):=fo hK 335 [19,4] "merge" "Unions.merge" "alikeheap.unions" 566 (by kernel_rfl) (by kernel_rfl) (by kernel_rfl) (l3 (λ aa aa aa=>by kernel_rfl))
theorem L1:cY G 342 xQ (bc (aT pw [19,5])) (bt (aT pw [19,5])):=fo hK 342 [19,5] "members" "Unions.members" "alikeheap.unions" 566 (by kernel_rfl) (by kernel_rfl) (by kernel_rfl) (l2 (λ aa aa=>by kernel_rfl))
theorem V0:cY G 361 H8 (bc (aT pw [19,8])) (bt (aT pw [19,8])):=fo hK 361 [19,8] "back" "Unions.back" "alikeheap.unions" 566 (by kernel_rfl) (by kernel_rfl) (by kernel_rfl) (l2 (λ aa aa=>by kernel_rfl))
theorem V1:cY G 368 H9 (bc (aT pw [19,9])) (bt (aT pw [19,9])):=fo hK 368 [19,9] "cut" "Unions.cut" "alikeheap.unions" 566 (by kernel_rfl) (by kernel_rfl) (by kernel_rfl) (l2 (λ aa aa=>by kernel_rfl))
theorem Hk:cY G 389 u5 (bc (aT pw [21,0])) (bt (aT pw [21,0])):=fo hK 389 [21,0] "__init__" "Heap.__init__" "alikeheap.heap" 671 (by kernel_rfl) (by kernel_rfl) (by kernel_rfl) (l1 (λ aa=>by kernel_rfl))
theorem Hl:cY G 396 u6 (bc (aT pw [21,1])) (bt (aT pw [21,1])):=fo hK 396 [21,1] "size" "Heap.size" "alikeheap.heap" 671 (by kernel_rfl) (by kernel_rfl) (by kernel_rfl) (l1 (λ aa=>by kernel_rfl))
theorem V2:cY G 401 H_ (bc (aT pw [21,2])) (bt (aT pw [21,2])):=fo hK 401 [21,2] "node" "Heap.node" "alikeheap.heap" 671 (by kernel_rfl) (by kernel_rfl) (by kernel_rfl) (l2 (λ aa aa=>by kernel_rfl))
theorem Z0:cY G 406 M7 (bc (aT pw [21,3])) (bt (aT pw [21,3])):=fo hK 406 [21,3] "add" "Heap.add" "alikeheap.heap" 671 (by kernel_rfl) (by kernel_rfl) (by kernel_rfl) (l3 (λ aa aa aa=>by kernel_rfl))
theorem L2:cY G 420 xT (bc (aT pw [21,5])) (bt (aT pw [21,5])):=fo hK 420 [21,5] "look_at" "Heap.look_at" "alikeheap.heap" 671 (by kernel_rfl) (by kernel_rfl) (by kernel_rfl) (l2 (λ aa aa=>by kernel_rfl))
theorem V3:cY G 427 Ib (bc (aT pw [21,6])) (bt (aT pw [21,6])):=fo hK 427 [21,6] "find" "Heap.find" "alikeheap.heap" 671 (by kernel_rfl) (by kernel_rfl) (by kernel_rfl) (l2 (λ aa aa=>by kernel_rfl))
theorem SD:cY G 441 D_ (bc (aT pw [21,8])) (bt (aT pw [21,8])):=fo hK 441 [21,8] "merge" "Heap.merge" "alikeheap.heap" 671 (by kernel_rfl) (by kernel_rfl) (by kernel_rfl) (l4 (λ aa aa aa aa=>by kernel_rfl))
theorem SE:cY G 448 D' (bc (aT pw [21,9])) (bt (aT pw [21,9])):=fo hK 448 [21,9] "join" "Heap.join" "alikeheap.heap" 671 (by kernel_rfl) (by kernel_rfl) (by kernel_rfl) (l4 (λ aa aa aa aa=>by kernel_rfl))
theorem Pp:cY G 455 AQ (bc (aT pw [21,10])) (bt (aT pw [21,10])):=fo hK 455 [21,10] "settle" "Heap.settle" "alikeheap.heap" 671 (by kernel_rfl) (by kernel_rfl) (by kernel_rfl) (l1 (λ aa=>by kernel_rfl))
theorem rG:ji G 525 mE (bc (aT pw [23,0])) (bt (aT pw [23,0])):=fs hK hp 525 [23,0] "__init__" "Levels.__init__" "alikeheap.levels" 842 (.ref 518) 856 861 318 1 (by kernel_rfl) (by kernel_rfl) (by kernel_rfl) (l1 (λ aa=>by kernel_rfl)) rfl (by kernel_rfl) (by kernel_rfl) (by kernel_rfl)
theorem V4:cY G 539 Ig (bc (aT pw [23,2])) (bt (aT pw [23,2])):=fo hK 539 [23,2] "push" "Levels.push" "alikeheap.levels" 842 (by kernel_rfl) (by kernel_rfl) (by kernel_rfl) (l1 (λ aa=>by kernel_rfl))
theorem Z1:cY G 546 M' (bc (aT pw [23,3])) (bt (aT pw [23,3])):=fo hK 546 [23,3] "pop" "Levels.pop" "alikeheap.levels" 842 (by kernel_rfl) (by kernel_rfl) (by kernel_rfl) (l1 (λ aa=>by kernel_rfl))
theorem B6:ji G 554 sV (bc (aT pw [23,4])) (bt (aT pw [23,4])):=fs hK hp 554 [23,4] "look_at" "Levels.look_at" "alikeheap.levels" 842 (.ref 547) 888 895 345 2 (by kernel_rfl) (by kernel_rfl) (by kernel_rfl) (l2 (λ aa aa=>by kernel_rfl)) rfl (by kernel_rfl) (by kernel_rfl) (by kernel_rfl)
theorem IV:ji G 562 zd (bc (aT pw [23,5])) (bt (aT pw [23,5])):=fs hK hp 562 [23,5] "join" "Levels.join" "alikeheap.levels" 842 (.ref 555) 898 908 354 4 (by kernel_rfl) (by kernel_rfl) (by kernel_rfl) (l4 (λ aa aa aa aa=>by kernel_rfl)) rfl (by kernel_rfl) (by kernel_rfl) (by kernel_rfl)
theorem Pq:cY G 567 AU (bc (aT pw [23,6])) (bt (aT pw [23,6])):=fo hK 567 [23,6] "unmake" "Levels.unmake" "alikeheap.levels" 842 (by kernel_rfl) (by kernel_rfl) (by kernel_rfl) (l2 (λ aa aa=>by kernel_rfl))
theorem Pt:cY G 574 AW (bc (aT pw [23,7])) (bt (aT pw [23,7])):=fo hK 574 [23,7] "unjoin" "Levels.unjoin" "alikeheap.levels" 842 (by kernel_rfl) (by kernel_rfl) (by kernel_rfl) (l2 (λ aa aa=>by kernel_rfl))
theorem V5:cY G 586 Ih (bc (aT pw [25])) (bt (aT pw [25])):=fo hK 586 [25] "_law_pick" "_law_pick" "law_rh0019_01" 940 (by kernel_rfl) (by kernel_rfl) (by kernel_rfl) (l2 (λ aa aa=>by kernel_rfl))
theorem SG:cY G 591 Ei (bc (aT pw [26])) (bt (aT pw [26])):=fo hK 591 [26] "_law_term" "_law_term" "law_rh0019_01" 940 (by kernel_rfl) (by kernel_rfl) (by kernel_rfl) (l2 (λ aa aa=>by kernel_rfl))
theorem V6:cY G 596 Ij (bc (aT pw [27])) (bt (aT pw [27])):=fo hK 596 [27] "_law_more" "_law_more" "law_rh0019_01" 940 (by kernel_rfl) (by kernel_rfl) (by kernel_rfl) (l3 (λ aa aa aa=>by kernel_rfl))
theorem SH:cY G 601 Ek (bc (aT pw [28])) (bt (aT pw [28])):=fo hK 601 [28] "_law_sides" "_law_sides" "law_rh0019_01" 940 (by kernel_rfl) (by kernel_rfl) (by kernel_rfl) (l3 (λ aa aa aa=>by kernel_rfl))
theorem Pu:cY G 608 A5 (bc (aT pw [29])) (bt (aT pw [29])):=fo hK 608 [29] "_law_labels" "_law_labels" "law_rh0019_01" 940 (by kernel_rfl) (by kernel_rfl) (by kernel_rfl) (l1 (λ aa=>by kernel_rfl))
theorem Hm:cY G 613 vj (bc (aT pw [30])) (bt (aT pw [30])):=fo hK 613 [30] "_law_are_right" "_law_are_right" "law_rh0019_01" 940 (by kernel_rfl) (by kernel_rfl) (by kernel_rfl) (l4 (λ aa aa aa aa=>by kernel_rfl))
end
end
section
section
variable{G:bC} {P:Params} (hK:G.K=KA pw P) (hp:G.prog=pw)
theorem acD(P:Params):∀f:Fn,fnIn (KA pw P) f.bw=true:=L9 (by kernel_rfl)
theorem SI(P:Params):∀f:Fn,typeIn (KA pw P) (.ref f.bw)=some (.type "function"):=λ f=>eq_of_beq (L9 (Q:=λ n=>typeIn (KA pw P) (.ref n)==some (.type "function")) (by kernel_rfl) f)
theorem acE(P:Params):∀c:d_,findIn (KA pw P) (.ref c.bw) "__getattribute__"=some (some (.builtin "object.__getattribute__")):=by intro c;cases c<;>kernel_rfl
theorem acF(P:Params):∀c:d_,findIn (KA pw P) (.ref c.bw) "__getattr__"=some none:=by intro c;cases c<;>kernel_rfl
theorem acG(P:Params):∀c:d_,findIn (KA pw P) (.ref c.bw) "__setattr__"=some (some (.builtin "object.__setattr__")):=by intro c;cases c<;>kernel_rfl
theorem acH(P:Params):∀c:d_,hasDictIn (KA pw P) c.bw=true:=by intro c;cases c<;>kernel_rfl
theorem acI(P:Params):∀c:d_,plainOver (KA pw P) c.bw=true:=by intro c;cases c<;>kernel_rfl
theorem acJ(P:Params):∀c:d_,makesIn (KA pw P) c.bw=true:=by intro c;cases c<;>kernel_rfl
theorem k_in(P:Params):∀c:d_,findIn (KA pw P) (.ref c.bw) "__init__"=some (some (.ref (rK c).bw)):=by intro c;cases c<;>kernel_rfl
theorem Z2(P:Params):∀c:d_,keepIn (KA pw P) (.ref c.bw)=true:=by intro c;cases c<;>kernel_rfl
theorem k_meth(P:Params):∀c m f,wU c m=some f->findIn (KA pw P) (.ref c.bw) (Str.ofString m)=some (some (.ref f.bw)):=λ c m f h=>by have:=Hr (P:=λ m f=>findIn (KA pw P) (.ref c.bw) (Str.ofString m)==some (some (.ref f.bw))) m f (SR c) h (by cases c<;>kernel_rfl);simpa using this
theorem Z3(P:Params):∀(c:d_)(x:String),(fT c).contains x=true->findIn (KA pw P) (.ref c.bw) (Str.ofString x)=some none:=by
 intro c x h;have key:∀(l:List String),(l.all λ y=>findIn (KA pw P) (.ref c.bw) (Str.ofString y)==some none)=true->l.contains x=true->findIn (KA pw P) (.ref c.bw) (Str.ofString x)=some none:=λ l h1 h2=>by rw [List.all_eq_true]at h1;have:=h1 x (by simpa using h2);simpa using this
 refine key _ ?_ h;cases c<;>kernel_rfl
theorem aa'(P:Params):(KA pw P).lookup sysModules=some (boot_o_1 P):=by kernel_rfl
theorem Z4(P:Params):(KA pw P).lookup 513=some ⟨.type "cell",none,.cell (some (.ref 577)),#[]⟩:=by kernel_rfl
theorem k_cls(P:Params):(clsIn (KA pw P) 577).isSome=true:=by kernel_rfl
theorem k_sub(P:Params):mroIn (KA pw P) 577 (.ref 577)=some true:=by kernel_rfl
theorem Pw(P:Params):nsIn (KA pw P) mainGlobals "super"=some none:=by kernel_rfl
theorem L3(P:Params):nsIn (KA pw P) cStatics "thirdparty.any"=some none:=by kernel_rfl
theorem aba:(pw.main.scope.names.lookup ("super":Str)).isSome=false:=by kernel_rfl
theorem abb(P:Params):∀m f,Jz m=some f->ks_superIn (KA pw P) 577 577 (Str.ofString m)=some (some (.ref f.bw)):=λ m f h=>by have:=Hr (P:=λ m f=>ks_superIn (KA pw P) 577 577 (Str.ofString m)==some (some (.ref f.bw))) m f Xo h (by kernel_rfl);simpa using this
theorem acK(hK:G.K=KA pw P)(X:G.K.In G.h₀)(b:∃mb,G.h₀.Ns builtinsNs mb/\∀x:Str,x≠"__name__"->mb x=bootBuiltins x)(nolimit:G.h₀.NoLimit)(nodigits:∃mc,G.h₀.Ns cStatics mc/\mc "sys.int_max_str_digits"=none):Wd G where
 X:=X
 b:=b
 nolimit:=nolimit
 sys:=⟨boot_o_1 P,X _ _ (hK▸aa' P)⟩
 nodigits:=nodigits
 fn:=hK▸acD P
 wV:=hK▸SI P
 C8:=hK▸k_meth P
 nD:=hK▸acE P
 Hs:=hK▸acF P
 Ht:=hK▸acG P
 PC:=hK▸Z3 P
 hasDict:=hK▸acH P
 Wi:=hK▸acI P
 SS:=hK▸acJ P
 init:=hK▸k_in P
theorem abc(hK:G.K=KA pw P)(hp:G.prog=pw):uO G where
 cell:=⟨_,_,_,hK▸Z4 P⟩
 cls:=Option.isSome_iff_exists.mp (hK▸k_cls P)
 sub:=hK▸k_sub P
 HR:=hK▸Pw P
 DN:=hK▸L3 P
 top:=hp▸aba
 C8:=hK▸abb P
theorem Px(P:Params):nsIn (KA pw P) mainGlobals (Str.ofString "mark_of")=some (some (.ref Fn.o2.bw)):=by kernel_rfl
theorem Hn(P:Params):nsIn (KA pw P) mainGlobals (Str.ofString "told_term")=some (some (.ref Fn.lB.bw)):=by kernel_rfl
theorem yI(P:Params):nsIn (KA pw P) mainGlobals (Str.ofString "paper_of_edge")=some (some (.ref Fn.iJ.bw)):=by kernel_rfl
theorem Gk(P:Params):nsIn (KA pw P) mainGlobals (Str.ofString "joined_row")=some (some (.ref Fn.j6.bw)):=by kernel_rfl
theorem V7(P:Params):nsIn (KA pw P) mainGlobals (Str.ofString "is_op")=some (some (.ref Fn.yO.bw)):=by kernel_rfl
theorem L4(P:Params):nsIn (KA pw P) mainGlobals (Str.ofString "_law_pick")=some (some (.ref Fn.dH.bw)):=by kernel_rfl
theorem L5(P:Params):nsIn (KA pw P) mainGlobals (Str.ofString "_law_term")=some (some (.ref Fn.hJ.bw)):=by kernel_rfl
theorem L6(P:Params):nsIn (KA pw P) mainGlobals (Str.ofString "_law_more")=some (some (.ref Fn.more.bw)):=by kernel_rfl
theorem Ho(P:Params):nsIn (KA pw P) mainGlobals (Str.ofString "_law_sides")=some (some (.ref Fn.mT.bw)):=by kernel_rfl
theorem Gm(P:Params):nsIn (KA pw P) mainGlobals (Str.ofString "_law_labels")=some (some (.ref Fn.l7.bw)):=by kernel_rfl
theorem yJ(P:Params):nsIn (KA pw P) mainGlobals (Str.ofString "_law_are_right")=some (some (.ref Fn.hO.bw)):=by kernel_rfl
theorem Z5(P:Params):nsIn (KA pw P) mainGlobals (Str.ofString "Whys")=some (some (.ref d_.eb.bw)):=by kernel_rfl
theorem Z6(P:Params):nsIn (KA pw P) mainGlobals (Str.ofString "Bank")=some (some (.ref d_.bank.bw)):=by kernel_rfl
theorem SJ(P:Params):nsIn (KA pw P) mainGlobals (Str.ofString "Unions")=some (some (.ref d_.gI.bw)):=by kernel_rfl
theorem SK(P:Params):nsIn (KA pw P) mainGlobals (Str.ofString "Levels")=some (some (.ref d_.levels.bw)):=by kernel_rfl
theorem Gn(P:Params):nsIn (KA pw P) mainGlobals (Str.ofString "MOST_NODES")=some (some (.int 100000 303)):=by kernel_rfl
theorem Gp(P:Params):nsIn (KA pw P) mainGlobals (Str.ofString "MOST_PARTS")=some (some (.int 20000 305)):=by kernel_rfl
theorem Cy(P:Params):nsIn (KA pw P) mainGlobals (Str.ofString "MOST_LEVELS")=some (some (.int 100 307)):=by kernel_rfl
theorem abd(P:Params):nsIn (KA pw P) mainGlobals (Str.ofString "len")=some none:=by kernel_rfl
theorem abe(P:Params):nsIn (KA pw P) mainGlobals (Str.ofString "max")=some none:=by kernel_rfl
theorem abf(P:Params):nsIn (KA pw P) mainGlobals (Str.ofString "min")=some none:=by kernel_rfl
theorem abg(P:Params):nsIn (KA pw P) mainGlobals (Str.ofString "sum")=some none:=by kernel_rfl
theorem SM(P:Params):nsIn (KA pw P) mainGlobals (Str.ofString "sorted")=some none:=by kernel_rfl
theorem V8(P:Params):nsIn (KA pw P) mainGlobals (Str.ofString "tuple")=some none:=by kernel_rfl
theorem Z7(P:Params):nsIn (KA pw P) mainGlobals (Str.ofString "list")=some none:=by kernel_rfl
theorem abh(P:Params):nsIn (KA pw P) mainGlobals (Str.ofString "int")=some none:=by kernel_rfl
theorem abi(P:Params):nsIn (KA pw P) mainGlobals (Str.ofString "str")=some none:=by kernel_rfl
theorem abj(P:Params):nsIn (KA pw P) mainGlobals (Str.ofString "set")=some none:=by kernel_rfl
theorem abk(P:Params):nsIn (KA pw P) mainGlobals (Str.ofString "zip")=some none:=by kernel_rfl
theorem V9(P:Params):nsIn (KA pw P) mainGlobals (Str.ofString "range")=some none:=by kernel_rfl
theorem Hq(P:Params):nsIn (KA pw P) mainGlobals (Str.ofString "enumerate")=some none:=by kernel_rfl
theorem acL(hK:G.K=KA pw P):Gl G where
 keep:=hK▸Z2 P
 HY:=.own (hK▸Px P)
 Ab:=.own (hK▸Hn P)
 rb:=.own (hK▸yI P)
 xA:=.own (hK▸Gk P)
 TR:=.own (hK▸V7 P)
 ja:=.own (hK▸L4 P)
 lJ:=.own (hK▸L5 P)
 wg:=.own (hK▸L6 P)
 sC:=.own (hK▸Ho P)
 qi:=.own (hK▸Gm P)
 mD:=.own (hK▸yJ P)
 XK:=.own (hK▸Z5 P)
 Bank:=.own (hK▸Z6 P)
 MO:=.own (hK▸SJ P)
 MP:=.own (hK▸SK P)
 xB:=⟨_,.own (hK▸Gn P)⟩
 xC:=⟨_,.own (hK▸Gp P)⟩
 uU:=⟨_,.own (hK▸Cy P)⟩
 len:=.boot (hK▸abd P) (by kernel_rfl) (by decide)
 max:=.boot (hK▸abe P) (by kernel_rfl) (by decide)
 min:=.boot (hK▸abf P) (by kernel_rfl) (by decide)
 sum:=.boot (hK▸abg P) (by kernel_rfl) (by decide)
 sorted:=.boot (hK▸SM P) (by kernel_rfl) (by decide)
 tuple:=.boot (hK▸V8 P) (by kernel_rfl) (by decide)
 list:=.boot (hK▸Z7 P) (by kernel_rfl) (by decide)
 int:=.boot (hK▸abh P) (by kernel_rfl) (by decide)
 str:=.boot (hK▸abi P) (by kernel_rfl) (by decide)
 set:=.boot (hK▸abj P) (by kernel_rfl) (by decide)
 zip:=.boot (hK▸abk P) (by kernel_rfl) (by decide)
 range:=.boot (hK▸V9 P) (by kernel_rfl) (by decide)
 Ac:=.boot (hK▸Hq P) (by kernel_rfl) (by decide)
end
theorem Py{G:bC}{P:Params}(hK:G.K=KA pw P)(hp:G.prog=pw)(W:Wd G)(WS:uO G)(V:Gl G):∀d sc,nH ⟨G,d,Mine.O d,sc⟩/\y7 ⟨G,d,Mine.O d,sc⟩:=by
 intro bN;induction bN with
 |zero=>
  intro sc;exact ⟨λ f=>by intro A E w x v P Q R hv hc;exact hc.elim,λ c=>by intro A E w x v P Q R hv hc;exact hc.elim⟩
 |succ d ih=>intro sc;have O:∀sc,nH ⟨G,d,Mine.O d,sc⟩:=λ sc=>(ih sc).1;have OM:∀sc,y7 ⟨G,d,Mine.O d,sc⟩:=λ sc=>(ih sc).2;refine ⟨(?_:yP (λ n=>rT ⟨G,d+1,Mine.O (d+1),sc⟩ (.ref n) (HC (TX n).1 (TX n).2 (Mine.O d))) Cz).fn,λ c=>UD W (O sc) c rfl rfl⟩;exact And.intro (cB W (Pl hK hp) (Qw W V O OM) rfl rfl)<|And.intro (cB W (Hg hK hp) (JI W V O OM) rfl rfl)<|And.intro (cB W (zJ hK hp) (Cc W V O OM) rfl rfl)<|And.intro (cB W (Gj hK hp) (Gz W V O OM) rfl rfl)<|And.intro (cB W (Hh hK hp) (JJ W V O OM) rfl rfl)<|And.intro (cB W (LW hK hp) (MS W V O OM) rfl rfl)<|And.intro (cB W (VT hK hp) (XN W V O OM) rfl rfl)<|And.intro (cB W (LY hK hp) (MU W V O OM) rfl rfl)<|And.intro (cB W (Pm hK hp) (Qx W V O OM) rfl rfl)<|And.intro (cB W (VU hK hp) (XO W V O OM) rfl rfl)<|And.intro (cB W (Hi hK hp) (JK W V O OM) rfl rfl)<|And.intro (cB W (Hj hK hp) (JL W V O OM) rfl rfl)<|And.intro (cB W (VV hK hp) (XQ W V O OM) rfl rfl)<|And.intro (cB W (LZ hK hp) (MX W V O OM) rfl rfl)<|And.intro (cB W (L0 hK hp) (MY W V O OM) rfl rfl)<|And.intro (cB W (aa_ hK hp) (aca W V O OM) rfl rfl)<|And.intro (cB W (VX hK hp) (XS W V O OM) rfl rfl)<|And.intro (cB W (VY hK hp) (XT W V O OM) rfl rfl)<|And.intro (cB W (Pn hK hp) (Qy W V O OM) rfl rfl)<|And.intro (cB W (Cv hK hp) (D2 W V O OM) rfl rfl)<|And.intro (cB W (VZ hK hp) (XU W V O OM) rfl rfl)<|And.intro (cB W (Cw hK hp) (D3 W V O OM) rfl rfl)<|And.intro (cB W (SA hK hp) (UJ W V O OM) rfl rfl)<|And.intro (cB W (Po hK hp) (Qz W V O OM) rfl rfl)<|And.intro (cB W (L1 hK hp) (M3 W V O OM) rfl rfl)<|And.intro (cB W (V0 hK hp) (XW W V O OM) rfl rfl)<|And.intro (cB W (V1 hK hp) (XX W V O OM) rfl rfl)<|And.intro (cB W (Hk hK hp) (JM W V O OM) rfl rfl)<|And.intro (cB W (Hl hK hp) (JN W V O OM) rfl rfl)<|And.intro (cB W (V2 hK hp) (XY W V O OM) rfl rfl)<|And.intro (cB W (Z0 hK hp) (aay W V O OM) rfl rfl)<|And.intro (cB W (L2 hK hp) (M8 W V O OM) rfl rfl)<|And.intro (cB W (V3 hK hp) (XZ W V O OM) rfl rfl)<|And.intro (cB W (SD hK hp) (UK W V O OM) rfl rfl)<|And.intro (cB W (SE hK hp) (UL W V O OM) rfl rfl)<|And.intro (cB W (Pp hK hp) (QA W V O OM) rfl rfl)<|And.intro (wb W WS (rG hK hp) (λ fd oc od gZ h=>Eb W V O OM WS h (rG hK hp)) rfl rfl)<|And.intro (cB W (V4 hK hp) (X0 W V O OM) rfl rfl)<|And.intro (cB W (Z1 hK hp) (aaz W V O OM) rfl rfl)<|And.intro (wb W WS (B6 hK hp) (λ fd oc od gZ h=>QB W V O OM WS h (B6 hK hp)) rfl rfl)<|And.intro (wb W WS (IV hK hp) (λ fd oc od gZ h=>X1 W V O OM WS h (IV hK hp)) rfl rfl)<|And.intro (cB W (Pq hK hp) (QC W V O OM) rfl rfl)<|And.intro (cB W (Pt hK hp) (QD W V O OM) rfl rfl)<|And.intro (cB W (V5 hK hp) (X2 W V O OM) rfl rfl)<|And.intro (cB W (SG hK hp) (UM W V O OM) rfl rfl)<|And.intro (cB W (V6 hK hp) (X3 W V O OM) rfl rfl)<|And.intro (cB W (SH hK hp) (UN W V O OM) rfl rfl)<|And.intro (cB W (Pu hK hp) (QE W V O OM) rfl rfl)<|And.intro (cB W (Hm hK hp) (JO W V O OM) rfl rfl)<|True.intro
end
section
section
variable{G:bC} {P:Params} (hK:G.K=KA pw P)
include hK
theorem Z8:cY G 618 Gg (bc (aT pw [31])) (bt (aT pw [31])):=
 fo hK 618 [31] "law" "law" "law_rh0019_01" 940 (by kernel_rfl) (by kernel_rfl) (by kernel_rfl) (l1 (λ aa=>by kernel_rfl))
theorem SN(hp:G.prog=pw)(W:Wd G)(WS:uO G)(V:Gl G){a₀:Addr}{zs:List Int}(hz:zs.length<=63)(hB:CV G a₀ (zs.map AV.int)){A:Around}{E:Value->Shared->Prop}{s:Shared}(R:jt 122 A)(H:HS G s [] []):
  wpAny (model G.prog G.w) A (PySem.call (.ref 618) [.ref a₀]) (λ v s'=>v=.bool true/\∃bV σ',HS G s' bV σ') E s:=by
 have hc:=cB (Γ:=⟨G,122,Mine.O 121,bc (aT pw [31])⟩) W (Z8 hK) (aa5 hB W V (λ sc=>(Py hK hp W WS V 121 sc).1) λ sc=>(Py hK hp W WS V 121 sc).2) rfl rfl;refine wpAny_call (hc A E ⟨s,[],[],H⟩ (x:=[.base a₀]) (v:=[.ref a₀]) R (.cons (.base a₀) .nil) (Sy hz) λ u y w S p hv=>?_);cases p;cases hv;exact ⟨rfl,w.lam,w.σ,w.H⟩
end
end
end Mine
end
section
open PySem PySem.W PySem.Calls PyProof.Rows
namespace Mine
section
set_option maxRecDepth 1000000
set_option maxHeartbeats 0
theorem mx(p:Program)(P:Params):uV=(KA p P).map (·.1):=by kernel_rfl
theorem abl:opening pw=plainProg pw.main.scope.names:=by kernel_rfl
theorem Z9(s:Shared):fenceModules? pw s=some s:=by kernel_rfl
theorem Z_(w:World):(λ os=>(zc (Fast.tw10156331382660048174 (Fast.tw11892475500146522536 Fast.tw14364793385576792824) pw w) (Fast.tw6613529449190102663 11 (some (.ref 6))) 8622 (MR w os) (topStub pw)).map
      λ s=>((staticsOk (Fast.tw5923862056798008813 pw.main.body) (boot_heap w.params) s.abs.heap&&namesBound pw s.abs.heap&&gensDone s.abs&&laidKept (boot_heap w.params) s.abs.heap),
        Fast.tw4187177175401517315 (qj pw) md (Fast.tw5923862056798008813 pw.main.body) (λ s=>recOk [] s) true s.abs,
        uV.map s.abs.heap.get?))=λ aa=>some (true,openGood (qj pw) md,(KA pw w.params).map λ p=>some p.2):=by kernel_rfl
theorem SO(w:World):(λ os=>(zc (stepT (denote treeTable) pw w) (stepOk 11 (some (.ref 6))) 8622 (MR w os) (topStub pw)).map λ s=>
      DU (importedModules pw.main.body) pw (qj pw) md (λ s=>recOk [] s) (kHook (KA pw) uV (mx pw)).obs (boot_heap w.params) s.abs)
       =λ aa=>some (true,openGood (qj pw) md,(kHook (KA pw) uV (mx pw)).val w):=by
  have h:=Z_ w;rw [<-Fast.te10156331382660048174,<-Fast.te11892475500146522536,<-Fast.te14364793385576792824,<-Fast.te6613529449190102663,<-Fast.te5923862056798008813,<-Fast.te4187177175401517315]at h;exact h
theorem left:LeftO pw (qj pw) md (λ s=>recOk [] s) (kHook (KA pw) uV (mx pw)).obs (kHook (KA pw) uV (mx pw)).val 8622:=
  UI abl rfl Z9 aax SO
noncomputable def CW:Stmt:=aT pw [31]
noncomputable def abm:Stmt->Pos
  |.FunctionDef _ _ _ _ _ _ _ _ _ p=>p
  |_=>default
noncomputable def tU:DefRec:={name:="law",params:=nT CW,body:=bt CW,scope:=bc CW,pos:=abm CW}
abbrev k8:=PySem.Challenge.rw_rh0019_01.row
theorem Z':defOf (qj pw) k8.name=some (tU,[]):=by kernel_rfl
theorem aaa:k8.prog.theDef k8.name=some (tU.params,tU.body,tU.scope):=by kernel_rfl
theorem abn:kwWritten? tU.params.kwonlyargs tU.params.kw_defaults=some []:=by kernel_rfl
theorem row_holds(said:k8.wellSaid=true)(wit:k8.toRowW.promised)
    (core:WalkO (qj pw) md (λ aa aa=>True) (kHook (KA pw) uV (mx pw)).says k8.toRowW tU [] λ f vs=>PySem.call f vs):k8.Holds:=
  holds_open (q:=qj pw) (loose:=md) (Xt:=λ s=>recOk [] s) (XP:=λ aa aa=>True) (N:=8622) left (kHook (KA pw) uV (mx pw)).of (kHook (KA pw) uV (mx pw)).keeps
    (λ aa aa=>trivial) (λ aa aa aa aa aa=>trivial) Z' aaa abn (λ s e=>recFacts_of e) rfl said (by kernel_rfl) ⟨rfl,rfl,rfl,rfl,rfl,by decide+kernel⟩ wit core
end
section
set_option maxRecDepth 100000
theorem L7{K:Frag}{h:Heap}{N:Addr}{mg:Str->Option Value}{n:Str}{v:Value}(X:K.In h)(G:h.Ns N mg)(e:nsIn K N n=some (some v)):mg n=some v:=by
 refine vK G λ o es ep ho hd aa hf=>?_;unfold nsIn at e;cases q:K.lookup N with
 |none=>rw [q]at e;exact nomatch e
 |some o'=>
  rw [q]at e;cases Option.some.inj (ho.symm.trans (X _ _ q));obtain ⟨c,d,dt,sl⟩:=o;cases hd;dsimp only at e;cases he:es.toList.find? (λ x=>x.key.isStr n)with
  |some e'=>
   rw [he]at e;rw [<-hf];unfold nsFind findBy;refine cQ Array.find?_toList<|ae he ?_;exact Option.some.inj e
  |none=>
   rw [he]at e;dsimp only at e;by_cases hq:es.toList.any (λ x=>x.refKey)=true
   ·rw [if_pos hq]at e;exact nomatch e
   ·rw [if_neg hq]at e;exact nomatch e
theorem SP{h:Heap}{lam:List Addr}{vs:List Value}{zs:List Int}(hI:IntsAre vs zs):bB h lam (zs.map AV.int) vs:=by
 induction hI with
 |nil=>exact .nil
 |cons n t _ ih=>exact .cons (.int n t) ih
theorem core:WalkO (qj pw) md (λ aa aa=>True) (kHook (KA pw) uV (mx pw)).says k8.toRowW tU [] λ f vs=>PySem.call f vs:=by
 intro w adf f9 mg mb G Y a o pm cd doc dV kV ho hd HD hD hmg hg args vals as vW acM hrd yG Uj;have X:=kIn_of Y
 wrow_args vW acM hrd yG Uj
 rename_i zs hs ado hL1 hrA gN as4 as3 a₀ vs asx hL ra w1 r0 hI hrB uD zL;have hz:zs.length<=63:=by omega
 have acN:nsIn (KA pw w.params) mainGlobals (Str.ofString "law")=some (some (.ref 618)):=by kernel_rfl
 have acO:mg (Str.ofString "law")=some (.ref 618):=L7 X G.T.g acN;have aab:mg (Str.ofString "law")=some (.ref a):=hmg;rw [acO]at aab;cases aab;obtain ⟨ol,kh,acP,nl,DL⟩:=hL;have hw:=SN (G:=⟨pw,w,f9.heap,f9.os,KA pw w.params⟩) (P:=w.params) rfl rfl (acK rfl X ⟨mb,G.T.b,G.T.builtins⟩ G.T.nolimit G.T.nodigits) (abc rfl rfl) (acL rfl) (a₀:=a₀) (zs:=zs) hz ⟨ol,vs.toArray,nl,kh,acP,DL,λ h lam=>by simpa using SP hI⟩ (A:=callerA)
  (E:=λ e s'=>GoodWG k8.claim (classAt adf.heap) (ExcName.means adf.heap) [ofPy (PyData.list (List.map PyData.int zs))] f9 (Except.error e) s') (s:=f9) ⟨rfl,by decide,by decide⟩ ⟨λ aa aa h=>h,hg,rfl,rfl,List.nodup_nil,by simp,by simp⟩
 refine wpAny_mono hw (λ v s' ⟨hv,bV,σ',H'⟩=>?_) (λ aa aa h=>h);subst hv;refine ⟨.inl ⟨.bool true,.bool true,[],rfl,λ cls=>rfl,.bool true,?_,λ aa=>⟨List.nodup_nil,by simp⟩⟩,.of_keep H'.base,H'.os,.of_eq H'.gens⟩;kernel_rfl
end
end Mine
theorem Mine.said:PySem.Challenge.rw_rh0019_01.wellSaid=true:=by kernel_rfl
theorem PySem.Challenge.cw_rh0019_01_holds : PySem.Challenge.rw_rh0019_01.Holds := by
 refine holds_law Mine.said fun h => Mine.row_holds h ?_ Mine.core
 w_witness2
end
